import PyProof.Rows.All
import Wide.All
import OpenK.AllK
import Wide.FinOn
import KE.GoesMore
import KE.GoesEnumKw
import HandS.Iter
import HandS.Base
import HandS.Call
import HandS.List
import HandS.Comp
import HandS.Dict
import HandS.Text
import HandS.Exc
import HandS.TryOnly
import HandS.ExcOwn
import HandS.Lambda
import HandS.Walk
import HandS.Words
import HandS.WordsList
import HandS.WordsDict
import HandS.WordsExc
import HandS.Defaults
import HandS.CallSlots
import HandS.Deep
import HandS.Wide
import KE.SortData
import KE.GoesEnum
import HandS.SetFor
import KE.SortKeyHeap
import HandS.SortKw
import KE.KSortKey
import HandS.IsInst
import HandS.Style
import HandS.Replace
import HandS.More
import HandS.HeadWalk
import HandS.Head0
import HandS.Head1
import HandS.Head2
import HandS.HeadHook1
import HandS.HeadHook2
import HandS.HeadHook3
import HandS.HeadHook4
import HandS.TupSets
import HandS.SetBool
import HandS.DictComp
import HandS.FStr
import HandS.NoneIn
import HandS.ExcInit
import HandS.ClsMeth
import HandS.ExcField
import HandS.ExcIs
import HandS.TryMany
import KE.KExcIs
import KE.KCallOwn
import PyProof.Conv_bool
import OpenK.KOps
import HandS.SetKeys
import HandS.Conv
import HandS.TupLen
import HandS.RaiseMore
import PyProof.DictMoreH
import HandS.TupMul
import PyProof.StrOps2
import KE.KRevSl
import PyProof.Rows.StrRev
import PyProof.ListStr
import HandS.TupAny
import KE.KDictZip
import PyProof.CollectIter
import PyProof.Comp
import PyProof.DictUpdate
import PyProof.ReprRoads
import HandS.EndBits
import HandS.MakeKwOnly
import HandS.Head3
import PySem.Challenge.RW_saidonce_k04_first_clash
set_option Elab.async false
set_option linter.all false
set_option maxRecDepth 100000
set_option maxHeartbeats 0
section
/-! zip(.., strict=True) of two or three things of any kind. -/
namespace Zs
open PySem PySem.Spec PyProof.Rows
abbrev ZipAt (h : Heap) (z TI TO : Addr) (f0 : Value) : Prop := h.get? z = some { cls := .type "zip", dict := none, data := .fields #[f0, .bool false, .bool true, .ref TI, .ref TO], slots := #[] }
section
variable {P : Program} {w : World} {A : Around} {E : Value → Shared → Prop} {s : Shared}
theorem ne_item {it : Addr} {fp : List Addr} {n i : Nat} {Pv : Nat → Value → Prop} {T : Nat → Heap → Prop} {Q : Option Value → Shared → Prop} (D : Draws P w A it fp n Pv T) (hi : i < n) (st : T i s.heap)
    (hQ : ∀ x hp tk, Pv i x → T (i + 1) hp → Heap.SameBut it s.heap hp → Q (some x) { s with heap := hp, toks := tk }) : wpAny (model P w) A (Builtin.SmallTypes.nextOrEnd (.ref it)) Q E s := by
  unfold Builtin.SmallTypes.nextOrEnd
  exact wpAny_bind (wpAny_attempt (D.item i s _ _ hi st fun x hp tk a b c => wpAny_pure (hQ x hp tk a b c)))
theorem ne_end {it : Addr} {fp : List Addr} {n : Nat} {Pv : Nat → Value → Prop} {T : Nat → Heap → Prop} {Q : Option Value → Shared → Prop} (D : Draws P w A it fp n Pv T) (st : T n s.heap)
    (hQ : ∀ hp, Heap.ExtBut it s.heap hp → Q none { s with heap := hp }) : wpAny (model P w) A (Builtin.SmallTypes.nextOrEnd (.ref it)) Q E s := by
  unfold Builtin.SmallTypes.nextOrEnd
  exact wpAny_bind (wpAny_attempt (D.done s _ _ st fun hp e x ⟨o, ho, hc⟩ => wpAny_bind (wpAny_isInstance (T := "StopIteration") (b := true) ⟨o, ho, hc⟩ isSubtype_stop (wpAny_pure (hQ hp x)))))
end
theorem _root_.PySem.Draws.ov {P : Program} {w : World} {A : Around} {it : Addr} {fp : List Addr} {n : Nat} {Pv : Nat → Value → Prop} {T : Nat → Heap → Prop} (D : Draws P w A it fp n Pv T) {i : Nat} {h h' : Heap} {x : Addr} (st : T i h) (hs : Heap.ExtBut x h h') (hx : x ∉ fp) : T i h' :=
  D.frame i h h' st fun b hb o e => hs b o (fun q => hx (q ▸ hb)) e
theorem stop_raise {P : Program} {w : World} {A : Around} {E : Value → Shared → Prop} {s : Shared} {α : Type} {Q : α → Shared → Prop} (hh : A.handled = none)
    (hE : ∀ hp e, (∀ c o, s.heap.get? c = some o → hp.get? c = some o) → (∃ o, hp.get? e = some o ∧ o.cls = .type "StopIteration") → E (.ref e) { s with heap := hp }) : wpAny (model P w) A (Builtin.SmallTypes.stopIteration (α := α)) Q E s := by
  unfold Builtin.SmallTypes.stopIteration
  refine wpAny_bind ?_
  simp only [newExc, newTuple]
  refine wpAny_bind (wpAny_newObj_type ?_ (by size_fits))
  refine wpAny_bind (m := firstArgMember _ _) (wpAny_of_eq (a := Value.none) (by first | rfl | (simp only [firstArgMember]; rfl)) ?_)
  refine wpAny_newObj_type ?_ (by size_fits)
  simp only [raiseNew]
  refine wpAny_bind (wpAny_handled ?_)
  rw [hh]
  refine wpAny_bind (wpAny_pure (wpAny_throw ?_))
  exact hE _ _ (fun c o e => Heap.get?_push_of_some _ (Heap.get?_push_of_some _ e)) ⟨_, Heap.get?_push_size _ rfl, rfl⟩
section
open PySem.Builtin PySem.Builtin.SmallTypes
def tailS (its : List Value) (i : Nat) : Sem Fin := do
  if i > 0 then
    rule "zip.__next__.shorter"; raiseError "ValueError" s!"zip() argument {i + 1} is shorter than {(if i == 1 then "argument 1" else s!"arguments 1-{i}" : String)}"
  for (it, j) in (its.drop 1).zipIdx 1 do
    if (← nextOrEnd it).isSome then
      rule "zip.__next__.longer"; raiseError "ValueError" s!"zip() argument {j + 1} is longer than {(if j == 1 then "argument 1" else s!"arguments 1-{j}" : String)}"
  rule "zip.__next__.all-ended"; stopIteration
end
abbrev Tp2 (h : Heap) (T : Addr) (a1 : Value) (a2 : Value) : Prop := h.get? T = some { cls := .type "tuple", data := .seq #[a1, a2] }
structure Sep2 (z TI TO : Addr) (i1 : Addr) (i2 : Addr) (f1 : List Addr) (f2 : List Addr) : Prop where
  zT : z ≠ TI
  zO : z ≠ TO
  TO_ : TI ≠ TO
  m1 : i1 ∈ f1
  z1 : z ∉ f1
  T1 : TI ∉ f1
  O1 : TO ∉ f1
  s12 : i1 ∉ f2
  m2 : i2 ∈ f2
  z2 : z ∉ f2
  T2 : TI ∉ f2
  O2 : TO ∉ f2
  s21 : i2 ∉ f1
theorem Sep2.zi1 {z TI TO i1 i2 : Addr} {f1 f2 : List Addr} (S : Sep2 z TI TO i1 i2 f1 f2) : z ≠ i1 := fun e => S.z1 (e ▸ S.m1)
theorem Sep2.Oi1 {z TI TO i1 i2 : Addr} {f1 f2 : List Addr} (S : Sep2 z TI TO i1 i2 f1 f2) : TO ≠ i1 := fun e => S.O1 (e ▸ S.m1)
theorem Sep2.Ti1 {z TI TO i1 i2 : Addr} {f1 f2 : List Addr} (S : Sep2 z TI TO i1 i2 f1 f2) : TI ≠ i1 := fun e => S.T1 (e ▸ S.m1)
theorem Sep2.zi2 {z TI TO i1 i2 : Addr} {f1 f2 : List Addr} (S : Sep2 z TI TO i1 i2 f1 f2) : z ≠ i2 := fun e => S.z2 (e ▸ S.m2)
theorem Sep2.Oi2 {z TI TO i1 i2 : Addr} {f1 f2 : List Addr} (S : Sep2 z TI TO i1 i2 f1 f2) : TO ≠ i2 := fun e => S.O2 (e ▸ S.m2)
theorem Sep2.Ti2 {z TI TO i1 i2 : Addr} {f1 f2 : List Addr} (S : Sep2 z TI TO i1 i2 f1 f2) : TI ≠ i2 := fun e => S.T2 (e ▸ S.m2)
section
variable {P : Program} {w : World} {A : Around} {E : Value → Shared → Prop} {s : Shared}
variable {z TI TO i1 i2 : Addr} {f1 f2 : List Addr} {n i : Nat} {P1 : Nat → Value → Prop} {T1 : Nat → Heap → Prop} {P2 : Nat → Value → Prop} {T2 : Nat → Heap → Prop} {a1 a2 : Value}
theorem upTp2 {T : Addr} {x : Value} {k : Nat} {Q : Unit → Shared → Prop} (hT : Tp2 s.heap T a1 a2)
    (h : ∀ hp, hp.get? T = some { cls := .type "tuple", data := .seq ((#[a1, a2] : Array Value).setIfInBounds k x) } → Heap.SameBut T s.heap hp → Q () { s with heap := hp }) :
    wpAny (model P w) A (updateSeq T (·.setIfInBounds k x)) Q E s :=
  wpAny_updateSeq hT rfl (h _ (by rw [Heap.get?_update_self _ hT rfl] <;> simp [Obj.mapSeq]) (Heap.SameBut.update ..))
theorem zs2_item {Q : Value → Shared → Prop} (S : Sep2 z TI TO i1 i2 f1 f2) (D1 : Draws P w A i1 f1 n P1 T1) (D2 : Draws P w A i2 f2 n P2 T2)
    (hz : ZipAt s.heap z TI TO .none) (hI : Tp2 s.heap TI (.ref i1) (.ref i2)) (hO : Tp2 s.heap TO a1 a2) (t1 : T1 i s.heap) (t2 : T2 i s.heap) (hi : i < n)
    (hQ : ∀ x1 x2 hp tk, P1 i x1 → P2 i x2 → ZipAt hp z TI TO (rawInt s.heap.objs.size) → Tp2 hp TI (.ref i1) (.ref i2) → Tp2 hp TO x1 x2 → T1 (i + 1) hp → T2 (i + 1) hp → Tp2 hp s.heap.objs.size x1 x2 → hp.objs.size = s.heap.objs.size + 1 →
      (∀ c o, c ≠ z → c ≠ TO → c ≠ i1 → c ≠ i2 → s.heap.get? c = some o → hp.get? c = some o) → Q (.ref s.heap.objs.size) { s with heap := hp, toks := tk }) :
    wpAny (model P w) A (Builtin.«zip.__next__» ⟨[.ref z], []⟩) (fun fin s1 => ∃ v, fin = .done (.ret v) ∧ Q v s1) E s := by
  obtain ⟨h0, gn, dr, k0, os⟩ := s
  show wpAny _ _ (field (.ref z) 2 >>= _) _ _ _
  refine wpAny_bind (wpAny_field hz rfl (x := .bool true) rfl ?_)
  show wpAny _ _ (field (.ref z) 3 >>= _) _ _ _
  refine wpAny_bind (wpAny_field hz rfl (x := .ref TI) rfl ?_)
  refine wpAny_bind (wpAny_seqItems hI rfl ?_)
  show wpAny _ _ (Builtin.SmallTypes.ownedTupleIsFree (.ref z) >>= _) _ _ _
  refine wpAny_bind ?_
  unfold Builtin.SmallTypes.ownedTupleIsFree
  refine wpAny_bind (wpAny_field hz rfl (x := .none) rfl (wpAny_pure ?_))
  simp only [if_true]
  refine wpAny_bind (wpAny_rule ?_)
  refine wpAny_bind (wpAny_field hz rfl (x := .ref TO) rfl ?_)
  refine wpAny_bind (wpAny_setField_rec hz (by simp) fun e0 y0 b0 => ?_)
  replace y0 : ZipAt e0 z TI TO .ellipsis := y0
  replace b0 : Heap.SameBut z h0 e0 := b0
  refine wpAny_bind ?_
  simp only [List.zipIdx_cons, List.zipIdx_nil, List.forIn_cons, List.forIn_nil]
  refine wpAny_bind (wpAny_bind (wpAny_onRaise ?_))
  show wpAny _ _ (Builtin.SmallTypes.nextOrEnd (.ref i1)) _ _ ⟨e0, gn, dr, k0, os⟩
  refine ne_item D1 hi (D1.over t1 b0 S.z1) fun x1 d1 k1 px1 sx1 c1 => ?_
  replace c1 : Heap.SameBut i1 e0 d1 := c1
  have o1 : Tp2 d1 TO a1 a2 := c1.extBut _ _ S.Oi1 (b0.extBut _ _ S.zO.symm hO)
  refine wpAny_bind (wpAny_seqItems (s := ⟨d1, gn, dr, k1, os⟩) o1 rfl ?_)
  refine wpAny_bind (upTp2 (s := ⟨d1, gn, dr, k1, os⟩) o1 fun e1 y1 b1 => ?_)
  replace y1 : Tp2 e1 TO x1 a2 := y1
  replace b1 : Heap.SameBut TO d1 e1 := b1
  refine wpAny_bind (wpAny_letGo (wpAny_pure ?_))
  refine wpAny_bind (wpAny_bind (wpAny_onRaise ?_))
  show wpAny _ _ (Builtin.SmallTypes.nextOrEnd (.ref i2)) _ _ ⟨e1, gn, dr, k1, os⟩
  refine ne_item D2 hi (D2.over (D2.over (D2.over t2 b0 S.z2) c1 S.s12) b1 S.O2) fun x2 d2 k2 px2 sx2 c2 => ?_
  replace c2 : Heap.SameBut i2 e1 d2 := c2
  have o2 : Tp2 d2 TO x1 a2 := c2.extBut _ _ S.Oi2 y1
  refine wpAny_bind (wpAny_seqItems (s := ⟨d2, gn, dr, k2, os⟩) o2 rfl ?_)
  refine wpAny_bind (upTp2 (s := ⟨d2, gn, dr, k2, os⟩) o2 fun e2 y2 b2 => ?_)
  replace y2 : Tp2 e2 TO x1 x2 := y2
  replace b2 : Heap.SameBut TO d2 e2 := b2
  refine wpAny_bind (wpAny_letGo (wpAny_pure (wpAny_pure ?_)))
  refine wpAny_bind (wpAny_seqItems (s := ⟨e2, gn, dr, k2, os⟩) y2 rfl ?_)
  refine wpAny_bind (wpAny_newTuple ?_)
  have sz : e2.objs.size = h0.objs.size := by rw [b2.1, c2.1, b1.1, c1.1, b0.1]
  have az : ZipAt e2 z TI TO .ellipsis := (b2.extBut _ _ S.zO (c2.extBut _ _ S.zi2 (b1.extBut _ _ S.zO (c1.extBut _ _ S.zi1 y0))))
  have ai : Tp2 e2 TI (.ref i1) (.ref i2) := (b2.extBut _ _ S.TO_ (c2.extBut _ _ S.Ti2 (b1.extBut _ _ S.TO_ (c1.extBut _ _ S.Ti1 (b0.extBut _ _ S.zT.symm hI)))))
  have old : ∀ c o, c ≠ z → c ≠ TO → c ≠ i1 → c ≠ i2 → h0.get? c = some o → e2.get? c = some o := fun c o nz nTO ni1 ni2 q => (b2.extBut _ _ nTO (c2.extBut _ _ ni2 (b1.extBut _ _ nTO (c1.extBut _ _ ni1 (b0.extBut _ _ nz q)))))
  have zl : z < e2.objs.size := Heap.lt_size az
  show wpAny _ _ (Builtin.SmallTypes.ownedTupleHandOut (.ref z) (.ref e2.objs.size) >>= _) _ _ ⟨e2.push { cls := .type "tuple", data := .seq #[x1, x2] }, gn, dr, k2, os⟩
  refine wpAny_bind ?_
  unfold Builtin.SmallTypes.ownedTupleHandOut
  have u0 : ZipAt (e2.push { cls := .type "tuple", data := .seq #[x1, x2] }) z TI TO .ellipsis := Heap.get?_push_of_some _ az
  refine wpAny_bind (wpAny_setField_rec u0 (by simp) fun u1 v1 w1 => ?_)
  replace v1 : ZipAt u1 z TI TO (rawInt e2.objs.size) := v1
  refine wpAny_setField_rec v1 (by simp) fun u2 v2 w2 => ?_
  replace v2 : ZipAt u2 z TI TO (rawInt e2.objs.size) := v2
  replace w1 : Heap.SameBut z (e2.push { cls := .type "tuple", data := .seq #[x1, x2] }) u1 := w1
  replace w2 : Heap.SameBut z u1 u2 := w2
  have upw : ∀ c o, c ≠ z → e2.get? c = some o → u2.get? c = some o := fun c o nz q => w2.extBut _ _ nz (w1.extBut _ _ nz (Heap.get?_push_of_some _ q))
  have nt : Tp2 u2 e2.objs.size x1 x2 := w2.extBut _ _ (Nat.ne_of_gt zl) (w1.extBut _ _ (Nat.ne_of_gt zl) (Heap.get?_push_size _ rfl))
  have s8 : u2.objs.size = e2.objs.size + 1 := by rw [w2.1, w1.1, Heap.size_push]
  rw [sz] at v2 nt s8
  refine wpAny_pure ⟨_, rfl, ?_⟩
  show Q (.ref e2.objs.size) ⟨u2, gn, dr, k2, os⟩
  rw [sz]
  exact hQ x1 x2 u2 k2 px1 px2 v2 (upw _ _ S.zT.symm ai) (upw _ _ S.zO.symm y2) (D1.frame _ _ _ (D1.over (D1.over (D1.over sx1 b1 S.O1) c2 S.s21) b2 S.O1) fun b hb o e => upw b o (fun q => S.z1 (q ▸ hb)) e) (D2.frame _ _ _ (D2.over sx2 b2 S.O2) fun b hb o e => upw b o (fun q => S.z2 (q ▸ hb)) e) nt s8 fun c o nz nTO ni1 ni2 q => upw c o nz (old c o nz nTO ni1 ni2 q)
theorem zs2_end {Q : Fin → Shared → Prop} (S : Sep2 z TI TO i1 i2 f1 f2) (D1 : Draws P w A i1 f1 n P1 T1) (D2 : Draws P w A i2 f2 n P2 T2) (hh : A.handled = none)
    (hz : ZipAt s.heap z TI TO .none) (hI : Tp2 s.heap TI (.ref i1) (.ref i2)) (hO : Tp2 s.heap TO a1 a2) (t1 : T1 i s.heap) (t2 : T2 i s.heap) (hi : i = n)
    (hE : ∀ hp tk e, (∀ c o, c ≠ z → c ≠ TO → c ≠ i1 → c ≠ i2 → s.heap.get? c = some o → hp.get? c = some o) → (∃ o, hp.get? e = some o ∧ o.cls = .type "StopIteration") → E (.ref e) { s with heap := hp, toks := tk }) :
    wpAny (model P w) A (Builtin.«zip.__next__» ⟨[.ref z], []⟩) Q E s := by
  subst hi
  obtain ⟨h0, gn, dr, k0, os⟩ := s
  show wpAny _ _ (field (.ref z) 2 >>= _) _ _ _
  refine wpAny_bind (wpAny_field hz rfl (x := .bool true) rfl ?_)
  show wpAny _ _ (field (.ref z) 3 >>= _) _ _ _
  refine wpAny_bind (wpAny_field hz rfl (x := .ref TI) rfl ?_)
  refine wpAny_bind (wpAny_seqItems hI rfl ?_)
  show wpAny _ _ (Builtin.SmallTypes.ownedTupleIsFree (.ref z) >>= _) _ _ _
  refine wpAny_bind ?_
  unfold Builtin.SmallTypes.ownedTupleIsFree
  refine wpAny_bind (wpAny_field hz rfl (x := .none) rfl (wpAny_pure ?_))
  simp only [if_true]
  refine wpAny_bind (wpAny_rule ?_)
  refine wpAny_bind (wpAny_field hz rfl (x := .ref TO) rfl ?_)
  refine wpAny_bind (wpAny_setField_rec hz (by simp) fun e0 y0 b0 => ?_)
  replace y0 : ZipAt e0 z TI TO .ellipsis := y0
  replace b0 : Heap.SameBut z h0 e0 := b0
  refine wpAny_bind ?_
  simp only [List.zipIdx_cons, List.zipIdx_nil, List.forIn_cons, List.forIn_nil]
  refine wpAny_bind (wpAny_bind (wpAny_onRaise ?_))
  show wpAny _ _ (Builtin.SmallTypes.nextOrEnd (.ref i1)) _ _ ⟨e0, gn, dr, k0, os⟩
  refine ne_end D1 (D1.over t1 b0 S.z1) fun d1 c1 => ?_
  replace c1 : Heap.ExtBut i1 e0 d1 := c1
  have z1 : ZipAt d1 z TI TO .ellipsis := c1 _ _ S.zi1 y0
  refine wpAny_bind (wpAny_setField_rec (s := ⟨d1, gn, dr, k0, os⟩) z1 (by simp) fun e1 y1 b1 => ?_)
  replace b1 : Heap.SameBut z d1 e1 := b1
  refine wpAny_bind ?_
  show wpAny _ _ (tailS [Value.ref i1, Value.ref i2] 0) _ _ _
  unfold tailS
  refine wpAny_bind ?_
  simp only [List.drop_succ_cons, List.drop_zero, List.zipIdx_cons, List.zipIdx_nil, List.forIn_cons, List.forIn_nil]
  refine wpAny_bind (wpAny_bind ?_)
  refine ne_end (s := ⟨e1, gn, dr, k0, os⟩) D2 (D2.ov (D2.ov (D2.over t2 b0 S.z2) c1 S.s12) b1.extBut S.z2) fun d2 c2 => ?_
  replace c2 : Heap.ExtBut i2 e1 d2 := c2
  refine wpAny_pure ?_
  refine wpAny_pure ?_
  refine wpAny_bind (wpAny_rule ?_)
  refine stop_raise (s := ⟨d2, gn, dr, k0, os⟩) hh fun hp e kp he => ?_
  exact hE hp k0 e (fun c o nz nTO ni1 ni2 q => kp c o (c2 _ _ ni2 (b1.extBut _ _ nz (c1 _ _ ni1 (b0.extBut _ _ nz q))))) he
end
abbrev Tp3 (h : Heap) (T : Addr) (a1 : Value) (a2 : Value) (a3 : Value) : Prop := h.get? T = some { cls := .type "tuple", data := .seq #[a1, a2, a3] }
structure Sep3 (z TI TO : Addr) (i1 : Addr) (i2 : Addr) (i3 : Addr) (f1 : List Addr) (f2 : List Addr) (f3 : List Addr) : Prop where
  zT : z ≠ TI
  zO : z ≠ TO
  TO_ : TI ≠ TO
  m1 : i1 ∈ f1
  z1 : z ∉ f1
  T1 : TI ∉ f1
  O1 : TO ∉ f1
  s12 : i1 ∉ f2
  s13 : i1 ∉ f3
  m2 : i2 ∈ f2
  z2 : z ∉ f2
  T2 : TI ∉ f2
  O2 : TO ∉ f2
  s21 : i2 ∉ f1
  s23 : i2 ∉ f3
  m3 : i3 ∈ f3
  z3 : z ∉ f3
  T3 : TI ∉ f3
  O3 : TO ∉ f3
  s31 : i3 ∉ f1
  s32 : i3 ∉ f2
theorem Sep3.zi1 {z TI TO i1 i2 i3 : Addr} {f1 f2 f3 : List Addr} (S : Sep3 z TI TO i1 i2 i3 f1 f2 f3) : z ≠ i1 := fun e => S.z1 (e ▸ S.m1)
theorem Sep3.Oi1 {z TI TO i1 i2 i3 : Addr} {f1 f2 f3 : List Addr} (S : Sep3 z TI TO i1 i2 i3 f1 f2 f3) : TO ≠ i1 := fun e => S.O1 (e ▸ S.m1)
theorem Sep3.Ti1 {z TI TO i1 i2 i3 : Addr} {f1 f2 f3 : List Addr} (S : Sep3 z TI TO i1 i2 i3 f1 f2 f3) : TI ≠ i1 := fun e => S.T1 (e ▸ S.m1)
theorem Sep3.zi2 {z TI TO i1 i2 i3 : Addr} {f1 f2 f3 : List Addr} (S : Sep3 z TI TO i1 i2 i3 f1 f2 f3) : z ≠ i2 := fun e => S.z2 (e ▸ S.m2)
theorem Sep3.Oi2 {z TI TO i1 i2 i3 : Addr} {f1 f2 f3 : List Addr} (S : Sep3 z TI TO i1 i2 i3 f1 f2 f3) : TO ≠ i2 := fun e => S.O2 (e ▸ S.m2)
theorem Sep3.Ti2 {z TI TO i1 i2 i3 : Addr} {f1 f2 f3 : List Addr} (S : Sep3 z TI TO i1 i2 i3 f1 f2 f3) : TI ≠ i2 := fun e => S.T2 (e ▸ S.m2)
theorem Sep3.zi3 {z TI TO i1 i2 i3 : Addr} {f1 f2 f3 : List Addr} (S : Sep3 z TI TO i1 i2 i3 f1 f2 f3) : z ≠ i3 := fun e => S.z3 (e ▸ S.m3)
theorem Sep3.Oi3 {z TI TO i1 i2 i3 : Addr} {f1 f2 f3 : List Addr} (S : Sep3 z TI TO i1 i2 i3 f1 f2 f3) : TO ≠ i3 := fun e => S.O3 (e ▸ S.m3)
theorem Sep3.Ti3 {z TI TO i1 i2 i3 : Addr} {f1 f2 f3 : List Addr} (S : Sep3 z TI TO i1 i2 i3 f1 f2 f3) : TI ≠ i3 := fun e => S.T3 (e ▸ S.m3)
section
variable {P : Program} {w : World} {A : Around} {E : Value → Shared → Prop} {s : Shared}
variable {z TI TO i1 i2 i3 : Addr} {f1 f2 f3 : List Addr} {n i : Nat} {P1 : Nat → Value → Prop} {T1 : Nat → Heap → Prop} {P2 : Nat → Value → Prop} {T2 : Nat → Heap → Prop} {P3 : Nat → Value → Prop} {T3 : Nat → Heap → Prop} {a1 a2 a3 : Value}
theorem upTp3 {T : Addr} {x : Value} {k : Nat} {Q : Unit → Shared → Prop} (hT : Tp3 s.heap T a1 a2 a3)
    (h : ∀ hp, hp.get? T = some { cls := .type "tuple", data := .seq ((#[a1, a2, a3] : Array Value).setIfInBounds k x) } → Heap.SameBut T s.heap hp → Q () { s with heap := hp }) :
    wpAny (model P w) A (updateSeq T (·.setIfInBounds k x)) Q E s :=
  wpAny_updateSeq hT rfl (h _ (by rw [Heap.get?_update_self _ hT rfl] <;> simp [Obj.mapSeq]) (Heap.SameBut.update ..))
theorem zs3_item {Q : Value → Shared → Prop} (S : Sep3 z TI TO i1 i2 i3 f1 f2 f3) (D1 : Draws P w A i1 f1 n P1 T1) (D2 : Draws P w A i2 f2 n P2 T2) (D3 : Draws P w A i3 f3 n P3 T3)
    (hz : ZipAt s.heap z TI TO .none) (hI : Tp3 s.heap TI (.ref i1) (.ref i2) (.ref i3)) (hO : Tp3 s.heap TO a1 a2 a3) (t1 : T1 i s.heap) (t2 : T2 i s.heap) (t3 : T3 i s.heap) (hi : i < n)
    (hQ : ∀ x1 x2 x3 hp tk, P1 i x1 → P2 i x2 → P3 i x3 → ZipAt hp z TI TO (rawInt s.heap.objs.size) → Tp3 hp TI (.ref i1) (.ref i2) (.ref i3) → Tp3 hp TO x1 x2 x3 → T1 (i + 1) hp → T2 (i + 1) hp → T3 (i + 1) hp → Tp3 hp s.heap.objs.size x1 x2 x3 → hp.objs.size = s.heap.objs.size + 1 →
      (∀ c o, c ≠ z → c ≠ TO → c ≠ i1 → c ≠ i2 → c ≠ i3 → s.heap.get? c = some o → hp.get? c = some o) → Q (.ref s.heap.objs.size) { s with heap := hp, toks := tk }) :
    wpAny (model P w) A (Builtin.«zip.__next__» ⟨[.ref z], []⟩) (fun fin s1 => ∃ v, fin = .done (.ret v) ∧ Q v s1) E s := by
  obtain ⟨h0, gn, dr, k0, os⟩ := s
  show wpAny _ _ (field (.ref z) 2 >>= _) _ _ _
  refine wpAny_bind (wpAny_field hz rfl (x := .bool true) rfl ?_)
  show wpAny _ _ (field (.ref z) 3 >>= _) _ _ _
  refine wpAny_bind (wpAny_field hz rfl (x := .ref TI) rfl ?_)
  refine wpAny_bind (wpAny_seqItems hI rfl ?_)
  show wpAny _ _ (Builtin.SmallTypes.ownedTupleIsFree (.ref z) >>= _) _ _ _
  refine wpAny_bind ?_
  unfold Builtin.SmallTypes.ownedTupleIsFree
  refine wpAny_bind (wpAny_field hz rfl (x := .none) rfl (wpAny_pure ?_))
  simp only [if_true]
  refine wpAny_bind (wpAny_rule ?_)
  refine wpAny_bind (wpAny_field hz rfl (x := .ref TO) rfl ?_)
  refine wpAny_bind (wpAny_setField_rec hz (by simp) fun e0 y0 b0 => ?_)
  replace y0 : ZipAt e0 z TI TO .ellipsis := y0
  replace b0 : Heap.SameBut z h0 e0 := b0
  refine wpAny_bind ?_
  simp only [List.zipIdx_cons, List.zipIdx_nil, List.forIn_cons, List.forIn_nil]
  refine wpAny_bind (wpAny_bind (wpAny_onRaise ?_))
  show wpAny _ _ (Builtin.SmallTypes.nextOrEnd (.ref i1)) _ _ ⟨e0, gn, dr, k0, os⟩
  refine ne_item D1 hi (D1.over t1 b0 S.z1) fun x1 d1 k1 px1 sx1 c1 => ?_
  replace c1 : Heap.SameBut i1 e0 d1 := c1
  have o1 : Tp3 d1 TO a1 a2 a3 := c1.extBut _ _ S.Oi1 (b0.extBut _ _ S.zO.symm hO)
  refine wpAny_bind (wpAny_seqItems (s := ⟨d1, gn, dr, k1, os⟩) o1 rfl ?_)
  refine wpAny_bind (upTp3 (s := ⟨d1, gn, dr, k1, os⟩) o1 fun e1 y1 b1 => ?_)
  replace y1 : Tp3 e1 TO x1 a2 a3 := y1
  replace b1 : Heap.SameBut TO d1 e1 := b1
  refine wpAny_bind (wpAny_letGo (wpAny_pure ?_))
  refine wpAny_bind (wpAny_bind (wpAny_onRaise ?_))
  show wpAny _ _ (Builtin.SmallTypes.nextOrEnd (.ref i2)) _ _ ⟨e1, gn, dr, k1, os⟩
  refine ne_item D2 hi (D2.over (D2.over (D2.over t2 b0 S.z2) c1 S.s12) b1 S.O2) fun x2 d2 k2 px2 sx2 c2 => ?_
  replace c2 : Heap.SameBut i2 e1 d2 := c2
  have o2 : Tp3 d2 TO x1 a2 a3 := c2.extBut _ _ S.Oi2 y1
  refine wpAny_bind (wpAny_seqItems (s := ⟨d2, gn, dr, k2, os⟩) o2 rfl ?_)
  refine wpAny_bind (upTp3 (s := ⟨d2, gn, dr, k2, os⟩) o2 fun e2 y2 b2 => ?_)
  replace y2 : Tp3 e2 TO x1 x2 a3 := y2
  replace b2 : Heap.SameBut TO d2 e2 := b2
  refine wpAny_bind (wpAny_letGo (wpAny_pure ?_))
  refine wpAny_bind (wpAny_bind (wpAny_onRaise ?_))
  show wpAny _ _ (Builtin.SmallTypes.nextOrEnd (.ref i3)) _ _ ⟨e2, gn, dr, k2, os⟩
  refine ne_item D3 hi (D3.over (D3.over (D3.over (D3.over (D3.over t3 b0 S.z3) c1 S.s13) b1 S.O3) c2 S.s23) b2 S.O3) fun x3 d3 k3 px3 sx3 c3 => ?_
  replace c3 : Heap.SameBut i3 e2 d3 := c3
  have o3 : Tp3 d3 TO x1 x2 a3 := c3.extBut _ _ S.Oi3 y2
  refine wpAny_bind (wpAny_seqItems (s := ⟨d3, gn, dr, k3, os⟩) o3 rfl ?_)
  refine wpAny_bind (upTp3 (s := ⟨d3, gn, dr, k3, os⟩) o3 fun e3 y3 b3 => ?_)
  replace y3 : Tp3 e3 TO x1 x2 x3 := y3
  replace b3 : Heap.SameBut TO d3 e3 := b3
  refine wpAny_bind (wpAny_letGo (wpAny_pure (wpAny_pure ?_)))
  refine wpAny_bind (wpAny_seqItems (s := ⟨e3, gn, dr, k3, os⟩) y3 rfl ?_)
  refine wpAny_bind (wpAny_newTuple ?_)
  have sz : e3.objs.size = h0.objs.size := by rw [b3.1, c3.1, b2.1, c2.1, b1.1, c1.1, b0.1]
  have az : ZipAt e3 z TI TO .ellipsis := (b3.extBut _ _ S.zO (c3.extBut _ _ S.zi3 (b2.extBut _ _ S.zO (c2.extBut _ _ S.zi2 (b1.extBut _ _ S.zO (c1.extBut _ _ S.zi1 y0))))))
  have ai : Tp3 e3 TI (.ref i1) (.ref i2) (.ref i3) := (b3.extBut _ _ S.TO_ (c3.extBut _ _ S.Ti3 (b2.extBut _ _ S.TO_ (c2.extBut _ _ S.Ti2 (b1.extBut _ _ S.TO_ (c1.extBut _ _ S.Ti1 (b0.extBut _ _ S.zT.symm hI)))))))
  have old : ∀ c o, c ≠ z → c ≠ TO → c ≠ i1 → c ≠ i2 → c ≠ i3 → h0.get? c = some o → e3.get? c = some o := fun c o nz nTO ni1 ni2 ni3 q => (b3.extBut _ _ nTO (c3.extBut _ _ ni3 (b2.extBut _ _ nTO (c2.extBut _ _ ni2 (b1.extBut _ _ nTO (c1.extBut _ _ ni1 (b0.extBut _ _ nz q)))))))
  have zl : z < e3.objs.size := Heap.lt_size az
  show wpAny _ _ (Builtin.SmallTypes.ownedTupleHandOut (.ref z) (.ref e3.objs.size) >>= _) _ _ ⟨e3.push { cls := .type "tuple", data := .seq #[x1, x2, x3] }, gn, dr, k3, os⟩
  refine wpAny_bind ?_
  unfold Builtin.SmallTypes.ownedTupleHandOut
  have u0 : ZipAt (e3.push { cls := .type "tuple", data := .seq #[x1, x2, x3] }) z TI TO .ellipsis := Heap.get?_push_of_some _ az
  refine wpAny_bind (wpAny_setField_rec u0 (by simp) fun u1 v1 w1 => ?_)
  replace v1 : ZipAt u1 z TI TO (rawInt e3.objs.size) := v1
  refine wpAny_setField_rec v1 (by simp) fun u2 v2 w2 => ?_
  replace v2 : ZipAt u2 z TI TO (rawInt e3.objs.size) := v2
  replace w1 : Heap.SameBut z (e3.push { cls := .type "tuple", data := .seq #[x1, x2, x3] }) u1 := w1
  replace w2 : Heap.SameBut z u1 u2 := w2
  have upw : ∀ c o, c ≠ z → e3.get? c = some o → u2.get? c = some o := fun c o nz q => w2.extBut _ _ nz (w1.extBut _ _ nz (Heap.get?_push_of_some _ q))
  have nt : Tp3 u2 e3.objs.size x1 x2 x3 := w2.extBut _ _ (Nat.ne_of_gt zl) (w1.extBut _ _ (Nat.ne_of_gt zl) (Heap.get?_push_size _ rfl))
  have s8 : u2.objs.size = e3.objs.size + 1 := by rw [w2.1, w1.1, Heap.size_push]
  rw [sz] at v2 nt s8
  refine wpAny_pure ⟨_, rfl, ?_⟩
  show Q (.ref e3.objs.size) ⟨u2, gn, dr, k3, os⟩
  rw [sz]
  exact hQ x1 x2 x3 u2 k3 px1 px2 px3 v2 (upw _ _ S.zT.symm ai) (upw _ _ S.zO.symm y3) (D1.frame _ _ _ (D1.over (D1.over (D1.over (D1.over (D1.over sx1 b1 S.O1) c2 S.s21) b2 S.O1) c3 S.s31) b3 S.O1) fun b hb o e => upw b o (fun q => S.z1 (q ▸ hb)) e) (D2.frame _ _ _ (D2.over (D2.over (D2.over sx2 b2 S.O2) c3 S.s32) b3 S.O2) fun b hb o e => upw b o (fun q => S.z2 (q ▸ hb)) e) (D3.frame _ _ _ (D3.over sx3 b3 S.O3) fun b hb o e => upw b o (fun q => S.z3 (q ▸ hb)) e) nt s8 fun c o nz nTO ni1 ni2 ni3 q => upw c o nz (old c o nz nTO ni1 ni2 ni3 q)
theorem zs3_end {Q : Fin → Shared → Prop} (S : Sep3 z TI TO i1 i2 i3 f1 f2 f3) (D1 : Draws P w A i1 f1 n P1 T1) (D2 : Draws P w A i2 f2 n P2 T2) (D3 : Draws P w A i3 f3 n P3 T3) (hh : A.handled = none)
    (hz : ZipAt s.heap z TI TO .none) (hI : Tp3 s.heap TI (.ref i1) (.ref i2) (.ref i3)) (hO : Tp3 s.heap TO a1 a2 a3) (t1 : T1 i s.heap) (t2 : T2 i s.heap) (t3 : T3 i s.heap) (hi : i = n)
    (hE : ∀ hp tk e, (∀ c o, c ≠ z → c ≠ TO → c ≠ i1 → c ≠ i2 → c ≠ i3 → s.heap.get? c = some o → hp.get? c = some o) → (∃ o, hp.get? e = some o ∧ o.cls = .type "StopIteration") → E (.ref e) { s with heap := hp, toks := tk }) :
    wpAny (model P w) A (Builtin.«zip.__next__» ⟨[.ref z], []⟩) Q E s := by
  subst hi
  obtain ⟨h0, gn, dr, k0, os⟩ := s
  show wpAny _ _ (field (.ref z) 2 >>= _) _ _ _
  refine wpAny_bind (wpAny_field hz rfl (x := .bool true) rfl ?_)
  show wpAny _ _ (field (.ref z) 3 >>= _) _ _ _
  refine wpAny_bind (wpAny_field hz rfl (x := .ref TI) rfl ?_)
  refine wpAny_bind (wpAny_seqItems hI rfl ?_)
  show wpAny _ _ (Builtin.SmallTypes.ownedTupleIsFree (.ref z) >>= _) _ _ _
  refine wpAny_bind ?_
  unfold Builtin.SmallTypes.ownedTupleIsFree
  refine wpAny_bind (wpAny_field hz rfl (x := .none) rfl (wpAny_pure ?_))
  simp only [if_true]
  refine wpAny_bind (wpAny_rule ?_)
  refine wpAny_bind (wpAny_field hz rfl (x := .ref TO) rfl ?_)
  refine wpAny_bind (wpAny_setField_rec hz (by simp) fun e0 y0 b0 => ?_)
  replace y0 : ZipAt e0 z TI TO .ellipsis := y0
  replace b0 : Heap.SameBut z h0 e0 := b0
  refine wpAny_bind ?_
  simp only [List.zipIdx_cons, List.zipIdx_nil, List.forIn_cons, List.forIn_nil]
  refine wpAny_bind (wpAny_bind (wpAny_onRaise ?_))
  show wpAny _ _ (Builtin.SmallTypes.nextOrEnd (.ref i1)) _ _ ⟨e0, gn, dr, k0, os⟩
  refine ne_end D1 (D1.over t1 b0 S.z1) fun d1 c1 => ?_
  replace c1 : Heap.ExtBut i1 e0 d1 := c1
  have z1 : ZipAt d1 z TI TO .ellipsis := c1 _ _ S.zi1 y0
  refine wpAny_bind (wpAny_setField_rec (s := ⟨d1, gn, dr, k0, os⟩) z1 (by simp) fun e1 y1 b1 => ?_)
  replace b1 : Heap.SameBut z d1 e1 := b1
  refine wpAny_bind ?_
  show wpAny _ _ (tailS [Value.ref i1, Value.ref i2, Value.ref i3] 0) _ _ _
  unfold tailS
  refine wpAny_bind ?_
  simp only [List.drop_succ_cons, List.drop_zero, List.zipIdx_cons, List.zipIdx_nil, List.forIn_cons, List.forIn_nil]
  refine wpAny_bind (wpAny_bind ?_)
  refine ne_end (s := ⟨e1, gn, dr, k0, os⟩) D2 (D2.ov (D2.ov (D2.over t2 b0 S.z2) c1 S.s12) b1.extBut S.z2) fun d2 c2 => ?_
  replace c2 : Heap.ExtBut i2 e1 d2 := c2
  refine wpAny_pure ?_
  refine wpAny_bind (wpAny_bind ?_)
  refine ne_end (s := ⟨d2, gn, dr, k0, os⟩) D3 (D3.ov (D3.ov (D3.ov (D3.over t3 b0 S.z3) c1 S.s13) b1.extBut S.z3) c2 S.s23) fun d3 c3 => ?_
  replace c3 : Heap.ExtBut i3 d2 d3 := c3
  refine wpAny_pure ?_
  refine wpAny_pure ?_
  refine wpAny_bind (wpAny_rule ?_)
  refine stop_raise (s := ⟨d3, gn, dr, k0, os⟩) hh fun hp e kp he => ?_
  exact hE hp k0 e (fun c o nz nTO ni1 ni2 ni3 q => kp c o (c3 _ _ ni3 (c2 _ _ ni2 (b1.extBut _ _ nz (c1 _ _ ni1 (b0.extBut _ _ nz q)))))) he
end
end Zs
end
section
/-! The data layer: trees for values, and what a reading has to do with them. -/
namespace Dn
open PySem L2
/-! ### data -/
inductive Dt where
  | non
  | bl (b : Bool)
  | int (i : Int)
  | str (x : Str)
  | tup (xs : List Dt)
  | lst (xs : List Dt)
  | dic (kvs : List (Key × Dt))
  | dicT (kvs : List (List Key × Dt))
  | obj (c : Str) (fs : List (Str × Dt))
  | exn (c : Str) (fs : List (Str × Dt))
  | wd
  | scr (ns : List Int)
  | emp
  | dicF (kvs : List (Key × Dt))
  | dicFT (kvs : List (List Key × Dt))
/-- the draws' state -/
structure Ds where
  ns : List Int
  pl : Int
  rem : Int
  seed : Int
inductive Out (α : Type) where
  | ok (a : α) (w : Ds)
  | exc (c : Str) (fs : List (Str × Dt)) (w : Ds)
  | bad
def Out.bind {α β : Type} (o : Out α) (f : α → Ds → Out β) : Out β := match o with
  | .ok a w => f a w
  | .exc c fs w => .exc c fs w
  | .bad => .bad
/-- what all of a law's run shares, and where a def's run began -/
structure Kp where
  K : PySem.W.Frag
  cls : Str → Option Addr
  pd : Option Addr
  sq : Addr
  ns : List Int
  tb : List (Addr × Str)
  xa : Option (Addr × Addr × Addr)
  sf : Option Addr := none
/-- what may be written although nobody owns it: the draws' list, the tables of code objects -/
def Kp.mu (k : Kp) (b : Addr) : Prop := k.pd = some b ∨ ∃ q, (b, q) ∈ k.tb
structure Ct where
  k : Kp
  H0 : Hp
  D0 : Hp
abbrev Sub (A B : Hp) : Prop := ∀ a o, A a = some o → B a = some o
theorem Sub.refl (A : Hp) : Sub A A := fun _ _ h => h
theorem Sub.trans {A B C : Hp} (h : Sub A B) (g : Sub B C) : Sub A C := fun a o e => g a o (h a o e)
mutual
inductive Rp (k : Kp) (D : Hp) : V → Dt → Prop
  | non : Rp k D .non .non
  | bl (b : Bool) : Rp k D (.bl b) (.bl b)
  | int (i : Int) : Rp k D (.int i) (.int i)
  | str (x : Str) : Rp k D (.str x) (.str x)
  | tup {a : Addr} {vs : List V} {ds : List Dt} : D a = some (.tup vs) → RpL k D vs ds → Rp k D (.ref a) (.tup ds)
  | lst {a : Addr} {vs : List V} {ds : List Dt} : D a = some (.lst vs) → RpL k D vs ds → Rp k D (.ref a) (.lst ds)
  | dic {a : Addr} {ks : List (Key × V)} {kvs : List (Key × Dt)} : D a = some (.dK ks) → ks.map (·.1) = kvs.map (·.1) → RpL k D (ks.map (·.2)) (kvs.map (·.2)) → Rp k D (.ref a) (.dic kvs)
  | dicT {a : Addr} {ks : List (List Key × V)} {kvs : List (List Key × Dt)} : D a = some (.dT ks) → ks.map (·.1) = kvs.map (·.1) → RpL k D (ks.map (·.2)) (kvs.map (·.2)) → Rp k D (.ref a) (.dicT kvs)
  | obj {a C dx : Addr} {vs : List (Str × V)} {c : Str} {fs : List (Str × Dt)} : D a = some (.ins C dx vs) → D dx = some (.own a) → k.cls c = some C → vs.map (·.1) = fs.map (·.1) →
      RpL k D (vs.map (·.2)) (fs.map (·.2)) → Rp k D (.ref a) (.obj c fs)
  | exn {a C dx : Addr} {vs : List (Str × V)} {c : Str} {fs : List (Str × Dt)} : k.xa = some (a, C, dx) → k.cls c = some C → D dx = some (.xd vs) → vs.map (·.1) = fs.map (·.1) →
      RpL k D (vs.map (·.2)) (fs.map (·.2)) → Rp k D (.ref a) (.exn c fs)
  | wd {a : Addr} : k.pd = some a → Rp k D (.ref a) .wd
  | scr {a : Addr} {ns : List Int} : SqL k.K D a (ns.map V.int) → Rp k D (.ref a) (.scr ns)
  | emp {a : Addr} : SqT k.K (fun _ => none) a [] → Rp k D (.ref a) .emp
  | dicF {a : Addr} {o : Obj} {ks : List (Key × V)} {kvs : List (Key × Dt)} : D a = some (.frz o (.dK ks)) → ks.map (·.1) = kvs.map (·.1) → RpL k D (ks.map (·.2)) (kvs.map (·.2)) → Rp k D (.ref a) (.dicF kvs)
  | dicFT {a : Addr} {o : Obj} {ks : List (List Key × V)} {kvs : List (List Key × Dt)} : D a = some (.frz o (.dT ks)) → ks.map (·.1) = kvs.map (·.1) → RpL k D (ks.map (·.2)) (kvs.map (·.2)) → Rp k D (.ref a) (.dicFT kvs)
inductive RpL (k : Kp) (D : Hp) : List V → List Dt → Prop
  | nil : RpL k D [] []
  | cons {v : V} {vs : List V} {d : Dt} {ds : List Dt} : Rp k D v d → RpL k D vs ds → RpL k D (v :: vs) (d :: ds)
end
theorem sqL_sub {K : PySem.W.Frag} {D D' : Hp} {a : Addr} {xs : List V} (s : Sub D D') (h : SqL K D a xs) : SqL K D' a xs := by
  rcases h with (h | ⟨o, h⟩) | h
  · exact .inl (.inl (s _ _ h))
  · exact .inl (.inr ⟨o, s _ _ h⟩)
  · exact .inr h
theorem sqT_sub {K : PySem.W.Frag} {D D' : Hp} {a : Addr} {xs : List V} (s : Sub D D') (h : SqT K D a xs) : SqT K D' a xs := by
  rcases h with (h | ⟨o, h⟩) | h
  · exact .inl (.inl (s _ _ h))
  · exact .inl (.inr ⟨o, s _ _ h⟩)
  · exact .inr h
theorem tupS {K : PySem.W.Frag} {D D' : Hp} {a : Addr} {xs : List V} (s : Sub D D') (h : D a = some (.tup xs)) : SqT K D' a xs := SqT.of (s _ _ h)
section
variable {k : Kp} {D D' : Hp}
mutual
theorem Rp.mono (s : Sub D D') : ∀ {v : V} {d : Dt}, Rp k D v d → Rp k D' v d
  | _, _, .non => .non
  | _, _, .bl b => .bl b
  | _, _, .int i => .int i
  | _, _, .str x => .str x
  | _, _, .tup h r => .tup (s _ _ h) (RpL.mono s r)
  | _, _, .lst h r => .lst (s _ _ h) (RpL.mono s r)
  | _, _, .dic h e r => .dic (s _ _ h) e (RpL.mono s r)
  | _, _, .dicT h e r => .dicT (s _ _ h) e (RpL.mono s r)
  | _, _, .dicF h e r => .dicF (s _ _ h) e (RpL.mono s r)
  | _, _, .dicFT h e r => .dicFT (s _ _ h) e (RpL.mono s r)
  | _, _, .obj h o c e r => .obj (s _ _ h) (s _ _ o) c e (RpL.mono s r)
  | _, _, .exn h c o e r => .exn h c (s _ _ o) e (RpL.mono s r)
  | _, _, .wd e => .wd e
  | _, _, .scr h => .scr (sqL_sub s h)
  | _, _, .emp h => .emp h
theorem RpL.mono (s : Sub D D') : ∀ {vs : List V} {ds : List Dt}, RpL k D vs ds → RpL k D' vs ds
  | _, _, .nil => .nil
  | _, _, .cons h r => .cons (Rp.mono s h) (RpL.mono s r)
end
theorem RpL.length : ∀ {vs : List V} {ds : List Dt}, RpL k D vs ds → vs.length = ds.length
  | _, _, .nil => rfl
  | _, _, .cons _ r => congrArg (· + 1) r.length
theorem RpL.append : ∀ {vs us : List V} {ds es : List Dt}, RpL k D vs ds → RpL k D us es → RpL k D (vs ++ us) (ds ++ es)
  | _, _, _, _, .nil, h => h
  | _, _, _, _, .cons h r, h' => .cons h (r.append h')
theorem RpL.get : ∀ {vs : List V} {ds : List Dt} {i : Nat} {v : V}, RpL k D vs ds → vs[i]? = some v → ∃ d, ds[i]? = some d ∧ Rp k D v d
  | _, _, i, _, .nil, h => by simp at h
  | _, _, 0, _, .cons h _, e => by
    simp at e
    exact ⟨_, rfl, e ▸ h⟩
  | _, _, i + 1, _, .cons _ r, e => by
    simp at e
    obtain ⟨d, h1, h2⟩ := r.get e
    exact ⟨d, by simpa using h1, h2⟩
theorem RpL.get' : ∀ {vs : List V} {ds : List Dt} {i : Nat} {d : Dt}, RpL k D vs ds → ds[i]? = some d → ∃ v, vs[i]? = some v ∧ Rp k D v d
  | _, _, i, _, .nil, h => by simp at h
  | _, _, 0, _, .cons h _, e => by
    simp at e
    exact ⟨_, rfl, e ▸ h⟩
  | _, _, i + 1, _, .cons _ r, e => by
    simp at e
    obtain ⟨d, h1, h2⟩ := r.get' e
    exact ⟨d, by simpa using h1, h2⟩
theorem RpL.take : ∀ {vs : List V} {ds : List Dt} (n : Nat), RpL k D vs ds → RpL k D (vs.take n) (ds.take n)
  | _, _, 0, _ => .nil
  | _, _, _ + 1, .nil => .nil
  | _, _, n + 1, .cons h r => .cons h (r.take n)
theorem RpL.drop : ∀ {vs : List V} {ds : List Dt} (n : Nat), RpL k D vs ds → RpL k D (vs.drop n) (ds.drop n)
  | _, _, 0, h => h
  | _, _, _ + 1, .nil => .nil
  | _, _, n + 1, .cons _ r => r.drop n
theorem RpL.set {v : V} {d : Dt} (h : Rp k D v d) : ∀ {vs : List V} {ds : List Dt} (i : Nat), RpL k D vs ds → RpL k D (vs.set i v) (ds.set i d)
  | _, _, _, .nil => .nil
  | _, _, 0, .cons _ r => .cons h r
  | _, _, i + 1, .cons q r => .cons q (RpL.set h i r)
end
/-! ### what a def owns: objects that nothing else knows -/
/-- what a field of an owned instance holds: data, or a list of its own -/
inductive Fv where
  | d (x : Dt)
  | l (ds : List Dt)
def Fv.dt : Fv → Dt
  | .d x => x
  | .l ds => .lst ds
def FldsOk (k : Kp) (D H : Hp) : List (Str × V) → List (Str × Fv) → List Addr → Prop
  | [], [], fp => fp = []
  | (n, v) :: vs, (m, .d x) :: fs, fp => n = m ∧ Rp k D v x ∧ FldsOk k D H vs fs fp
  | (n, v) :: vs, (m, .l ds) :: fs, fp => n = m ∧ ∃ q r us, fp = q :: r ∧ v = .ref q ∧ H q = some (.lst us) ∧ RpL k D us ds ∧ FldsOk k D H vs fs r
  | _, _, _ => False
theorem FldsOk.mono {k : Kp} {D D' H H' : Hp} (s : Sub D D') : ∀ {vs : List (Str × V)} {fs : List (Str × Fv)} {fp : List Addr}, FldsOk k D H vs fs fp → (∀ q ∈ fp, ∀ u, H q = some u → H' q = some u) → FldsOk k D' H' vs fs fp
  | [], [], _, h, _ => h
  | (n, v) :: vs, (m, .d x) :: fs, fp, ⟨e, r, t⟩, k => ⟨e, r.mono s, FldsOk.mono s t k⟩
  | (n, v) :: vs, (m, .l ds) :: fs, fp, ⟨e, q, r, us, e1, e2, h, rr, t⟩, k => ⟨e, q, r, us, e1, e2, k q (by rw [e1]; simp) _ h, rr.mono s, FldsOk.mono s t fun z hz => k z (by rw [e1]; exact List.mem_cons_of_mem _ hz)⟩
  | [], (_, .d _) :: _, _, h, _ => h.elim
  | [], (_, .l _) :: _, _, h, _ => h.elim
  | _ :: _, [], _, h, _ => h.elim
theorem FldsOk.there {k : Kp} {D H : Hp} : ∀ {vs : List (Str × V)} {fs : List (Str × Fv)} {fp : List Addr}, FldsOk k D H vs fs fp → ∀ q ∈ fp, ∃ us, H q = some (.lst us)
  | [], [], _, h, q, hq => by rw [show _ = [] from h] at hq; cases hq
  | (n, v) :: vs, (m, .d x) :: fs, fp, ⟨e, r, t⟩, q, hq => t.there q hq
  | (n, v) :: vs, (m, .l ds) :: fs, fp, ⟨e, z, r, us, e1, e2, h, rr, t⟩, q, hq => by
    rw [e1] at hq
    rcases List.mem_cons.mp hq with y | y
    · exact ⟨us, y ▸ h⟩
    · exact t.there q y
  | [], (_, .d _) :: _, _, h, _, _ => h.elim
  | [], (_, .l _) :: _, _, h, _, _ => h.elim
  | _ :: _, [], _, h, _, _ => h.elim
/-- all of it as data -/
theorem FldsOk.rpl {k : Kp} {D H : Hp} : ∀ {vs : List (Str × V)} {fs : List (Str × Fv)} {fp : List Addr}, FldsOk k D H vs fs fp → (∀ q ∈ fp, ∀ u, H q = some u → D q = some u) →
    vs.map (·.1) = (fs.map fun x => (x.1, x.2.dt)).map (·.1) ∧ RpL k D (vs.map (·.2)) ((fs.map fun x => (x.1, x.2.dt)).map (·.2))
  | [], [], _, _, _ => ⟨rfl, .nil⟩
  | (n, v) :: vs, (m, .d x) :: fs, fp, ⟨e, r, t⟩, k => let ⟨h1, h2⟩ := t.rpl k; ⟨by subst e; simpa using h1, .cons r h2⟩
  | (n, v) :: vs, (m, .l ds) :: fs, fp, ⟨e, z, r, us, e1, e2, h, rr, t⟩, k => let ⟨h1, h2⟩ := t.rpl fun q hq => k q (by rw [e1]; exact List.mem_cons_of_mem _ hq)
    ⟨by subst e; simpa using h1, by subst e2; exact .cons (.lst (k z (by rw [e1]; simp) _ h) rr) h2⟩
  | [], (_, .d _) :: _, _, h, _ => h.elim
  | [], (_, .l _) :: _, _, h, _ => h.elim
  | _ :: _, [], _, h, _ => h.elim
/-- an own instance, its fields as told -/
def InsAt (k : Kp) (D H : Hp) (p : Addr) (c : Str) (fs : List (Str × Fv)) (fp : List Addr) : Prop := ∃ Ca dx vs r, fp = p :: dx :: r ∧ H p = some (.ins Ca dx vs) ∧ H dx = some (.own p) ∧ k.cls c = some Ca ∧ FldsOk k D H vs fs r
theorem InsAt.mono {k : Kp} {D D' H H' : Hp} {p : Addr} {c : Str} {fs : List (Str × Fv)} {fp : List Addr} (h : InsAt k D H p c fs fp) (s : Sub D D') (kk : ∀ q ∈ fp, ∀ u, H q = some u → H' q = some u) : InsAt k D' H' p c fs fp := by
  obtain ⟨Ca, dx, vs, r, e, h1, h2, h3, t⟩ := h
  exact ⟨Ca, dx, vs, r, e, kk p (by rw [e]; simp) _ h1, kk dx (by rw [e]; simp) _ h2, h3, t.mono s fun q hq => kk q (by rw [e]; simp [hq])⟩
theorem InsAt.there {k : Kp} {D H : Hp} {p : Addr} {c : Str} {fs : List (Str × Fv)} {fp : List Addr} (h : InsAt k D H p c fs fp) : ∀ q ∈ fp, ∃ u, H q = some u ∧ ((∃ C dx vs, u = .ins C dx vs) ∨ (∃ o, u = .own o) ∨ ∃ us, u = .lst us) := by
  obtain ⟨Ca, dx, vs, r, e, h1, h2, h3, t⟩ := h
  intro q hq
  rw [e] at hq
  rcases List.mem_cons.mp hq with z | hq
  · exact ⟨_, z ▸ h1, .inl ⟨_, _, _, rfl⟩⟩
  · rcases List.mem_cons.mp hq with z | hq
    · exact ⟨_, z ▸ h2, .inr (.inl ⟨_, rfl⟩)⟩
    · obtain ⟨us, h⟩ := t.there q hq
      exact ⟨_, h, .inr (.inr ⟨_, rfl⟩)⟩
theorem InsAt.rp {k : Kp} {D H : Hp} {p : Addr} {c : Str} {fs : List (Str × Fv)} {fp : List Addr} (h : InsAt k D H p c fs fp) (kk : ∀ q ∈ fp, ∀ u, H q = some u → D q = some u) : Rp k D (.ref p) (.obj c (fs.map fun x => (x.1, x.2.dt))) := by
  obtain ⟨Ca, dx, vs, r, e, h1, h2, h3, t⟩ := h
  obtain ⟨t1, t2⟩ := t.rpl fun q hq => kk q (by rw [e]; simp [hq])
  exact .obj (kk p (by rw [e]; simp) _ h1) (kk dx (by rw [e]; simp) _ h2) h3 t1 t2
inductive Ow where
  | lst (ds : List Dt)
  | dK (kvs : List (Key × Dt))
  | dT (kvs : List (List Key × Dt))
  | ins (c : Str) (fs : List (Str × Fv))
  | slf (c : Str) (fs : List (Str × Fv))
  | ll (dss : List (List Dt))
  | dL (kvs : List (List Key × List Dt))
/-- owned lists at these places -/
def Kids (k : Kp) (D H : Hp) : List Addr → List (List Dt) → Prop
  | [], [] => True
  | p :: ps, ds :: dss => (∃ vs, H p = some (.lst vs) ∧ RpL k D vs ds) ∧ Kids k D H ps dss
  | _, _ => False
theorem Kids.mono {k : Kp} {D D' H H' : Hp} (s : Sub D D') : ∀ {ps : List Addr} {dss : List (List Dt)}, Kids k D H ps dss → (∀ q ∈ ps, ∀ u, H q = some u → H' q = some u) → Kids k D' H' ps dss
  | [], [], h, _ => h
  | p :: ps, ds :: dss, ⟨⟨vs, h, r⟩, t⟩, k => ⟨⟨vs, k p List.mem_cons_self _ h, r.mono s⟩, Kids.mono s t fun q hq => k q (List.mem_cons_of_mem _ hq)⟩
  | [], _ :: _, h, _ => h.elim
  | _ :: _, [], h, _ => h.elim
theorem Kids.there {k : Kp} {D H : Hp} : ∀ {ps : List Addr} {dss : List (List Dt)}, Kids k D H ps dss → ∀ q ∈ ps, ∃ vs, H q = some (.lst vs)
  | [], [], _, q, hq => nomatch hq
  | p :: ps, ds :: dss, ⟨⟨vs, h, r⟩, t⟩, q, hq => (List.mem_cons.mp hq).elim (fun e => ⟨vs, e ▸ h⟩) fun z => t.there q z
  | [], _ :: _, h, _, _ => h.elim
  | _ :: _, [], h, _, _ => h.elim
theorem Kids.length {k : Kp} {D H : Hp} : ∀ {ps : List Addr} {dss : List (List Dt)}, Kids k D H ps dss → ps.length = dss.length
  | [], [], _ => rfl
  | p :: ps, ds :: dss, ⟨_, t⟩ => congrArg (· + 1) t.length
  | [], _ :: _, h => h.elim
  | _ :: _, [], h => h.elim
theorem Kids.rpl {k : Kp} {D H : Hp} : ∀ {ps : List Addr} {dss : List (List Dt)}, Kids k D H ps dss → (∀ q ∈ ps, ∀ u, H q = some u → D q = some u) → RpL k D (ps.map V.ref) (dss.map Dt.lst)
  | [], [], _, _ => .nil
  | p :: ps, ds :: dss, ⟨⟨vs, h, r⟩, t⟩, k => .cons (.lst (k p List.mem_cons_self _ h) r) (t.rpl fun q hq => k q (List.mem_cons_of_mem _ hq))
  | [], _ :: _, h, _ => h.elim
  | _ :: _, [], h, _ => h.elim
def OwnAt (C : Ct) (D H : Hp) (p : Addr) : Ow → List Addr → Prop
  | .lst ds, fp => fp = [p] ∧ ∃ vs, H p = some (.lst vs) ∧ RpL C.k D vs ds
  | .dK kvs, fp => fp = [p] ∧ ∃ ks, H p = some (.dK ks) ∧ ks.map (·.1) = kvs.map (·.1) ∧ RpL C.k D (ks.map (·.2)) (kvs.map (·.2))
  | .dT kvs, fp => fp = [p] ∧ ∃ ks, H p = some (.dT ks) ∧ ks.map (·.1) = kvs.map (·.1) ∧ RpL C.k D (ks.map (·.2)) (kvs.map (·.2))
  | .ins c fs, fp => InsAt C.k D H p c fs fp
  | .slf c fs, fp => C.k.sf = some p ∧ InsAt C.k D H p c fs fp
  | .ll dss, fp => ∃ ps, fp = p :: ps ∧ H p = some (.lst (ps.map V.ref)) ∧ Kids C.k D H ps dss
  | .dL kvs, fp => ∃ (ps : List Addr) (ks : List (List Key × V)), fp = p :: ps ∧ H p = some (.dT ks) ∧ ks.map (·.1) = kvs.map (·.1) ∧ ks.map (·.2) = ps.map V.ref ∧ Kids C.k D H ps (kvs.map (·.2))
theorem OwnAt.mono {C : Ct} {D D' H H' : Hp} {p : Addr} : ∀ {o : Ow} {fp : List Addr}, OwnAt C D H p o fp → Sub D D' → (∀ q ∈ fp, ∀ u, H q = some u → H' q = some u) → OwnAt C D' H' p o fp
  | .lst ds, fp, ⟨e, vs, h, r⟩, s, k => ⟨e, vs, k p (by rw [e]; simp) _ h, r.mono s⟩
  | .dK ds, fp, ⟨e, vs, h, q, r⟩, s, k => ⟨e, vs, k p (by rw [e]; simp) _ h, q, r.mono s⟩
  | .dT ds, fp, ⟨e, vs, h, q, r⟩, s, k => ⟨e, vs, k p (by rw [e]; simp) _ h, q, r.mono s⟩
  | .ins c fs, fp, h, s, k => InsAt.mono h s k
  | .slf c fs, fp, ⟨z, h⟩, s, k => ⟨z, h.mono s k⟩
  | .ll dss, fp, ⟨ps, e, h, t⟩, s, k => ⟨ps, e, k p (by rw [e]; simp) _ h, t.mono s fun q hq => k q (by rw [e]; exact List.mem_cons_of_mem _ hq)⟩
  | .dL kvs, fp, ⟨ps, ks, e, h, h1, h2, t⟩, s, k => ⟨ps, ks, e, k p (by rw [e]; simp) _ h, h1, h2, t.mono s fun q hq => k q (by rw [e]; exact List.mem_cons_of_mem _ hq)⟩
theorem OwnAt.there {C : Ct} {D H : Hp} {p : Addr} : ∀ {o : Ow} {fp : List Addr}, OwnAt C D H p o fp → ∀ q ∈ fp, ∃ u, H q = some u
  | .lst ds, fp, ⟨e, vs, h, r⟩ => fun q hq => by rw [e] at hq; rw [List.mem_singleton.mp hq]; exact ⟨_, h⟩
  | .dK ds, fp, ⟨e, vs, h, _, r⟩ => fun q hq => by rw [e] at hq; rw [List.mem_singleton.mp hq]; exact ⟨_, h⟩
  | .dT ds, fp, ⟨e, vs, h, _, r⟩ => fun q hq => by rw [e] at hq; rw [List.mem_singleton.mp hq]; exact ⟨_, h⟩
  | .ins c fs, fp, h => fun q hq => let ⟨u, h, _⟩ := InsAt.there h q hq; ⟨u, h⟩
  | .slf c fs, fp, ⟨_, h⟩ => fun q hq => let ⟨u, h, _⟩ := h.there q hq; ⟨u, h⟩
  | .ll dss, fp, ⟨ps, e, h, t⟩ => fun q hq => by
    rw [e] at hq
    rcases List.mem_cons.mp hq with z | z
    · rw [z]; exact ⟨_, h⟩
    · obtain ⟨vs, h⟩ := t.there q z; exact ⟨_, h⟩
  | .dL kvs, fp, ⟨ps, ks, e, h, h1, h2, t⟩ => fun q hq => by
    rw [e] at hq
    rcases List.mem_cons.mp hq with z | z
    · rw [z]; exact ⟨_, h⟩
    · obtain ⟨vs, h⟩ := t.there q z; exact ⟨_, h⟩
def Ow.dt : Ow → Dt
  | .lst ds => .lst ds
  | .dK kvs => .dic kvs
  | .dT kvs => .dicT kvs
  | .ins c fs => .obj c (fs.map fun x => (x.1, x.2.dt))
  | .slf c fs => .obj c (fs.map fun x => (x.1, x.2.dt))
  | .ll dss => .lst (dss.map .lst)
  | .dL kvs => .dicT (kvs.map fun kv => (kv.1, .lst kv.2))
/-! ### slots -/
inductive Sl where
  | un
  | dat (d : Dt)
  | own (o : Ow)
def SlotOk (C : Ct) (D H : Hp) : Sl → Option V → List Addr → Prop
  | .un, _, fp => fp = []
  | .dat d, x, fp => fp = [] ∧ ∃ v, x = some v ∧ Rp C.k D v d
  | .own o, x, fp => ∃ p, x = some (.ref p) ∧ OwnAt C D H p o fp
def SlotsOk (C : Ct) (D H : Hp) : List Sl → St → List Addr → Prop
  | [], [], fp => fp = []
  | s :: ss, x :: xs, fp => ∃ f1 f2, fp = f1 ++ f2 ∧ SlotOk C D H s x f1 ∧ SlotsOk C D H ss xs f2
  | _, _, _ => False
theorem SlotOk.mono {C : Ct} {D D' H H' : Hp} : ∀ {s : Sl} {x : Option V} {fp : List Addr}, SlotOk C D H s x fp → Sub D D' → (∀ q ∈ fp, ∀ u, H q = some u → H' q = some u) → SlotOk C D' H' s x fp
  | .un, _, _, h, _, _ => h
  | .dat d, _, _, ⟨e, v, h, r⟩, s, _ => ⟨e, v, h, r.mono s⟩
  | .own o, _, _, ⟨p, h, r⟩, s, k => ⟨p, h, r.mono s k⟩
theorem SlotsOk.mono {C : Ct} {D D' H H' : Hp} (s : Sub D D') : ∀ {ss : List Sl} {σ : St} {fp : List Addr}, SlotsOk C D H ss σ fp → (∀ q ∈ fp, ∀ u, H q = some u → H' q = some u) → SlotsOk C D' H' ss σ fp
  | [], [], _, h, _ => h
  | a :: ss, x :: xs, fp, ⟨f1, f2, e, h, r⟩, k => ⟨f1, f2, e, h.mono s fun q hq => k q (by rw [e]; exact List.mem_append_left _ hq), SlotsOk.mono s r fun q hq => k q (by rw [e]; exact List.mem_append_right _ hq)⟩
  | [], _ :: _, _, h, _ => h.elim
  | _ :: _, [], _, h, _ => h.elim
theorem SlotsOk.length {C : Ct} {D H : Hp} : ∀ {ss : List Sl} {σ : St} {fp : List Addr}, SlotsOk C D H ss σ fp → ss.length = σ.length
  | [], [], _, h => rfl
  | _ :: _, _ :: _, _, ⟨_, _, _, _, r⟩ => congrArg (· + 1) r.length
  | [], _ :: _, _, h => h.elim
  | _ :: _, [], _, h => h.elim
theorem SlotsOk.there {C : Ct} {D H : Hp} : ∀ {ss : List Sl} {σ : St} {fp : List Addr}, SlotsOk C D H ss σ fp → ∀ q ∈ fp, ∃ u, H q = some u
  | [], [], _, h => fun q hq => by
    rw [show _ = [] from h] at hq
    cases hq
  | a :: ss, x :: xs, fp, ⟨f1, f2, e, h, r⟩ => fun q hq => by
    rw [e] at hq
    rcases List.mem_append.mp hq with z | z
    · cases a with
      | un => rw [show f1 = [] from h] at z; cases z
      | dat d => rw [h.1] at z; cases z
      | own o => obtain ⟨p, _, q'⟩ := h; exact q'.there q z
    · exact r.there q z
  | [], _ :: _, _, h => h.elim
  | _ :: _, [], _, h => h.elim
/-- a slot that holds data -/
theorem SlotsOk.dat {C : Ct} {D H : Hp} : ∀ {ss : List Sl} {σ : St} {fp : List Addr} {i : Nat} {d : Dt}, SlotsOk C D H ss σ fp → ss[i]? = some (.dat d) → ∃ v, σ[i]? = some (some v) ∧ Rp C.k D v d
  | [], [], _, _, _, _, e => by simp at e
  | a :: ss, x :: xs, fp, 0, d, ⟨f1, f2, _, h, r⟩, e => by
    simp at e
    subst e
    obtain ⟨_, v, e2, q⟩ := h
    exact ⟨v, by simp [e2], q⟩
  | a :: ss, x :: xs, fp, i + 1, d, ⟨f1, f2, _, h, r⟩, e => by
    simp at e
    obtain ⟨v, h1, h2⟩ := r.dat e
    exact ⟨v, by simpa using h1, h2⟩
  | [], _ :: _, _, _, _, h, _ => h.elim
  | _ :: _, [], _, _, _, h, _ => h.elim
/-- a slot stored: what stood there is forgotten -/
theorem SlotsOk.set {C : Ct} {D H : Hp} {s : Sl} {x : Option V} : ∀ {ss : List Sl} {σ : St} {fp fx : List Addr} {i : Nat}, SlotsOk C D H ss σ fp → SlotOk C D H s x fx → i < ss.length → (fx ++ fp).Nodup →
    ∃ fp', SlotsOk C D H (ss.set i s) (σ.set i x) fp' ∧ fp'.Nodup ∧ ∀ q ∈ fp', q ∈ fx ++ fp
  | [], [], _, _, i, _, _, hi, _ => absurd hi (Nat.not_lt_zero _)
  | a :: ss, y :: ys, fp, fx, 0, ⟨f1, f2, e, h, r⟩, hs, _, nd => by
    subst e
    refine ⟨fx ++ f2, ⟨fx, f2, rfl, hs, r⟩, ?_, fun q hq => ?_⟩
    · rw [← List.append_assoc] at nd
      refine nd.sublist ?_
      exact (List.sublist_append_left fx f1).append (List.Sublist.refl f2)
    · rcases List.mem_append.mp hq with z | z
      · exact List.mem_append_left _ z
      · exact List.mem_append_right _ (List.mem_append_right _ z)
  | a :: ss, y :: ys, fp, fx, i + 1, ⟨f1, f2, e, h, r⟩, hs, hi, nd => by
    subst e
    have nd2 : (fx ++ f2).Nodup := nd.sublist ((List.Sublist.refl fx).append (List.sublist_append_right f1 f2))
    obtain ⟨fp', h1, h2, h3⟩ := r.set (i := i) hs (by simpa using hi) nd2
    refine ⟨f1 ++ fp', ⟨f1, fp', rfl, h, h1⟩, ?_, fun q hq => ?_⟩
    · rw [List.nodup_append] at nd ⊢
      obtain ⟨n1, n2, n3⟩ := nd
      rw [List.nodup_append] at n2
      refine ⟨n2.1, h2, fun p hp q hq => ?_⟩
      rcases List.mem_append.mp (h3 q hq) with z | z
      · exact fun e => n3 q z p (List.mem_append_left _ hp) e.symm
      · exact n2.2.2 p hp q z
    · rcases List.mem_append.mp hq with z | z
      · exact List.mem_append_right _ (List.mem_append_left _ z)
      · rcases List.mem_append.mp (h3 q z) with z | z
        · exact List.mem_append_left _ z
        · exact List.mem_append_right _ (List.mem_append_right _ z)
  | [], _ :: _, _, _, _, h, _, _, _ => h.elim
  | _ :: _, [], _, _, _, h, _, _, _ => h.elim
/-! ### states -/
/-- the draws' list stands as w tells -/
structure WdAt (k : Kp) (w : Ds) (D H : Hp) : Prop where
  dr : ∀ p, k.pd = some p → H p = some (.lst [.ref k.sq, .int w.pl, .int w.rem, .int w.seed]) ∧ D p = none ∧ w.ns = k.ns ∧ SqL k.K D k.sq (k.ns.map V.int)
  tb : ∀ p ∈ k.tb, LamX.TabS H p.1 p.2 ∧ D p.1 = none
  tp : ∀ a xs, H a = some (.tup xs) → D a = some (.tup xs)
section
variable {k : Kp} {w : Ds} {D H D' H' : Hp}
theorem WdAt.there (h : WdAt k w D H) {a : Addr} (m : k.mu a) : ∃ u, H a = some u ∧ D a = none := by
  rcases m with m | ⟨q, m⟩
  · obtain ⟨e, d, _⟩ := h.dr a m
    exact ⟨_, e, d⟩
  · obtain ⟨⟨ps, e, _⟩, d⟩ := h.tb _ m
    exact ⟨_, e, d⟩
theorem WdAt.move (h : WdAt k w D H) (s : Sub D D') (up : Sub H H') (n : ∀ p, k.mu p → D' p = none) (t : ∀ a xs, H' a = some (.tup xs) → D' a = some (.tup xs)) : WdAt k w D' H' :=
  ⟨fun p hp => let ⟨h1, _, hn, h3⟩ := h.dr p hp; ⟨up _ _ h1, n p (.inl hp), hn, sqL_sub s h3⟩, fun p hp => ⟨(h.tb p hp).1.ext up, n p.1 (.inr ⟨p.2, hp⟩)⟩, t⟩
theorem tabs_put {P A : Addr} {q : Str} {u o : HO} (h : LamX.TabS H P q) (ha : H A = some u) (hP : A ≠ P) (hu : ∀ c, u ≠ LamX.CodeO c q) : LamX.TabS (upd H A o) P q := by
  obtain ⟨ps, h1, h2, h3⟩ := h
  refine ⟨ps, by rw [upd_ne (Ne.symm hP)]; exact h1, h2, fun pos cv hc => ?_⟩
  obtain ⟨c, e1, e2⟩ := h3 pos cv hc
  refine ⟨c, e1, ?_⟩
  rw [upd_ne fun z => ?_]
  · exact e2
  · rw [z, ha] at e2
    exact hu c (by rw [z]; exact Option.some.inj e2)
/-- an object of the owner's own is written -/
theorem WdAt.put {A : Addr} {u o : HO} (h : WdAt k w D H) (ha : H A = some u) (nm : ¬ k.mu A) (hu : ∀ c q, u ≠ LamX.CodeO c q) (ho : ∀ xs, o ≠ .tup xs := by first | (intro _ h; cases h) | exact fun _ h => HO.noConfusion h) : WdAt k w D (upd H A o) :=
  ⟨fun p hp => by
    obtain ⟨h1, h2, h3⟩ := h.dr p hp
    refine ⟨?_, h2, h3⟩
    rw [upd_ne fun z : p = A => nm (.inl (by rw [← z]; exact hp))]
    exact h1, fun p hp => ⟨tabs_put (h.tb p hp).1 ha (fun z => nm (.inr ⟨p.2, by rw [z]; exact hp⟩)) fun c => hu c p.2, (h.tb p hp).2⟩, fun a xs e => by
    by_cases z : a = A
    · rw [z, upd_same] at e; exact absurd (Option.some.inj e) (ho xs)
    · rw [upd_ne z] at e; exact h.tp a xs e⟩
end
structure Sta (C : Ct) (env : List Sl) (w : Ds) (σ : St) (D H : Hp) (fx : List Addr) : Prop where
  up : Sub D H
  d0 : Sub C.D0 D
  kp : ∀ b o, ¬ C.k.mu b → C.H0 b = some o → H b = some o
  nw : ∀ a, C.D0 a = none → D a ≠ none → C.H0 a = none
  wd : WdAt C.k w D H
  sl : ∃ fp, SlotsOk C D H env σ fp ∧ (fx ++ fp).Nodup ∧ ∀ p ∈ fx ++ fp, D p = none ∧ C.H0 p = none ∧ ¬ C.k.mu p
/-- what may happen: data more, objects more, the draws' list turned -/
structure Ew (C : Ct) (D H D' H' : Hp) (w' : Ds) : Prop where
  sub : Sub D D'
  up : Sub D' H'
  kp : ∀ b o, ¬ C.k.mu b → H b = some o → H' b = some o
  nw : ∀ a, D a = none → D' a ≠ none → H a = none
  wd : WdAt C.k w' D' H'
/-- .. where nothing turned -/
structure Ex (D H D' H' : Hp) : Prop where
  sub : Sub D D'
  up : Sub D' H'
  kp : Sub H H'
  nw : ∀ a, D a = none → D' a ≠ none → H a = none
  tp : ∀ a xs, H' a = some (.tup xs) → H a = some (.tup xs) ∨ D' a = some (.tup xs)
theorem Ex.refl {D H : Hp} (u : Sub D H) : Ex D H D H := ⟨Sub.refl _, u, Sub.refl _, fun _ h n => absurd h n, fun _ _ e => .inl e⟩
theorem none_of {A B : Hp} (s : Sub A B) {a : Addr} (h : B a = none) : A a = none := by
  cases q : A a with
  | none => rfl
  | some o => rw [s a o q] at h; cases h
theorem Ex.trans {D H D1 H1 D2 H2 : Hp} (x : Ex D H D1 H1) (y : Ex D1 H1 D2 H2) : Ex D H D2 H2 :=
  ⟨x.sub.trans y.sub, y.up, x.kp.trans y.kp, fun a h n => by
    cases q : D1 a with
    | none => exact none_of x.kp (y.nw a q n)
    | some o => exact x.nw a h (by rw [q]; simp), fun a xs e => (y.tp a xs e).elim (fun e => (x.tp a xs e).imp id fun e => y.sub _ _ e) .inr⟩
theorem Ex.ew {C : Ct} {D H D' H' : Hp} {w : Ds} (x : Ex D H D' H') (h : WdAt C.k w D H) : Ew C D H D' H' w :=
  have hn : ∀ p, C.k.mu p → D' p = none := fun p m => by
    obtain ⟨u, h1, h2⟩ := h.there m
    cases z : D' p with
    | none => rfl
    | some u =>
      have := x.nw p h2 (by rw [z]; simp)
      rw [h1] at this; cases this
  ⟨x.sub, x.up, fun b o _ e => x.kp b o e, x.nw, fun p hp => let ⟨h1, h2, h4, h3⟩ := h.dr p hp; ⟨x.kp _ _ h1, hn p (.inl hp), h4, sqL_sub x.sub h3⟩, fun p hp => ⟨(h.tb p hp).1.ext x.kp, hn p.1 (.inr ⟨p.2, hp⟩)⟩, fun a xs e => (x.tp a xs e).elim (fun e => x.sub _ _ (h.tp a xs e)) id⟩
theorem Sta.ew {C : Ct} {env : List Sl} {w w' : Ds} {σ : St} {D H D' H' : Hp} {fx : List Addr} (S : Sta C env w σ D H fx) (hx : ∀ q ∈ fx, ∃ u, H q = some u) (x : Ew C D H D' H' w') : Sta C env w' σ D' H' fx := by
  obtain ⟨fp, h1, h2, h3⟩ := S.sl
  have th : ∀ q ∈ fx ++ fp, ∃ u, H q = some u := fun q hq => (List.mem_append.mp hq).elim (hx q) (h1.there q)
  refine ⟨x.up, S.d0.trans x.sub, fun b o hb e => x.kp b o hb (S.kp b o hb e), fun a h n => ?_, x.wd, fp, h1.mono x.sub fun q hq u e => x.kp q u (h3 q (List.mem_append_right _ hq)).2.2 e, h2, fun p hp => ⟨?_, (h3 p hp).2⟩⟩
  · cases q : D a with
    | none =>
      have e := x.nw a q n
      cases z : C.H0 a with
      | none => rfl
      | some u =>
        by_cases hp : C.k.mu a
        · obtain ⟨_, e1, _⟩ := S.wd.there hp
          rw [e] at e1; cases e1
        · rw [S.kp a u hp z] at e; cases e
    | some u => exact S.nw a h (by rw [q]; simp)
  · cases z : D' p with
    | none => rfl
    | some u =>
      have e := x.nw p (h3 p hp).1 (by rw [z]; simp)
      obtain ⟨v, hv⟩ := th p hp
      rw [e] at hv; cases hv
theorem Sta.ex {C : Ct} {env : List Sl} {w : Ds} {σ : St} {D H D' H' : Hp} (S : Sta C env w σ D H []) (x : Ex D H D' H') : Sta C env w σ D' H' [] := S.ew (fun _ h => nomatch h) (x.ew S.wd)
/-- a new object becomes data -/
theorem Ex.new {D H : Hp} {p : Addr} {o : HO} (u : Sub D H) (h : H p = none) : Ex D H (upd D p o) (upd H p o) := by
  have hd : D p = none := none_of u h
  refine ⟨fun a q e => ?_, fun a q e => ?_, fun a q e => ?_, fun a e n => ?_, fun a xs e => ?_⟩
  · rw [upd_ne (ne_of_none e hd)]; exact e
  · by_cases z : a = p
    · subst z; rw [upd_same] at e ⊢; exact e
    · rw [upd_ne z] at e ⊢; exact u a q e
  · rw [upd_ne (ne_of_none e h)]; exact e
  · by_cases z : a = p
    · subst z; exact h
    · rw [upd_ne z, e] at n; exact absurd rfl n
  · by_cases z : a = p
    · subst z; rw [upd_same] at e ⊢; exact .inr e
    · rw [upd_ne z] at e; exact .inl e
/-- a new object that stays out of the data -/
theorem Ex.hid {D H : Hp} {p : Addr} {o : HO} (u : Sub D H) (h : H p = none) (ho : ∀ xs, o ≠ .tup xs := by first | (intro _ h; cases h) | exact fun _ h => HO.noConfusion h) : Ex D H D (upd H p o) := by
  refine ⟨Sub.refl _, fun a q e => ?_, fun a q e => ?_, fun a e n => absurd e n, fun a xs e => ?_⟩
  · rw [upd_ne (ne_of_none (u a q e) h)]; exact u a q e
  · rw [upd_ne (ne_of_none e h)]; exact e
  · by_cases z : a = p
    · rw [z, upd_same] at e; exact absurd (Option.some.inj e) (ho xs)
    · rw [upd_ne z] at e; exact .inl e
end Dn
end
section
/-! Judgements: a piece of text and what it does to data. -/
namespace Dn
open PySem L2
/-! ### contexts -/
structure Bs where
  P : Program
  w : World
  K : PySem.W.Frag
  mg : Str → Option Value
  base : Heap
  cls : Str → Option Addr
  tb : List (Addr × Str)
structure Fc extends Bs where
  N : List Str
  sc : Scope
  lv : Nat
  calm : Bool
  top : Bool
  cd : Option (Addr × Addr)
  qual : Str
  xa : Option (Addr × Addr × Addr) := none
  bc : Str → Bool := fun _ => false
  gd : Bool := false
/-- the context of an except suite that holds the exception at p.1, of the class p.2.1, with the dict p.2.2 -/
def SuiteAt (X : Cx) (p : Addr × Addr × Addr) : Prop := ∃ (X' : Cx) (oe : Obj) (pn : List (Addr × Obj)), X = X'.suite p.1 ((p.1, oe) :: pn) ∧ Zc (.ref p.2.1) (some p.2.2) oe ∧ ∃ vs, oe.data = .fields vs
structure RoomU (k : Nat) (A : Around) : Prop where
  dp : A.depth + 3 * k + 5 < recursionLimit
  un : A.units + 16 * k + 200 < cLine
theorem RoomU.units {k : Nat} {A : Around} (r : RoomU k A) : A.units + 64 < cLine := by have := r.un; omega
theorem roomU_of {k : Nat} {A : Around} (r : Room k A) : RoomU k A := ⟨r.dp, r.un⟩
structure On (F : Fc) (X : Cx) : Prop where
  prog : X.prog = F.P
  w : X.w = F.w
  K : X.K = F.K
  mg : X.mg = F.mg
  base : X.base = F.base
  N : X.N = F.N
  sc : X.env.scope = F.sc
  room : RoomU F.lv X.A
  hd : F.calm = true → X.A.handled = none
  calm : F.calm = true → X.calm = true
  fn : F.top = true → ∀ x, X.fn x = true
  cd : F.top = true → ∀ q, F.cd = some q → X.env.code = .ref q.1 ∧ X.env.qual = F.qual
  stk : F.top = true → X.stack = X.env :: X.outer ∧ X.env.frame = some X.env.locals
  xa : F.top = true → ∀ p, F.xa = some p → SuiteAt X p
  fnb : ∀ x, F.bc x = true → X.fn x = true
  gd : F.gd = true → X.A.guards = some []
theorem On.full {F : Fc} {X : Cx} (O : On F X) (hc : F.calm = true) : Room F.lv X.A := ⟨O.hd hc, O.room.dp, O.room.un⟩
structure Tk (X : Cx) (W : WX) : Prop where
  tk : Takes X W
  ps : PassesOwn (model X.prog X.w) X.A X.env X.xe
abbrev W0 : WX := fun _ _ _ _ => False
structure Kin (F : Fc) (C : Ct) : Prop where
  K : C.k.K = F.K
  cls : C.k.cls = F.cls
  tb : C.k.tb = F.tb
  xa : C.k.xa = F.xa
/-! ### outcomes -/
abbrev Env := List Sl
abbrev GE := Env → Ds → Out Dt
abbrev GT := Env → Ds → Out Bool
abbrev GA := Env → Ds → Out (List Dt)
abbrev GF := Env → Ds → Out Ow
inductive OutS where
  | nx (e : Env) (w : Ds)
  | bk (e : Env) (w : Ds)
  | ct (e : Env) (w : Ds)
  | ret (d : Dt) (w : Ds)
  | rtf (o : Ow) (w : Ds)
  | exc (c : Str) (fs : List (Str × Dt)) (e : Env) (w : Ds)
  | bad
abbrev GS := Env → Ds → OutS
def ExcAt (C : Ct) (D H : Hp) (c : Str) (fs : List (Str × Dt)) (Ca d : Addr) : Prop :=
  C.k.cls c = some Ca ∧ ∃ vs, D d = some (.xd vs) ∧ vs.map (·.1) = fs.map (·.1) ∧ RpL C.k D (vs.map (·.2)) (fs.map (·.2))
def PostX (C : Ct) (env : Env) (σ : St) (W : WX) (c : Str) (fs : List (Str × Dt)) (w : Ds) : Prop :=
  ∀ Ca d D' H', Sta C env w σ D' H' [] → ExcAt C D' H' c fs Ca d → W (.ref Ca) (some d) σ H'
def PostE (C : Ct) (env : Env) (σ : St) (D : Hp) (W : WX) (o : Out Dt) (Q : VK) : Prop := match o with
  | .ok r w => ∀ v D' H', Sta C env w σ D' H' [] → Sub D D' → Rp C.k D' v r → Q v H'
  | .exc c fs w => PostX C env σ W c fs w
  | .bad => False
def PostT (C : Ct) (env : Env) (σ : St) (D : Hp) (W : WX) (o : Out Bool) (Q : Bool → Hp → Prop) : Prop := match o with
  | .ok r w => ∀ D' H', Sta C env w σ D' H' [] → Sub D D' → Q r H'
  | .exc c fs w => PostX C env σ W c fs w
  | .bad => False
def PostA (C : Ct) (env : Env) (σ : St) (D : Hp) (W : WX) (o : Out (List Dt)) (Q : List V → Hp → Prop) : Prop := match o with
  | .ok rs w => ∀ vs D' H', Sta C env w σ D' H' [] → Sub D D' → RpL C.k D' vs rs → Q vs H'
  | .exc c fs w => PostX C env σ W c fs w
  | .bad => False
def PostF (C : Ct) (env : Env) (σ : St) (D : Hp) (W : WX) (o : Out Ow) (Q : VK) : Prop := match o with
  | .ok r w => ∀ p fp D' H', Sta C env w σ D' H' fp → Sub D D' → OwnAt C D' H' p r fp → Q (.ref p) H'
  | .exc c fs w => PostX C env σ W c fs w
  | .bad => False
def PostS (C : Ct) (W : WX) (o : OutS) (Dn : Ends) : Prop := match o with
  | .nx e w => ∀ σ D H, Sta C e w σ D H [] → Dn.nx σ H
  | .bk e w => ∀ σ D H, Sta C e w σ D H [] → Dn.bk σ H
  | .ct e w => ∀ σ D H, Sta C e w σ D H [] → Dn.ct σ H
  | .ret d w => ∀ e σ v D H, Sta C e w σ D H [] → Rp C.k D v d → Dn.rt v H
  | .rtf o w => ∀ e σ p fp D H, Sta C e w σ D H fp → OwnAt C D H p o fp → Dn.rt (.ref p) H
  | .exc c fs e w => ∀ σ, PostX C e σ W c fs w
  | .bad => False
/-! ### judgements -/
def DenE (F : Fc) (W : WX) (t : TE) (g : GE) : Prop := ∀ C env w σ D H Q, Kin F C → Sta C env w σ D H [] → PostE C env σ D W (g env w) Q → t σ H Q
def DenT (F : Fc) (W : WX) (t : TT) (g : GT) : Prop := ∀ C env w σ D H Q, Kin F C → Sta C env w σ D H [] → PostT C env σ D W (g env w) Q → t σ H Q
def DenL (F : Fc) (W : WX) (t : TA) (g : GA) : Prop := ∀ C env w σ D H Q, Kin F C → Sta C env w σ D H [] → PostA C env σ D W (g env w) Q → t σ H Q
def DenF (F : Fc) (W : WX) (t : TE) (g : GF) : Prop := ∀ C env w σ D H Q, Kin F C → Sta C env w σ D H [] → PostF C env σ D W (g env w) Q → t σ H Q
def DenS (F : Fc) (W : WX) (t : TS) (g : GS) : Prop := ∀ C env w σ D H Dn, Kin F C → Sta C env w σ D H [] → PostS C W (g env w) Dn → t Dn σ H
structure DE (F : Fc) (e : Expr) (g : GE) : Prop where
  ex : ∃ t : WX → TE, (∀ X W, On F X → Tk X W → PE X e (t W)) ∧ ∀ W, DenE F W (t W) g
structure DF (F : Fc) (e : Expr) (g : GF) : Prop where
  ex : ∃ t : WX → TE, (∀ X W, On F X → Tk X W → PE X e (t W)) ∧ ∀ W, DenF F W (t W) g
structure DT (F : Fc) (e : Expr) (g : GT) : Prop where
  ex : ∃ t : WX → TT, (∀ X W, On F X → Tk X W → PT X e (t W)) ∧ ∀ W, DenT F W (t W) g
structure DW (F : Fc) (e : Expr) (g : GT) : Prop where
  ex : ∃ t : WX → TT, (∀ X W, On F X → Tk X W → PW X e (t W)) ∧ ∀ W, DenT F W (t W) g
structure DL (F : Fc) (es : List Expr) (g : GA) : Prop where
  ex : ∃ t : WX → TA, (∀ X W, On F X → Tk X W → PA X es (t W)) ∧ ∀ W, DenL F W (t W) g
structure DS (F : Fc) (st : Stmt) (g : GS) : Prop where
  ex : ∃ t : WX → TS, (∀ X W, On F X → Tk X W → PS X st (t W)) ∧ ∀ W, DenS F W (t W) g
structure DB (F : Fc) (st : List Stmt) (g : GS) : Prop where
  ex : ∃ t : WX → TS, (∀ X W, On F X → Tk X W → PSs X st (t W)) ∧ ∀ W, DenS F W (t W) g
/-! ### the pieces of outcomes -/
def gOk (r : Dt) : GE := fun _ w => .ok r w
def gVar (i : Nat) : GE := fun env w => match env[i]? with
  | some (.dat d) => .ok d w
  | _ => .bad
def gBind1 (f : Dt → Option Dt) (ga : GE) : GE := fun env w => (ga env w).bind fun a w1 => match f a with
  | some r => .ok r w1
  | none => .bad
def gBin (f : Dt → Dt → Option Dt) (ga gb : GE) : GE := fun env w => (ga env w).bind fun a w1 => (gb env w1).bind fun b w2 => match f a b with
  | some r => .ok r w2
  | none => .bad
def gNil : GA := fun _ w => .ok [] w
def gCons (ga : GE) (gr : GA) : GA := fun env w => (ga env w).bind fun a w1 => (gr env w1).bind fun r w2 => .ok (a :: r) w2
def gArgs (f : List Dt → Option Dt) (ga : GA) : GE := fun env w => (ga env w).bind fun a w1 => match f a with
  | some r => .ok r w1
  | none => .bad
def gArgsF (f : List Dt → Option Ow) (ga : GA) : GF := fun env w => (ga env w).bind fun a w1 => match f a with
  | some r => .ok r w1
  | none => .bad
/-- a fresh thing handed on as data -/
def gFrz (g : GF) : GE := fun env w => (g env w).bind fun o w1 => .ok o.dt w1
/-! ### the value rules -/
abbrev Pos2 (k : Kp) (r : R2) (f : Dt → Dt → Option Dt) : Prop := ∀ D H x y a b z, Sub D H → Rp k D x a → Rp k D y b → f a b = some z → ∀ Q : VK, (∀ v D' H', Ex D H D' H' → Rp k D' v z → Q v H') → r x y H Q
abbrev PosN (k : Kp) (r : List V → Hp → VK → Prop) (f : List Dt → Option Dt) : Prop := ∀ D H xs as z, Sub D H → RpL k D xs as → f as = some z → ∀ Q : VK, (∀ v D' H', Ex D H D' H' → Rp k D' v z → Q v H') → r xs H Q
/-- .. that makes a new thing -/
abbrev NewN (k : Kp) (r : List V → Hp → VK → Prop) (f : List Dt → Option Ow) : Prop := ∀ D H xs as z, Sub D H → RpL k D xs as → f as = some z → ∀ Q : VK,
  (∀ p D' H' fp, Ex D H D' H' → (∀ C : Ct, C.k = k → OwnAt C D' H' p z fp) → fp.Nodup → (∀ q ∈ fp, H q = none ∧ D' q = none) → Q (.ref p) H') → r xs H Q
section
variable {F : Fc} {C : Ct} {env : Env} {w : Ds} {σ : St} {D H : Hp}
theorem Sta.len (S : Sta C env w σ D H []) : env.length = σ.length := let ⟨_, h, _⟩ := S.sl; h.length
theorem Sta.dat (S : Sta C env w σ D H []) {i : Nat} {d : Dt} (e : env[i]? = some (.dat d)) : ∃ v, σ[i]? = some (some v) ∧ Rp C.k D v d := let ⟨_, h, _⟩ := S.sl; h.dat e
theorem den_var (i : Nat) (W : WX) : DenE F W (tVar i) (gVar i) := by
  intro C env w σ D H Q K S p
  unfold gVar at p
  cases e : env[i]? with
  | none => rw [e] at p; exact p.elim
  | some s =>
    rw [e] at p
    cases s with
    | un => exact p.elim
    | own o => exact p.elim
    | dat d =>
      obtain ⟨v, h, r⟩ := S.dat e
      exact ⟨v, h, p v D H S (Sub.refl _) r⟩
theorem den_bin {W : WX} {ta tb : TE} {ga gb : GE} {r : R2} {f : Dt → Dt → Option Dt} (ha : DenE F W ta ga) (hb : DenE F W tb gb) (hr : ∀ k : Kp, k.K = F.K → k.cls = F.cls → Pos2 k r f) : DenE F W (tOp r ta tb) (gBin f ga gb) := by
  intro C env w σ D H Q K S p
  refine ha C env w σ D H _ K S ?_
  unfold gBin at p
  cases ea : ga env w with
  | bad => rw [ea] at p; exact p.elim
  | exc c fs w1 => rw [ea] at p; exact p
  | ok a w1 =>
    rw [ea] at p
    intro x D1 H1 S1 s1 ra
    refine hb C env w1 σ D1 H1 _ K S1 ?_
    simp only [Out.bind] at p
    cases eb : gb env w1 with
    | bad => rw [eb] at p; exact p.elim
    | exc c fs w2 => rw [eb] at p; exact p
    | ok b w2 =>
      rw [eb] at p
      intro y D2 H2 S2 s2 rb
      simp only [Out.bind] at p
      cases ef : f a b with
      | none => rw [ef] at p; exact p.elim
      | some z =>
        rw [ef] at p
        exact hr C.k K.K K.cls D2 H2 x y a b z S2.up (ra.mono s2) rb ef Q fun v D' H' x' rv => p v D' H' (S2.ex x') (s1.trans (s2.trans x'.sub)) rv
theorem den_nil {W : WX} : DenL F W tNil gNil := fun C env w σ D H Q K S p => p [] D H S (Sub.refl _) .nil
theorem den_cons {W : WX} {ta : TE} {tr : TA} {ga : GE} {gr : GA} (ha : DenE F W ta ga) (hb : DenL F W tr gr) : DenL F W (tCons ta tr) (gCons ga gr) := by
  intro C env w σ D H Q K S p
  refine ha C env w σ D H _ K S ?_
  unfold gCons at p
  cases ea : ga env w with
  | bad => rw [ea] at p; exact p.elim
  | exc c fs w1 => rw [ea] at p; exact p
  | ok a w1 =>
    rw [ea] at p
    intro x D1 H1 S1 s1 ra
    refine hb C env w1 σ D1 H1 _ K S1 ?_
    simp only [Out.bind] at p
    cases eb : gr env w1 with
    | bad => rw [eb] at p; exact p.elim
    | exc c fs w2 => rw [eb] at p; exact p
    | ok b w2 =>
      rw [eb] at p
      intro y D2 H2 S2 s2 rb
      exact p (x :: y) D2 H2 S2 (s1.trans s2) (.cons (ra.mono s2) rb)
theorem den_args {W : WX} {ta : TA} {ga : GA} {r : List V → Hp → VK → Prop} {f : List Dt → Option Dt} (ha : DenL F W ta ga) (hr : ∀ k : Kp, k.K = F.K → k.cls = F.cls → PosN k r f) : DenE F W (fun σ H Q => ta σ H fun xs H1 => r xs H1 Q) (gArgs f ga) := by
  intro C env w σ D H Q K S p
  refine ha C env w σ D H _ K S ?_
  unfold gArgs at p
  cases ea : ga env w with
  | bad => rw [ea] at p; exact p.elim
  | exc c fs w1 => rw [ea] at p; exact p
  | ok a w1 =>
    rw [ea] at p
    intro x D1 H1 S1 s1 ra
    simp only [Out.bind] at p
    cases ef : f a with
    | none => rw [ef] at p; exact p.elim
    | some z =>
      rw [ef] at p
      exact hr C.k K.K K.cls D1 H1 x a z S1.up ra ef Q fun v D' H' x' rv => p v D' H' (S1.ex x') (s1.trans x'.sub) rv
/-- a new footprint beside what is owned -/
theorem Sta.fresh (S : Sta C env w σ D H []) {D' H' : Hp} (x : Ex D H D' H') {fp : List Addr} (nd : fp.Nodup) (hn : ∀ q ∈ fp, H q = none ∧ D' q = none) : Sta C env w σ D' H' fp := by
  have S' := S.ex x
  obtain ⟨fs, h1, h2, h3⟩ := S'.sl
  obtain ⟨fs0, g1, g2, g3⟩ := S.sl
  have hH0 : ∀ q ∈ fp, C.H0 q = none ∧ ¬ C.k.mu q := fun q hq => by
    have e := (hn q hq).1
    refine ⟨?_, fun z => ?_⟩
    · cases z : C.H0 q with
      | none => rfl
      | some u =>
        by_cases hp : C.k.mu q
        · obtain ⟨_, e1, _⟩ := S.wd.there hp
          rw [e] at e1; cases e1
        · rw [S.kp q u hp z] at e; cases e
    · obtain ⟨_, e1, _⟩ := S.wd.there z
      rw [e] at e1; cases e1
  -- the slots' footprint stood before
  have k2 : SlotsOk C D' H' env σ fs0 := g1.mono x.sub fun q _ u e => x.kp q u e
  refine ⟨S'.up, S'.d0, S'.kp, S'.nw, S'.wd, fs0, k2, ?_, fun q hq => ?_⟩
  · rw [List.nodup_append]
    refine ⟨nd, by simpa using g2, fun a ha b hb e => ?_⟩
    obtain ⟨u, hu⟩ := g1.there b hb
    rw [← e, (hn a ha).1] at hu
    cases hu
  · rcases List.mem_append.mp hq with z | z
    · exact ⟨(hn q z).2, hH0 q z⟩
    · have := g3 q (List.mem_append_right _ z)
      refine ⟨?_, this.2⟩
      cases zz : D' q with
      | none => rfl
      | some u =>
        obtain ⟨v, hv⟩ := g1.there q z
        rw [x.nw q this.1 (by rw [zz]; simp)] at hv
        cases hv
theorem den_argsF {W : WX} {ta : TA} {ga : GA} {r : List V → Hp → VK → Prop} {f : List Dt → Option Ow} (ha : DenL F W ta ga) (hr : ∀ k : Kp, k.K = F.K → k.cls = F.cls → NewN k r f) : DenF F W (fun σ H Q => ta σ H fun xs H1 => r xs H1 Q) (gArgsF f ga) := by
  intro C env w σ D H Q K S p
  refine ha C env w σ D H _ K S ?_
  unfold gArgsF at p
  cases ea : ga env w with
  | bad => rw [ea] at p; exact p.elim
  | exc c fs w1 => rw [ea] at p; exact p
  | ok a w1 =>
    rw [ea] at p
    intro x D1 H1 S1 s1 ra
    simp only [Out.bind] at p
    cases ef : f a with
    | none => rw [ef] at p; exact p.elim
    | some z =>
      rw [ef] at p
      exact hr C.k K.K K.cls D1 H1 x a z S1.up ra ef Q fun q D' H' fp x' ow nd hn => p q fp D' H' (S1.fresh x' nd hn) (s1.trans x'.sub) (ow C rfl)
/-- what is owned becomes data -/
theorem Sta.frz {p : Addr} {o : Ow} {fp fx : List Addr} (S : Sta C env w σ D H (fp ++ fx)) (h : OwnAt C D H p o fp) : ∃ D', Sta C env w σ D' H fx ∧ Sub D D' ∧ Rp C.k D' (.ref p) o.dt := by
  obtain ⟨fs, h1, h2, h3⟩ := S.sl
  have th := h.there
  -- the data and the footprint together
  let D' : Hp := fun a => if a ∈ fp then H a else D a
  have eD : ∀ a, a ∈ fp → D' a = H a := fun a z => if_pos z
  have nD : ∀ a, a ∉ fp → D' a = D a := fun a z => if_neg z
  have sub : Sub D D' := fun a u e => by
    by_cases z : a ∈ fp
    · have := (h3 a (by simp [z])).1
      rw [this] at e; cases e
    · rw [nD a z]; exact e
  have up : Sub D' H := fun a u e => by
    by_cases z : a ∈ fp
    · rw [← eD a z]; exact e
    · rw [nD a z] at e; exact S.up a u e
  have nd3 : ∀ q ∈ fx ++ fs, q ∉ fp := fun q hq hp => by
    rw [List.append_assoc, List.nodup_append] at h2
    exact h2.2.2 q hp q hq rfl
  refine ⟨D', ⟨up, S.d0.trans sub, S.kp, fun a e n => ?_, S.wd.move sub (Sub.refl _) (fun q hq => ?_) (fun a xs e => sub _ _ (S.wd.tp a xs e)), fs, h1.mono sub fun _ _ _ e => e, ?_, fun q hq => ?_⟩, sub, ?_⟩
  · by_cases z : a ∈ fp
    · exact (h3 a (by simp [z])).2.1
    · rw [nD a z] at n; exact S.nw a e n
  · obtain ⟨_, e1, e2⟩ := S.wd.there hq
    rw [nD q fun z => (h3 q (by simp [z])).2.2 hq]
    exact e2
  · rw [List.append_assoc, List.nodup_append] at h2
    exact h2.2.1
  · have := h3 q (by
      rcases List.mem_append.mp hq with z | z
      · simp [z]
      · simp [z])
    exact ⟨by rw [nD q (nd3 q hq)]; exact this.1, this.2⟩
  · cases o with
    | dT kvs =>
      obtain ⟨e, vs, hv, q, r⟩ := h
      exact .dicT ((eD p (by rw [e]; simp)).trans hv) q (r.mono sub)
    | lst ds =>
      obtain ⟨e, vs, hv, r⟩ := h
      exact .lst ((eD p (by rw [e]; simp)).trans hv) (r.mono sub)
    | dK kvs =>
      obtain ⟨e, vs, hv, q, r⟩ := h
      exact .dic ((eD p (by rw [e]; simp)).trans hv) q (r.mono sub)
    | ins c fs' => exact (InsAt.mono h sub fun _ _ _ x => x).rp fun q hq u x => (eD q hq).trans x
    | slf c fs' => exact (InsAt.mono h.2 sub fun _ _ _ x => x).rp fun q hq u x => (eD q hq).trans x
    | ll dss =>
      obtain ⟨ps, e, hv, t⟩ := h
      refine .lst ((eD p (by rw [e]; simp)).trans hv) ((t.mono sub fun _ _ _ x => x).rpl fun q hq u x => (eD q (by rw [e]; exact List.mem_cons_of_mem _ hq)).trans x)
    | dL kvs =>
      obtain ⟨ps, ks, e, hv, h4, h5, t⟩ := h
      refine .dicT ((eD p (by rw [e]; simp)).trans hv) (by rw [h4]; simp [List.map_map, Function.comp_def]) ?_
      have := (t.mono sub fun _ _ _ x => x).rpl fun q hq u x => (eD q (by rw [e]; exact List.mem_cons_of_mem _ hq)).trans x
      rw [h5]
      simpa [List.map_map, Function.comp_def] using this
theorem den_frz {W : WX} {t : TE} {g : GF} (h : DenF F W t g) : DenE F W t (gFrz g) := by
  intro C env w σ D H Q K S p
  refine h C env w σ D H Q K S ?_
  unfold gFrz at p
  cases ea : g env w with
  | bad => rw [ea] at p; exact p.elim
  | exc c fs w1 => rw [ea] at p; exact p
  | ok o w1 =>
    rw [ea] at p
    simp only [Out.bind] at p
    intro q fp D1 H1 S1 s1 ow
    have S1' : Sta C env w1 σ D1 H1 (fp ++ []) := by rw [List.append_nil]; exact S1
    obtain ⟨D2, S2, s2, r⟩ := S1'.frz ow
    exact p _ D2 H1 S2 (s1.trans s2) r
end
/-! ### the text's own -/
section
variable {F : Fc}
theorem de_var {x : Str} {pos : PySem.Pos} (i : Nat) (hN : F.N[i]? = some x) (hv : Vis F.sc x) (hd : (x == ("__debug__" : Str)) = false := by decide +kernel) (hcd : (x == ("__classdict__" : Str)) = false := by decide +kernel) : DE F (.Name x pos) (gVar i) :=
  ⟨⟨fun _ => tVar i, fun X W O _ => pe_var (by rw [O.N]; exact hN) (by rw [O.sc]; exact hv) hd hcd, den_var i⟩⟩
theorem de_c {e : Expr} {v : V} {d : Dt} (h : ∀ X, PE X e (tC v)) (r : ∀ k D, Rp k D v d) : DE F e (gOk d) :=
  ⟨⟨fun _ => tC v, fun X _ _ _ => h X, fun W C env w σ D H Q K S p => p v D H S (Sub.refl _) (r _ _)⟩⟩
theorem de_int {i : Int} {j : Nat} {pos : PySem.Pos} : DE F (.Constant (.int i) j pos) (gOk (.int i)) := de_c (fun _ => pe_int) fun _ _ => .int i
theorem de_bl {i : Bool} {j : Nat} {pos : PySem.Pos} : DE F (.Constant (.bool i) j pos) (gOk (.bl i)) := de_c (fun _ => pe_bl) fun _ _ => .bl i
theorem de_non {j : Nat} {pos : PySem.Pos} : DE F (.Constant .none j pos) (gOk .non) := de_c (fun _ => pe_non) fun _ _ => .non
theorem de_str {x : Str} {j : Nat} {pos : PySem.Pos} : DE F (.Constant (.str x) j pos) (gOk (.str x)) := de_c (fun _ => pe_str) fun _ _ => .str x
/-- a global that holds a plain value -/
theorem de_glob {x : Str} {v : V} {u : Value} {d : Dt} {pos : PySem.Pos} (hg : F.sc.names.lookup x = some .globalImplicit) (hm : F.mg x = some u) (r : RelV v u) (rp : ∀ k : Kp, k.K = F.K → k.cls = F.cls → ∀ D, Rp k D v d)
    (hd : (x == ("__debug__" : Str)) = false := by decide +kernel) : DE F (.Name x pos) (gOk d) :=
  ⟨⟨fun _ => tC v, fun X _ O _ => pe_glob (by show X.env.scope.names.lookup x = _; rw [O.sc]; exact hg) (by rw [O.mg]; exact hm) r hd, fun W C env w σ D H Q K S p => p v D H S (Sub.refl _) (rp _ K.K K.cls _)⟩⟩
theorem de_frz {e : Expr} {g : GF} (h : DF F e g) : DE F e (gFrz g) := let ⟨t, a, b⟩ := h.ex; ⟨⟨t, a, fun W => den_frz (b W)⟩⟩
theorem dl_nil : DL F [] gNil := ⟨⟨fun _ => tNil, fun _ _ _ _ => pa_nil, fun _ => den_nil⟩⟩
theorem dl_cons {e : Expr} {es : List Expr} {ga : GE} {gr : GA} (ha : DE F e ga) (hr : DL F es gr) (hs : ∀ env, starEach (e :: es) env = (false, eval e env) :: starEach es env := by intro _; rfl) : DL F (e :: es) (gCons ga gr) := by
  obtain ⟨ta, a1, a2⟩ := ha.ex
  obtain ⟨tr, r1, r2⟩ := hr.ex
  exact ⟨⟨fun W => tCons (ta W) (tr W), fun X W O T => pa_cons (a1 X W O T) (r1 X W O T) (hs _), fun W => den_cons (a2 W) (r2 W)⟩⟩
/-- an operator -/
structure OpK (F : Fc) (op : Operator) (f : Dt → Dt → Option Dt) : Prop where
  ex : ∃ r, (∀ X, On F X → OpR X (binaryOp op) r) ∧ ∀ k : Kp, k.K = F.K → k.cls = F.cls → Pos2 k r f
theorem de_op {a b : Expr} {op : Operator} {pos : PySem.Pos} {f : Dt → Dt → Option Dt} {ga gb : GE} (ho : OpK F op f) (ha : DE F a ga) (hb : DE F b gb) : DE F (.BinOp a op b pos) (gBin f ga gb) := by
  obtain ⟨r, o1, o2⟩ := ho.ex
  obtain ⟨ta, a1, a2⟩ := ha.ex
  obtain ⟨tb, b1, b2⟩ := hb.ex
  exact ⟨⟨fun W => tOp r (ta W) (tb W), fun X W O T => pe_op (o1 X O) (a1 X W O T) (b1 X W O T), fun W => den_bin (a2 W) (b2 W) o2⟩⟩
/-- a comparison -/
structure CmK (F : Fc) (op : CmpOp) (f : Dt → Dt → Option Dt) : Prop where
  ex : ∃ r, (∀ X, On F X → OpR X (compareOp op) r) ∧ ∀ k : Kp, k.K = F.K → k.cls = F.cls → Pos2 k r f
theorem de_cmp {a b : Expr} {op : CmpOp} {pos : PySem.Pos} {f : Dt → Dt → Option Dt} {ga gb : GE} (ho : CmK F op f) (ha : DE F a ga) (hb : DE F b gb) (hm : behindInMarks op b = false := by rfl) : DE F (.Compare a [op] [b] pos) (gBin f ga gb) := by
  obtain ⟨r, o1, o2⟩ := ho.ex
  obtain ⟨ta, a1, a2⟩ := ha.ex
  obtain ⟨tb, b1, b2⟩ := hb.ex
  exact ⟨⟨fun W => tOp r (ta W) (tb W), fun X W O T => pe_cmpR (o1 X O) (a1 X W O T) (b1 X W O T) hm, fun W => den_bin (a2 W) (b2 W) o2⟩⟩
/-- an expression's truth, where it is a bool -/
def gTst (g : GE) : GT := fun env w => (g env w).bind fun a w1 => match a with
  | .bl b => .ok b w1
  | _ => .bad
theorem den_tst {W : WX} {t : TE} {g : GE} (h : DenE F W t g) : DenT F W (tTest t) (gTst g) := by
  intro C env w σ D H Q K S p
  refine h C env w σ D H _ K S ?_
  unfold gTst at p
  cases ea : g env w with
  | bad => rw [ea] at p; exact p.elim
  | exc c fs w1 => rw [ea] at p; exact p
  | ok o w1 =>
    rw [ea] at p
    simp only [Out.bind] at p
    intro v D' H' S' s' r
    cases o with
    | bl b => cases r; exact ⟨b, rfl, p D' H' S' s'⟩
    | _ => exact p.elim
theorem dt_cmp {a b : Expr} {op : CmpOp} {pos : PySem.Pos} {f : Dt → Dt → Option Dt} {ga gb : GE} (ho : CmK F op f) (ha : DE F a ga) (hb : DE F b gb) (hm : behindInMarks op b = false := by rfl) : DT F (.Compare a [op] [b] pos) (gTst (gBin f ga gb)) := by
  obtain ⟨r, o1, o2⟩ := ho.ex
  obtain ⟨ta, a1, a2⟩ := ha.ex
  obtain ⟨tb, b1, b2⟩ := hb.ex
  exact ⟨⟨fun W => tTest (tOp r (ta W) (tb W)), fun X W O T => pt_cmpR (o1 X O) (a1 X W O T) (b1 X W O T) hm, fun W => den_tst (den_bin (a2 W) (b2 W) o2)⟩⟩
/-- a call's or a name's value as a test -/
theorem dt_val {e : Expr} {g : GE} (h : DE F e g) (he : ∀ env whole, isTrue e env whole = (do let v ← whole; standAt e.pos; holding [v] (truthy v)) := by intro _ _; rfl) : DT F e (gTst g) := by
  obtain ⟨t, a1, a2⟩ := h.ex
  exact ⟨⟨fun W => tTest (t W), fun X W O T => pt_val (a1 X W O T) (he _), fun W => den_tst (a2 W)⟩⟩
def gNot (g : GT) : GT := fun env w => (g env w).bind fun b w1 => .ok (!b) w1
def gAnd (g h : GT) : GT := fun env w => (g env w).bind fun b w1 => if b then h env w1 else .ok false w1
def gOr (g h : GT) : GT := fun env w => (g env w).bind fun b w1 => if b then .ok true w1 else h env w1
theorem den_not {W : WX} {t : TT} {g : GT} (h : DenT F W t g) : DenT F W (tNot t) (gNot g) := by
  intro C env w σ D H Q K S p
  refine h C env w σ D H _ K S ?_
  unfold gNot at p
  cases ea : g env w with
  | bad => rw [ea] at p; exact p.elim
  | exc c fs w1 => rw [ea] at p; exact p
  | ok o w1 =>
    rw [ea] at p
    exact fun D' H' S' s' => p D' H' S' s'
theorem den_and {W : WX} {t u : TT} {g h : GT} (hg : DenT F W t g) (hh : DenT F W u h) : DenT F W (tAnd t u) (gAnd g h) := by
  intro C env w σ D H Q K S p
  refine hg C env w σ D H _ K S ?_
  unfold gAnd at p
  cases ea : g env w with
  | bad => rw [ea] at p; exact p.elim
  | exc c fs w1 => rw [ea] at p; exact p
  | ok o w1 =>
    rw [ea] at p
    intro D' H' S' s'
    cases o with
    | false => exact iteF (p D' H' S' s')
    | true =>
      refine iteT (hh C env w1 σ D' H' Q K S' ?_)
      have p' : PostT C env σ D W (h env w1) Q := p
      cases eb : h env w1 with
      | bad => rw [eb] at p'; exact p'.elim
      | exc c fs w2 => rw [eb] at p'; exact p'
      | ok b w2 =>
        rw [eb] at p'
        exact fun D2 H2 S2 s2 => p' D2 H2 S2 (s'.trans s2)
theorem den_or {W : WX} {t u : TT} {g h : GT} (hg : DenT F W t g) (hh : DenT F W u h) : DenT F W (tOr t u) (gOr g h) := by
  intro C env w σ D H Q K S p
  refine hg C env w σ D H _ K S ?_
  unfold gOr at p
  cases ea : g env w with
  | bad => rw [ea] at p; exact p.elim
  | exc c fs w1 => rw [ea] at p; exact p
  | ok o w1 =>
    rw [ea] at p
    intro D' H' S' s'
    cases o with
    | true => exact iteT (p D' H' S' s')
    | false =>
      refine iteF (hh C env w1 σ D' H' Q K S' ?_)
      have p' : PostT C env σ D W (h env w1) Q := p
      cases eb : h env w1 with
      | bad => rw [eb] at p'; exact p'.elim
      | exc c fs w2 => rw [eb] at p'; exact p'
      | ok b w2 =>
        rw [eb] at p'
        exact fun D2 H2 S2 s2 => p' D2 H2 S2 (s'.trans s2)
theorem dt_not {a : Expr} {pos : PySem.Pos} {g : GT} (h : DT F a g) : DT F (.UnaryOp .Not a pos) (gNot g) := let ⟨t, a, b⟩ := h.ex; ⟨⟨fun W => tNot (t W), fun X W O T => pt_not (a X W O T), fun W => den_not (b W)⟩⟩
theorem dw_and1 {a : Expr} {pos : PySem.Pos} {g : GT} (h : DT F a g) : DW F (.BoolOp .And [a] pos) g := let ⟨t, a, b⟩ := h.ex; ⟨⟨t, fun X W O T => pw_and1 (a X W O T), b⟩⟩
theorem dw_or1 {a : Expr} {pos : PySem.Pos} {g : GT} (h : DT F a g) : DW F (.BoolOp .Or [a] pos) g := let ⟨t, a, b⟩ := h.ex; ⟨⟨t, fun X W O T => pw_or1 (a X W O T), b⟩⟩
theorem dw_and {a b : Expr} {rest : List Expr} {pos : PySem.Pos} {g h : GT} (ha : DT F a g) (hb : DW F (.BoolOp .And (b :: rest) pos) h) : DW F (.BoolOp .And (a :: b :: rest) pos) (gAnd g h) := by
  obtain ⟨ta, a1, a2⟩ := ha.ex
  obtain ⟨tb, b1, b2⟩ := hb.ex
  exact ⟨⟨fun W => tAnd (ta W) (tb W), fun X W O T => pw_and (a1 X W O T) (b1 X W O T), fun W => den_and (a2 W) (b2 W)⟩⟩
theorem dw_or {a b : Expr} {rest : List Expr} {pos : PySem.Pos} {g h : GT} (ha : DT F a g) (hb : DW F (.BoolOp .Or (b :: rest) pos) h) : DW F (.BoolOp .Or (a :: b :: rest) pos) (gOr g h) := by
  obtain ⟨ta, a1, a2⟩ := ha.ex
  obtain ⟨tb, b1, b2⟩ := hb.ex
  exact ⟨⟨fun W => tOr (ta W) (tb W), fun X W O T => pw_or (a1 X W O T) (b1 X W O T), fun W => den_or (a2 W) (b2 W)⟩⟩
theorem dt_w {e : Expr} {g : GT} (h : DW F e g) : DT F e g := let ⟨t, a, b⟩ := h.ex; ⟨⟨t, fun X W O T => (a X W O T).pt, b⟩⟩
/-- and, or as values: all but the last are bools -/
def gAndV (g h : GE) : GE := fun env w => (g env w).bind fun a w1 => match a with
  | .bl true => h env w1
  | .bl false => .ok (.bl false) w1
  | _ => .bad
def gOrV (g h : GE) : GE := fun env w => (g env w).bind fun a w1 => match a with
  | .bl true => .ok (.bl true) w1
  | .bl false => h env w1
  | _ => .bad
def gNotV (g : GE) : GE := fun env w => (g env w).bind fun a w1 => match a with
  | .bl b => .ok (.bl (!b)) w1
  | _ => .bad
theorem postE_sub {C : Ct} {env : Env} {σ : St} {D D' : Hp} {W : WX} {o : Out Dt} {Q : VK} (s : Sub D D') (p : PostE C env σ D W o Q) : PostE C env σ D' W o Q := by
  cases o with
  | bad => exact p
  | exc c fs w2 => exact p
  | ok b w2 => exact fun v D2 H2 S2 s2 => p v D2 H2 S2 (s.trans s2)
theorem den_andV {W : WX} {t u : TE} {g h : GE} (hg : DenE F W t g) (hh : DenE F W u h) : DenE F W (tAndV t u) (gAndV g h) := by
  intro C env w σ D H Q K S p
  refine hg C env w σ D H _ K S ?_
  unfold gAndV at p
  cases ea : g env w with
  | bad => rw [ea] at p; exact p.elim
  | exc c fs w1 => rw [ea] at p; exact p
  | ok o w1 =>
    rw [ea] at p
    intro v D' H' S' s' r
    cases o with
    | bl b =>
      cases r
      cases b with
      | true => exact ⟨true, rfl, iteT (hh C env w1 σ D' H' Q K S' (postE_sub s' p))⟩
      | false => exact ⟨false, rfl, iteF (p _ D' H' S' s' (.bl false))⟩
    | _ => exact p.elim
theorem de_one {a : Expr} {op : BoolOp} {pos : PySem.Pos} {g : GE} (h : DE F a g) : DE F (.BoolOp op [a] pos) g := let ⟨t, a, b⟩ := h.ex; ⟨⟨t, fun X W O T => pe_one (a X W O T), b⟩⟩
theorem de_and {a b : Expr} {rest : List Expr} {pos : PySem.Pos} {g h : GE} (ha : DE F a g) (hb : DE F (.BoolOp .And (b :: rest) pos) h) : DE F (.BoolOp .And (a :: b :: rest) pos) (gAndV g h) := by
  obtain ⟨ta, a1, a2⟩ := ha.ex
  obtain ⟨tb, b1, b2⟩ := hb.ex
  exact ⟨⟨fun W => tAndV (ta W) (tb W), fun X W O T => pe_and (a1 X W O T) (b1 X W O T), fun W => den_andV (a2 W) (b2 W)⟩⟩
/-- a if t else b -/
def gIfE (c : GT) (g h : GE) : GE := fun env w => (c env w).bind fun b w1 => if b then g env w1 else h env w1
theorem de_if {c a b : Expr} {pos : PySem.Pos} {gc : GT} {ga gb : GE} (hc : DT F c gc) (ha : DE F a ga) (hb : DE F b gb) : DE F (.IfExp c a b pos) (gIfE gc ga gb) := by
  obtain ⟨tc, c1, c2⟩ := hc.ex
  obtain ⟨ta, a1, a2⟩ := ha.ex
  obtain ⟨tb, b1, b2⟩ := hb.ex
  refine ⟨⟨fun W => tIf (tc W) (ta W) (tb W), fun X W O T => pe_ifExp (c1 X W O T) (a1 X W O T) (b1 X W O T), fun W C env w σ D H Q K S p => ?_⟩⟩
  refine c2 W C env w σ D H _ K S ?_
  unfold gIfE at p
  cases ea : gc env w with
  | bad => rw [ea] at p; exact p.elim
  | exc c fs w1 => rw [ea] at p; exact p
  | ok o w1 =>
    rw [ea] at p
    intro D' H' S' s'
    cases o with
    | true => exact iteT (a2 W C env w1 σ D' H' Q K S' (postE_sub s' p))
    | false => exact iteF (b2 W C env w1 σ D' H' Q K S' (postE_sub s' p))
/-- tuples, lists -/
def gTup (ga : GA) : GE := gArgs (fun ds => if ds.length ≤ sizeLine then some (.tup ds) else none) ga
def gLst (ga : GA) : GF := gArgsF (fun ds => if ds.length ≤ sizeLine then some (.lst ds) else none) ga
theorem pos_tup {k : Kp} : PosN k (fun xs H1 Q => xs.length ≤ sizeLine ∧ ∀ p, H1 p = none → Q (.ref p) (upd H1 p (.tup xs))) (fun ds => if ds.length ≤ sizeLine then some (.tup ds) else none) := by
  intro D H xs as z u r e Q q
  simp only at e
  split at e
  · cases e
    refine ⟨by rw [r.length]; assumption, fun p hp => q _ _ _ (Ex.new u hp) (.tup upd_same (r.mono (Ex.new (o := .tup xs) u hp).sub))⟩
  · cases e
theorem new_lst {k : Kp} : NewN k (fun xs H1 Q => xs.length ≤ sizeLine ∧ ∀ p, H1 p = none → Q (.ref p) (upd H1 p (.lst xs))) (fun ds => if ds.length ≤ sizeLine then some (.lst ds) else none) := by
  intro D H xs as z u r e Q q
  simp only at e
  split at e
  · cases e
    exact ⟨by rw [r.length]; assumption, fun p hp => q _ D _ [p] (Ex.hid u hp) (fun C e => ⟨rfl, xs, upd_same, by rw [e]; exact r⟩) (by simp) fun b hb => by rw [List.mem_singleton.mp hb]; exact ⟨hp, none_of u hp⟩⟩
  · cases e
theorem de_tup {es : List Expr} {x1 : Nat} {pos : PySem.Pos} {ga : GA} (h : DL F es ga) : DE F (.Tuple es x1 pos) (gTup ga) := let ⟨t, a, b⟩ := h.ex; ⟨⟨fun W => tTup (t W), fun X W O T => pe_tup (a X W O T), fun W => den_args (b W) fun _ _ _ => pos_tup⟩⟩
theorem df_lst {es : List Expr} {pos : PySem.Pos} {ga : GA} (h : DL F es ga) : DF F (.List es pos) (gLst ga) := let ⟨t, a, b⟩ := h.ex; ⟨⟨fun W => tLst (t W), fun X W O T => pe_lst (a X W O T), fun W => den_argsF (b W) fun _ _ _ => new_lst⟩⟩
end
end Dn
end
section
/-! Statements, loops, comprehensions, defs. -/
namespace Dn
open PySem L2
/-! ### storing -/
theorem Sta.set {C : Ct} {env : Env} {w : Ds} {σ : St} {D H : Hp} {fx : List Addr} {i : Nat} {s : Sl} {x : Option V} (S : Sta C env w σ D H fx) (h : SlotOk C D H s x fx) (hi : i < env.length) : Sta C (env.set i s) w (σ.set i x) D H [] := by
  obtain ⟨fp, h1, h2, h3⟩ := S.sl
  obtain ⟨fp', g1, g2, g3⟩ := h1.set h hi h2
  exact ⟨S.up, S.d0, S.kp, S.nw, S.wd, fp', g1, g2, fun q hq => h3 q (g3 q hq)⟩
theorem Sta.setD {C : Ct} {env : Env} {w : Ds} {σ : St} {D H : Hp} {i : Nat} {v : V} {d : Dt} (S : Sta C env w σ D H []) (h : Rp C.k D v d) (hi : i < env.length) : Sta C (env.set i (.dat d)) w (σ.set i (some v)) D H [] :=
  S.set (s := .dat d) ⟨rfl, v, rfl, h⟩ hi
theorem wipe_set {i : Nat} {x : Option V} : ∀ {vs : List Nat} {σ : St}, i ∈ vs → wipe (σ.set i x) vs = wipe σ vs
  | [], _, h => by cases h
  | v :: vs, σ, h => by
    have key : ∀ (us : List Nat) (τ : St), wipe (τ.set i x) us = if i ∈ us then wipe τ us else (wipe τ us).set i x := by
      intro us
      induction us with
      | nil => intro τ; rfl
      | cons u us ih =>
        intro τ
        show (wipe (τ.set i x) us).set u none = if i ∈ u :: us then (wipe τ us).set u none else ((wipe τ us).set u none).set i x
        rw [ih τ]
        by_cases h1 : i ∈ us
        · rw [if_pos h1, if_pos (List.mem_cons_of_mem _ h1)]
        · rw [if_neg h1]
          by_cases h2 : i = u
          · subst h2
            rw [if_pos List.mem_cons_self, List.set_set]
          · rw [if_neg (by simp [h1, h2])]
            exact List.set_comm _ _ h2
    rw [key, if_pos h]
/-! ### targets -/
abbrev Bd := Dt → Env → Option Env
def DenG (F : Fc) (g : TG) (b : Bd) (ix : List Nat) : Prop := ∀ C env w σ D H v d env' (Q : St → Hp → Prop), Kin F C → Sta C env w σ D H [] → Rp C.k D v d → b d env = some env' →
  (∀ σ', Sta C env' w σ' D H [] → (∀ vs : List Nat, (∀ i ∈ ix, i ∈ vs) → wipe σ' vs = wipe σ vs) → Q σ' H) → g v σ H Q
structure DG (F : Fc) (tg : Expr) (b : Bd) (ix : List Nat) : Prop where
  ex : ∃ g : TG, (∀ X, On F X → PG X tg g) ∧ DenG F g b ix
def bName (i : Nat) : Bd := fun d env => if i < env.length then some (env.set i (.dat d)) else none
theorem dg_name {F : Fc} {x : Str} {pos : PySem.Pos} (i : Nat) (hN : F.N.Nodup) (hi : F.N[i]? = some x) (hx : Loc F.sc x) (hf : F.top = true ∨ F.sc.names.lookup x = some .local) : DG F (.Name x pos) (bName i) [i] := by
  refine ⟨⟨gName i, fun X O => ?_, fun C env w σ D H v d env' Q K S r e q => ?_⟩⟩
  · refine pg_name (by rw [O.N]; exact hN) (by rw [O.N]; exact hi) (by rw [O.sc]; exact hx) ?_
    rcases hf with z | z
    · exact .inl (O.fn z x)
    · exact .inr (by rw [O.sc]; exact z)
  · unfold bName at e
    split at e
    · rename_i hl
      cases e
      exact q _ (S.setD r hl) fun vs hv => wipe_set (hv i (by simp))
    · cases e
def DenGs (F : Fc) (g : TGs) (b : List Dt → Env → Option Env) (ix : List Nat) : Prop := ∀ C env w σ D H vs ds env' (Q : St → Hp → Prop), Kin F C → Sta C env w σ D H [] → RpL C.k D vs ds → b ds env = some env' →
  (∀ σ', Sta C env' w σ' D H [] → (∀ vs : List Nat, (∀ i ∈ ix, i ∈ vs) → wipe σ' vs = wipe σ vs) → Q σ' H) → g vs σ H Q
structure DGs (F : Fc) (tgs : List Expr) (n : Nat) (b : List Dt → Env → Option Env) (ix : List Nat) : Prop where
  ex : ∃ g : TGs, (∀ X, On F X → PGs X tgs g) ∧ DenGs F g b ix
  ln : ∀ ds env env', b ds env = some env' → ds.length = n
  n : tgs.length = n
def bNil : List Dt → Env → Option Env := fun ds env => match ds with
  | [] => some env
  | _ => none
def bCons (b : Bd) (bs : List Dt → Env → Option Env) : List Dt → Env → Option Env := fun ds env => match ds with
  | d :: r => (b d env).bind (bs r)
  | [] => none
def bTup (bs : List Dt → Env → Option Env) : Bd := fun d env => match d with
  | .tup ds => bs ds env
  | _ => none
theorem dgs_nil {F : Fc} : DGs F [] 0 bNil [] := by
  refine ⟨⟨L2.gNil, fun X _ => pgs_nil, fun C env w σ D H vs ds env' Q K S r e q => ?_⟩, fun ds env env' e => ?_, rfl⟩
  · cases r with
    | nil => cases e; exact ⟨rfl, q σ S fun _ _ => rfl⟩
    | cons h r => cases e
  · cases ds with
    | nil => rfl
    | cons a r => cases e
theorem dgs_cons {F : Fc} {e : Expr} {es : List Expr} {n : Nat} {b : Bd} {bs : List Dt → Env → Option Env} {ix iy : List Nat} (h : DG F e b ix) (hs : DGs F es n bs iy) (h1 : ∀ env, (assignEach (e :: es) env).map (·.2) = assign e env :: (assignEach es env).map (·.2) := by intro _; rfl) : DGs F (e :: es) (n + 1) (bCons b bs) (ix ++ iy) := by
  obtain ⟨g, g1, g2⟩ := h.ex
  obtain ⟨gs, s1, s2⟩ := hs.ex
  refine ⟨⟨L2.gCons g gs, fun X O => pgs_cons (g1 X O) (s1 X O) (h1 _), fun C env w σ D H vs ds env' Q K S r e q => ?_⟩, fun ds env env' e => ?_, by simp [hs.n]⟩
  · cases r with
    | nil => cases e
    | cons h r =>
      rename_i v vs d ds
      have e' : (b d env).bind (bs ds) = some env' := e
      cases eb : b d env with
      | none => rw [eb] at e'; cases e'
      | some env1 =>
        rw [eb] at e'
        refine ⟨v, vs, rfl, g2 C env w σ D H v d env1 _ K S h eb fun σ1 S1 w1 => ?_⟩
        refine s2 C env1 w σ1 D H vs ds env' Q K S1 r e' fun σ2 S2 w2 => q σ2 S2 fun us hu => ?_
        rw [w2 us fun i hi => hu i (List.mem_append_right _ hi), w1 us fun i hi => hu i (List.mem_append_left _ hi)]
  · cases ds with
    | nil => cases e
    | cons a r =>
      have e' : (b a env).bind (bs r) = some env' := e
      cases eb : b a env with
      | none => rw [eb] at e'; cases e'
      | some env1 =>
        rw [eb] at e'
        simp [hs.ln r env1 env' e']
theorem dg_tup {F : Fc} {es : List Expr} {k n : Nat} {pos : PySem.Pos} {bs : List Dt → Env → Option Env} {ix : List Nat} (hc : F.calm = true) (h : DGs F es n bs ix)
    (hn : ∀ env, (assignEach es env).length = n := by intro _; rfl) (hst : ∀ env, (assignEach es env).findIdx? (·.1) = none := by intro _; rfl) : DG F (.Tuple es k pos) (bTup bs) ix := by
  obtain ⟨gs, s1, s2⟩ := h.ex
  refine ⟨⟨L2.gTup F.K n gs, fun X O => ?_, fun C env w σ D H v d env' Q K S r e q => ?_⟩⟩
  · rw [← O.K]; exact pg_tup (O.calm hc) (s1 X O) (hn _) (hst _)
  · cases r with
    | tup hT r =>
      skip
      exact ⟨_, _, rfl, tupS S.up hT, by rw [r.length]; exact h.ln _ _ _ e, s2 C env w σ D H _ _ env' Q K S r e q⟩
    | _ => cases e
/-! ### statements -/
def sSet (i : Nat) (g : GE) : GS := fun env w => match g env w with
  | .ok d w1 => if i < env.length then .nx (env.set i (.dat d)) w1 else .bad
  | .exc c fs w1 => .exc c fs env w1
  | .bad => .bad
def sSetF (i : Nat) (g : GF) : GS := fun env w => match g env w with
  | .ok o w1 => if i < env.length then .nx (env.set i (.own o)) w1 else .bad
  | .exc c fs w1 => .exc c fs env w1
  | .bad => .bad
def sAsg (b : Bd) (g : GE) : GS := fun env w => match g env w with
  | .ok d w1 => match b d env with
    | some env' => .nx env' w1
    | none => .bad
  | .exc c fs w1 => .exc c fs env w1
  | .bad => .bad
def sDrop (g : GE) : GS := fun env w => match g env w with
  | .ok _ w1 => .nx env w1
  | .exc c fs w1 => .exc c fs env w1
  | .bad => .bad
def sRet (g : GE) : GS := fun env w => match g env w with
  | .ok d w1 => .ret d w1
  | .exc c fs w1 => .exc c fs env w1
  | .bad => .bad
def sRetF (g : GF) : GS := fun env w => match g env w with
  | .ok o w1 => .rtf o w1
  | .exc c fs w1 => .exc c fs env w1
  | .bad => .bad
def sSkip : GS := fun env w => .nx env w
def sIf (c : GT) (a b : GS) : GS := fun env w => match c env w with
  | .ok true w1 => a env w1
  | .ok false w1 => b env w1
  | .exc c fs w1 => .exc c fs env w1
  | .bad => .bad
def sSeq (a b : GS) : GS := fun env w => match a env w with
  | .nx e1 w1 => b e1 w1
  | o => o
section
variable {F : Fc}
theorem ds_set {x : Str} {e : Expr} {p' pos : PySem.Pos} {g : GE} (i : Nat) (hN : F.N.Nodup) (hi : F.N[i]? = some x) (hx : Loc F.sc x) (hf : F.top = true ∨ F.sc.names.lookup x = some .local) (h : DE F e g)
    (hs : ∀ env, swapsWith e (some (.Name x p')) pos.line env = pure false := by intro _; rfl) : DS F (.Assign [.Name x p'] e pos) (sSet i g) := by
  obtain ⟨t, a, b⟩ := h.ex
  refine ⟨⟨fun W => tAsg (t W) (gName i), fun X W O T => ?_, fun W C env w σ D H Dn K S p => ?_⟩⟩
  · refine ps_set (by rw [O.N]; exact hN) (by rw [O.N]; exact hi) (by rw [O.sc]; exact hx) (a X W O T) (hs _) ?_
    rcases hf with z | z
    · exact .inl (O.fn z x)
    · exact .inr (by rw [O.sc]; exact z)
  · refine b W C env w σ D H _ K S ?_
    unfold sSet at p
    cases e : g env w with
    | bad => rw [e] at p; exact p
    | exc c fs w1 => rw [e] at p; exact p σ
    | ok d w1 =>
      rw [e] at p
      intro v D' H' S' s' r
      simp only at p
      split at p
      · rename_i hl
        exact p _ D' H' (S'.setD r hl)
      · exact p.elim
theorem ds_setF {x : Str} {e : Expr} {p' pos : PySem.Pos} {g : GF} (i : Nat) (hN : F.N.Nodup) (hi : F.N[i]? = some x) (hx : Loc F.sc x) (hf : F.top = true ∨ F.sc.names.lookup x = some .local) (h : DF F e g)
    (hs : ∀ env, swapsWith e (some (.Name x p')) pos.line env = pure false := by intro _; rfl) : DS F (.Assign [.Name x p'] e pos) (sSetF i g) := by
  obtain ⟨t, a, b⟩ := h.ex
  refine ⟨⟨fun W => tAsg (t W) (gName i), fun X W O T => ?_, fun W C env w σ D H Dn K S p => ?_⟩⟩
  · refine ps_set (by rw [O.N]; exact hN) (by rw [O.N]; exact hi) (by rw [O.sc]; exact hx) (a X W O T) (hs _) ?_
    rcases hf with z | z
    · exact .inl (O.fn z x)
    · exact .inr (by rw [O.sc]; exact z)
  · refine b W C env w σ D H _ K S ?_
    unfold sSetF at p
    cases e : g env w with
    | bad => rw [e] at p; exact p
    | exc c fs w1 => rw [e] at p; exact p σ
    | ok d w1 =>
      rw [e] at p
      intro q fp D' H' S' s' r
      simp only at p
      split at p
      · rename_i hl
        exact p _ D' H' (S'.set (s := .own d) ⟨q, rfl, r⟩ hl)
      · exact p.elim
theorem ds_asg {tg e : Expr} {pos : PySem.Pos} {g : GE} {b : Bd} {ix : List Nat} (h : DE F e g) (hg : DG F tg b ix) (hs : ∀ env, swapsWithSole [tg] e pos.line env = pure false := by intro _; rfl) (hw : ∀ env, swappedStores [tg] e env = pure none := by intro _; rfl) (h1 : ∀ env, (assignEach [tg] env).map (·.2) = [assign tg env] := by intro _; rfl) :
    DS F (.Assign [tg] e pos) (sAsg b g) := by
  obtain ⟨t, a1, a2⟩ := h.ex
  obtain ⟨tg', g1, g2⟩ := hg.ex
  refine ⟨⟨fun W => tAsg (t W) tg', fun X W O T => ps_asg (a1 X W O T) (g1 X O) (hs _) (hw _) (h1 _), fun W C env w σ D H Dn K S p => ?_⟩⟩
  refine a2 W C env w σ D H _ K S ?_
  unfold sAsg at p
  cases e : g env w with
  | bad => rw [e] at p; exact p
  | exc c fs w1 => rw [e] at p; exact p σ
  | ok d w1 =>
    rw [e] at p
    simp only at p
    intro v D' H' S' s' r
    cases eb : b d env with
    | none => rw [eb] at p; exact p.elim
    | some env' =>
      rw [eb] at p
      exact g2 C env w1 σ D' H' v d env' _ K S' r eb fun σ' S2 _ => p σ' D' H' S2
theorem ds_ret {e : Expr} {pos : PySem.Pos} {g : GE} (h : DE F e g) : DS F (.Return (some e) pos) (sRet g) := by
  obtain ⟨t, a1, a2⟩ := h.ex
  refine ⟨⟨fun W => tRet (t W), fun X W O T => ps_ret (a1 X W O T), fun W C env w σ D H Dn K S p => ?_⟩⟩
  refine a2 W C env w σ D H _ K S ?_
  unfold sRet at p
  cases e : g env w with
  | bad => rw [e] at p; exact p
  | exc c fs w1 => rw [e] at p; exact p σ
  | ok d w1 =>
    rw [e] at p
    exact fun v D' H' S' s' r => p env σ v D' H' S' r
theorem ds_retF {e : Expr} {pos : PySem.Pos} {g : GF} (h : DF F e g) : DS F (.Return (some e) pos) (sRetF g) := by
  obtain ⟨t, a1, a2⟩ := h.ex
  refine ⟨⟨fun W => tRet (t W), fun X W O T => ps_ret (a1 X W O T), fun W C env w σ D H Dn K S p => ?_⟩⟩
  refine a2 W C env w σ D H _ K S ?_
  unfold sRetF at p
  cases e : g env w with
  | bad => rw [e] at p; exact p
  | exc c fs w1 => rw [e] at p; exact p σ
  | ok d w1 =>
    rw [e] at p
    exact fun q fp D' H' S' s' r => p env σ q fp D' H' S' r
theorem db_nil : DB F [] sSkip := ⟨⟨fun _ => tNext, fun X W O T => pss_nil, fun W C env w σ D H Dn K S p => p σ D H S⟩⟩
theorem db_one {st : Stmt} {g : GS} (h : DS F st g) : DB F [st] g := let ⟨t, a, b⟩ := h.ex; ⟨⟨t, fun X W O T => pss_one (a X W O T), b⟩⟩
theorem db_cons {st : Stmt} {rest : List Stmt} {g gr : GS} (h : DS F st g) (hr : DB F rest gr) : DB F (st :: rest) (sSeq g gr) := by
  obtain ⟨t, a1, a2⟩ := h.ex
  obtain ⟨u, r1, r2⟩ := hr.ex
  refine ⟨⟨fun W => tSeq (t W) (u W), fun X W O T => pss_cons (a1 X W O T) (r1 X W O T), fun W C env w σ D H Dn K S p => ?_⟩⟩
  refine a2 W C env w σ D H _ K S ?_
  unfold sSeq at p
  cases e : g env w with
  | nx e1 w1 =>
    rw [e] at p
    exact fun σ' D' H' S' => r2 W C e1 w1 σ' D' H' Dn K S' p
  | bk e1 w1 => rw [e] at p; exact p
  | ct e1 w1 => rw [e] at p; exact p
  | ret d w1 => rw [e] at p; exact p
  | rtf d w1 => rw [e] at p; exact p
  | exc c fs e1 w1 => rw [e] at p; exact p
  | bad => rw [e] at p; exact p
theorem ds_if {c : Expr} {a b : List Stmt} {pos : PySem.Pos} {gc : GT} {ga gb : GS} (hc : DT F c gc) (ha : DB F a ga) (hb : DB F b gb) : DS F (.If c a b pos) (sIf gc ga gb) := by
  obtain ⟨tc, c1, c2⟩ := hc.ex
  obtain ⟨ta, a1, a2⟩ := ha.ex
  obtain ⟨tb, b1, b2⟩ := hb.ex
  refine ⟨⟨fun W => tIfS (tc W) (ta W) (tb W), fun X W O T => ps_if (c1 X W O T) (a1 X W O T) (b1 X W O T), fun W C env w σ D H Dn K S p => ?_⟩⟩
  refine c2 W C env w σ D H _ K S ?_
  unfold sIf at p
  cases e : gc env w with
  | bad => rw [e] at p; exact p
  | exc c fs w1 => rw [e] at p; exact p σ
  | ok d w1 =>
    rw [e] at p
    intro D' H' S' s'
    cases d with
    | true => exact iteT (a2 W C env w1 σ D' H' Dn K S' p)
    | false => exact iteF (b2 W C env w1 σ D' H' Dn K S' p)
end
/-! ### walking -/
/-- what comes at turn i: the i-th datum, the heap grown by it at most -/
def Yd (k : Kp) (D : Hp) (items : List Dt) : Nat → Hp → V → Hp → Prop := fun i H x H' => ∃ d, items[i]? = some d ∧ ∀ D1, Sub D D1 → Sub D1 H → (∀ a xs, H a = some (.tup xs) → D1 a = some (.tup xs)) → ∃ D2, Ex D1 H D2 H' ∧ Rp k D2 x d
def PostI (C : Ct) (env : Env) (σ : St) (D : Hp) (W : WX) (o : Out (List Dt)) (R : It → Hp → Prop) : Prop := match o with
  | .ok items w => ∀ J D' H', Sta C env w σ D' H' [] → Sub D D' → Walk J items.length (fun H => Sub D' H) (Yd C.k D' items) → R J H'
  | .exc c fs w => PostX C env σ W c fs w
  | .bad => False
def DenI (F : Fc) (W : WX) (t : TI) (g : GA) : Prop := ∀ C env w σ D H R, Kin F C → Sta C env w σ D H [] → PostI C env σ D W (g env w) R → t σ H R
structure DI (F : Fc) (tg e : Expr) (g : GA) : Prop where
  ex : ∃ t : WX → TI, (∀ X W, On F X → Tk X W → PI X tg e (t W)) ∧ ∀ W, DenI F W (t W) g
def forG (b : Bd) (body : GS) : List Dt → GS
  | [], env, w => .nx env w
  | x :: xs, env, w => match b x env with
    | none => .bad
    | some e1 => match body e1 w with
      | .nx e2 w2 => forG b body xs e2 w2
      | .ct e2 w2 => forG b body xs e2 w2
      | .bk e2 w2 => .nx e2 w2
      | .ret d w2 => .ret d w2
      | .rtf o w2 => .rtf o w2
      | .exc c fs e2 w2 => .exc c fs e2 w2
      | .bad => .bad
def sFor (gi : GA) (b : Bd) (body : GS) : GS := fun env w => match gi env w with
  | .ok items w1 => forG b body items env w1
  | .exc c fs w1 => .exc c fs env w1
  | .bad => .bad
theorem OwnAt.ct {C C' : Ct} {D H : Hp} {p : Addr} (hk : C.k = C'.k) : ∀ {o : Ow} {fp : List Addr}, OwnAt C D H p o fp → OwnAt C' D H p o fp
  | .lst _, _, ⟨e, vs, h, r⟩ => ⟨e, vs, h, hk ▸ r⟩
  | .dK _, _, ⟨e, vs, h, q, r⟩ => ⟨e, vs, h, q, hk ▸ r⟩
  | .dT _, _, ⟨e, vs, h, q, r⟩ => ⟨e, vs, h, q, hk ▸ r⟩
  | .ins _ _, _, h => by unfold OwnAt at h ⊢; rw [← hk]; exact h
  | .slf _ _, _, h => by unfold OwnAt at h ⊢; rw [← hk]; exact h
  | .ll _, _, ⟨ps, e, h, t⟩ => ⟨ps, e, h, hk ▸ t⟩
  | .dL _, _, ⟨ps, ks, e, h, h1, h2, t⟩ => ⟨ps, ks, e, h, h1, h2, hk ▸ t⟩
theorem SlotsOk.ct {C C' : Ct} {D H : Hp} (hk : C.k = C'.k) : ∀ {ss : List Sl} {σ : St} {fp : List Addr}, SlotsOk C D H ss σ fp → SlotsOk C' D H ss σ fp
  | [], [], _, h => h
  | .un :: ss, x :: xs, fp, ⟨f1, f2, e, h, r⟩ => ⟨f1, f2, e, h, r.ct hk⟩
  | .dat d :: ss, x :: xs, fp, ⟨f1, f2, e, ⟨h, v, h', r'⟩, r⟩ => ⟨f1, f2, e, ⟨h, v, h', hk ▸ r'⟩, r.ct hk⟩
  | .own o :: ss, x :: xs, fp, ⟨f1, f2, e, ⟨p, h, r'⟩, r⟩ => ⟨f1, f2, e, ⟨p, h, r'.ct hk⟩, r.ct hk⟩
  | [], _ :: _, _, h => h.elim
  | _ :: _, [], _, h => h.elim
/-- from here on, what is data now stays so -/
theorem Sta.here {C : Ct} {env : Env} {w : Ds} {σ : St} {D H : Hp} {fx : List Addr} (S : Sta C env w σ D H fx) : Sta ⟨C.k, C.H0, D⟩ env w σ D H fx := by
  obtain ⟨fp, h1, h2, h3⟩ := S.sl
  refine ⟨S.up, Sub.refl _, S.kp, fun a e n => absurd e n, S.wd, fp, ?_, h2, h3⟩
  · exact SlotsOk.ct (C := C) (C' := ⟨C.k, C.H0, D⟩) rfl h1
/-- back from a later point's data -/
theorem Sta.back {C : Ct} {env0 : Env} {w0 : Ds} {σ0 : St} {D0 H0 : Hp} {fx0 : List Addr} (S0 : Sta C env0 w0 σ0 D0 H0 fx0) {env : Env} {w : Ds} {σ : St} {D H : Hp} {fx : List Addr} (S : Sta ⟨C.k, C.H0, D0⟩ env w σ D H fx) : Sta C env w σ D H fx := by
  obtain ⟨fp, h1, h2, h3⟩ := S.sl
  refine ⟨S.up, S0.d0.trans S.d0, S.kp, fun a e n => ?_, S.wd, fp, SlotsOk.ct (C := ⟨C.k, C.H0, D0⟩) (C' := C) rfl h1, h2, h3⟩
  cases z : D0 a with
  | none => exact S.nw a z n
  | some u => exact S0.nw a e (by rw [z]; simp)
end Dn
end
section
/-! Loops, comprehensions, defs and their calls. -/
namespace Dn
open PySem L2
section
variable {F : Fc}
theorem postS_back {C : Ct} {env0 : Env} {w0 : Ds} {σ0 : St} {D0 H0 : Hp} {fx0 : List Addr} (S0 : Sta C env0 w0 σ0 D0 H0 fx0) {W : WX} {o : OutS} {Dn : Ends} (h : PostS C W o Dn) : PostS ⟨C.k, C.H0, D0⟩ W o Dn := by
  cases o with
  | nx e w => exact fun σ D H S => h σ D H (S0.back S)
  | bk e w => exact fun σ D H S => h σ D H (S0.back S)
  | ct e w => exact fun σ D H S => h σ D H (S0.back S)
  | ret d w => exact fun e σ v D H S r => h e σ v D H (S0.back S) r
  | rtf o w => exact fun e σ p fp D H S r => h e σ p fp D H (S0.back S) (r.ct rfl)
  | exc c fs e w => exact fun σ Ca d D' H' S x => h σ Ca d D' H' (S0.back S) x
  | bad => exact h
theorem kin_here {C : Ct} (K : Kin F C) (H0 D0 : Hp) : Kin F ⟨C.k, H0, D0⟩ := ⟨K.K, K.cls, K.tb, K.xa⟩
theorem den_for {W : WX} {wi : TI} {g : TG} {tb : TS} {gi : GA} {b : Bd} {ix : List Nat} {body : GS} (hi : DenI F W wi gi) (hg : DenG F g b ix) (hb : DenS F W tb body) : DenS F W (tFor wi g tb) (sFor gi b body) := by
  intro C env w σ D H Dn K S p
  refine hi C env w σ D H _ K S ?_
  unfold sFor at p
  cases e : gi env w with
  | bad => rw [e] at p; exact p
  | exc c fs w1 => rw [e] at p; exact p σ
  | ok items w1 =>
    rw [e] at p
    intro J D1 H1 S1 s1 wk
    have p1 : PostS ⟨C.k, C.H0, D1⟩ W (forG b body items env w1) Dn := postS_back S1 p
    have S1' := S1.here
    refine for_it wk (fun i σ H => ∃ env w D, Sta ⟨C.k, C.H0, D1⟩ env w σ D H [] ∧ PostS ⟨C.k, C.H0, D1⟩ W (forG b body (items.drop i) env w) Dn) ⟨env, w1, D1, S1', by simpa using p1⟩ ?_ ?_ ?_
    · rintro i σ' H' _ ⟨env', w', D', S', _⟩
      exact S'.d0.trans S'.up
    · rintro i x σ' H' H'' hi ⟨env', w', D', S', p'⟩ y
      obtain ⟨d, hd, hy⟩ := y
      obtain ⟨D2, ex, r⟩ := hy D' S'.d0 S'.up S'.wd.tp
      have S2 := S'.ex ex
      have hdr : items.drop i = d :: items.drop (i + 1) := by
        obtain ⟨hl, e⟩ := List.getElem?_eq_some_iff.mp hd
        rw [List.drop_eq_getElem_cons hl, e]
      rw [hdr] at p'
      unfold forG at p'
      cases eb : b d env' with
      | none => rw [eb] at p'; exact p'.elim
      | some env2 =>
        rw [eb] at p'
        simp only at p'
        refine hg ⟨C.k, C.H0, D1⟩ env' w' σ' D2 H'' x d env2 _ (kin_here K _ _) S2 r eb fun σ3 S3 _ => ?_
        refine hb ⟨C.k, C.H0, D1⟩ env2 w' σ3 D2 H'' _ (kin_here K _ _) S3 ?_
        cases eo : body env2 w' with
        | nx e2 w2 => rw [eo] at p'; exact fun σ4 D4 H4 S4 => ⟨e2, w2, D4, S4, p'⟩
        | ct e2 w2 => rw [eo] at p'; exact fun σ4 D4 H4 S4 => ⟨e2, w2, D4, S4, p'⟩
        | bk e2 w2 => rw [eo] at p'; exact fun σ4 D4 H4 S4 => p' σ4 D4 H4 S4
        | ret d w2 => rw [eo] at p'; exact p'
        | rtf o w2 => rw [eo] at p'; exact p'
        | exc c fs e2 w2 => rw [eo] at p'; exact p'
        | bad => rw [eo] at p'; exact p'.elim
    · rintro σ' H' ⟨env', w', D', S', p'⟩
      rw [List.drop_length] at p'
      exact p' σ' D' H' S'
theorem ds_for {tg iter : Expr} {body : List Stmt} {pos : PySem.Pos} {gi : GA} {b : Bd} {ix : List Nat} {gb : GS} (hc : F.calm = true) (hi : DI F tg iter gi) (hg : DG F tg b ix) (hb : DB F body gb)
    (hs : ∀ env x, foldedSetIterable iter env x = pure x := by intro _ _; rfl) : DS F (.For tg iter body [] pos) (sFor gi b gb) := by
  obtain ⟨ti, i1, i2⟩ := hi.ex
  obtain ⟨g, g1, g2⟩ := hg.ex
  obtain ⟨tb, b1, b2⟩ := hb.ex
  exact ⟨⟨fun W => tFor (ti W) g (tb W), fun X W O T => ps_for T.ps (O.calm hc) (i1 X W O T) (g1 X O) (b1 X W O T) (hs _), fun W => den_for (i2 W) g2 (b2 W)⟩⟩
/-! ### while -/
def whileG (c : GT) (body : GS) : Nat → GS
  | 0, _, _ => .bad
  | n + 1, env, w => match c env w with
    | .ok true w1 => match body env w1 with
      | .nx e2 w2 => whileG c body n e2 w2
      | .ct e2 w2 => whileG c body n e2 w2
      | .bk e2 w2 => .nx e2 w2
      | .ret d w2 => .ret d w2
      | .rtf o w2 => .rtf o w2
      | .exc c fs e2 w2 => .exc c fs e2 w2
      | .bad => .bad
    | .ok false w1 => .nx env w1
    | .exc c fs w1 => .exc c fs env w1
    | .bad => .bad
def turnsMost : Nat := 100000
def sWhile (c : GT) (body : GS) : GS := fun env w => whileG c body turnsMost env w
/-! ### comprehensions -/
/-- what a comprehension's block sees: no owned things, its own names forgotten -/
def hideO : Env → Env
  | [] => []
  | .own _ :: r => .un :: hideO r
  | s :: r => s :: hideO r
def wipeE (env : Env) : List Nat → Env
  | [] => env
  | v :: vs => (wipeE env vs).set v .un
def hide (vs : List Nat) (env : Env) : Env := wipeE (hideO env) vs
def lcG (b : Bd) (gt : GT) (ge : GE) (he : Env) : List Dt → List Dt → Ds → Out (List Dt)
  | [], acc, w => .ok acc w
  | x :: xs, acc, w => match b x he with
    | none => .bad
    | some e1 => match gt e1 w with
      | .ok true w1 => match ge e1 w1 with
        | .ok d w2 => if acc.length < sizeLine then lcG b gt ge he xs (acc ++ [d]) w2 else .bad
        | _ => .bad
      | .ok false w1 => lcG b gt ge he xs acc w1
      | _ => .bad
def gLc (vs : List Nat) (gi : GA) (b : Bd) (gt : GT) (ge : GE) : GF := fun env w => (gi env w).bind fun items w1 => match lcG b gt ge (hide vs env) items [] w1 with
  | .ok acc w2 => .ok (.lst acc) w2
  | _ => .bad
theorem slots_hideO {C : Ct} {D H : Hp} : ∀ {ss : Env} {σ : St} {fp : List Addr}, SlotsOk C D H ss σ fp → SlotsOk C D H (hideO ss) σ []
  | [], [], _, h => rfl
  | .un :: ss, x :: xs, fp, ⟨f1, f2, e, h, r⟩ => ⟨[], [], rfl, rfl, slots_hideO r⟩
  | .dat d :: ss, x :: xs, fp, ⟨f1, f2, e, h, r⟩ => ⟨[], [], rfl, ⟨rfl, h.2⟩, slots_hideO r⟩
  | .own o :: ss, x :: xs, fp, ⟨f1, f2, e, h, r⟩ => ⟨[], [], rfl, rfl, slots_hideO r⟩
  | [], _ :: _, _, h => h.elim
  | _ :: _, [], _, h => h.elim
theorem slots_setU {C : Ct} {D H : Hp} : ∀ {ss : Env} {σ : St} (i : Nat), SlotsOk C D H ss σ [] → SlotsOk C D H (ss.set i .un) (σ.set i none) []
  | [], [], i, h => rfl
  | a :: ss, x :: xs, 0, ⟨f1, f2, e, h, r⟩ => by
    obtain ⟨rfl, rfl⟩ := List.append_eq_nil_iff.mp e.symm
    exact ⟨[], [], rfl, rfl, r⟩
  | a :: ss, x :: xs, i + 1, ⟨f1, f2, e, h, r⟩ => by
    obtain ⟨rfl, rfl⟩ := List.append_eq_nil_iff.mp e.symm
    exact ⟨[], [], rfl, h, slots_setU i r⟩
  | [], _ :: _, _, h => h.elim
  | _ :: _, [], _, h => h.elim
theorem slots_wipe {C : Ct} {D H : Hp} {ss : Env} {σ : St} (h : SlotsOk C D H ss σ []) : ∀ vs : List Nat, SlotsOk C D H (wipeE ss vs) (wipe σ vs) []
  | [] => h
  | v :: vs => slots_setU v (slots_wipe h vs)
theorem wipe_at : ∀ (us : List Nat) (τ : St) (i : Nat), i ∈ us → i < τ.length → (wipe τ us)[i]? = some none
  | [], _, _, h, _ => by cases h
  | u :: us, τ, i, h, hl => by
    show ((wipe τ us).set u none)[i]? = some none
    by_cases e : u = i
    · subst e
      rw [List.getElem?_set_self (by rw [wipe_length]; exact hl)]
    · rw [List.getElem?_set_ne e]
      refine wipe_at us τ i ?_ hl
      rcases List.mem_cons.mp h with z | z
      · exact absurd z.symm e
      · exact z
theorem wipe_id : ∀ (us : List Nat) (τ : St), (∀ i ∈ us, i < τ.length → τ[i]? = some none) → wipe τ us = τ
  | [], _, _ => rfl
  | u :: us, τ, h => by
    show (wipe τ us).set u none = τ
    rw [wipe_id us τ fun i hi => h i (List.mem_cons_of_mem _ hi)]
    apply List.ext_getElem?
    intro j
    by_cases e : u = j
    · subst e
      by_cases hl : u < τ.length
      · rw [List.getElem?_set_self hl, h u List.mem_cons_self hl]
      · rw [List.getElem?_eq_none (by simpa using hl), List.getElem?_eq_none (by simpa using hl)]
    · rw [List.getElem?_set_ne e]
theorem wipe_wipe (vs : List Nat) (σ : St) : wipe (wipe σ vs) vs = wipe σ vs := wipe_id vs _ fun i hi hl => wipe_at vs σ i hi (by rw [wipe_length] at hl; exact hl)
/-- the comprehension's block of a context -/
def Fc.blk (F : Fc) (scope : Scope) : Fc := { F with sc := relS scope F.sc, top := false, bc := (fun x => scope.names.lookup x == some .cell), gd := false }
theorem On.blk {X : Cx} {scope : Scope} (O : On F X) (s : Shared) (H : Hp) (Ca : Addr) (cl : List (Str × Addr)) (fp : List Addr) : On (F.blk scope) (X.blk s H scope (compEnvC scope cl Ca X.env) fp) where
  prog := O.prog
  w := O.w
  K := O.K
  mg := O.mg
  base := O.base
  gd := fun h => Bool.noConfusion h
  N := O.N
  sc := by
    show relabel scope X.env = relS scope F.sc
    rw [← O.sc] <;> rfl
  room := O.room
  hd := O.hd
  calm := O.calm
  fn := fun h => Bool.noConfusion h
  cd := fun h => Bool.noConfusion h
  stk := fun h => Bool.noConfusion h
  xa := fun h => Bool.noConfusion h
  fnb := fun _ h => h
theorem tk_blk {X : Cx} {s : Shared} {H : Hp} {scope : Scope} {e : PySem.Env} {fp : List Addr} : Tk (X.blk s H scope e fp) W0 := ⟨takes0, PassesOwn.never⟩
/-- tests of a comprehension -/
structure DTs (F : Fc) (es : List Expr) (g : GT) : Prop where
  ex : ∃ t : WX → TT, (∀ X W, On F X → Tk X W → PTs X es (t W)) ∧ ∀ W, DenT F W (t W) g
def gYes : GT := fun _ w => .ok true w
theorem dts_nil : DTs F [] gYes := ⟨⟨fun _ => tYes, fun X W O T => pts_nil, fun W C env w σ D H Q K S p => p D H S (Sub.refl _)⟩⟩
theorem dts_one {c : Expr} {g : GT} (h : DT F c g) : DTs F [c] g := let ⟨t, a, b⟩ := h.ex; ⟨⟨t, fun X W O T => pts_one (a X W O T), b⟩⟩
theorem den_lc {W : WX} {wi : TI} {g : TG} {tt : TT} {te : TE} {gi : GA} {b : Bd} {gt : GT} {ge : GE} {ix vs : List Nat} {F' : Fc} (hF : F'.K = F.K ∧ F'.cls = F.cls ∧ F'.tb = F.tb ∧ F'.xa = F.xa) (hi : DenI F W wi gi) (hg : DenG F' g b ix) (ht : DenT F' W0 tt gt) (he : DenE F' W0 te ge) (hix : ∀ i ∈ ix, i ∈ vs) : DenF F W (tLc wi g tt te vs) (gLc vs gi b gt ge) := by
  intro C env w σ D H Q K S p
  refine hi C env w σ D H _ K S ?_
  unfold gLc at p
  cases e : gi env w with
  | bad => rw [e] at p; exact p
  | exc c fs w1 => rw [e] at p; exact p
  | ok items w1 =>
    rw [e] at p
    simp only [Out.bind] at p
    intro J D1 H1 S1 s1 wk A hA
    have hDA : D1 A = none := none_of S1.up hA
    have hpdA : ¬ C.k.mu A := fun z => by
      obtain ⟨_, e1, _⟩ := S1.wd.there z
      rw [hA] at e1; cases e1
    -- the slots of the block
    obtain ⟨fp0, sl0, nd0, fr0⟩ := S1.sl
    have slH : SlotsOk C D1 H1 (hide vs env) (wipe σ vs) [] := slots_wipe (slots_hideO sl0) vs
    let Pv : Nat → Hp → Prop := fun i H' => ∃ D' w' acc accV, Ew C D1 H1 D' H' w' ∧ H' A = some (.lst accV) ∧ D' A = none ∧ RpL C.k D' accV acc ∧
      PostF C env σ D W (match lcG b gt ge (hide vs env) (items.drop i) acc w' with | .ok acc w2 => .ok (.lst acc) w2 | _ => .bad) Q
    refine lc_it wk Pv ?_ ?_ ?_ ?_
    · refine ⟨D1, w1, [], [], ((Ex.hid S1.up hA).ew S1.wd), upd_same, hDA, .nil, by simpa using p⟩
    · rintro i H' _ ⟨D', w', acc, accV, x, _⟩
      exact x.sub.trans x.up
    · rintro i x H' H'' hi ⟨D', w', acc, accV, ew, hAl, hDn, ra, p'⟩ y
      obtain ⟨d, hd, hy⟩ := y
      obtain ⟨D2, ex, r⟩ := hy D' ew.sub ew.up ew.wd.tp
      have hdr : items.drop i = d :: items.drop (i + 1) := by
        obtain ⟨hl, e⟩ := List.getElem?_eq_some_iff.mp hd
        rw [List.drop_eq_getElem_cons hl, e]
      rw [hdr] at p'
      unfold lcG at p'
      -- the block's state at this turn
      have wd2 : WdAt C.k w' D2 H'' := (ex.ew ew.wd).wd
      have S2 : Sta ⟨C.k, H'', D2⟩ (hide vs env) w' (wipe σ vs) D2 H'' [] := by
        refine ⟨ex.up, Sub.refl _, fun _ _ _ e => e, fun a e n => absurd e n, wd2, [], ?_, List.nodup_nil, fun q hq => (by cases hq)⟩
        exact SlotsOk.ct (C := C) (C' := ⟨C.k, H'', D2⟩) rfl (slH.mono (ew.sub.trans ex.sub) fun q hq => (by cases hq))
      have hA2 : H'' A = some (.lst accV) := ex.kp _ _ hAl
      have hDA2 : D2 A = none := by
        cases z : D2 A with
        | none => rfl
        | some u =>
          rw [ex.nw A hDn (by rw [z]; simp)] at hAl
          cases hAl
      -- what an evaluation from here leaves
      have keep : ∀ {env3 : Env} {w3 : Ds} {σ3 : St} {D3 H3 : Hp}, Sta ⟨C.k, H'', D2⟩ env3 w3 σ3 D3 H3 [] → Ew C D1 H1 D3 H3 w3 ∧ H3 A = some (.lst accV) ∧ D3 A = none ∧ RpL C.k D3 accV acc := by
        intro env3 w3 σ3 D3 H3 S3
        refine ⟨⟨ew.sub.trans (ex.sub.trans S3.d0), S3.up, fun b o hb e => S3.kp b o hb (ex.kp b o (ew.kp b o hb e)), fun a e n => ?_, S3.wd⟩, S3.kp A _ hpdA hA2, ?_, ra.mono (ex.sub.trans S3.d0)⟩
        · cases z : D2 a with
          | none =>
            have q : H'' a = none := S3.nw a z n
            cases zz : H1 a with
            | none => rfl
            | some u =>
              by_cases hp : C.k.mu a
              · obtain ⟨_, e1, _⟩ := wd2.there hp
                rw [q] at e1; cases e1
              · have := ex.kp a u (ew.kp a u hp zz)
                rw [q] at this; cases this
          | some u =>
            cases zz : D' a with
            | none =>
              have q : H' a = none := ex.nw a zz (by rw [z]; simp)
              cases zzz : H1 a with
              | none => rfl
              | some u =>
                by_cases hp : C.k.mu a
                · obtain ⟨_, e1, _⟩ := ew.wd.there hp
                  rw [q] at e1; cases e1
                · have := ew.kp a u hp zzz
                  rw [q] at this; cases this
            | some u' => exact ew.nw a e (by rw [zz]; simp)
        · cases z : D3 A with
          | none => rfl
          | some u =>
            have q : H'' A = none := S3.nw A hDA2 (by rw [z]; simp)
            rw [q] at hA2; cases hA2
      cases eb : b d (hide vs env) with
      | none => rw [eb] at p'; exact p'.elim
      | some e2 =>
        rw [eb] at p'
        simp only at p'
        have K' : Kin F' ⟨C.k, H'', D2⟩ := ⟨K.K.trans hF.1.symm, K.cls.trans hF.2.1.symm, K.tb.trans hF.2.2.1.symm, K.xa.trans hF.2.2.2.symm⟩
        refine hg ⟨C.k, H'', D2⟩ (hide vs env) w' (wipe σ vs) D2 H'' x d e2 _ K' S2 r eb fun σ3 S3 hw => ⟨(hw vs hix).trans (wipe_wipe vs σ), ?_⟩
        refine ht ⟨C.k, H'', D2⟩ e2 w' σ3 D2 H'' _ K' S3 ?_
        cases et : gt e2 w' with
        | bad => rw [et] at p'; exact p'.elim
        | exc c fs w1 => rw [et] at p'; exact p'.elim
        | ok t w3 =>
          rw [et] at p'
          intro D4 H4 S4 s4
          cases t with
          | false =>
            simp only at p'
            obtain ⟨k1, k2, k3, k4⟩ := keep S4
            exact iteF ⟨D4, w3, acc, accV, k1, k2, k3, k4, p'⟩
          | true =>
            simp only at p'
            refine iteT ?_
            refine he ⟨C.k, H'', D2⟩ e2 w3 σ3 D4 H4 _ K' S4 ?_
            cases ee : ge e2 w3 with
            | bad => rw [ee] at p'; exact p'.elim
            | exc c fs w1 => rw [ee] at p'; exact p'.elim
            | ok z w4 =>
              rw [ee] at p'
              simp only at p'
              intro v D5 H5 S5 s5 rv
              obtain ⟨k1, k2, k3, k4⟩ := keep S5
              by_cases hl : acc.length < sizeLine
              · rw [if_pos hl] at p'
                refine ⟨accV, k2, by rw [k4.length]; exact hl, D5, w4, acc ++ [z], accV ++ [v], ?_, upd_same, k3, k4.append (.cons rv .nil), p'⟩
                refine ⟨k1.sub, fun a q e => ?_, fun b o hb e => ?_, k1.nw, k1.wd.put k2 hpdA fun c q z => (by unfold LamX.CodeO at z; cases z)⟩
                · rw [upd_ne (ne_of_none e k3)]; exact k1.up a q e
                · rw [upd_ne (ne_of_none e hA)]; exact k1.kp b o hb e
              · rw [if_neg hl] at p'
                exact p'.elim
    · rintro H' ⟨D', w', acc, accV, ew, hAl, hDn, ra, p'⟩
      rw [List.drop_length] at p'
      have p2 : PostF C env σ D W (.ok (.lst acc) w') Q := p'
      have S2 : Sta C env w' σ D' H' [] := S1.ew (fun _ h => nomatch h) ew
      have S3 : Sta C env w' σ D' H' [A] := by
        obtain ⟨fp, h1, h2, h3⟩ := S2.sl
        have k2 : SlotsOk C D' H' env σ fp0 := sl0.mono ew.sub fun q hq u e => ew.kp q u (fr0 q (by simpa using hq)).2.2 e
        have hH0 : C.H0 A = none := by
          cases z : C.H0 A with
          | none => rfl
          | some u =>
            have := S1.kp A u hpdA z
            rw [hA] at this; cases this
        refine ⟨S2.up, S2.d0, S2.kp, S2.nw, S2.wd, fp0, k2, ?_, fun q hq => ?_⟩
        · refine List.nodup_cons.mpr ⟨fun hm => ?_, by simpa using nd0⟩
          obtain ⟨u, hu⟩ := sl0.there A hm
          rw [hA] at hu; cases hu
        · rcases List.mem_cons.mp hq with z | z
          · rw [z]; exact ⟨hDn, hH0, hpdA⟩
          · have f := fr0 q (by simpa using z)
            refine ⟨?_, f.2⟩
            cases zz : D' q with
            | none => rfl
            | some u =>
              obtain ⟨v, hv⟩ := sl0.there q z
              rw [ew.nw q f.1 (by rw [zz]; simp)] at hv
              cases hv
      exact p2 A [A] D' H' S3 (s1.trans ew.sub) ⟨rfl, accV, hAl, ra⟩
/-- a comprehension as a value -/
theorem df_lc {elt tg iter : Expr} {ifs : List Expr} {scope : Scope} {pos : PySem.Pos} {gi : GA} {b : Bd} {gt : GT} {ge : GE} {ix : List Nat} (own : List (Str × Nat)) (hc : F.calm = true) (hN : F.N.Nodup) (hi : DI F tg iter gi) (ok : blkC F.N F.sc scope own = true)
    (hg : DG (F.blk scope) tg b ix) (ht : DTs (F.blk scope) ifs gt) (he : DE (F.blk scope) elt ge) (hix : (ix.all fun i => decide (i ∈ own.map (·.2))) = true) (hs : ∀ env x, foldedSetIterable iter env x = pure x := by intro _ _; rfl) :
    DF F (.ListComp elt [⟨tg, iter, ifs, 0⟩] scope pos) (gLc (own.map (·.2)) gi b gt ge) := by
  obtain ⟨ti, i1, i2⟩ := hi.ex
  obtain ⟨g, g1, g2⟩ := hg.ex
  obtain ⟨tt, t1, t2⟩ := ht.ex
  obtain ⟨te, e1, e2⟩ := he.ex
  refine ⟨⟨fun W => tLc (ti W) g (tt W0) (te W0) (own.map (·.2)), fun X W O T => ?_, fun W => den_lc (F := F) (F' := F.blk scope) ⟨rfl, rfl, rfl, rfl⟩ (i2 W) g2 (t2 W0) (e2 W0) fun i h => of_decide_eq_true (List.all_eq_true.mp hix i h)⟩⟩
  refine pe_lc (O.calm hc) (by rw [O.N]; exact hN) (i1 X W O T) (blkOk_by (by rw [O.N, O.sc]; exact ok)) ?_ ?_ ?_ (hs _)
  · exact fun s H Ca cl fp => g1 _ (O.blk s H Ca cl fp)
  · exact fun s H Ca cl fp => t1 _ _ (O.blk s H Ca cl fp) tk_blk
  · exact fun s H Ca cl fp => e1 _ _ (O.blk s H Ca cl fp) tk_blk
end
end Dn
end
section
/-! Defs: what a def is worth on data; its calls. -/
namespace Dn
open PySem L2
/-- what a def hands back -/
inductive Fo where
  | dat (d : Dt) (w : Ds)
  | own (o : Ow) (w : Ds)
  | exc (c : Str) (fs : List (Str × Dt)) (w : Ds)
  | bad
abbrev Mf := List Dt → Ds → Fo
def PostC (C : Ct) (o : Fo) (Q : VK) (E : XK) : Prop := match o with
  | .dat d w => ∀ v D' H', Ew C C.D0 C.H0 D' H' w → Rp C.k D' v d → Q v H'
  | .own o w => ∀ p fp D' H', Ew C C.D0 C.H0 D' H' w → OwnAt C D' H' p o fp → fp.Nodup → (∀ q ∈ fp, D' q = none ∧ C.H0 q = none) → Q (.ref p) H'
  | .exc c fs w => ∀ Ca d D' H', Ew C C.D0 C.H0 D' H' w → ExcAt C D' H' c fs Ca d → E (.ref Ca) (some d) H'
  | .bad => False
def spM (K : PySem.W.Frag) (cls : Str → Option Addr) (tb : List (Addr × Str)) (n : Nat) (m : Mf) : Sp := fun vs H Q E => vs.length = n ∧ ∃ (k : Kp) (D : Hp) (ds : List Dt) (w : Ds), k.K = K ∧ k.cls = cls ∧ k.tb = tb ∧ k.xa = none ∧ Sub D H ∧ RpL k D vs ds ∧ WdAt k w D H ∧ PostC ⟨k, H, D⟩ (m ds w) Q E
def runM (n : Nat) (g : GS) : Mf := fun ds w => match g (ds.map Sl.dat ++ List.replicate (n - ds.length) .un) w with
  | .nx _ w => .dat .non w
  | .ret d w => .dat d w
  | .rtf o w => .own o w
  | .exc c fs _ w => .exc c fs w
  | _ => .bad
theorem slots_rep {C : Ct} {D H : Hp} : ∀ n : Nat, SlotsOk C D H (List.replicate n .un) (List.replicate n none) []
  | 0 => rfl
  | n + 1 => ⟨[], [], rfl, rfl, slots_rep n⟩
theorem slots_start {C : Ct} {D H : Hp} (n : Nat) : ∀ {vs : List V} {ds : List Dt}, RpL C.k D vs ds → SlotsOk C D H (ds.map Sl.dat ++ List.replicate n .un) (vs.map some ++ List.replicate n none) []
  | _, _, .nil => slots_rep n
  | _, _, .cons h r => ⟨[], [], rfl, ⟨rfl, _, rfl, h⟩, slots_start n r⟩
theorem Sta.done {C : Ct} {env : Env} {w : Ds} {σ : St} {D H : Hp} {fx : List Addr} (S : Sta C env w σ D H fx) : Ew C C.D0 C.H0 D H w := ⟨S.d0, S.up, S.kp, S.nw, S.wd⟩
theorem Ew.ct {C C' : Ct} {D H D' H' : Hp} {w : Ds} (hk : C.k = C'.k) (x : Ew C D H D' H' w) : Ew C' D H D' H' w := ⟨x.sub, x.up, hk ▸ x.kp, x.nw, by
  have := x.wd
  rw [← hk]
  exact this⟩
/-- THE RULE for a def (cd: its code object and that one's table, where it makes lambdas) -/
theorem fn_den {B : Bs} {N ps : List Str} {x qual : Str} {params : Arguments} {body : List Stmt} {scope : Scope} {dvs : List V} {kws : List (Str × V)} {f : Addr} {fd : FuncData} {g : GS} (lv : Nat) (cd : Option (Addr × Addr)) (Fu : FunD B.K x qual params body scope dvs kws f fd) (S : FnScope N ps scope)
    (hcq : ∀ q, cd = some q → fd.code = .ref q.1)
    (h : DB { toBs := B, N := N, sc := scope, lv := lv, calm := true, top := true, cd := cd, qual := qual ++ ".<locals>." } body g) : FnOk B.P B.w B.K B.mg B.base (L2.CX B.P B.w) (lv + 1) f fd ps (spM B.K B.cls B.tb ps.length (runM N.length g)) := by
  obtain ⟨oc, od, dV, kV, doc, pm, an, cdv, ct, osl, rfl, lk, hcd, _, _⟩ := Fu.ex
  refine fn_of lk hcd S (fun vs H Q E h => h.1) fun A outer s H vs Q E hr hsp => ?_
  obtain ⟨t, h1, h2⟩ := h.ex
  refine ⟨t (fun cls d _ H => E cls d H), h1 _ _ ⟨rfl, rfl, rfl, rfl, rfl, rfl, rfl, roomU_of hr, fun _ => hr.hd, fun _ => rfl, fun _ _ => rfl, fun _ q e => ⟨hcq q e, rfl⟩, fun _ => ⟨rfl, rfl⟩, fun _ _ h => (nomatch h), fun _ h => Bool.noConfusion h, fun h => Bool.noConfusion h⟩ ⟨takes_of rfl rfl rfl rfl, passes_of rfl⟩, ?_⟩
  obtain ⟨hl, k, D, ds, w, kK, kc, kt, kx, up, r, wd, p⟩ := hsp
  have S0 : Sta ⟨k, H, D⟩ (ds.map Sl.dat ++ List.replicate (N.length - ds.length) .un) w (L2.start N vs) D H [] := by
    refine ⟨up, Sub.refl _, fun _ _ _ e => e, fun a e n => absurd e n, wd, [], ?_, List.nodup_nil, fun q hq => (by cases hq)⟩
    unfold L2.start
    rw [r.length]
    exact slots_start (C := ⟨k, H, D⟩) _ r
  refine h2 _ ⟨k, H, D⟩ _ w _ D H _ ⟨kK, kc, kt, kx⟩ S0 ?_
  unfold runM at p
  cases e : g (ds.map Sl.dat ++ List.replicate (N.length - ds.length) .un) w with
  | nx e1 w1 => rw [e] at p; exact fun σ D' H' S' => p .non D' H' S'.done .non
  | ret d w1 => rw [e] at p; exact fun e1 σ v D' H' S' r' => p v D' H' S'.done r'
  | rtf o w1 =>
    rw [e] at p
    intro e1 σ q fp D' H' S' r'
    obtain ⟨fs, g1, g2, g3⟩ := S'.sl
    exact p q fp D' H' S'.done r' (List.nodup_append.mp g2).1 fun b hb => ⟨(g3 b (List.mem_append_left _ hb)).1, (g3 b (List.mem_append_left _ hb)).2.1⟩
  | exc c fs e1 w1 => rw [e] at p; exact fun σ Ca d D' H' S' x => p Ca d D' H' S'.done x
  | bk e1 w1 => rw [e] at p; exact p.elim
  | ct e1 w1 => rw [e] at p; exact p.elim
  | bad => rw [e] at p; exact p.elim
/-- the def x of the module, called with na values, the rest by its defaults dds -/
structure FkA (B : Bs) (j : Nat) (x : Str) (na : Nat) (dds : List Dt) (m : Mf) : Prop where
  ex : ∃ (f : Addr) (fd : FuncData) (ps : List Str) (dvs : List V) (ds : List Value), B.mg x = some (.ref f) ∧ PySem.W.keepIn B.K (.ref f) = true ∧ FnOk B.P B.w B.K B.mg B.base (L2.CX B.P B.w) j f fd ps (spM B.K B.cls B.tb ps.length m) ∧
    Binds B.K fd ps ds ∧ Vals dvs ds ∧ ps.length = na + dds.length ∧ ∀ (k : Kp) (D : Hp), k.K = B.K → k.cls = B.cls → RpL k D dvs dds
def gCall (na : Nat) (dds : List Dt) (m : Mf) (ga : GA) : GE := fun env w => (ga env w).bind fun ds w1 => if ds.length = na then (match m (ds ++ dds) w1 with
  | .dat r w2 => .ok r w2
  | .own o w2 => .ok o.dt w2
  | .exc c fs w2 => .exc c fs w2
  | .bad => .bad) else .bad
def gCallF (na : Nat) (dds : List Dt) (m : Mf) (ga : GA) : GF := fun env w => (ga env w).bind fun ds w1 => if ds.length = na then (match m (ds ++ dds) w1 with
  | .own o w2 => .ok o w2
  | .exc c fs w2 => .exc c fs w2
  | _ => .bad) else .bad
section
variable {C : Ct} {env : Env} {w : Ds} {σ : St} {D H : Hp}
theorem Sta.freshW (S : Sta C env w σ D H []) {D' H' : Hp} {w' : Ds} (x : Ew C D H D' H' w') {fp : List Addr} (nd : fp.Nodup) (hn : ∀ q ∈ fp, D' q = none ∧ H q = none) : Sta C env w' σ D' H' fp := by
  have S' := S.ew (fun _ h => nomatch h) x
  obtain ⟨fs0, g1, g2, g3⟩ := S.sl
  have hH0 : ∀ q ∈ fp, C.H0 q = none ∧ ¬ C.k.mu q := fun q hq => by
    have e := (hn q hq).2
    refine ⟨?_, fun z => ?_⟩
    · cases z : C.H0 q with
      | none => rfl
      | some u =>
        by_cases hp : C.k.mu q
        · obtain ⟨_, e1, _⟩ := S.wd.there hp
          rw [e] at e1; cases e1
        · rw [S.kp q u hp z] at e; cases e
    · obtain ⟨_, e1, _⟩ := S.wd.there z
      rw [e] at e1; cases e1
  have k2 : SlotsOk C D' H' env σ fs0 := g1.mono x.sub fun q hq u e => x.kp q u (g3 q (by simpa using hq)).2.2 e
  refine ⟨S'.up, S'.d0, S'.kp, S'.nw, S'.wd, fs0, k2, ?_, fun q hq => ?_⟩
  · rw [List.nodup_append]
    refine ⟨nd, by simpa using g2, fun a ha b hb e => ?_⟩
    obtain ⟨u, hu⟩ := g1.there b hb
    rw [← e, (hn a ha).2] at hu
    cases hu
  · rcases List.mem_append.mp hq with z | z
    · exact ⟨(hn q z).1, hH0 q z⟩
    · have := g3 q (List.mem_append_right _ z)
      refine ⟨?_, this.2⟩
      cases zz : D' q with
      | none => rfl
      | some u =>
        obtain ⟨v, hv⟩ := g1.there q z
        rw [x.nw q this.1 (by rw [zz]; simp)] at hv
        cases hv
end
theorem den_callF {F : Fc} (hx : F.xa = none) {W : WX} {ta : TA} {ga : GA} {na n : Nat} {dds : List Dt} {dvs : List V} {m : Mf} (ha : DenL F W ta ga) (hn : n = na + dds.length) (hd : ∀ (k : Kp) (D : Hp), k.K = F.K → k.cls = F.cls → RpL k D dvs dds) : DenF F W (tCallSD (spM F.K F.cls F.tb n m) dvs (WE W) ta) (gCallF na dds m ga) := by
  intro C env w σ D H Q K S p
  refine ha C env w σ D H _ K S ?_
  unfold gCallF at p
  cases ea : ga env w with
  | bad => rw [ea] at p; exact p.elim
  | exc c fs w1 => rw [ea] at p; exact p
  | ok ds w1 =>
    rw [ea] at p
    simp only [Out.bind] at p
    intro vs D1 H1 S1 s1 r
    by_cases hl : ds.length = na
    · rw [if_pos hl] at p
      refine ⟨by rw [List.length_append, r.length, (hd C.k D1 K.K K.cls).length, hl, hn], C.k, D1, ds ++ dds, w1, K.K, K.cls, K.tb, K.xa.trans hx, S1.up, r.append (hd C.k D1 K.K K.cls), S1.wd, ?_⟩
      cases em : m (ds ++ dds) w1 with
      | bad => rw [em] at p; exact p
      | dat d w2 => rw [em] at p; exact p.elim
      | exc c fs w2 => rw [em] at p; exact fun Ca d D' H' x xx => p Ca d D' H' (S1.ew (fun _ h => nomatch h) (Ew.ct (C := ⟨C.k, H1, D1⟩) (C' := C) rfl x)) xx
      | own o w2 =>
        rw [em] at p
        exact fun q fp D' H' x ow nd hq => p q fp D' H' (S1.freshW (Ew.ct (C := ⟨C.k, H1, D1⟩) (C' := C) rfl x) nd hq) (s1.trans x.sub) (ow.ct rfl)
    · rw [if_neg hl] at p; exact p.elim
theorem den_call {F : Fc} (hx : F.xa = none) {W : WX} {ta : TA} {ga : GA} {na n : Nat} {dds : List Dt} {dvs : List V} {m : Mf} (ha : DenL F W ta ga) (hn : n = na + dds.length) (hd : ∀ (k : Kp) (D : Hp), k.K = F.K → k.cls = F.cls → RpL k D dvs dds) : DenE F W (tCallSD (spM F.K F.cls F.tb n m) dvs (WE W) ta) (gCall na dds m ga) := by
  intro C env w σ D H Q K S p
  refine ha C env w σ D H _ K S ?_
  unfold gCall at p
  cases ea : ga env w with
  | bad => rw [ea] at p; exact p.elim
  | exc c fs w1 => rw [ea] at p; exact p
  | ok ds w1 =>
    rw [ea] at p
    simp only [Out.bind] at p
    intro vs D1 H1 S1 s1 r
    by_cases hl : ds.length = na
    · rw [if_pos hl] at p
      refine ⟨by rw [List.length_append, r.length, (hd C.k D1 K.K K.cls).length, hl, hn], C.k, D1, ds ++ dds, w1, K.K, K.cls, K.tb, K.xa.trans hx, S1.up, r.append (hd C.k D1 K.K K.cls), S1.wd, ?_⟩
      cases em : m (ds ++ dds) w1 with
      | bad => rw [em] at p; exact p
      | dat d w2 => rw [em] at p; exact fun v D' H' x rv => p v D' H' (S1.ew (fun _ h => nomatch h) (Ew.ct (C := ⟨C.k, H1, D1⟩) (C' := C) rfl x)) (s1.trans x.sub) rv
      | exc c fs w2 => rw [em] at p; exact fun Ca d D' H' x xx => p Ca d D' H' (S1.ew (fun _ h => nomatch h) (Ew.ct (C := ⟨C.k, H1, D1⟩) (C' := C) rfl x)) xx
      | own o w2 =>
        rw [em] at p
        intro q fp D' H' x ow nd hq
        have S2 := S1.freshW (Ew.ct (C := ⟨C.k, H1, D1⟩) (C' := C) rfl x) nd hq
        have S2' : Sta C env w2 σ D' H' (fp ++ []) := by rw [List.append_nil]; exact S2
        obtain ⟨D3, S3, s3, r3⟩ := S2'.frz (ow.ct rfl)
        exact p _ D3 H' S3 (s1.trans (x.sub.trans s3)) r3
    · rw [if_neg hl] at p; exact p.elim
section
variable {F : Fc}
theorem de_call {x : Str} {p pos : PySem.Pos} {e : Expr} {es : List Expr} {ga : GA} {j na : Nat} {dds : List Dt} {m : Mf} (G : FkA F.toBs j x na dds m) (hj : j ≤ F.lv) (hg : F.sc.names.lookup x = some .globalImplicit) (h : DL F (e :: es) ga)
    (hdb : (x == ("__debug__" : Str)) = false := by decide +kernel) (he : ∀ env, starEach (e :: es) env = (false, eval e env) :: starEach es env := by intro _; rfl) (hpl : ∀ env, (backTo pos (starEach es env)).any (·.1) = false := by intro _; rfl) (hx : F.xa = none := by rfl) (hc : F.calm = true := by rfl) :
    DE F (.Call (.Name x p) (e :: es) [] pos) (gCall na dds m ga) := by
  obtain ⟨ta, a1, a2⟩ := h.ex
  obtain ⟨f, fd, ps, dvs, ds, hm, hk, fn, hb, hd, hn, hr⟩ := G.ex
  refine ⟨⟨fun W => tCallSD (spM F.K F.cls F.tb ps.length m) dvs (WE W) (ta W), fun X W O T => ?_, fun W => den_call hx (a2 W) hn hr⟩⟩
  refine pe_callSD (CX := L2.CX X.prog X.w) (f := f) (fd := fd) (ps := ps) (ds := ds) (k := j) ?_ ((O.full hc).mono hj) ?_ ?_ ?_ ?_ hd (fun σ => passAt T.tk σ) (a1 X W O T) hdb (he _) (hpl _)
  · rw [O.prog, O.w, O.K, O.mg, O.base]; exact fn
  · show X.env.scope.names.lookup x = _; rw [O.sc]; exact hg
  · rw [O.mg]; exact hm
  · rw [O.K]; exact hk
  · rw [O.K]; exact hb
theorem df_call {x : Str} {p pos : PySem.Pos} {e : Expr} {es : List Expr} {ga : GA} {j na : Nat} {dds : List Dt} {m : Mf} (G : FkA F.toBs j x na dds m) (hj : j ≤ F.lv) (hg : F.sc.names.lookup x = some .globalImplicit) (h : DL F (e :: es) ga)
    (hdb : (x == ("__debug__" : Str)) = false := by decide +kernel) (he : ∀ env, starEach (e :: es) env = (false, eval e env) :: starEach es env := by intro _; rfl) (hpl : ∀ env, (backTo pos (starEach es env)).any (·.1) = false := by intro _; rfl) (hx : F.xa = none := by rfl) (hc : F.calm = true := by rfl) :
    DF F (.Call (.Name x p) (e :: es) [] pos) (gCallF na dds m ga) := by
  obtain ⟨ta, a1, a2⟩ := h.ex
  obtain ⟨f, fd, ps, dvs, ds, hm, hk, fn, hb, hd, hn, hr⟩ := G.ex
  refine ⟨⟨fun W => tCallSD (spM F.K F.cls F.tb ps.length m) dvs (WE W) (ta W), fun X W O T => ?_, fun W => den_callF hx (a2 W) hn hr⟩⟩
  refine pe_callSD (CX := L2.CX X.prog X.w) (f := f) (fd := fd) (ps := ps) (ds := ds) (k := j) ?_ ((O.full hc).mono hj) ?_ ?_ ?_ ?_ hd (fun σ => passAt T.tk σ) (a1 X W O T) hdb (he _) (hpl _)
  · rw [O.prog, O.w, O.K, O.mg, O.base]; exact fn
  · show X.env.scope.names.lookup x = _; rw [O.sc]; exact hg
  · rw [O.mg]; exact hm
  · rw [O.K]; exact hk
  · rw [O.K]; exact hb
/-- f(): nothing raised -/
def gCall0 (dds : List Dt) (m : Mf) : GE := fun env w => match m dds w with
  | .dat r w2 => .ok r w2
  | _ => .bad
theorem de_call0 {x : Str} {p pos : PySem.Pos} {j : Nat} {dds : List Dt} {m : Mf} (G : FkA F.toBs j x 0 dds m) (hj : j ≤ F.lv) (hg : F.sc.names.lookup x = some .globalImplicit) (hdb : (x == ("__debug__" : Str)) = false := by decide +kernel) (hx : F.xa = none := by rfl) (hc : F.calm = true := by rfl) :
    DE F (.Call (.Name x p) [] [] pos) (gCall0 dds m) := by
  obtain ⟨f, fd, ps, dvs, ds, hm, hk, fn, hb, hd, hn, hr⟩ := G.ex
  refine ⟨⟨fun W => tCall (spM F.K F.cls F.tb ps.length m) dvs E0 tNil, fun X W O T => ?_, fun W C env w σ D H Q K S pp => ?_⟩⟩
  · refine pe_call0 (CX := L2.CX X.prog X.w) (f := f) (fd := fd) (ps := ps) (ds := ds) (k := j) ?_ ((O.full hc).mono hj) ?_ ?_ ?_ ?_ hd passL hdb
    · rw [O.prog, O.w, O.K, O.mg, O.base]; exact fn
    · show X.env.scope.names.lookup x = _; rw [O.sc]; exact hg
    · rw [O.mg]; exact hm
    · rw [O.K]; exact hk
    · rw [O.K]; exact hb
  · refine ⟨by rw [List.nil_append, (hr C.k D K.K K.cls).length]; omega, C.k, D, dds, w, K.K, K.cls, K.tb, K.xa.trans hx, S.up, hr C.k D K.K K.cls, S.wd, ?_⟩
    unfold gCall0 at pp
    cases em : m dds w with
    | bad => rw [em] at pp; exact pp
    | dat d w2 => rw [em] at pp; exact fun v D' H' x rv => pp v D' H' (S.ew (fun _ h => nomatch h) (Ew.ct (C := ⟨C.k, H, D⟩) (C' := C) rfl x)) x.sub rv
    | exc c fs w2 => rw [em] at pp; exact pp.elim
    | own o w2 => rw [em] at pp; exact pp.elim
end
end Dn
end
section
/-! Operators, comparisons, items, slices. -/
namespace Dn
open PySem L2
/-! ### flat data for == -/
mutual
def toPy : Dt → Option PyData
  | .non => some .none
  | .bl b => some (.bool b)
  | .int i => some (.int i)
  | .str x => some (.str x)
  | .tup xs => (toPys xs).map .tuple
  | .lst xs => (toPys xs).map .list
  | _ => none
def toPys : List Dt → Option (List PyData)
  | [] => some []
  | x :: xs => (toPy x).bind fun a => (toPys xs).map (a :: ·)
end
mutual
theorem dp_of {k : Kp} {D : Hp} : ∀ (d : Dt) {v : V} {p : PyData}, Rp k D v d → toPy d = some p → Dp k.K D v p
  | .non, _, _, h, e => by cases h; simp [toPy] at e; subst e; exact .non
  | .bl b, _, _, h, e => by cases h; simp [toPy] at e; subst e; exact .bl b
  | .int i, _, _, h, e => by cases h; simp [toPy] at e; subst e; exact .int i
  | .str x, _, _, h, e => by cases h; simp [toPy] at e; subst e; exact .str x
  | .tup xs, _, _, h, e => by
    cases h with
    | tup hs r =>
      unfold toPy at e
      cases q : toPys xs with
      | none => rw [q] at e; cases e
      | some ps =>
        rw [q] at e
        cases e
        exact .tup (SqT.of hs) (dps_of xs r q)
  | .lst xs, _, _, h, e => by
    cases h with
    | lst hs r =>
      unfold toPy at e
      cases q : toPys xs with
      | none => rw [q] at e; cases e
      | some ps =>
        rw [q] at e
        cases e
        exact .lst (SqL.of hs) (dps_of xs r q)
  | .dic _, _, _, h, e => by simp [toPy] at e
  | .dicF _, _, _, h, e => by simp [toPy] at e
  | .dicFT _, _, _, h, e => by simp [toPy] at e
  | .obj _ _, _, _, h, e => by simp [toPy] at e
  | .wd, _, _, h, e => by simp [toPy] at e
  | .scr _, _, _, h, e => by simp [toPy] at e
  | .emp, _, _, h, e => by simp [toPy] at e
theorem dps_of {k : Kp} {D : Hp} : ∀ (ds : List Dt) {vs : List V} {ps : List PyData}, RpL k D vs ds → toPys ds = some ps → DpAll k.K D vs ps
  | [], _, _, h, e => by cases h; simp [toPys] at e; subst e; exact .nil
  | d :: ds, _, _, h, e => by
    cases h with
    | cons h r =>
      unfold toPys at e
      cases q : toPy d with
      | none => rw [q] at e; cases e
      | some p =>
        rw [q] at e
        cases q2 : toPys ds with
        | none => simp [q2] at e
        | some ps =>
          simp [q2] at e
          subst e
          exact .cons (dp_of d h q) (dps_of ds r q2)
end
theorem rp_up {k : Kp} {D H : Hp} {v : V} {d : Dt} (u : Sub D H) (r : Rp k D v d) : Rp k H v d := r.mono u
/-! ### operators -/
def oAdd : Dt → Dt → Option Dt
  | .int i, .int j => some (.int (i + j))
  | .str x, .str y => if x.length + y.length ≤ sizeLine then some (.str (x ++ y)) else none
  | .tup xs, .tup ys => if xs ≠ [] ∧ xs.length + ys.length ≤ sizeLine then some (.tup (xs ++ ys)) else none
  | .lst xs, .lst ys => if xs.length + ys.length ≤ sizeLine then some (.lst (xs ++ ys)) else none
  | _, _ => none
def oSub : Dt → Dt → Option Dt
  | .int i, .int j => some (.int (i - j))
  | _, _ => none
def oMul : Dt → Dt → Option Dt
  | .int i, .int j => if (-(2 ^ 64) < i ∧ i < 2 ^ 64) ∨ (-(2 ^ 64) < j ∧ j < 2 ^ 64) then some (.int (i * j)) else none
  | _, _ => none
def oDiv : Dt → Dt → Option Dt
  | .int i, .int j => if 0 < j ∧ j < 1073741824 then some (.int (i / j)) else none
  | _, _ => none
def oMod : Dt → Dt → Option Dt
  | .int i, .int j => if 0 < j then some (.int (i % j)) else none
  | _, _ => none
def oPow : Dt → Dt → Option Dt
  | .int i, .int j => if 0 ≤ j ∧ j ≤ 1000000 ∧ i.natAbs < 2 ^ 64 then some (.int (i ^ j.toNat)) else none
  | _, _ => none
theorem pos_I {k : Kp} {P : Int → Int → Prop} [h : ∀ i j, Decidable (P i j)] {C : Int → Int → Prop} {g : Int → Int → Int} (hC : ∀ i j, P i j → C i j) {f : Dt → Dt → Option Dt} (hf : ∀ a b z, f a b = some z → ∃ i j, a = .int i ∧ b = .int j ∧ P i j ∧ z = .int (g i j)) : Pos2 k (rI C fun i j => .int (g i j)) f := by
  intro D H x y a b z u ra rb e Q q
  obtain ⟨i, j, rfl, rfl, hp, rfl⟩ := hf a b z e
  cases ra
  cases rb
  exact ⟨i, j, rfl, rfl, hC i j hp, q _ D H (Ex.refl u) (.int _)⟩
theorem pos_I0 {k : Kp} {g : Int → Int → Int} {f : Dt → Dt → Option Dt} (hf : ∀ a b z, f a b = some z → ∃ i j, a = .int i ∧ b = .int j ∧ z = .int (g i j)) : Pos2 k (rI0 fun i j => .int (g i j)) f := by
  intro D H x y a b z u ra rb e Q q
  obtain ⟨i, j, rfl, rfl, rfl⟩ := hf a b z e
  cases ra
  cases rb
  exact ⟨i, j, rfl, rfl, q _ D H (Ex.refl u) (.int _)⟩
section
variable {F : Fc}
theorem k_add : OpK F .Add oAdd := by
  refine ⟨⟨fun x y H Q => (rI0 fun i j => .int (i + j)) x y H Q ∨ (∃ i j, x = .str i ∧ y = .str j ∧ i.length + j.length ≤ sizeLine ∧ Q (.str (i ++ j)) H) ∨ rCatT F.K x y H Q ∨ rCat x y H Q, fun X O => by rw [← O.K]; exact op_add.or (op_add_str.or (op_catT.or op_cat)), fun k hK hc => ?_⟩⟩
  intro D H x y a b z u ra rb e Q q
  cases a <;> cases b <;> simp only [oAdd] at e <;> try (cases e; done)
  · cases e
    cases ra
    cases rb
    exact .inl ⟨_, _, rfl, rfl, q _ D H (Ex.refl u) (.int _)⟩
  · split at e
    · cases e
      cases ra
      cases rb
      exact .inr (.inl ⟨_, _, rfl, rfl, by assumption, q _ D H (Ex.refl u) (.str _)⟩)
    · cases e
  · split at e
    · rename_i hh
      cases e
      cases ra with
      | tup h1 r1 =>
        cases rb with
        | tup h2 r2 =>
          rename_i xs ys p vs p' us
          rw [← hK]
          refine .inr (.inr (.inl ⟨_, _, _, _, rfl, rfl, tupS u h1, tupS u h2, fun z => hh.1 ?_, by rw [r1.length, r2.length]; exact hh.2, fun z => ?_, fun z p hp => ?_⟩))
          · have := r1.length
            rw [z] at this
            exact List.length_eq_zero_iff.mp this.symm
          · have e2 : ys = [] := by
              have := r2.length
              rw [z] at this
              exact List.length_eq_zero_iff.mp this.symm
            refine q _ D H (Ex.refl u) ?_
            rw [e2, List.append_nil]
            exact .tup h1 r1
          · exact q _ _ _ (Ex.new u hp) (.tup upd_same ((r1.append r2).mono (Ex.new (o := .tup (vs ++ us)) u hp).sub))
    · cases e
  · split at e
    · cases e
      cases ra with
      | lst h1 r1 =>
        cases rb with
        | lst h2 r2 =>
          rename_i hh p vs p' us
          exact .inr (.inr (.inr ⟨_, _, _, _, rfl, rfl, u _ _ h1, u _ _ h2, by rw [r1.length, r2.length]; exact hh, fun p hp => q _ _ _ (Ex.new u hp) (.lst upd_same ((r1.append r2).mono (Ex.new (o := .lst (vs ++ us)) u hp).sub))⟩))
    · cases e
theorem k_sub : OpK F .Sub oSub := ⟨⟨_, fun X O => op_sub, fun k _ _ => pos_I0 (f := oSub) fun a b z e => by
  cases a <;> cases b <;> simp only [oSub] at e <;> try (cases e; done)
  cases e; exact ⟨_, _, rfl, rfl, rfl⟩⟩⟩
theorem k_mul : OpK F .Mult oMul := ⟨⟨_, fun X O => op_mul, fun k _ _ => pos_I (f := oMul) (P := CMul) (h := fun i j => by unfold CMul; infer_instance) (fun _ _ h => h) fun a b z e => by
  cases a <;> cases b <;> simp only [oMul] at e <;> try (cases e; done)
  split at e
  · rename_i h
    cases e; exact ⟨_, _, rfl, rfl, h, rfl⟩
  · cases e⟩⟩
theorem k_div : OpK F .FloorDiv oDiv := ⟨⟨_, fun X O => op_fdiv, fun k _ _ => pos_I (f := oDiv) (P := CDiv) (h := fun i j => by unfold CDiv; infer_instance) (fun _ _ h => h) fun a b z e => by
  cases a <;> cases b <;> simp only [oDiv] at e <;> try (cases e; done)
  split at e
  · rename_i h
    cases e; exact ⟨_, _, rfl, rfl, h, rfl⟩
  · cases e⟩⟩
theorem k_mod : OpK F .Mod oMod := ⟨⟨_, fun X O => op_mod, fun k _ _ => pos_I (f := oMod) (P := fun _ j => 0 < j) (h := fun i j => by infer_instance) (fun _ _ h => h) fun a b z e => by
  cases a <;> cases b <;> simp only [oMod] at e <;> try (cases e; done)
  split at e
  · rename_i h
    cases e; exact ⟨_, _, rfl, rfl, h, rfl⟩
  · cases e⟩⟩
theorem k_pow : OpK F .Pow oPow := ⟨⟨_, fun X O => op_pow, fun k _ _ => pos_I (f := oPow) (P := CPow) (h := fun i j => by unfold CPow; infer_instance) (fun _ _ h => h) fun a b z e => by
  cases a <;> cases b <;> simp only [oPow] at e <;> try (cases e; done)
  split at e
  · rename_i h
    cases e; exact ⟨_, _, rfl, rfl, h, rfl⟩
  · cases e⟩⟩
/-! ### comparisons -/
def eqD (a b : Dt) : Option Bool := (toPy a).bind fun p => (toPy b).bind fun q => if SeqAt.shaped p = true ∧ SeqAt.shaped q = true then some (PyData.eqv p q) else none
def oEq (a b : Dt) : Option Dt := (eqD a b).map .bl
def oNe (a b : Dt) : Option Dt := (eqD a b).map fun r => .bl (!r)
theorem eqD_some {a b : Dt} {r : Bool} (h : eqD a b = some r) : ∃ p q, toPy a = some p ∧ toPy b = some q ∧ SeqAt.shaped p = true ∧ SeqAt.shaped q = true ∧ r = PyData.eqv p q := by
  unfold eqD at h
  cases ea : toPy a with
  | none => rw [ea] at h; cases h
  | some p =>
    rw [ea] at h
    cases eb : toPy b with
    | none => rw [eb] at h; cases h
    | some q =>
      rw [eb] at h
      simp only [Option.bind] at h
      split at h
      · rename_i hh
        cases h
        exact ⟨p, q, rfl, rfl, hh.1, hh.2, rfl⟩
      · cases h
theorem c_eq : CmK F .Eq oEq := ⟨⟨rEqD F.K, fun X O => by rw [← O.K]; exact op_eqD O.room.units, fun k hK hc D H x y a b z u ra rb e Q q => by
  unfold oEq at e
  cases ee : eqD a b with
  | none => rw [ee] at e; cases e
  | some r =>
    rw [ee] at e
    cases e
    obtain ⟨p, p', e1, e2, s1, s2, rfl⟩ := eqD_some ee
    rw [← hK]
    exact ⟨p, p', dp_of a (rp_up u ra) e1, dp_of b (rp_up u rb) e2, s1, s2, q _ D H (Ex.refl u) (.bl _)⟩⟩⟩
theorem c_ne : CmK F .NotEq oNe := ⟨⟨rNeD F.K, fun X O => by rw [← O.K]; exact op_neD O.room.units, fun k hK hc D H x y a b z u ra rb e Q q => by
  unfold oNe at e
  cases ee : eqD a b with
  | none => rw [ee] at e; cases e
  | some r =>
    rw [ee] at e
    cases e
    obtain ⟨p, p', e1, e2, s1, s2, rfl⟩ := eqD_some ee
    rw [← hK]
    exact ⟨p, p', dp_of a (rp_up u ra) e1, dp_of b (rp_up u rb) e2, s1, s2, q _ D H (Ex.refl u) (.bl _)⟩⟩⟩
def oLt : Dt → Dt → Option Dt
  | .int i, .int j => some (.bl (decide (i < j)))
  | .str x, .str y => some (.bl (decide (x.cps.toList < y.cps.toList)))
  | _, _ => none
def oGt : Dt → Dt → Option Dt
  | .int i, .int j => some (.bl (decide (j < i)))
  | .str x, .str y => some (.bl (decide (y.cps.toList < x.cps.toList)))
  | _, _ => none
def oGe : Dt → Dt → Option Dt
  | .int i, .int j => some (.bl (decide (j ≤ i)))
  | .str x, .str y => some (.bl (!decide (x.cps.toList < y.cps.toList)))
  | _, _ => none
theorem c_gt : CmK F .Gt oGt := ⟨⟨_, fun X O => op_gt.or op_gt_str, fun k hK hc D H x y a b z u ra rb e Q q => by
  cases a <;> cases b <;> simp only [oGt] at e <;> try (cases e; done)
  · cases e; cases ra; cases rb; exact .inl ⟨_, _, rfl, rfl, q _ D H (Ex.refl u) (.bl _)⟩
  · cases e; cases ra; cases rb; exact .inr ⟨_, _, rfl, rfl, q _ D H (Ex.refl u) (.bl _)⟩⟩⟩
theorem c_ge : CmK F .GtE oGe := ⟨⟨_, fun X O => op_ge.or op_ge_str, fun k hK hc D H x y a b z u ra rb e Q q => by
  cases a <;> cases b <;> simp only [oGe] at e <;> try (cases e; done)
  · cases e; cases ra; cases rb; exact .inl ⟨_, _, rfl, rfl, q _ D H (Ex.refl u) (.bl _)⟩
  · cases e; cases ra; cases rb; exact .inr ⟨_, _, rfl, rfl, q _ D H (Ex.refl u) (.bl _)⟩⟩⟩
def isNon : Dt → Bool
  | .non => true
  | _ => false
theorem isNon_rp {k : Kp} {D : Hp} {v : V} {d : Dt} (r : Rp k D v d) : decide (v = .non) = isNon d := by cases r <;> simp [isNon]
def oIs : Dt → Dt → Option Dt
  | a, .non => some (.bl (isNon a))
  | _, _ => none
def oIsNot : Dt → Dt → Option Dt
  | a, .non => some (.bl (!isNon a))
  | _, _ => none
theorem c_is : CmK F .Is oIs := ⟨⟨_, fun X O => op_isN, fun k hK hc D H x y a b z u ra rb e Q q => by
  cases b <;> simp only [oIs] at e <;> try (cases e; done)
  cases e; cases rb
  exact ⟨rfl, by rw [isNon_rp ra]; exact q _ D H (Ex.refl u) (.bl _)⟩⟩⟩
theorem c_isNot : CmK F .IsNot oIsNot := ⟨⟨_, fun X O => op_notN, fun k hK hc D H x y a b z u ra rb e Q q => by
  cases b <;> simp only [oIsNot] at e <;> try (cases e; done)
  cases e; cases rb
  exact ⟨rfl, by rw [isNon_rp ra]; exact q _ D H (Ex.refl u) (.bl _)⟩⟩⟩
/-- x in y -/
def anyEq (p : PyData) : List PyData → Bool := fun ds => ds.any fun z => PyData.eqv z p
def inD : Dt → Dt → Option Bool
  | .str x, .str y => match x.cps.toList with
    | [c] => some (decide (c ∈ y.cps.toList))
    | _ => some (!(Builtin.Str.occurrences y x 0 y.length 1).isEmpty)
  | a, .lst ys => (toPy a).bind fun p => (toPys ys).bind fun ps => if SeqAt.shaped p = true ∧ SeqAt.shaped (.list ps) = true then some (anyEq p ps) else none
  | _, _ => none
def oIn (a b : Dt) : Option Dt := (inD a b).map .bl
def oNotIn (a b : Dt) : Option Dt := (inD a b).map fun r => .bl (!r)
theorem inD_lst {a : Dt} {ys : List Dt} {r : Bool} (h : inD a (.lst ys) = some r) : ∃ p ps, toPy a = some p ∧ toPys ys = some ps ∧ SeqAt.shaped p = true ∧ SeqAt.shaped (.list ps) = true ∧ r = anyEq p ps := by
  have h' : ((toPy a).bind fun p => (toPys ys).bind fun ps => if SeqAt.shaped p = true ∧ SeqAt.shaped (.list ps) = true then some (anyEq p ps) else none) = some r := by
    cases a <;> exact h
  cases ea : toPy a with
  | none => rw [ea] at h'; cases h'
  | some p =>
    rw [ea] at h'
    cases eb : toPys ys with
    | none => rw [eb] at h'; cases h'
    | some q =>
      rw [eb] at h'
      simp only [Option.bind] at h'
      split at h'
      · rename_i hh
        cases h'
        exact ⟨p, q, rfl, rfl, hh.1, hh.2, rfl⟩
      · cases h'
theorem str_one {x : Str} {c : Nat} (h : x.cps.toList = [c]) : x = ⟨#[c]⟩ := by
  obtain ⟨a⟩ := x
  have : a = #[c] := by
    apply Array.ext'
    exact h
  rw [this]
theorem c_in : CmK F .In oIn := by
  refine ⟨⟨fun x y H Q => (∃ (c : Nat) (z : Str), x = .str ⟨#[c]⟩ ∧ y = .str z ∧ Q (.bl (decide (c ∈ z.cps.toList))) H) ∨ (∃ i j, x = .str i ∧ y = .str j ∧ Q (.bl (!(Builtin.Str.occurrences j i 0 j.length 1).isEmpty)) H) ∨ rInD F.K x y H Q,
    fun X O => by rw [← O.K]; exact op_in_sign.or (op_in_str.or (op_inD (by have := O.room.un; omega))), fun k hK hc D H x y a b z u ra rb e Q q => ?_⟩⟩
  unfold oIn at e
  cases b <;> try (cases a <;> cases e; done)
  · cases a <;> try (cases e; done)
    cases ra
    cases rb
    rename_i x y
    simp only [inD] at e
    split at e
    · rename_i c hc
      cases e
      exact .inl ⟨c, x, by rw [str_one hc], rfl, q _ D H (Ex.refl u) (.bl _)⟩
    · cases e
      exact .inr (.inl ⟨_, _, rfl, rfl, q _ D H (Ex.refl u) (.bl _)⟩)
  · cases ee : inD a (.lst _) with
    | none => rw [ee] at e; cases e
    | some r =>
      rw [ee] at e
      cases e
      obtain ⟨p, ps, e1, e2, s1, s2, rfl⟩ := inD_lst ee
      rw [← hK]
      refine .inr (.inr ⟨p, ps, dp_of a (rp_up u ra) e1, dp_of (.lst _) (rp_up u rb) (by simp [toPy, e2]), s1, s2, q _ D H (Ex.refl u) (.bl _)⟩)
theorem c_notIn : CmK F .NotIn oNotIn := by
  refine ⟨⟨fun x y H Q => (∃ (c : Nat) (z : Str), x = .str ⟨#[c]⟩ ∧ y = .str z ∧ Q (.bl (!decide (c ∈ z.cps.toList))) H) ∨ (∃ i j, x = .str i ∧ y = .str j ∧ Q (.bl (!(!(Builtin.Str.occurrences j i 0 j.length 1).isEmpty))) H) ∨ rNotInD F.K x y H Q,
    fun X O => by rw [← O.K]; exact op_notIn_sign.or (op_notIn_str.or (op_notInD (by have := O.room.un; omega))), fun k hK hc D H x y a b z u ra rb e Q q => ?_⟩⟩
  unfold oNotIn at e
  cases b <;> try (cases a <;> cases e; done)
  · cases a <;> try (cases e; done)
    cases ra
    cases rb
    rename_i x y
    simp only [inD] at e
    split at e
    · rename_i c hc
      cases e
      exact .inl ⟨c, x, by rw [str_one hc], rfl, q _ D H (Ex.refl u) (.bl _)⟩
    · cases e
      exact .inr (.inl ⟨_, _, rfl, rfl, q _ D H (Ex.refl u) (.bl _)⟩)
  · cases ee : inD a (.lst _) with
    | none => rw [ee] at e; cases e
    | some r =>
      rw [ee] at e
      cases e
      obtain ⟨p, ps, e1, e2, s1, s2, rfl⟩ := inD_lst ee
      rw [← hK]
      refine .inr (.inr ⟨p, ps, dp_of a (rp_up u ra) e1, dp_of (.lst _) (rp_up u rb) (by simp [toPy, e2]), s1, s2, q _ D H (Ex.refl u) (.bl _)⟩)
end
end Dn
end
section
/-! Items, slices, calls of built-ins. -/
namespace Dn
open PySem L2
section
variable {F : Fc}
/-! ### items -/
def oIx (w : Ds) : Dt → Dt → Option Dt
  | .lst xs, .int i => atI xs i
  | .tup xs, .int i => atI xs i
  | .str z, .int i => if z.length ≤ sizeLine then (atI z.cps.toList i).map fun c => .str ⟨#[c]⟩ else none
  | .scr ns, .int i => (atI ns i).map .int
  | .wd, .int i => atI [.scr w.ns, .int w.pl, .int w.rem, .int w.seed] i
  | _, _ => none
def gIx (ga gb : GE) : GE := fun env w => (ga env w).bind fun a w1 => (gb env w1).bind fun b w2 => match oIx w2 a b with
  | some r => .ok r w2
  | none => .bad
theorem atI_rp {k : Kp} {D : Hp} {vs : List V} {ds : List Dt} {i : Int} {d : Dt} (r : RpL k D vs ds) (h : atI ds i = some d) : ∃ v, atI vs i = some v ∧ Rp k D v d := by
  unfold atI at h ⊢
  rw [r.length]
  cases e : ixN ds.length i with
  | none => rw [e] at h; cases h
  | some j =>
    rw [e] at h
    exact r.get' h
theorem den_ix {W : WX} {ta tb : TE} {ga gb : GE} (ha : DenE F W ta ga) (hb : DenE F W tb gb) : DenE F W (tOp (rIx F.K) ta tb) (gIx ga gb) := by
  intro C env w σ D H Q K S p
  refine ha C env w σ D H _ K S ?_
  unfold gIx at p
  cases ea : ga env w with
  | bad => rw [ea] at p; exact p.elim
  | exc c fs w1 => rw [ea] at p; exact p
  | ok a w1 =>
    rw [ea] at p
    intro x D1 H1 S1 s1 ra
    refine hb C env w1 σ D1 H1 _ K S1 ?_
    simp only [Out.bind] at p
    cases eb : gb env w1 with
    | bad => rw [eb] at p; exact p.elim
    | exc c fs w2 => rw [eb] at p; exact p
    | ok b w2 =>
      rw [eb] at p
      intro y D2 H2 S2 s2 rb
      simp only [Out.bind] at p
      cases ef : oIx w2 a b with
      | none => rw [ef] at p; exact p.elim
      | some z =>
        rw [ef] at p
        have ra2 := ra.mono s2
        have fin : ∀ v, Rp C.k D2 v z → Q v H2 := fun v r => p v D2 H2 S2 (s1.trans s2) r
        cases b with
        | int i =>
          cases rb
          cases a with
          | lst xs =>
            cases ra2 with
            | lst h r =>
              obtain ⟨v, hv, rv⟩ := atI_rp r ef
              exact .inl ⟨_, _, i, v, rfl, rfl, SqL.of (S2.up _ _ h), hv, fin v rv⟩
          | tup xs =>
            cases ra2 with
            | tup h r =>
              obtain ⟨v, hv, rv⟩ := atI_rp r ef
              rw [← K.K]
              exact .inr (.inl ⟨_, _, i, v, rfl, rfl, tupS S2.up h, hv, fin v rv⟩)
          | str q =>
            cases ra2
            simp only [oIx] at ef
            split at ef
            · rename_i hl
              cases ec : atI q.cps.toList i with
              | none => rw [ec] at ef; cases ef
              | some c =>
                rw [ec] at ef
                cases ef
                exact .inr (.inr ⟨q, i, c, rfl, rfl, hl, ec, fin _ (.str _)⟩)
            · cases ef
          | scr ns =>
            cases ra2 with
            | scr h =>
              simp only [oIx] at ef
              cases ec : atI ns i with
              | none => rw [ec] at ef; cases ef
              | some c =>
                rw [ec] at ef
                cases ef
                have e2 : atI (ns.map V.int) i = some (V.int c) := by
                  unfold atI at ec ⊢
                  rw [List.length_map]
                  cases e : ixN ns.length i with
                  | none => rw [e] at ec; cases ec
                  | some j =>
                    rw [e] at ec
                    have ec' : ns[j]? = some c := ec
                    show (ns.map V.int)[j]? = _
                    rw [List.getElem?_map, ec'] <;> rfl
                rw [← K.K]
                exact .inl ⟨_, _, i, _, rfl, rfl, sqL_sub S2.up h, e2, fin _ (.int _)⟩
          | wd =>
            cases ra2 with
            | wd hp =>
              obtain ⟨h1, h2, h4, h3⟩ := S2.wd.dr _ hp
              have r4 : RpL C.k D2 [V.ref C.k.sq, .int w2.pl, .int w2.rem, .int w2.seed] [.scr w2.ns, .int w2.pl, .int w2.rem, .int w2.seed] := .cons (.scr (by rw [h4]; exact h3)) (.cons (.int _) (.cons (.int _) (.cons (.int _) .nil)))
              obtain ⟨v, hv, rv⟩ := atI_rp r4 ef
              exact .inl ⟨_, _, i, v, rfl, rfl, SqL.of h1, hv, fin v rv⟩
          | _ => cases ef
        | _ => cases a <;> cases ef
theorem de_ix {a b : Expr} {pos : PySem.Pos} {ga gb : GE} (ha : DE F a ga) (hb : DE F b gb) (hs : PlainIx b := by intro _ _; rfl) : DE F (.Subscript a b pos) (gIx ga gb) := by
  obtain ⟨ta, a1, a2⟩ := ha.ex
  obtain ⟨tb, b1, b2⟩ := hb.ex
  exact ⟨⟨fun W => tOp (rIx F.K) (ta W) (tb W), fun X W O T => pe_ix (by rw [← O.K]; exact ix_seq) (a1 X W O T) (b1 X W O T) hs, fun W => den_ix (a2 W) (b2 W)⟩⟩
/-! ### the draws' list written -/
def wdPut (w : Ds) (i v : Int) : Option Ds := if i = 1 then some { w with pl := v } else if i = 2 then some { w with rem := v } else if i = 3 then some { w with seed := v } else none
/-- d[i] = e, d the draws' list in slot n, i written -/
def sWd (n : Nat) (i : Int) (g : GE) : GS := fun env w => match g env w with
  | .ok (.int v) w1 => match env[n]? with
    | some (.dat .wd) => match wdPut w1 i v with
      | some w2 => .nx env w2
      | none => .bad
    | _ => .bad
  | .ok _ _ => .bad
  | .exc c fs w1 => .exc c fs env w1
  | .bad => .bad
theorem Sta.wdSet {C : Ct} {env : Env} {w w' : Ds} {σ : St} {D H : Hp} {p : Addr} (S : Sta C env w σ D H []) (hp : C.k.pd = some p) (hn : w'.ns = w.ns) : Sta C env w' σ D (upd H p (.lst [.ref C.k.sq, .int w'.pl, .int w'.rem, .int w'.seed])) [] := by
  obtain ⟨h1, h2, h4, h3⟩ := S.wd.dr p hp
  obtain ⟨fp, g1, g2, g3⟩ := S.sl
  refine ⟨fun a o e => ?_, S.d0, fun b o hb e => ?_, S.nw, ⟨fun q hq => ?_, fun q hq => ⟨tabs_put (S.wd.tb q hq).1 h1 (fun z => ?_) (fun c z => by unfold LamX.CodeO at z; cases z), (S.wd.tb q hq).2⟩, fun a xs e => (by
    by_cases z : a = p
    · rw [z, upd_same] at e; cases e
    · rw [upd_ne z] at e; exact S.wd.tp a xs e)⟩, fp, g1.mono (Sub.refl _) fun q hq u e => ?_, g2, g3⟩
  · rw [upd_ne (ne_of_none e h2)]; exact S.up a o e
  · rw [upd_ne fun z => hb (by rw [z]; exact .inl hp)]; exact S.kp b o hb e
  · rw [hp] at hq
    cases hq
    exact ⟨upd_same, h2, hn.trans h4, h3⟩
  · obtain ⟨⟨ps, e, _⟩, _⟩ := S.wd.tb q hq
    rw [← z, h1] at e
    cases e
  · rw [upd_ne fun z => (g3 q hq).2.2 (by rw [z]; exact .inl hp)]; exact e
theorem ds_wd {x : Str} {e : Expr} {i : Int} {j : Nat} {p1 p2 p3 pos : PySem.Pos} {g : GE} (n : Nat) (hN : F.N[n]? = some x) (hv : Vis F.sc x) (h : DE F e g) (hi : i = 1 ∨ i = 2 ∨ i = 3) (hd : (x == ("__debug__" : Str)) = false := by decide +kernel) (hcd : (x == ("__classdict__" : Str)) = false := by decide +kernel)
    (hs : ∀ env, swapsWithSole [.Subscript (.Name x p1) (.Constant (.int i) j p2) p3] e pos.line env = pure false := by intro _; rfl) (hw : ∀ env, swappedStores [.Subscript (.Name x p1) (.Constant (.int i) j p2) p3] e env = pure none := by intro _; rfl) (h1 : ∀ env, (assignEach [.Subscript (.Name x p1) (.Constant (.int i) j p2) p3] env).map (·.2) = [assign (.Subscript (.Name x p1) (.Constant (.int i) j p2) p3) env] := by intro _; rfl) :
    DS F (.Assign [.Subscript (.Name x p1) (.Constant (.int i) j p2) p3] e pos) (sWd n i g) := by
  obtain ⟨t, a1, a2⟩ := h.ex
  refine ⟨⟨fun W => tAsg (t W) (gSub (tVar n) (tC (.int i)) rSetL), fun X W O T => ps_asg (a1 X W O T) (pg_sub (pe_var (by rw [O.N]; exact hN) (by rw [O.sc]; exact hv) hd hcd) pe_int set_list) (hs _) (hw _) (h1 _), fun W C env w σ D H Dn K S p => ?_⟩⟩
  refine a2 W C env w σ D H _ K S ?_
  unfold sWd at p
  cases e : g env w with
  | bad => rw [e] at p; exact p
  | exc c fs w1 => rw [e] at p; exact p σ
  | ok d w1 =>
    rw [e] at p
    intro v D' H' S' s' r
    cases d with
    | int z =>
      cases r
      simp only at p
      cases en : env[n]? with
      | none => rw [en] at p; exact p.elim
      | some s =>
        rw [en] at p
        cases s with
        | un => exact p.elim
        | own o => exact p.elim
        | dat d =>
          cases d with
          | wd =>
            simp only at p
            obtain ⟨v, hv, rv⟩ := S'.dat en
            cases rv with
            | wd hp =>
              obtain ⟨g1, g2, g4, g3⟩ := S'.wd.dr _ hp
              cases ew : wdPut w1 i z with
              | none => rw [ew] at p; exact p.elim
              | some w2 =>
                rw [ew] at p
                have key : ∃ m : Nat, ixN 4 i = some m ∧ ([V.ref C.k.sq, .int w1.pl, .int w1.rem, .int w1.seed].set m (.int z)) = [V.ref C.k.sq, .int w2.pl, .int w2.rem, .int w2.seed] ∧ w2.ns = w1.ns := by
                  rcases hi with rfl | rfl | rfl
                  · cases ew; exact ⟨1, rfl, rfl, rfl⟩
                  · cases ew; exact ⟨2, rfl, rfl, rfl⟩
                  · cases ew; exact ⟨3, rfl, rfl, rfl⟩
                obtain ⟨m, k1, k2, k3⟩ := key
                refine ⟨_, hv, _, _, i, m, rfl, rfl, g1, k1, ?_⟩
                rw [k2]
                exact p σ D' _ (S'.wdSet hp k3)
          | _ => exact p.elim
    | _ => exact p.elim
/-! ### slices -/
def cutG {α : Type} (xs : List α) (lo hi : Option Int) : List α := (xs.drop (HT.sIx xs.length 0 lo)).take (HT.sIx xs.length xs.length hi - HT.sIx xs.length 0 lo)
theorem cutG_rp {k : Kp} {D : Hp} {vs : List V} {ds : List Dt} (r : RpL k D vs ds) (lo hi : Option Int) : RpL k D (cutV vs lo hi) (cutG ds lo hi) := by
  unfold cutV cutG
  rw [r.length]
  exact (r.drop _).take _
abbrev GO := Env → Ds → Out (Option Int)
def PostO (C : Ct) (env : Env) (σ : St) (D : Hp) (W : WX) (o : Out (Option Int)) (Q : Option Int → Hp → Prop) : Prop := match o with
  | .ok r w => ∀ D' H', Sta C env w σ D' H' [] → Sub D D' → Q r H'
  | .exc c fs w => PostX C env σ W c fs w
  | .bad => False
def DenO (F : Fc) (W : WX) (t : TO) (g : GO) : Prop := ∀ C env w σ D H Q, Kin F C → Sta C env w σ D H [] → PostO C env σ D W (g env w) Q → t σ H Q
structure DO (F : Fc) (e : Option Expr) (g : GO) : Prop where
  ex : ∃ t : WX → TO, (∀ X W, On F X → Tk X W → PO X e (t W)) ∧ ∀ W, DenO F W (t W) g
def gNoPart : GO := fun _ w => .ok none w
def gPart (g : GE) : GO := fun env w => (g env w).bind fun a w1 => match a with
  | .int i => .ok (some i) w1
  | _ => .bad
theorem do_none : DO F none gNoPart := ⟨⟨fun _ => tNoPart, fun _ _ _ _ => po_none, fun W C env w σ D H Q K S p => p D H S (Sub.refl _)⟩⟩
theorem do_some {e : Expr} {g : GE} (h : DE F e g) : DO F (some e) (gPart g) := by
  obtain ⟨t, a1, a2⟩ := h.ex
  refine ⟨⟨fun W => tPart (t W), fun X W O T => po_some (a1 X W O T), fun W C env w σ D H Q K S p => ?_⟩⟩
  refine a2 W C env w σ D H _ K S ?_
  unfold gPart at p
  cases ea : g env w with
  | bad => rw [ea] at p; exact p.elim
  | exc c fs w1 => rw [ea] at p; exact p
  | ok o w1 =>
    rw [ea] at p
    simp only [Out.bind] at p
    intro v D' H' S' s' r
    cases o with
    | int i => cases r; exact ⟨i, rfl, p D' H' S' s'⟩
    | _ => exact p.elim
def oSl : Dt → Option Int → Option Int → Option Dt
  | .str z, lo, hi => if z.length ≤ sizeLine then some (.str (cutS z lo hi)) else none
  | .lst xs, lo, hi => some (.lst (cutG xs lo hi))
  | .tup xs, lo, hi => if HT.sIx xs.length 0 lo = 0 ∧ HT.sIx xs.length xs.length hi = xs.length then none else some (.tup (cutG xs lo hi))
  | _, _, _ => none
def gSl (ga : GE) (gl gh : GO) : GE := fun env w => (ga env w).bind fun a w1 => (gl env w1).bind fun lo w2 => (gh env w2).bind fun hi w3 => match oSl a lo hi with
  | some r => .ok r w3
  | none => .bad
def rSlA (K : PySem.W.Frag) : V → Option Int → Option Int → Hp → VK → Prop := fun x lo hi H Q => rSlS x lo hi H Q ∨ rSlL K x lo hi H Q ∨ rSlT K x lo hi H Q
theorem den_sl {W : WX} {ta : TE} {tl th : TO} {ga : GE} {gl gh : GO} (ha : DenE F W ta ga) (hl : DenO F W tl gl) (hh : DenO F W th gh) : DenE F W (tSl (rSlA F.K) ta tl th) (gSl ga gl gh) := by
  intro C env w σ D H Q K S p
  refine ha C env w σ D H _ K S ?_
  unfold gSl at p
  cases ea : ga env w with
  | bad => rw [ea] at p; exact p.elim
  | exc c fs w1 => rw [ea] at p; exact p
  | ok a w1 =>
    rw [ea] at p
    intro x D1 H1 S1 s1 ra
    refine hl C env w1 σ D1 H1 _ K S1 ?_
    simp only [Out.bind] at p
    cases el : gl env w1 with
    | bad => rw [el] at p; exact p.elim
    | exc c fs w2 => rw [el] at p; exact p
    | ok lo w2 =>
      rw [el] at p
      simp only [Out.bind] at p
      intro D2 H2 S2 s2
      refine hh C env w2 σ D2 H2 _ K S2 ?_
      cases eh : gh env w2 with
      | bad => rw [eh] at p; exact p.elim
      | exc c fs w3 => rw [eh] at p; exact p
      | ok hi w3 =>
        rw [eh] at p
        simp only [Out.bind] at p
        intro D3 H3 S3 s3
        have ra3 := ra.mono (s2.trans s3)
        have s := s1.trans (s2.trans s3)
        cases a with
        | str z =>
          cases ra3
          simp only [oSl] at p
          split at p
          · rename_i r hr
            split at hr
            · rename_i hz
              cases hr
              exact .inl ⟨z, rfl, hz, p _ D3 H3 S3 s (.str _)⟩
            · cases hr
          · exact p.elim
        | lst xs =>
          cases ra3 with
          | lst h r =>
            simp only [oSl] at p
            exact .inr (.inl ⟨_, _, rfl, SqL.of (S3.up _ _ h), fun q hq => p _ _ _ (S3.ex (Ex.new S3.up hq)) (s.trans (Ex.new (o := .lst (cutV _ lo hi)) S3.up hq).sub) (.lst upd_same ((cutG_rp r lo hi).mono (Ex.new (o := .lst (cutV _ lo hi)) S3.up hq).sub))⟩)
        | tup xs =>
          cases ra3 with
          | tup h r =>
            simp only [oSl] at p
            split at p
            · rename_i r' hr
              split at hr
              · cases hr
              · rename_i hne
                cases hr
                rw [← K.K]
                exact .inr (.inr ⟨_, _, rfl, tupS S3.up h, by rw [r.length]; exact hne, fun q hq => p _ _ _ (S3.ex (Ex.new S3.up hq)) (s.trans (Ex.new (o := .tup (cutV _ lo hi)) S3.up hq).sub) (.tup upd_same ((cutG_rp r lo hi).mono (Ex.new (o := .tup (cutV _ lo hi)) S3.up hq).sub))⟩)
            · exact p.elim
        | _ => exact p.elim
theorem de_sl {a : Expr} {lo hi : Option Expr} {p2 pos : PySem.Pos} {ga : GE} {gl gh : GO} (ha : DE F a ga) (hl : DO F lo gl) (hh : DO F hi gh) : DE F (.Subscript a (.Slice lo hi none p2) pos) (gSl ga gl gh) := by
  obtain ⟨ta, a1, a2⟩ := ha.ex
  obtain ⟨tl, l1, l2⟩ := hl.ex
  obtain ⟨th, h1, h2⟩ := hh.ex
  exact ⟨⟨fun W => tSl (rSlA F.K) (ta W) (tl W) (th W), fun X W O T => pe_slice (by rw [← O.K]; exact sl_str.or (sl_list.or sl_tup)) (a1 X W O T) (l1 X W O T) (h1 X W O T), fun W => den_sl (a2 W) (l2 W) (h2 W)⟩⟩
/-! ### built-ins by name -/
theorem de_callB {x : Str} {id : String} {r : List V → Hp → VK → Prop} {f : List Dt → Option Dt} {p pos : PySem.Pos} {e : Expr} {es : List Expr} {ga : GA} (hc : ∀ X, On F X → CallR X (.builtin id) r) (hp : ∀ k : Kp, k.K = F.K → k.cls = F.cls → PosN k r f)
    (hv : bootBuiltins x = some (.builtin id)) (hg : F.sc.names.lookup x = some .globalImplicit) (hm : F.mg x = none) (h : DL F (e :: es) ga) (hn : x ≠ "__name__" := by decide +kernel) (hdb : (x == ("__debug__" : Str)) = false := by decide +kernel)
    (hs : ∀ env, starEach (e :: es) env = (false, eval e env) :: starEach es env := by intro _; rfl) (hpl : ∀ env, (backTo pos (starEach es env)).any (·.1) = false := by intro _; rfl) :
    DE F (.Call (.Name x p) (e :: es) [] pos) (gArgs f ga) := by
  obtain ⟨t, a1, a2⟩ := h.ex
  exact ⟨⟨fun W => tCB r (t W), fun X W O T => pe_callB (hc X O) (by show X.env.scope.names.lookup x = _; rw [O.sc]; exact hg) (by rw [O.mg]; exact hm) hv (a1 X W O T) hn hdb (hs _) (hpl _), fun W => den_args (a2 W) hp⟩⟩
theorem de_callT {x : Str} {T : String} {r : List V → Hp → VK → Prop} {f : List Dt → Option Dt} {p pos : PySem.Pos} {e : Expr} {es : List Expr} {ga : GA} (hc : ∀ X, On F X → CallR X (.type T) r) (hp : ∀ k : Kp, k.K = F.K → k.cls = F.cls → PosN k r f)
    (hv : bootBuiltins x = some (.type T)) (hg : F.sc.names.lookup x = some .globalImplicit) (hm : F.mg x = none) (h : DL F (e :: es) ga) (hn : x ≠ "__name__" := by decide +kernel) (hdb : (x == ("__debug__" : Str)) = false := by decide +kernel)
    (hs : ∀ env, starEach (e :: es) env = (false, eval e env) :: starEach es env := by intro _; rfl) (hpl : ∀ env, (backTo pos (starEach es env)).any (·.1) = false := by intro _; rfl) :
    DE F (.Call (.Name x p) (e :: es) [] pos) (gArgs f ga) := by
  obtain ⟨t, a1, a2⟩ := h.ex
  exact ⟨⟨fun W => tCB r (t W), fun X W O T => pe_callTy (hc X O) (by show X.env.scope.names.lookup x = _; rw [O.sc]; exact hg) (by rw [O.mg]; exact hm) hv (a1 X W O T) hn hdb (hs _) (hpl _), fun W => den_args (a2 W) hp⟩⟩
theorem df_callT {x : Str} {T : String} {r : List V → Hp → VK → Prop} {f : List Dt → Option Ow} {p pos : PySem.Pos} {e : Expr} {es : List Expr} {ga : GA} (hc : ∀ X, On F X → CallR X (.type T) r) (hp : ∀ k : Kp, k.K = F.K → k.cls = F.cls → NewN k r f)
    (hv : bootBuiltins x = some (.type T)) (hg : F.sc.names.lookup x = some .globalImplicit) (hm : F.mg x = none) (h : DL F (e :: es) ga) (hn : x ≠ "__name__" := by decide +kernel) (hdb : (x == ("__debug__" : Str)) = false := by decide +kernel)
    (hs : ∀ env, starEach (e :: es) env = (false, eval e env) :: starEach es env := by intro _; rfl) (hpl : ∀ env, (backTo pos (starEach es env)).any (·.1) = false := by intro _; rfl) :
    DF F (.Call (.Name x p) (e :: es) [] pos) (gArgsF f ga) := by
  obtain ⟨t, a1, a2⟩ := h.ex
  exact ⟨⟨fun W => tCB r (t W), fun X W O T => pe_callTy (hc X O) (by show X.env.scope.names.lookup x = _; rw [O.sc]; exact hg) (by rw [O.mg]; exact hm) hv (a1 X W O T) hn hdb (hs _) (hpl _), fun W => den_argsF (a2 W) hp⟩⟩
/-- len -/
def oLen : List Dt → Option Dt
  | [.str z] => if z.length ≤ sizeLine then some (.int (z.length : Int)) else none
  | [.lst xs] => some (.int (xs.length : Int))
  | [.tup xs] => some (.int (xs.length : Int))
  | [.scr ns] => some (.int (ns.length : Int))
  | _ => none
theorem pos_len {k : Kp} : PosN k (fun xs H Q => ∃ x n, xs = [x] ∧ LenV k.K x H n ∧ Q (.int n) H) oLen := by
  intro D H xs as z u r e Q q
  match as, r, e with
  | [.str y], .cons (.str _) .nil, e =>
    simp only [oLen] at e
    split at e
    · rename_i hz
      cases e
      exact ⟨_, _, rfl, ⟨hz, rfl⟩, q _ D H (Ex.refl u) (.int _)⟩
    · cases e
  | [.tup ds], .cons (.tup h1 r1) .nil, e =>
    cases e
    exact ⟨_, _, rfl, .inr ⟨_, tupS u h1, rfl⟩, by rw [r1.length]; exact q _ D H (Ex.refl u) (.int _)⟩
  | [.lst ds], .cons (.lst h1 r1) .nil, e =>
    cases e
    exact ⟨_, _, rfl, .inl ⟨_, SqL.of (u _ _ h1), rfl⟩, by rw [r1.length]; exact q _ D H (Ex.refl u) (.int _)⟩
  | [.scr ns], .cons (.scr h1) .nil, e =>
    cases e
    exact ⟨_, _, rfl, .inl ⟨_, sqL_sub u h1, rfl⟩, by rw [List.length_map]; exact q _ D H (Ex.refl u) (.int _)⟩
theorem de_len {p pos : PySem.Pos} {e : Expr} {ga : GA} (hg : F.sc.names.lookup ("len" : Str) = some .globalImplicit) (hm : F.mg "len" = none) (h : DL F [e] ga) (hs : ∀ env, starEach [e] env = (false, eval e env) :: starEach [] env := by intro _; rfl) :
    DE F (.Call (.Name "len" p) [e] [] pos) (gArgs oLen ga) :=
  de_callB (r := fun xs H Q => ∃ x n, xs = [x] ∧ LenV F.K x H n ∧ Q (.int n) H) (fun X O => by rw [← O.K]; exact call_len) (fun k hK _ => by rw [← hK]; exact pos_len) PySem.boot_len hg hm h (by decide +kernel) (by decide +kernel) hs
/-- any, all -/
def blsOf : List Dt → Option (List Bool)
  | [] => some []
  | .bl b :: r => (blsOf r).map (b :: ·)
  | _ => none
def oAny : List Dt → Option Dt
  | [.lst xs] => (blsOf xs).map fun bs => .bl (bs.any id)
  | _ => none
/-- abs, min, max of two, int -/
def oAbs : List Dt → Option Dt
  | [.int i] => some (.int (if i < 0 then -i else i))
  | _ => none
def oMin2 : List Dt → Option Dt
  | [.int i, .int j] => some (.int (if j < i then j else i))
  | _ => none
def oMax2 : List Dt → Option Dt
  | [.int i, .int j] => some (.int (if j > i then j else i))
  | _ => none
theorem rp_ints : ∀ {k : Kp} {D : Hp} {vs : List V} {is : List Int}, RpL k D vs (is.map .int) → vs = is.map .int
  | _, _, _, [], .nil => rfl
  | _, _, _, i :: is, .cons (.int _) r => by rw [rp_ints r, List.map_cons]
theorem de_abs {p pos : PySem.Pos} {e : Expr} {ga : GA} (hg : F.sc.names.lookup ("abs" : Str) = some .globalImplicit) (hm : F.mg "abs" = none) (h : DL F [e] ga) (hs : ∀ env, starEach [e] env = (false, eval e env) :: starEach [] env := by intro _; rfl) :
    DE F (.Call (.Name "abs" p) [e] [] pos) (gArgs oAbs ga) :=
  de_callB (fun X O => call_abs) (fun k hK _ D H xs as z u r ee Q q => by
    match as, r, ee with
    | [.int i], r, ee =>
      cases ee
      rw [rp_ints (is := [i]) r]
      exact ⟨i, rfl, q _ D H (Ex.refl u) (.int _)⟩) (by decide +kernel) hg hm h (by decide +kernel) (by decide +kernel) hs
theorem de_min2 {p pos : PySem.Pos} {e1 e2 : Expr} {ga : GA} (hc : F.calm = true) (hg : F.sc.names.lookup ("min" : Str) = some .globalImplicit) (hm : F.mg "min" = none) (h : DL F [e1, e2] ga) (hs : ∀ env, starEach [e1, e2] env = (false, eval e1 env) :: starEach [e2] env := by intro _; rfl) (hpl : ∀ env, (backTo pos (starEach [e2] env)).any (·.1) = false := by intro _; rfl) :
    DE F (.Call (.Name "min" p) [e1, e2] [] pos) (gArgs oMin2 ga) :=
  de_callB (fun X O => call_min2 (O.calm hc)) (fun k hK _ D H xs as z u r ee Q q => by
    match as, r, ee with
    | [.int i, .int j], r, ee =>
      cases ee
      rw [rp_ints (is := [i, j]) r]
      exact ⟨i, j, rfl, q _ D H (Ex.refl u) (.int _)⟩) (by decide +kernel) hg hm h (by decide +kernel) (by decide +kernel) hs hpl
/-- list(x), tuple(x) of lists and tuples -/
def oList : List Dt → Option Ow
  | [.lst xs] => some (.lst xs)
  | [.tup xs] => some (.lst xs)
  | [.scr ns] => some (.lst (ns.map .int))
  | _ => none
def oTuple : List Dt → Option Dt
  | [.lst xs] => some (.tup xs)
  | [.tup xs] => some (.tup xs)
  | _ => none
theorem rpl_ints {k : Kp} {D : Hp} : ∀ ns : List Int, RpL k D (ns.map V.int) (ns.map Dt.int)
  | [] => .nil
  | n :: ns => .cons (.int n) (rpl_ints ns)
theorem own_new {k : Kp} {D H : Hp} {p : Addr} {vs : List V} {ds : List Dt} (r : RpL k D vs ds) : ∀ C : Ct, C.k = k → OwnAt C D (upd H p (.lst vs)) p (.lst ds) [p] := fun C e => ⟨rfl, vs, upd_same, by rw [e]; exact r⟩
theorem one_new {D H : Hp} {p : Addr} (u : Sub D H) (hp : H p = none) : ∀ q ∈ [p], H q = none ∧ D q = none := fun q hq => by rw [List.mem_singleton.mp hq]; exact ⟨hp, none_of u hp⟩
theorem df_list {p pos : PySem.Pos} {e : Expr} {ga : GA} (hg : F.sc.names.lookup ("list" : Str) = some .globalImplicit) (hm : F.mg "list" = none) (h : DL F [e] ga) (hs : ∀ env, starEach [e] env = (false, eval e env) :: starEach [] env := by intro _; rfl) :
    DF F (.Call (.Name "list" p) [e] [] pos) (gArgsF oList ga) :=
  df_callT (r := fun xs H Q => ∃ p ys, xs = [.ref p] ∧ (SqL F.K H p ys ∨ SqT F.K H p ys) ∧ ∀ l, H l = none → Q (.ref l) (upd H l (.lst ys))) (fun X O => by rw [← O.K]; exact call_list_of) (fun k hK _ D H xs as z u r ee Q q => by
    match as, r, ee with
    | [.lst ds], .cons (.lst h1 r1) .nil, ee =>
      cases ee
      exact ⟨_, _, rfl, .inl (SqL.of (u _ _ h1)), fun l hl => q l D _ [l] (Ex.hid u hl) (own_new r1) (by simp) (one_new u hl)⟩
    | [.tup ds], .cons (.tup h1 r1) .nil, ee =>
      cases ee
      rw [← hK]
      exact ⟨_, _, rfl, .inr (tupS u h1), fun l hl => q l D _ [l] (Ex.hid u hl) (own_new r1) (by simp) (one_new u hl)⟩
    | [.scr ns], .cons (.scr h1) .nil, ee =>
      cases ee
      rw [← hK]
      exact ⟨_, _, rfl, .inl (sqL_sub u h1), fun l hl => q l D _ [l] (Ex.hid u hl) (own_new (rpl_ints ns)) (by simp) (one_new u hl)⟩) (by decide +kernel) hg hm h (by decide +kernel) (by decide +kernel) hs
theorem de_tuple {p pos : PySem.Pos} {e : Expr} {ga : GA} (hg : F.sc.names.lookup ("tuple" : Str) = some .globalImplicit) (hm : F.mg "tuple" = none) (h : DL F [e] ga) (hs : ∀ env, starEach [e] env = (false, eval e env) :: starEach [] env := by intro _; rfl) :
    DE F (.Call (.Name "tuple" p) [e] [] pos) (gArgs oTuple ga) :=
  de_callT (r := fun xs H Q => ∃ p ys, xs = [.ref p] ∧ ((SqL F.K H p ys ∧ ∀ l, H l = none → Q (.ref l) (upd H l (.tup ys))) ∨ (SqT F.K H p ys ∧ Q (.ref p) H))) (fun X O => by rw [← O.K]; exact call_tuple_of) (fun k hK _ D H xs as z u r ee Q q => by
    match as, r, ee with
    | [.lst ds], .cons (.lst h1 r1) .nil, ee =>
      cases ee
      exact ⟨_, _, rfl, .inl ⟨SqL.of (u _ _ h1), fun l hl => q _ _ _ (Ex.new u hl) (.tup upd_same (r1.mono (Ex.new (o := .tup _) u hl).sub))⟩⟩
    | [.tup ds], .cons (.tup h1 r1) .nil, ee =>
      cases ee
      rw [← hK]
      exact ⟨_, _, rfl, .inr ⟨tupS u h1, q _ D H (Ex.refl u) (.tup h1 r1)⟩⟩) (by decide +kernel) hg hm h (by decide +kernel) (by decide +kernel) hs
end
end Dn
end
section
/-! zip(.., strict=True) of two or three lists, tuples, texts: begun, walked, its rule. -/
namespace Zs
open PySem PySem.Spec PyProof.Rows L2
open Sem (wp)
theorem F.typeCall2 (a1 a2 : Value) : checkTypeCall "zip" ⟨[a1, a2], [(Str.ofString "strict", .bool true)]⟩ = pure () := by kernel_rfl
theorem F.newCall2 (a1 a2 : Value) : checkBuiltinCall "zip.__new__" ⟨[.type "zip", a1, a2], [(Str.ofString "strict", .bool true)]⟩ = pure () := by kernel_rfl
theorem F.initArgs2 (obj a1 a2 : Value) : argsOk "object.__init__" ⟨[obj, a1, a2], [(Str.ofString "strict", .bool true)]⟩ := by unfold argsOk; kernel_rfl
abbrev sZ2 (h : Heap) (o1 o2 : Obj) : Heap := (gzO2 h o1 o2).push { cls := .type "zip", data := .fields #[.none, .bool false, .bool true, .ref ((h.push o1).push o2).objs.size, .ref (gzT2 h o1 o2).objs.size] }
theorem meets_zipS2 {v1 v2 : Value} {o1 o2 : Obj} {H1 H2 : Heap → Prop} (B1 : Begins v1 o1 H1) (B2 : Begins v2 o2 H2) :
    Meets (Builtin.«zip.__new__» ⟨[.type "zip", v1, v2], [(Str.ofString "strict", .bool true)]⟩) (fun _ R s => (H1 s.heap ∧ H2 s.heap) ∧
      R (.ok (.ret (.ref (gzO2 s.heap o1 o2).objs.size))) { s with heap := sZ2 s.heap o1 o2 }) :=
  .of_wp fun prog w A R s h => by
    obtain ⟨hp, g, d, tk, os⟩ := s; obtain ⟨⟨h1, h2⟩, h⟩ := h
    have hsub := sub_zip
    have q1 : ∀ {A' : Around} {E : Value → Shared → Prop} {Q : Value → Shared → Prop}, Q (.ref hp.objs.size) ⟨(hp.push o1), g, d, tk, os⟩ → wpAny (model prog w) A' (pyIter v1) Q E ⟨hp, g, d, tk, os⟩ :=
      fun q => B1.iter prog w _ _ ⟨hp, g, d, tk, os⟩ _ (B1.keeps _ _ h1 fun b o' e => e) q
    have q2 : ∀ {A' : Around} {E : Value → Shared → Prop} {Q : Value → Shared → Prop}, Q (.ref (hp.push o1).objs.size) ⟨((hp.push o1).push o2), g, d, tk, os⟩ → wpAny (model prog w) A' (pyIter v2) Q E ⟨(hp.push o1), g, d, tk, os⟩ :=
      fun q => B2.iter prog w _ _ ⟨(hp.push o1), g, d, tk, os⟩ _ (B2.keeps _ _ h2 fun b o' e => (Heap.get?_push_of_some _ e)) q
    have e1 : (Str.ofString "strict" == ("strict" : Str)) = true := by decide +kernel
    have e2 : (Str.ofString "strict" != ("strict" : Str)) = false := by decide +kernel
    wp_walk using q1, q2
    exact ⟨_, rfl, h⟩
section
variable {prog : Program} {w : World} {A : Around} {E : Value → Shared → Prop} {s : Shared}
theorem begins2 {v1 v2 : Value} {o1 o2 : Obj} {H1 H2 : Heap → Prop} {Q : Value → Shared → Prop} (B1 : Begins v1 o1 H1) (B2 : Begins v2 o2 H2) (h1 : H1 s.heap) (h2 : H2 s.heap)
    (h : ∀ h', ZipAt h' (s.heap.objs.size + 4) (s.heap.objs.size + 2) (s.heap.objs.size + 3) .none → Tp2 h' (s.heap.objs.size + 2) (.ref s.heap.objs.size) (.ref (s.heap.objs.size + 1)) →
      Tp2 h' (s.heap.objs.size + 3) .none .none → h'.get? s.heap.objs.size = some o1 → h'.get? (s.heap.objs.size + 1) = some o2 → h'.objs.size = s.heap.objs.size + 5 →
      (∀ c o, s.heap.get? c = some o → h'.get? c = some o) → Q (.ref (s.heap.objs.size + 4)) { s with heap := h' }) :
    wpAny (model prog w) A (call (.type "zip") [v1, v2] [(Str.ofString "strict", .bool true)]) Q E s := by
  refine callType_newKw PySem.F.called_zip (by decide) (F.typeCall2 _ _) (F.newCall2 _ _) (fun obj => F.initArgs2 obj _ _) PySem.F.entry_zip_new
    (meets_zipS2 B1 B2) ⟨⟨h1, h2⟩, ?_⟩
  have z1 : (s.heap.push o1).objs.size = s.heap.objs.size + 1 := by rw [Heap.size_push]
  have z2 : ((s.heap.push o1).push o2).objs.size = s.heap.objs.size + 2 := by rw [Heap.size_push, z1]
  have zT : (gzT2 s.heap o1 o2).objs.size = s.heap.objs.size + 3 := by rw [Heap.size_push, z2]
  have zO : (gzO2 s.heap o1 o2).objs.size = s.heap.objs.size + 4 := by rw [Heap.size_push, zT]
  have zZ : (sZ2 s.heap o1 o2).objs.size = s.heap.objs.size + 5 := by rw [Heap.size_push, zO]
  have gZ : (sZ2 s.heap o1 o2).get? (gzO2 s.heap o1 o2).objs.size = some { cls := .type "zip", data := .fields #[.none, .bool false, .bool true, .ref ((s.heap.push o1).push o2).objs.size, .ref (gzT2 s.heap o1 o2).objs.size] } := Heap.get?_push_size _ rfl
  have gO : (sZ2 s.heap o1 o2).get? (gzT2 s.heap o1 o2).objs.size = some { cls := .type "tuple", data := .seq #[.none, .none] } := Heap.get?_push_of_some _ (Heap.get?_push_size _ rfl)
  have gT : (sZ2 s.heap o1 o2).get? ((s.heap.push o1).push o2).objs.size = some { cls := .type "tuple", data := .seq #[.ref s.heap.objs.size, .ref (s.heap.push o1).objs.size] } := Heap.get?_push_of_some _ (Heap.get?_push_of_some _ (Heap.get?_push_size _ rfl))
  have g1 : (sZ2 s.heap o1 o2).get? s.heap.objs.size = some o1 := Heap.get?_push_of_some _ (Heap.get?_push_of_some _ (Heap.get?_push_of_some _ (Heap.get?_push_of_some _ (Heap.get?_push_size _ B1.free))))
  have g2 : (sZ2 s.heap o1 o2).get? (s.heap.push o1).objs.size = some o2 := Heap.get?_push_of_some _ (Heap.get?_push_of_some _ (Heap.get?_push_of_some _ (Heap.get?_push_size _ B2.free)))
  rw [zO, zT, z2] at gZ
  rw [zT] at gO
  rw [z2, z1] at gT
  rw [z1] at g2
  show _ ∧ _
  rw [zO]
  exact ⟨⟨_, gZ, rfl⟩, h _ gZ gT gO g1 g2 zZ fun c o e => Heap.get?_push_of_some _ (Heap.get?_push_of_some _ (Heap.get?_push_of_some _ (Heap.get?_push_of_some _ (Heap.get?_push_of_some _ e))))⟩
end
theorem F.typeCall3 (a1 a2 a3 : Value) : checkTypeCall "zip" ⟨[a1, a2, a3], [(Str.ofString "strict", .bool true)]⟩ = pure () := by kernel_rfl
theorem F.newCall3 (a1 a2 a3 : Value) : checkBuiltinCall "zip.__new__" ⟨[.type "zip", a1, a2, a3], [(Str.ofString "strict", .bool true)]⟩ = pure () := by kernel_rfl
theorem F.initArgs3 (obj a1 a2 a3 : Value) : argsOk "object.__init__" ⟨[obj, a1, a2, a3], [(Str.ofString "strict", .bool true)]⟩ := by unfold argsOk; kernel_rfl
abbrev sZ3 (h : Heap) (o1 o2 o3 : Obj) : Heap := (gzO3 h o1 o2 o3).push { cls := .type "zip", data := .fields #[.none, .bool false, .bool true, .ref (((h.push o1).push o2).push o3).objs.size, .ref (gzT3 h o1 o2 o3).objs.size] }
theorem meets_zipS3 {v1 v2 v3 : Value} {o1 o2 o3 : Obj} {H1 H2 H3 : Heap → Prop} (B1 : Begins v1 o1 H1) (B2 : Begins v2 o2 H2) (B3 : Begins v3 o3 H3) :
    Meets (Builtin.«zip.__new__» ⟨[.type "zip", v1, v2, v3], [(Str.ofString "strict", .bool true)]⟩) (fun _ R s => (H1 s.heap ∧ H2 s.heap ∧ H3 s.heap) ∧
      R (.ok (.ret (.ref (gzO3 s.heap o1 o2 o3).objs.size))) { s with heap := sZ3 s.heap o1 o2 o3 }) :=
  .of_wp fun prog w A R s h => by
    obtain ⟨hp, g, d, tk, os⟩ := s; obtain ⟨⟨h1, h2, h3⟩, h⟩ := h
    have hsub := sub_zip
    have q1 : ∀ {A' : Around} {E : Value → Shared → Prop} {Q : Value → Shared → Prop}, Q (.ref hp.objs.size) ⟨(hp.push o1), g, d, tk, os⟩ → wpAny (model prog w) A' (pyIter v1) Q E ⟨hp, g, d, tk, os⟩ :=
      fun q => B1.iter prog w _ _ ⟨hp, g, d, tk, os⟩ _ (B1.keeps _ _ h1 fun b o' e => e) q
    have q2 : ∀ {A' : Around} {E : Value → Shared → Prop} {Q : Value → Shared → Prop}, Q (.ref (hp.push o1).objs.size) ⟨((hp.push o1).push o2), g, d, tk, os⟩ → wpAny (model prog w) A' (pyIter v2) Q E ⟨(hp.push o1), g, d, tk, os⟩ :=
      fun q => B2.iter prog w _ _ ⟨(hp.push o1), g, d, tk, os⟩ _ (B2.keeps _ _ h2 fun b o' e => (Heap.get?_push_of_some _ e)) q
    have q3 : ∀ {A' : Around} {E : Value → Shared → Prop} {Q : Value → Shared → Prop}, Q (.ref ((hp.push o1).push o2).objs.size) ⟨(((hp.push o1).push o2).push o3), g, d, tk, os⟩ → wpAny (model prog w) A' (pyIter v3) Q E ⟨((hp.push o1).push o2), g, d, tk, os⟩ :=
      fun q => B3.iter prog w _ _ ⟨((hp.push o1).push o2), g, d, tk, os⟩ _ (B3.keeps _ _ h3 fun b o' e => (Heap.get?_push_of_some _ (Heap.get?_push_of_some _ e))) q
    have e1 : (Str.ofString "strict" == ("strict" : Str)) = true := by decide +kernel
    have e2 : (Str.ofString "strict" != ("strict" : Str)) = false := by decide +kernel
    wp_walk using q1, q2, q3
    exact ⟨_, rfl, h⟩
section
variable {prog : Program} {w : World} {A : Around} {E : Value → Shared → Prop} {s : Shared}
theorem begins3 {v1 v2 v3 : Value} {o1 o2 o3 : Obj} {H1 H2 H3 : Heap → Prop} {Q : Value → Shared → Prop} (B1 : Begins v1 o1 H1) (B2 : Begins v2 o2 H2) (B3 : Begins v3 o3 H3) (h1 : H1 s.heap) (h2 : H2 s.heap) (h3 : H3 s.heap)
    (h : ∀ h', ZipAt h' (s.heap.objs.size + 5) (s.heap.objs.size + 3) (s.heap.objs.size + 4) .none → Tp3 h' (s.heap.objs.size + 3) (.ref s.heap.objs.size) (.ref (s.heap.objs.size + 1)) (.ref (s.heap.objs.size + 2)) →
      Tp3 h' (s.heap.objs.size + 4) .none .none .none → h'.get? s.heap.objs.size = some o1 → h'.get? (s.heap.objs.size + 1) = some o2 → h'.get? (s.heap.objs.size + 2) = some o3 → h'.objs.size = s.heap.objs.size + 6 →
      (∀ c o, s.heap.get? c = some o → h'.get? c = some o) → Q (.ref (s.heap.objs.size + 5)) { s with heap := h' }) :
    wpAny (model prog w) A (call (.type "zip") [v1, v2, v3] [(Str.ofString "strict", .bool true)]) Q E s := by
  refine callType_newKw PySem.F.called_zip (by decide) (F.typeCall3 _ _ _) (F.newCall3 _ _ _) (fun obj => F.initArgs3 obj _ _ _) PySem.F.entry_zip_new
    (meets_zipS3 B1 B2 B3) ⟨⟨h1, h2, h3⟩, ?_⟩
  have z1 : (s.heap.push o1).objs.size = s.heap.objs.size + 1 := by rw [Heap.size_push]
  have z2 : ((s.heap.push o1).push o2).objs.size = s.heap.objs.size + 2 := by rw [Heap.size_push, z1]
  have z3 : (((s.heap.push o1).push o2).push o3).objs.size = s.heap.objs.size + 3 := by rw [Heap.size_push, z2]
  have zT : (gzT3 s.heap o1 o2 o3).objs.size = s.heap.objs.size + 4 := by rw [Heap.size_push, z3]
  have zO : (gzO3 s.heap o1 o2 o3).objs.size = s.heap.objs.size + 5 := by rw [Heap.size_push, zT]
  have zZ : (sZ3 s.heap o1 o2 o3).objs.size = s.heap.objs.size + 6 := by rw [Heap.size_push, zO]
  have gZ : (sZ3 s.heap o1 o2 o3).get? (gzO3 s.heap o1 o2 o3).objs.size = some { cls := .type "zip", data := .fields #[.none, .bool false, .bool true, .ref (((s.heap.push o1).push o2).push o3).objs.size, .ref (gzT3 s.heap o1 o2 o3).objs.size] } := Heap.get?_push_size _ rfl
  have gO : (sZ3 s.heap o1 o2 o3).get? (gzT3 s.heap o1 o2 o3).objs.size = some { cls := .type "tuple", data := .seq #[.none, .none, .none] } := Heap.get?_push_of_some _ (Heap.get?_push_size _ rfl)
  have gT : (sZ3 s.heap o1 o2 o3).get? (((s.heap.push o1).push o2).push o3).objs.size = some { cls := .type "tuple", data := .seq #[.ref s.heap.objs.size, .ref (s.heap.push o1).objs.size, .ref ((s.heap.push o1).push o2).objs.size] } := Heap.get?_push_of_some _ (Heap.get?_push_of_some _ (Heap.get?_push_size _ rfl))
  have g1 : (sZ3 s.heap o1 o2 o3).get? s.heap.objs.size = some o1 := Heap.get?_push_of_some _ (Heap.get?_push_of_some _ (Heap.get?_push_of_some _ (Heap.get?_push_of_some _ (Heap.get?_push_of_some _ (Heap.get?_push_size _ B1.free)))))
  have g2 : (sZ3 s.heap o1 o2 o3).get? (s.heap.push o1).objs.size = some o2 := Heap.get?_push_of_some _ (Heap.get?_push_of_some _ (Heap.get?_push_of_some _ (Heap.get?_push_of_some _ (Heap.get?_push_size _ B2.free))))
  have g3 : (sZ3 s.heap o1 o2 o3).get? ((s.heap.push o1).push o2).objs.size = some o3 := Heap.get?_push_of_some _ (Heap.get?_push_of_some _ (Heap.get?_push_of_some _ (Heap.get?_push_size _ B3.free)))
  rw [zO, zT, z3] at gZ
  rw [zT] at gO
  rw [z3, z2, z1] at gT
  rw [z1] at g2
  rw [z2] at g3
  show _ ∧ _
  rw [zO]
  exact ⟨⟨_, gZ, rfl⟩, h _ gZ gT gO g1 g2 g3 zZ fun c o e => Heap.get?_push_of_some _ (Heap.get?_push_of_some _ (Heap.get?_push_of_some _ (Heap.get?_push_of_some _ (Heap.get?_push_of_some _ (Heap.get?_push_of_some _ e)))))⟩
end
end Zs
end
section
namespace Zs
open PySem PySem.Spec PyProof.Rows L2
open Sem (wp)
/-! ### sources -/
inductive Src where
  | l (a : Addr)
  | t (a : Addr)
  | s (x : Str)
def Src.at : Src → Heap → Addr → Nat → Prop
  | .l a, h, it, i => h.IsListIter it a i
  | .t a, h, it, i => h.IsTupleIter it a i
  | .s x, h, it, i => ∃ k, h.IsStrIter it (strIterType x) x k i
def Src.fp : Src → List Addr
  | .l a => [a]
  | .t a => [a]
  | .s _ => []
def signV (x : Str) : List V := x.cps.toList.map fun c => V.str ⟨#[c]⟩
def Src.val (K : PySem.W.Frag) (H : Hp) : Src → List V → Prop
  | .l a, xs => SqL K H a xs
  | .t a, xs => SqT K H a xs
  | .s x, xs => xs = signV x
theorem Src.at.keep {S : Src} {h h' : Heap} {it : Addr} {i : Nat} (st : S.at h it i) (k : ∀ o, h.get? it = some o → h'.get? it = some o) : S.at h' it i := by
  cases S with
  | l a => exact Heap.IsListIter.at st k
  | t a => obtain ⟨o, ho, r⟩ := st; exact ⟨o, k o ho, r⟩
  | s x => obtain ⟨t, o, ho, r⟩ := st; exact ⟨t, o, k o ho, r⟩
theorem Src.at.obj {S : Src} {h : Heap} {it : Addr} {i : Nat} (st : S.at h it i) : ∃ o, h.get? it = some o ∧ ∀ v, o.data ≠ .cell v := by
  cases S with
  | l a => obtain ⟨o, e, _, d⟩ := st; exact ⟨o, e, fun v q => by rw [d] at q; cases q⟩
  | t a => obtain ⟨o, e, _, d⟩ := st; exact ⟨o, e, fun v q => by rw [d] at q; cases q⟩
  | s x => obtain ⟨_, o, e, _, d⟩ := st; exact ⟨o, e, fun v q => by rw [d] at q; cases q⟩
/-- what the source is as a value -/
def Src.is : Src → V → Prop
  | .l a, v => v = .ref a
  | .t a, v => v = .ref a
  | .s x, v => v = .str x
section
variable {X : Cx} {pins : List (Addr × Obj)} {σ : L2.St} {H : Hp} {s : Shared}
theorem paired_back {xs : List V} {its : List Value} (rv : Paired RelV xs its) {i : Nat} {v : Value} (e : its[i]? = some v) : ∃ x, xs[i]? = some x ∧ RelV x v := by
  have hl : i < xs.length := by
    have := List.getElem?_eq_some_iff.mp e
    rw [rv.length]; exact this.1
  obtain ⟨u, hu, r⟩ := L2.paired_get rv (List.getElem?_eq_getElem hl)
  rw [e] at hu
  cases hu
  exact ⟨_, List.getElem?_eq_getElem hl, r⟩
theorem src_draws {S : Src} {xs : List V} {it : Addr} {i : Nat} (hh : X.A.handled = none) (I : Inv X pins σ H s) (hv : S.val X.K H xs) (st : S.at s.heap it i) (hn : it ∉ S.fp) :
    ∃ (T : Nat → Heap → Prop) (Pv : Nat → Value → Prop), Draws X.prog X.w X.A.in1 it (it :: S.fp) xs.length Pv T ∧ T i s.heap ∧ (∀ i h, T i h → S.at h it i) ∧ ∀ i v, Pv i v → ∃ x, xs[i]? = some x ∧ RelV x v := by
  cases S with
  | l a =>
    obtain ⟨its, rv, p, _⟩ := I.list hv
    refine ⟨fun i h => h.IsListIter it a i ∧ h.IsList a its.toArray, fun i v => its.toArray[i]? = some v, (by rw [rv.length]; exact Draws.list (A := X.A.in1) hh it a (fun e => hn (by rw [← e]; exact List.mem_singleton.mpr rfl)) its.toArray), ⟨st, p.isList⟩, fun i h t => t.1, fun i v e => ?_⟩
    have e' : its[i]? = some v := by simpa using e
    exact paired_back rv e'
  | t a =>
    obtain ⟨its, rv, p, _⟩ := I.tuple hv
    refine ⟨fun i h => h.IsTupleIter it a i ∧ h.IsTuple a its.toArray, fun i v => its.toArray[i]? = some v, (by rw [rv.length]; exact Draws.tuple (A := X.A.in1) hh it a (fun e => hn (by rw [← e]; exact List.mem_singleton.mpr rfl)) its.toArray), ⟨st, p⟩, fun i h t => t.1, fun i v e => ?_⟩
    have e' : its[i]? = some v := by simpa using e
    exact paired_back rv e'
  | s x =>
    obtain ⟨t, st⟩ := st
    cases hv
    refine ⟨_, _, (by
      have e : (signV x).length = x.cps.size := by unfold signV; simp
      rw [e]
      exact Draws.text (A := X.A.in1) hh it x t), st, fun i h q => ⟨t, q⟩, fun i v e => ?_⟩
    obtain ⟨c, u, hc, rfl⟩ := e
    exact ⟨.str ⟨#[c]⟩, by unfold signV; simp [hc], u, rfl⟩
/-- its iterator -/
theorem src_begins {S : Src} {v : V} {u : Value} {xs : List V} (I : Inv X pins σ H s) (hs : S.is v) (r : RelV v u) (hv : S.val X.K H xs) :
    ∃ (o : Obj) (G : Heap → Prop), Begins u o G ∧ G s.heap ∧ (∀ h it, h.get? it = some o → S.at h it 0) ∧ ∀ a ∈ S.fp, a < s.heap.objs.size := by
  cases S with
  | l a =>
    cases hs; cases r
    obtain ⟨its, rv, p, _⟩ := I.list hv
    exact ⟨_, _, begins_list a its.toArray, p.isList, fun h it e => ⟨_, e, rfl, rfl⟩, fun b hb => by rw [List.mem_singleton.mp hb]; exact p.lt⟩
  | t a =>
    cases hs; cases r
    obtain ⟨its, rv, p, _⟩ := I.tuple hv
    exact ⟨_, _, begins_tuple a its.toArray, p, fun h it e => ⟨_, e, rfl, rfl⟩, fun b hb => by rw [List.mem_singleton.mp hb]; exact p.lt⟩
  | s x =>
    cases hs
    obtain ⟨t, rfl⟩ := r
    exact ⟨_, _, begins_text x t, trivial, fun h it e => ⟨t, _, e, rfl, rfl⟩, fun b hb => nomatch hb⟩
theorem src_inj {S : Src} {xs ys : List V} (I : Inv X pins σ H s) (h1 : S.val X.K H xs) (h2 : S.val X.K H ys) : xs = ys := by
  cases S with
  | l a => exact I.list_inj h1 h2
  | t a => exact I.tuple_inj h1 h2
  | s x => rw [show xs = signV x from h1, show ys = signV x from h2]
end
def It2 (K : PySem.W.Frag) (S1 S2 : Src) : It :=
  ⟨fun i H => ∃ xs1 xs2 : List V, S1.val K H xs1 ∧ S2.val K H xs2 ∧ xs2.length = xs1.length ∧ i < xs1.length,
    fun i H v H' => ∃ T x1 x2, v = .ref T ∧ H T = none ∧ H' = upd H T (.tup [x1, x2]) ∧ (∀ xs, S1.val K H xs → xs[i]? = some x1) ∧ (∀ xs, S2.val K H xs → xs[i]? = some x2),
    fun i H => ∃ xs1 xs2 : List V, S1.val K H xs1 ∧ S2.val K H xs2 ∧ xs2.length = xs1.length ∧ i = xs1.length⟩
theorem pnext2_item {P : Program} {w : World} {A : Around} {E : Value → Shared → Prop} {s : Shared} {z TI TO i1 i2 : Addr} {f1 f2 : List Addr} {n i : Nat} {P1 : Nat → Value → Prop} {T1 : Nat → Heap → Prop} {P2 : Nat → Value → Prop} {T2 : Nat → Heap → Prop} {a1 a2 : Value} {Q : Option Value → Shared → Prop} (S : Sep2 z TI TO i1 i2 f1 f2) (D1 : Draws P w A.in1 i1 f1 n P1 T1) (D2 : Draws P w A.in1 i2 f2 n P2 T2)
    (hz : ZipAt s.heap z TI TO .none) (hI : Tp2 s.heap TI (.ref i1) (.ref i2)) (hO : Tp2 s.heap TO a1 a2) (t1 : T1 i s.heap) (t2 : T2 i s.heap) (hi : i < n)
    (hQ : ∀ x1 x2 hp tk, P1 i x1 → P2 i x2 → ZipAt hp z TI TO (rawInt s.heap.objs.size) → Tp2 hp TI (.ref i1) (.ref i2) → Tp2 hp TO x1 x2 → T1 (i + 1) hp → T2 (i + 1) hp → Tp2 hp s.heap.objs.size x1 x2 → hp.objs.size = s.heap.objs.size + 1 →
      (∀ c o, c ≠ z → c ≠ TO → c ≠ i1 → c ≠ i2 → s.heap.get? c = some o → hp.get? c = some o) → Q (some (.ref s.heap.objs.size)) { s with heap := hp, toks := tk }) :
    wpAny (model P w) A (pyNext (.ref z)) Q E s := by
  have hT : s.TypeIs (.ref z) "zip" := ⟨_, hz, rfl⟩
  unfold pyNext
  exact wpAny_bind (wpAny_attempt (wpAny_callSpecial?_slot (name := Str.ofString "__next__") hT PySem.F.slot_zip_next
    (wpAny_call_entry PySem.F.slot_zip_next hT PySem.F.entry_zip_next
      (zs2_item S D1 D2 hz hI hO t1 t2 hi fun x1 x2 hp tk p1 p2 q1 q2 q3 w1 w2 q4 q5 q6 => wpAny_pure (hQ x1 x2 hp tk p1 p2 q1 q2 q3 w1 w2 q4 q5 q6)) (PySem.F.args_zip_next_1 _))))
theorem pnext2_end {P : Program} {w : World} {A : Around} {E : Value → Shared → Prop} {s : Shared} {z TI TO i1 i2 : Addr} {f1 f2 : List Addr} {n i : Nat} {P1 : Nat → Value → Prop} {T1 : Nat → Heap → Prop} {P2 : Nat → Value → Prop} {T2 : Nat → Heap → Prop} {a1 a2 : Value} {Q : Option Value → Shared → Prop} (S : Sep2 z TI TO i1 i2 f1 f2) (D1 : Draws P w A.in1 i1 f1 n P1 T1) (D2 : Draws P w A.in1 i2 f2 n P2 T2) (hh : A.handled = none)
    (hz : ZipAt s.heap z TI TO .none) (hI : Tp2 s.heap TI (.ref i1) (.ref i2)) (hO : Tp2 s.heap TO a1 a2) (t1 : T1 i s.heap) (t2 : T2 i s.heap) (hi : i = n)
    (hQ : ∀ hp tk, (∀ c o, c ≠ z → c ≠ TO → c ≠ i1 → c ≠ i2 → s.heap.get? c = some o → hp.get? c = some o) → Q none { s with heap := hp, toks := tk }) :
    wpAny (model P w) A (pyNext (.ref z)) Q E s := by
  have hT : s.TypeIs (.ref z) "zip" := ⟨_, hz, rfl⟩
  unfold pyNext
  refine wpAny_bind (wpAny_attempt (wpAny_callSpecial?_slot (name := Str.ofString "__next__") hT PySem.F.slot_zip_next
    (wpAny_call_entry PySem.F.slot_zip_next hT PySem.F.entry_zip_next (zs2_end S D1 D2 hh hz hI hO t1 t2 hi fun hp tk e kp he => ?_) (PySem.F.args_zip_next_1 _))))
  obtain ⟨o, ho, hc⟩ := he
  refine wpAny_bind (wpAny_isInstance (T := "StopIteration") (b := true) ⟨o, ho, hc⟩ isSubtype_stop ?_)
  exact wpAny_pure (hQ _ _ kp)
theorem letGo {P : Program} {w : World} {A : Around} {E : Value → Shared → Prop} {s : Shared} {elts : List Expr} {x1} {pos : Pos} {z TI TO T : Addr} {Q : Unit → Shared → Prop} (hz : ZipAt s.heap z TI TO (rawInt T))
    (hQ : ∀ h', ZipAt h' z TI TO .none → Heap.SameBut z s.heap h' → Q () { s with heap := h' }) :
    wpAny (model P w) A (letOwnedTupleGo (.Tuple elts x1 pos) (.ref z) (.ref T)) Q E s := by
  unfold letOwnedTupleGo
  refine wpAny_bind (wpAny_load hz ?_)
  show wpAny _ _ (if (["enumerate", "zip", "dict_itemiterator", "dict_reverseitemiterator", "odict_iterator", "itertools.zip_longest", "itertools.pairwise"].contains "zip" &&
      (#[rawInt T, .bool false, .bool true, .ref TI, .ref TO] : Array Value)[0]? == some (rawInt T)) = true then _ else _) Q E s
  rw [if_pos (by simp)]
  refine wpAny_bind (wpAny_rule ?_)
  show wpAny _ _ (setField (.ref z) 0 .none) Q E s
  exact wpAny_setField_rec hz (by simp) fun h' hz' hs' => hQ h' hz' hs'
theorem iterSelf {P : Program} {w : World} {A : Around} {E : Value → Shared → Prop} {s : Shared} {z TI TO : Addr} {f0 : Value} {Q : Value → Shared → Prop} (hz : ZipAt s.heap z TI TO f0) (h : Q (.ref z) s) : wpAny (model P w) A (pyIter (.ref z)) Q E s := by
  have hT : s.TypeIs (.ref z) "zip" := ⟨_, hz, rfl⟩
  refine wpAny_pyIter_slot hT PySem.F.slot_zip_iter (wpAny_call_entry PySem.F.slot_zip_iter hT PySem.F.entry_zip_iter ?_ (PySem.F.args_zip_iter_1 _))
  show wpAny _ _ (ret (.ref z)) _ _ s
  exact wpAny_pure ⟨_, rfl, "zip", _, hT, PySem.F.slot_zip_next.lookup, h⟩
theorem turn2 {P : Program} {w : World} {K : PySem.W.Frag} {elts : List Expr} {kk : Nat} {tpos : Pos} {S1 S2 : Src} {z TI TO i1 i2 : Addr} (Sp : Sep2 z TI TO i1 i2 (i1 :: S1.fp) (i2 :: S2.fp)) (n1 : i1 ∉ S1.fp) (n2 : i2 ∉ S2.fp) :
    Turn P w K (.Tuple elts kk tpos) (It2 K S1 S2) [z, TI, TO, i1, i2] z (fun i h => ZipAt h z TI TO .none ∧ Tp2 h TI (.ref i1) (.ref i2) ∧ (∃ a1 a2, Tp2 h TO a1 a2) ∧ S1.at h i1 i ∧ S2.at h i2 i) where
  mem := by simp
  obj := fun i h st c hc => by
    obtain ⟨hz, hTI, ⟨a1, a2, hTO⟩, t1, t2⟩ := st
    have e' : c = z ∨ c = TI ∨ c = TO ∨ c = i1 ∨ c = i2 := by simpa using hc
    rcases e' with q | q | q | q | q
    · rw [q]; exact ⟨_, hz, fun v q => nomatch q⟩
    · rw [q]; exact ⟨_, hTI, fun v q => nomatch q⟩
    · rw [q]; exact ⟨_, hTO, fun v q => nomatch q⟩
    · rw [q]; exact t1.obj
    · rw [q]; exact t2.obj
  keep := fun i h h' st k => by
    obtain ⟨hz, hTI, ⟨a1, a2, hTO⟩, t1, t2⟩ := st
    exact ⟨k z (by simp) _ hz, k TI (by simp) _ hTI, ⟨a1, a2, k TO (by simp) _ hTO⟩, t1.keep fun o q => k i1 (by simp) o q, t2.keep fun o q => k i2 (by simp) o q⟩
  item := by
    intro X hP hw hK hc i pins s σ H E I hf st hg
    subst hP hw hK
    obtain ⟨hz, hTI, ⟨a1, a2, hTO⟩, t1, t2⟩ := st
    obtain ⟨xs1, xs2, v1, v2, l2, hi⟩ := hg
    obtain ⟨T1, P1, D1, s1, b1, r1⟩ := src_draws (I.ok.hd hc) I v1 t1 n1
    obtain ⟨T2, P2, D2, s2, b2, r2⟩ := src_draws (I.ok.hd hc) I v2 t2 n2
    rw [l2] at D2
    have hzl : z < s.heap.objs.size := Heap.lt_size hz
    refine pnext2_item Sp D1 D2 hz hTI hTO s1 s2 hi fun u1 u2 hp tk p1 p2 z' TI' TO' t1' t2' hT hsz hk => ?_
    obtain ⟨x1, e1, g1⟩ := r1 i u1 p1
    obtain ⟨x2, e2, g2⟩ := r2 i u2 p2
    refine ⟨_, rfl, letGo (s := { s with heap := hp, toks := tk }) z' fun h'' z'' sb => ?_⟩
    have hT2 : h''.get? s.heap.objs.size = some { cls := .type "tuple", data := .seq #[u1, u2] } := (sb.2 _ (Nat.ne_of_gt hzl)).trans hT
    have new : ObjOk X.prog X.w (upd H s.heap.objs.size (.tup [x1, x2])) h'' s.heap.objs.size (.tup [x1, x2]) :=
      ⟨by show 2 ≤ sizeLine; decide, [u1, u2], .cons g1 (.cons g2 .nil), ⟨_, hT2, rfl, _, rfl⟩⟩
    have I1 : Inv X pins σ (upd H s.heap.objs.size (.tup [x1, x2])) { heap := h'', gens := s.gens, drawn := s.drawn, toks := tk, os := s.os } :=
      I.turnedNew (t' := tk) (ch := [z, TI, TO, i1, i2]) (fun c o hb q => (sb.2 c (fun q' => hb (by simp [q']))).trans (hk c o (fun q' => hb (by simp [q'])) (fun q' => hb (by simp [q'])) (fun q' => hb (by simp [q'])) (fun q' => hb (by simp [q'])) q)) hf (Nat.le_refl _) new
    refine ⟨.ref s.heap.objs.size, _, I1, rfl, ⟨_, x1, x2, rfl, I.hok.fresh (Nat.le_refl _), rfl, fun l hl => by rw [src_inj I hl v1]; exact e1, fun l hl => by rw [src_inj I hl v2]; exact e2⟩, ⟨z'', ?_, ⟨u1, u2, ?_⟩, ?_, ?_⟩, fun c hcm => ?_⟩
    · exact (sb.2 _ Sp.zT.symm).trans TI'
    · exact (sb.2 _ Sp.zO.symm).trans TO'
    · exact (b1 _ _ t1').keep fun o q => (sb.2 _ Sp.zi1.symm).trans q
    · exact (b2 _ _ t2').keep fun o q => (sb.2 _ Sp.zi2.symm).trans q
    · have hlt : c < s.heap.objs.size := by
        have e' : c = z ∨ c = TI ∨ c = TO ∨ c = i1 ∨ c = i2 := by simpa using hcm
        rcases e' with q | q | q | q | q
        · rw [q]; exact hzl
        · rw [q]; exact Heap.lt_size hTI
        · rw [q]; exact Heap.lt_size hTO
        · rw [q]; obtain ⟨_, e1, _⟩ := t1.obj; exact Heap.lt_size e1
        · rw [q]; obtain ⟨_, e1, _⟩ := t2.obj; exact Heap.lt_size e1
      rw [upd_ne (Nat.ne_of_lt hlt)]
      exact (hf c hcm).1
  done := by
    intro X hP hw hK hc i pins s σ H E I hf st hg
    subst hP hw hK
    obtain ⟨hz, hTI, ⟨a1, a2, hTO⟩, t1, t2⟩ := st
    obtain ⟨xs1, xs2, v1, v2, l2, hi⟩ := hg
    obtain ⟨T1, P1, D1, s1, b1, r1⟩ := src_draws (I.ok.hd hc) I v1 t1 n1
    obtain ⟨T2, P2, D2, s2, b2, r2⟩ := src_draws (I.ok.hd hc) I v2 t2 n2
    rw [l2] at D2
    exact pnext2_end Sp D1 D2 (I.ok.hd hc) hz hTI hTO s1 s2 hi fun hp tk hk => ⟨rfl, I.turnedL (t' := tk) (ch := [z, TI, TO, i1, i2]) (fun c o hb q =>
      hk c o (fun q' => hb (by simp [q'])) (fun q' => hb (by simp [q'])) (fun q' => hb (by simp [q'])) (fun q' => hb (by simp [q'])) q) hf⟩
  self := fun A i s Q E st h => iterSelf st.1 h
def It3 (K : PySem.W.Frag) (S1 S2 S3 : Src) : It :=
  ⟨fun i H => ∃ xs1 xs2 xs3 : List V, S1.val K H xs1 ∧ S2.val K H xs2 ∧ S3.val K H xs3 ∧ xs2.length = xs1.length ∧ xs3.length = xs1.length ∧ i < xs1.length,
    fun i H v H' => ∃ T x1 x2 x3, v = .ref T ∧ H T = none ∧ H' = upd H T (.tup [x1, x2, x3]) ∧ (∀ xs, S1.val K H xs → xs[i]? = some x1) ∧ (∀ xs, S2.val K H xs → xs[i]? = some x2) ∧ (∀ xs, S3.val K H xs → xs[i]? = some x3),
    fun i H => ∃ xs1 xs2 xs3 : List V, S1.val K H xs1 ∧ S2.val K H xs2 ∧ S3.val K H xs3 ∧ xs2.length = xs1.length ∧ xs3.length = xs1.length ∧ i = xs1.length⟩
theorem pnext3_item {P : Program} {w : World} {A : Around} {E : Value → Shared → Prop} {s : Shared} {z TI TO i1 i2 i3 : Addr} {f1 f2 f3 : List Addr} {n i : Nat} {P1 : Nat → Value → Prop} {T1 : Nat → Heap → Prop} {P2 : Nat → Value → Prop} {T2 : Nat → Heap → Prop} {P3 : Nat → Value → Prop} {T3 : Nat → Heap → Prop} {a1 a2 a3 : Value} {Q : Option Value → Shared → Prop} (S : Sep3 z TI TO i1 i2 i3 f1 f2 f3) (D1 : Draws P w A.in1 i1 f1 n P1 T1) (D2 : Draws P w A.in1 i2 f2 n P2 T2) (D3 : Draws P w A.in1 i3 f3 n P3 T3)
    (hz : ZipAt s.heap z TI TO .none) (hI : Tp3 s.heap TI (.ref i1) (.ref i2) (.ref i3)) (hO : Tp3 s.heap TO a1 a2 a3) (t1 : T1 i s.heap) (t2 : T2 i s.heap) (t3 : T3 i s.heap) (hi : i < n)
    (hQ : ∀ x1 x2 x3 hp tk, P1 i x1 → P2 i x2 → P3 i x3 → ZipAt hp z TI TO (rawInt s.heap.objs.size) → Tp3 hp TI (.ref i1) (.ref i2) (.ref i3) → Tp3 hp TO x1 x2 x3 → T1 (i + 1) hp → T2 (i + 1) hp → T3 (i + 1) hp → Tp3 hp s.heap.objs.size x1 x2 x3 → hp.objs.size = s.heap.objs.size + 1 →
      (∀ c o, c ≠ z → c ≠ TO → c ≠ i1 → c ≠ i2 → c ≠ i3 → s.heap.get? c = some o → hp.get? c = some o) → Q (some (.ref s.heap.objs.size)) { s with heap := hp, toks := tk }) :
    wpAny (model P w) A (pyNext (.ref z)) Q E s := by
  have hT : s.TypeIs (.ref z) "zip" := ⟨_, hz, rfl⟩
  unfold pyNext
  exact wpAny_bind (wpAny_attempt (wpAny_callSpecial?_slot (name := Str.ofString "__next__") hT PySem.F.slot_zip_next
    (wpAny_call_entry PySem.F.slot_zip_next hT PySem.F.entry_zip_next
      (zs3_item S D1 D2 D3 hz hI hO t1 t2 t3 hi fun x1 x2 x3 hp tk p1 p2 p3 q1 q2 q3 w1 w2 w3 q4 q5 q6 => wpAny_pure (hQ x1 x2 x3 hp tk p1 p2 p3 q1 q2 q3 w1 w2 w3 q4 q5 q6)) (PySem.F.args_zip_next_1 _))))
theorem pnext3_end {P : Program} {w : World} {A : Around} {E : Value → Shared → Prop} {s : Shared} {z TI TO i1 i2 i3 : Addr} {f1 f2 f3 : List Addr} {n i : Nat} {P1 : Nat → Value → Prop} {T1 : Nat → Heap → Prop} {P2 : Nat → Value → Prop} {T2 : Nat → Heap → Prop} {P3 : Nat → Value → Prop} {T3 : Nat → Heap → Prop} {a1 a2 a3 : Value} {Q : Option Value → Shared → Prop} (S : Sep3 z TI TO i1 i2 i3 f1 f2 f3) (D1 : Draws P w A.in1 i1 f1 n P1 T1) (D2 : Draws P w A.in1 i2 f2 n P2 T2) (D3 : Draws P w A.in1 i3 f3 n P3 T3) (hh : A.handled = none)
    (hz : ZipAt s.heap z TI TO .none) (hI : Tp3 s.heap TI (.ref i1) (.ref i2) (.ref i3)) (hO : Tp3 s.heap TO a1 a2 a3) (t1 : T1 i s.heap) (t2 : T2 i s.heap) (t3 : T3 i s.heap) (hi : i = n)
    (hQ : ∀ hp tk, (∀ c o, c ≠ z → c ≠ TO → c ≠ i1 → c ≠ i2 → c ≠ i3 → s.heap.get? c = some o → hp.get? c = some o) → Q none { s with heap := hp, toks := tk }) :
    wpAny (model P w) A (pyNext (.ref z)) Q E s := by
  have hT : s.TypeIs (.ref z) "zip" := ⟨_, hz, rfl⟩
  unfold pyNext
  refine wpAny_bind (wpAny_attempt (wpAny_callSpecial?_slot (name := Str.ofString "__next__") hT PySem.F.slot_zip_next
    (wpAny_call_entry PySem.F.slot_zip_next hT PySem.F.entry_zip_next (zs3_end S D1 D2 D3 hh hz hI hO t1 t2 t3 hi fun hp tk e kp he => ?_) (PySem.F.args_zip_next_1 _))))
  obtain ⟨o, ho, hc⟩ := he
  refine wpAny_bind (wpAny_isInstance (T := "StopIteration") (b := true) ⟨o, ho, hc⟩ isSubtype_stop ?_)
  exact wpAny_pure (hQ _ _ kp)
theorem turn3 {P : Program} {w : World} {K : PySem.W.Frag} {elts : List Expr} {kk : Nat} {tpos : Pos} {S1 S2 S3 : Src} {z TI TO i1 i2 i3 : Addr} (Sp : Sep3 z TI TO i1 i2 i3 (i1 :: S1.fp) (i2 :: S2.fp) (i3 :: S3.fp)) (n1 : i1 ∉ S1.fp) (n2 : i2 ∉ S2.fp) (n3 : i3 ∉ S3.fp) :
    Turn P w K (.Tuple elts kk tpos) (It3 K S1 S2 S3) [z, TI, TO, i1, i2, i3] z (fun i h => ZipAt h z TI TO .none ∧ Tp3 h TI (.ref i1) (.ref i2) (.ref i3) ∧ (∃ a1 a2 a3, Tp3 h TO a1 a2 a3) ∧ S1.at h i1 i ∧ S2.at h i2 i ∧ S3.at h i3 i) where
  mem := by simp
  obj := fun i h st c hc => by
    obtain ⟨hz, hTI, ⟨a1, a2, a3, hTO⟩, t1, t2, t3⟩ := st
    have e' : c = z ∨ c = TI ∨ c = TO ∨ c = i1 ∨ c = i2 ∨ c = i3 := by simpa using hc
    rcases e' with q | q | q | q | q | q
    · rw [q]; exact ⟨_, hz, fun v q => nomatch q⟩
    · rw [q]; exact ⟨_, hTI, fun v q => nomatch q⟩
    · rw [q]; exact ⟨_, hTO, fun v q => nomatch q⟩
    · rw [q]; exact t1.obj
    · rw [q]; exact t2.obj
    · rw [q]; exact t3.obj
  keep := fun i h h' st k => by
    obtain ⟨hz, hTI, ⟨a1, a2, a3, hTO⟩, t1, t2, t3⟩ := st
    exact ⟨k z (by simp) _ hz, k TI (by simp) _ hTI, ⟨a1, a2, a3, k TO (by simp) _ hTO⟩, t1.keep fun o q => k i1 (by simp) o q, t2.keep fun o q => k i2 (by simp) o q, t3.keep fun o q => k i3 (by simp) o q⟩
  item := by
    intro X hP hw hK hc i pins s σ H E I hf st hg
    subst hP hw hK
    obtain ⟨hz, hTI, ⟨a1, a2, a3, hTO⟩, t1, t2, t3⟩ := st
    obtain ⟨xs1, xs2, xs3, v1, v2, v3, l2, l3, hi⟩ := hg
    obtain ⟨T1, P1, D1, s1, b1, r1⟩ := src_draws (I.ok.hd hc) I v1 t1 n1
    obtain ⟨T2, P2, D2, s2, b2, r2⟩ := src_draws (I.ok.hd hc) I v2 t2 n2
    rw [l2] at D2
    obtain ⟨T3, P3, D3, s3, b3, r3⟩ := src_draws (I.ok.hd hc) I v3 t3 n3
    rw [l3] at D3
    have hzl : z < s.heap.objs.size := Heap.lt_size hz
    refine pnext3_item Sp D1 D2 D3 hz hTI hTO s1 s2 s3 hi fun u1 u2 u3 hp tk p1 p2 p3 z' TI' TO' t1' t2' t3' hT hsz hk => ?_
    obtain ⟨x1, e1, g1⟩ := r1 i u1 p1
    obtain ⟨x2, e2, g2⟩ := r2 i u2 p2
    obtain ⟨x3, e3, g3⟩ := r3 i u3 p3
    refine ⟨_, rfl, letGo (s := { s with heap := hp, toks := tk }) z' fun h'' z'' sb => ?_⟩
    have hT2 : h''.get? s.heap.objs.size = some { cls := .type "tuple", data := .seq #[u1, u2, u3] } := (sb.2 _ (Nat.ne_of_gt hzl)).trans hT
    have new : ObjOk X.prog X.w (upd H s.heap.objs.size (.tup [x1, x2, x3])) h'' s.heap.objs.size (.tup [x1, x2, x3]) :=
      ⟨by show 3 ≤ sizeLine; decide, [u1, u2, u3], .cons g1 (.cons g2 (.cons g3 .nil)), ⟨_, hT2, rfl, _, rfl⟩⟩
    have I1 : Inv X pins σ (upd H s.heap.objs.size (.tup [x1, x2, x3])) { heap := h'', gens := s.gens, drawn := s.drawn, toks := tk, os := s.os } :=
      I.turnedNew (t' := tk) (ch := [z, TI, TO, i1, i2, i3]) (fun c o hb q => (sb.2 c (fun q' => hb (by simp [q']))).trans (hk c o (fun q' => hb (by simp [q'])) (fun q' => hb (by simp [q'])) (fun q' => hb (by simp [q'])) (fun q' => hb (by simp [q'])) (fun q' => hb (by simp [q'])) q)) hf (Nat.le_refl _) new
    refine ⟨.ref s.heap.objs.size, _, I1, rfl, ⟨_, x1, x2, x3, rfl, I.hok.fresh (Nat.le_refl _), rfl, fun l hl => by rw [src_inj I hl v1]; exact e1, fun l hl => by rw [src_inj I hl v2]; exact e2, fun l hl => by rw [src_inj I hl v3]; exact e3⟩, ⟨z'', ?_, ⟨u1, u2, u3, ?_⟩, ?_, ?_, ?_⟩, fun c hcm => ?_⟩
    · exact (sb.2 _ Sp.zT.symm).trans TI'
    · exact (sb.2 _ Sp.zO.symm).trans TO'
    · exact (b1 _ _ t1').keep fun o q => (sb.2 _ Sp.zi1.symm).trans q
    · exact (b2 _ _ t2').keep fun o q => (sb.2 _ Sp.zi2.symm).trans q
    · exact (b3 _ _ t3').keep fun o q => (sb.2 _ Sp.zi3.symm).trans q
    · have hlt : c < s.heap.objs.size := by
        have e' : c = z ∨ c = TI ∨ c = TO ∨ c = i1 ∨ c = i2 ∨ c = i3 := by simpa using hcm
        rcases e' with q | q | q | q | q | q
        · rw [q]; exact hzl
        · rw [q]; exact Heap.lt_size hTI
        · rw [q]; exact Heap.lt_size hTO
        · rw [q]; obtain ⟨_, e1, _⟩ := t1.obj; exact Heap.lt_size e1
        · rw [q]; obtain ⟨_, e1, _⟩ := t2.obj; exact Heap.lt_size e1
        · rw [q]; obtain ⟨_, e1, _⟩ := t3.obj; exact Heap.lt_size e1
      rw [upd_ne (Nat.ne_of_lt hlt)]
      exact (hf c hcm).1
  done := by
    intro X hP hw hK hc i pins s σ H E I hf st hg
    subst hP hw hK
    obtain ⟨hz, hTI, ⟨a1, a2, a3, hTO⟩, t1, t2, t3⟩ := st
    obtain ⟨xs1, xs2, xs3, v1, v2, v3, l2, l3, hi⟩ := hg
    obtain ⟨T1, P1, D1, s1, b1, r1⟩ := src_draws (I.ok.hd hc) I v1 t1 n1
    obtain ⟨T2, P2, D2, s2, b2, r2⟩ := src_draws (I.ok.hd hc) I v2 t2 n2
    rw [l2] at D2
    obtain ⟨T3, P3, D3, s3, b3, r3⟩ := src_draws (I.ok.hd hc) I v3 t3 n3
    rw [l3] at D3
    exact pnext3_end Sp D1 D2 D3 (I.ok.hd hc) hz hTI hTO s1 s2 s3 hi fun hp tk hk => ⟨rfl, I.turnedL (t' := tk) (ch := [z, TI, TO, i1, i2, i3]) (fun c o hb q =>
      hk c o (fun q' => hb (by simp [q'])) (fun q' => hb (by simp [q'])) (fun q' => hb (by simp [q'])) (fun q' => hb (by simp [q'])) (fun q' => hb (by simp [q'])) q) hf⟩
  self := fun A i s Q E st h => iterSelf st.1 h
end Zs
end
section
/-! enumerate over lists, tuples, texts; the iterations as PI. -/
namespace Zs
open PySem PySem.Spec PyProof.Rows L2
open Sem (wp)
theorem meets_enum1 {v : Value} {o : Obj} {H : Heap → Prop} (B : Begins v o H) :
    Meets (Builtin.«enumerate.__new__» ⟨[.type "enumerate", v], []⟩) (fun _ R s => H s.heap ∧
      R (.ok (.ret (.ref (s.heap.push o).objs.size))) { s with heap := (s.heap.push o).push { cls := .type "enumerate", data := .fields #[.none, .bool false, .ref s.heap.objs.size, rawInt 0, .none, .none] } }) :=
  .of_wp fun prog w A R s h => by
    obtain ⟨hp, g, d, tk, os⟩ := s; obtain ⟨h1, h⟩ := h
    have hsub := sub_enumerate
    have q1 : ∀ {A' : Around} {E : Value → Shared → Prop} {Q : Value → Shared → Prop}, Q (.ref hp.objs.size) ⟨hp.push o, g, d, tk, os⟩ → wpAny (model prog w) A' (pyIter v) Q E ⟨hp, g, d, tk, os⟩ :=
      fun q => B.iter prog w _ _ ⟨hp, g, d, tk, os⟩ _ h1 q
    wp_walk using q1
    refine wpAny_stack_any fun st => wpAny_pure ?_
    split
    · rename_i c _ _ _ _ _
      cases (c == Value.type "enumerate")
      · wp_walk using q1
        exact ⟨_, rfl, h⟩
      · wp_walk using q1
        exact ⟨_, rfl, h⟩
    · wp_walk using q1
      exact ⟨_, rfl, h⟩
section
variable {prog : Program} {w : World} {A : Around} {E : Value → Shared → Prop} {s : Shared}
theorem enum_begins1 {v : Value} {o : Obj} {H : Heap → Prop} {Q : Value → Shared → Prop} (B : Begins v o H) (h1 : H s.heap)
    (h : ∀ h', IsEnum h' (s.heap.objs.size + 1) s.heap.objs.size 0 .none → h'.get? s.heap.objs.size = some o → h'.objs.size = s.heap.objs.size + 2 →
      (∀ b o, s.heap.get? b = some o → h'.get? b = some o) → Q (.ref (s.heap.objs.size + 1)) { s with heap := h' }) :
    wpAny (model prog w) A (call (.type "enumerate") [v]) Q E s := by
  refine callType_new PySem.F.called_enumerate (by decide) (PySem.F.typeCall_enumerate_1 _) (PySem.F.newCall_enumerate_1 _) (fun obj => PySem.F.args_object_init_2 obj _) PySem.F.entry_enumerate_new
    (meets_enum1 B) ⟨h1, ?_⟩
  have hz : (s.heap.push o).objs.size = s.heap.objs.size + 1 := Heap.size_push ..
  show _ ∧ _
  rw [hz]
  have he : IsEnum ((s.heap.push o).push { cls := .type "enumerate", data := .fields #[.none, .bool false, .ref s.heap.objs.size, rawInt 0, .none, .none] }) (s.heap.objs.size + 1) s.heap.objs.size 0 .none := by
    have := Heap.get?_push_size (s.heap.push o) (o := { cls := .type "enumerate", data := .fields #[.none, .bool false, .ref s.heap.objs.size, rawInt 0, .none, .none] }) rfl
    rw [hz] at this; exact this
  refine ⟨⟨_, he, rfl⟩, h _ he (Heap.get?_push_of_some _ (Heap.get?_push_size _ B.free)) (by rw [Heap.size_push, hz]) fun b o x => Heap.get?_push_of_some _ (Heap.get?_push_of_some _ x)⟩
end
def ItN (K : PySem.W.Frag) (k : Int) (S : Src) : It :=
  ⟨fun i H => ∃ xs : List V, S.val K H xs ∧ i < xs.length,
    fun i H v H' => ∃ T x, v = .ref T ∧ H T = none ∧ H' = upd H T (.tup [.int (k + (i : Int)), x]) ∧ ∀ xs, S.val K H xs → xs[i]? = some x,
    fun i H => ∃ xs : List V, S.val K H xs ∧ i = xs.length⟩
theorem turnN {P : Program} {w : World} {K : PySem.W.Frag} {elts : List Expr} {kk : Nat} {tpos : Pos} {S : Src} {k : Int} {e it : Addr} (hne : e ≠ it) (n1 : it ∉ S.fp) (n2 : e ∉ S.fp) :
    Turn P w K (.Tuple elts kk tpos) (ItN K k S) [e, it] e (fun i h => (∃ old, IsEnum h e it (k + (i : Int)) old) ∧ S.at h it i) where
  mem := by simp
  obj := fun i h st b hb => by
    obtain ⟨⟨old, he⟩, t1⟩ := st
    have e' : b = e ∨ b = it := by simpa using hb
    rcases e' with z | z
    · rw [z]; exact ⟨_, he, fun v q => nomatch q⟩
    · rw [z]; exact t1.obj
  keep := fun i h h' st k => let ⟨⟨old, he⟩, t1⟩ := st; ⟨⟨old, k e (by simp) _ he⟩, t1.keep fun o q => k it (by simp) o q⟩
  item := by
    intro X hP hw hK hc i pins s σ H E I hf st hg
    subst hP hw hK
    obtain ⟨⟨old, he⟩, t1⟩ := st
    obtain ⟨xs, v1, hi⟩ := hg
    obtain ⟨T1, P1, D1, s1, b1, r1⟩ := src_draws (I.ok.hd hc) I v1 t1 n1
    have hel : e < s.heap.objs.size := Heap.lt_size he
    have hil : it < s.heap.objs.size := by obtain ⟨_, q, _⟩ := t1.obj; exact Heap.lt_size q
    refine wpAny_pyNext_enum_itemC D1 he s1 hi hne (fun q => (List.mem_cons.mp q).elim hne n2) fun u hp tk hP ho s1' hT hsz hk => ?_
    obtain ⟨x, ex, gx⟩ := r1 i u hP
    refine ⟨_, rfl, wpAny_letOwnedTupleGo_enum (s := { s with heap := hp, toks := tk + 1 }) ho fun h'' he' sb => ?_⟩
    have hT2 : h''.get? s.heap.objs.size = some { cls := .type "tuple", data := .seq #[.int (k + (i : Int)) tk, u] } := (sb.2 _ (Nat.ne_of_gt hel)).trans hT
    have new : ObjOk X.prog X.w (upd H s.heap.objs.size (.tup [.int (k + (i : Int)), x])) h'' s.heap.objs.size (.tup [.int (k + (i : Int)), x]) :=
      ⟨by show 2 ≤ sizeLine; decide, [.int (k + (i : Int)) tk, u], .cons ⟨_, rfl⟩ (.cons gx .nil), ⟨_, hT2, rfl, _, rfl⟩⟩
    have I1 : Inv X pins σ (upd H s.heap.objs.size (.tup [.int (k + (i : Int)), x])) { heap := h'', gens := s.gens, drawn := s.drawn, toks := tk + 1, os := s.os } :=
      I.turnedNew (t' := tk + 1) (ch := [e, it]) (fun b ob hb q => (sb.2 b (fun z => hb (by simp [z]))).trans (hk b ob (fun z => hb (by simp [z])) (fun z => hb (by simp [z])) q)) hf (Nat.le_refl _) new
    refine ⟨.ref s.heap.objs.size, _, I1, rfl, ⟨_, x, rfl, I.hok.fresh (Nat.le_refl _), rfl, fun l hl => by rw [src_inj I hl v1]; exact ex⟩, ⟨⟨u, ?_⟩, (b1 _ _ s1').keep fun o q => (sb.2 it (Ne.symm hne)).trans q⟩, fun b hb => ?_⟩
    · have e1 : k + ((i + 1 : Nat) : Int) = k + (i : Int) + 1 := by omega
      rw [e1]; exact he'
    · have hb' : b < s.heap.objs.size := by
        have e' : b = e ∨ b = it := by simpa using hb
        rcases e' with z | z
        · rw [z]; exact hel
        · rw [z]; exact hil
      rw [upd_ne (Nat.ne_of_lt hb')]
      exact (hf b hb).1
  done := by
    intro X hP hw hK hc i pins s σ H E I hf st hg
    subst hP hw hK
    obtain ⟨⟨old, he⟩, t1⟩ := st
    obtain ⟨xs, v1, hi⟩ := hg
    obtain ⟨T1, P1, D1, s1, b1, r1⟩ := src_draws (I.ok.hd hc) I v1 t1 n1
    obtain ⟨f0, f1, f2, f3, f4, f5⟩ := hf it (by simp)
    subst hi
    exact wpAny_pyNext_enum_endD D1 he s1 fun h' eb => ⟨rfl, I.turned (t' := s.toks) (fun b o hb q => eb b o hb q) f0 f1 f3 f4 f5⟩
  self := fun A i s Q E st h => let ⟨⟨_, he⟩, _⟩ := st; wpAny_pyIter_enum he h
def It1 (K : PySem.W.Frag) : Src → It
  | .l a => Itl K a
  | .t a => Itt K a
  | .s x => Its x
def iSrc (K : PySem.W.Frag) (te : TE) : TI := fun σ H R => te σ H fun v H1 => ∃ S xs, S.is v ∧ S.val K H1 xs ∧ R (It1 K S) H1
section
variable {X : Cx} {tg e e2 e3 : Expr}
theorem pi_src {te : TE} (he : PE X e te) : PI X tg e (iSrc X.K te) := by
  refine ⟨fun pins s σ H R I h => ?_⟩
  refine thn (he.run pins s σ H _ I h) fun v s1 ⟨y, H1, I1, r1, S, xs, hs, hv, q⟩ => ?_
  cases S with
  | l a =>
    cases hs
    cases r1
    obtain ⟨its, rv, p, hz⟩ := I1.list hv
    exact wpAny_pyIter_list p.isList (pi_one (tk := s1.toks) I1 _ (turn_list a _) ⟨_, Heap.get?_push_size _ rfl, rfl, rfl⟩ q)
  | t a =>
    cases hs
    cases r1
    obtain ⟨its, rv, p, hz⟩ := I1.tuple hv
    exact wpAny_pyIter_tuple (show s1.heap.IsTuple a its.toArray from p) (pi_one (tk := s1.toks) I1 _ (turn_tuple a _) ⟨_, Heap.get?_push_size _ rfl, rfl, rfl⟩ q)
  | s x =>
    cases hs
    obtain ⟨t, rfl⟩ := r1
    cases ha : x.cps.all (· < 128)
    · exact wpAny_pyIter_wide ha (pi_one (tk := s1.toks) I1 _ (turn_str _ x t "str_iterator" (.inr rfl)) ⟨_, Heap.get?_push_size _ rfl, rfl, rfl⟩ q)
    · exact wpAny_pyIter_ascii ha (pi_one (tk := s1.toks) I1 _ (turn_str _ x t "str_ascii_iterator" (.inl rfl)) ⟨_, Heap.get?_push_size _ rfl, rfl, rfl⟩ q)
def iN (K : PySem.W.Frag) (ta : TA) : TI := fun σ H R => ta σ H fun vs H1 => ∃ v S xs, vs = [v] ∧ S.is v ∧ S.val K H1 xs ∧ R (ItN K 0 S) H1
theorem fp2 {s : Shared} {pins : List (Addr × Obj)} {σ : L2.St} {H : Hp} (I : Inv X pins σ H s) {fp : List Addr} {n : Nat} (h : ∀ b ∈ fp, s.heap.objs.size ≤ b) : ∀ b ∈ fp, FpOk X pins H b := fun b hb => I.fpOk (h b hb) (I.hok.fresh (h b hb))
theorem pi_N {ta : TA} {p pos tpos : Pos} {elts : List Expr} {kk : Nat} (hg : Gl X "enumerate") (hm : X.mg "enumerate" = none) (ha : PA X [e] ta) (hs : starEach [e] X.env = (false, eval e X.env) :: starEach [] X.env := by rfl) :
    PI X (.Tuple elts kk tpos) (.Call (.Name "enumerate" p) [e] [] pos) (iN X.K ta) := by
  refine ⟨fun pins s σ H R I h => ?_⟩
  refine Call_ (ld_blt I hg hm boot_enumerate (PyProof.Rows.callWith_type1 (thn (ha.run pos pins s σ H _ I h) fun us s1 ⟨vs, H1, I1, r1, q1⟩ => ?_) hs rfl))
  obtain ⟨v, S, xs, ex, hs1, hv, q⟩ := q1
  subst ex
  cases r1 with
  | cons r rr =>
    cases rr
    obtain ⟨o, G, B, hG, hat, hlt⟩ := src_begins I1 hs1 r hv
    refine enum_begins1 B hG fun h' he hit hsz hk => wpAny_pyIter_enum he ?_
    have I2 : Inv X pins σ H1 { s1 with heap := h' } := I1.kept (t' := s1.toks) hk
    refine ⟨s1.heap.objs.size + 1, [s1.heap.objs.size + 1, s1.heap.objs.size], _, _, H1, rfl, I2, turnN (S := S) (k := 0) (Nat.succ_ne_self _) (fun z => absurd (hlt _ z) (Nat.lt_irrefl _)) (fun z => Nat.lt_asymm (hlt _ z) (Nat.lt_succ_self _)), ⟨⟨.none, by simpa using he⟩, hat _ _ hit⟩, fp2 (n := 0) I1 fun b hb => ?_, q⟩
    have e' : b = s1.heap.objs.size + 1 ∨ b = s1.heap.objs.size := by simpa using hb
    rcases e' with z | z
    · rw [z]; exact Nat.le_add_right _ _
    · rw [z]; exact Nat.le_refl _
theorem callWith_typeKw {M : Model} {A : Around} {E : Value → Shared → Prop} {s : Shared} {env : PySem.Env} {pos : Pos} {id : String} {e : Expr} {rest : List Expr} {kws : List Keyword} {Q : Value → Shared → Prop}
    (h : wpAny M A (spliced (backTo pos (starEach (e :: rest) env))) (fun vs s₁ => wpAny M A (evalAll ((backToKw pos (keywordEach kws env)).map (·.2)))
      (fun kvs s₂ => wpAny M A (call (.type id) vs (((backToKw pos (keywordEach kws env)).filterMap (·.1)).zip kvs)) Q E s₂) E s₁) E s)
    (he : starEach (e :: rest) env = (false, eval e env) :: starEach rest env)
    (hplain : (backTo pos (starEach rest env)).any (·.1) = false)
    (hall : (backToKw pos (keywordEach kws env)).all (·.1.isSome) = true := by rfl)
    (hkw : (backToKw pos (keywordEach kws env)).any (·.1.isNone) = false := by rfl) :
    wpAny M A (callWith pos (.type id) [] (backTo pos (starEach (e :: rest) env)) (backToKw pos (keywordEach kws env))) Q E s := by
  have hp : (backTo pos (starEach (e :: rest) env)).any (·.1) = false := by rw [he]; show (false || (backTo pos (starEach rest env)).any (·.1)) = false; rw [hplain]; rfl
  unfold callWith
  refine wpAny_bind (wpAny_holding ?_)
  have hh : wpAny M A (evalArgs (.type id) true (backTo pos (starEach (e :: rest) env)) (backToKw pos (keywordEach kws env))) (fun a s₁ => wpAny M A (call (.type id) ([] ++ a.pos) a.kw) Q E s₁) E s := by
    rw [he] at h ⊢
    exact evalArgs_kwB hall h
  refine wpAny_mono hh (fun a s₁ h₁ => wpAny_bind (wpAny_standAt ?_)) fun _ _ x => x
  simp only [hp, hkw, Bool.or_false]
  refine wpAny_bind (wpAny_pure ?_)
  exact wpAny_bind (wpAny_mono h₁ (fun r s₂ hr => wpAny_bind (wpAny_holding (wpAny_point (wpAny_pure hr)))) fun _ _ x => x)
end
end Zs
end
section
namespace Zs
open PySem PySem.Spec PyProof.Rows L2
open Sem (wp)
section
variable {X : Cx} {tg e e2 e3 : Expr}
def iZ2 (K : PySem.W.Frag) (ta : TA) : TI := fun σ H R => ta σ H fun vs H1 => ∃ v1 v2 S1 S2 xs1 xs2, vs = [v1, v2] ∧ S1.is v1 ∧ S1.val K H1 xs1 ∧ S2.is v2 ∧ S2.val K H1 xs2 ∧ R (It2 K S1 S2) H1
theorem pi_Z2 {ta : TA} {p pos tpos p3 kp : Pos} {elts : List Expr} {kk j : Nat} (hg : Gl X "zip") (hm : X.mg "zip" = none) (ha : PA X [e, e2] ta) (hs : starEach [e, e2] X.env = (false, eval e X.env) :: starEach [e2] X.env := by rfl) (hpl : (backTo pos (starEach [e2] X.env)).any (·.1) = false := by rfl) :
    PI X (.Tuple elts kk tpos) (.Call (.Name "zip" p) [e, e2] [⟨some (Str.ofString "strict"), .Constant (.bool true) j p3, kp⟩] pos) (iZ2 X.K ta) := by
  refine ⟨fun pins s σ H R I h => ?_⟩
  refine PySem.wpAny_Call_Name_kw (ld_blt I hg hm boot_zip (callWith_typeKw (thn (ha.run pos pins s σ H _ I h) fun us s1 ⟨vs, H1, I1, r1, q1⟩ => ?_) hs hpl))
  have hpk : PK X [⟨some (Str.ofString "strict"), .Constant (.bool true) j p3, kp⟩] (tCons (tC (.bl true)) tNil) := pk_cons pe_bl pk_nil
  refine thn (hpk.run pos pins s1 σ H1 _ I1 (show (tCons (tC (.bl true)) tNil) σ H1 (fun ws H2 => ws = [.bl true] ∧ H2 = H1) from ⟨rfl, rfl⟩)) fun us2 s2 ⟨vs2, H2, I2, r2, e1, e2⟩ => ?_
  subst e1 e2
  obtain ⟨v1, v2, S1, S2, xs1, xs2, ex, hs1, hv1, hs2, hv2, q⟩ := q1
  subst ex
  cases r2 with
  | cons ru rr2 =>
    cases rr2
    cases ru
    cases r1 with
    | cons g1 r1 =>
      cases r1 with
      | cons g2 r1 =>
        cases r1
        obtain ⟨o1, G1, B1, hG1, hat1, hlt1⟩ := src_begins I2 hs1 g1 hv1
        obtain ⟨o2, G2, B2, hG2, hat2, hlt2⟩ := src_begins I2 hs2 g2 hv2
        have nlt1 : ∀ k : Nat, s2.heap.objs.size + k ∉ S1.fp := fun k z => absurd (hlt1 _ z) (Nat.not_lt.mpr (Nat.le_add_right _ _))
        have nlt2 : ∀ k : Nat, s2.heap.objs.size + k ∉ S2.fp := fun k z => absurd (hlt2 _ z) (Nat.not_lt.mpr (Nat.le_add_right _ _))
        refine begins2 B1 B2 hG1 hG2 fun h' hz hTI hTO h1 h2 hsz hk => iterSelf hz ?_
        have I3 : Inv X pins σ H2 { s2 with heap := h' } := I2.kept (t' := s2.toks) hk
        have Sp : Sep2 (s2.heap.objs.size + 4) (s2.heap.objs.size + 2) (s2.heap.objs.size + 3) s2.heap.objs.size (s2.heap.objs.size + 1) (s2.heap.objs.size :: S1.fp) ((s2.heap.objs.size + 1) :: S2.fp) := ⟨fun q => absurd (Nat.add_left_cancel (m := 4) (k := 2) q) (by decide), fun q => absurd (Nat.add_left_cancel (m := 4) (k := 3) q) (by decide), fun q => absurd (Nat.add_left_cancel (m := 2) (k := 3) q) (by decide), List.mem_cons_self, (fun z => (List.mem_cons.mp z).elim (fun q => absurd (Nat.add_left_cancel (m := 4) (k := 0) q) (by decide)) (nlt1 4)), (fun z => (List.mem_cons.mp z).elim (fun q => absurd (Nat.add_left_cancel (m := 2) (k := 0) q) (by decide)) (nlt1 2)), (fun z => (List.mem_cons.mp z).elim (fun q => absurd (Nat.add_left_cancel (m := 3) (k := 0) q) (by decide)) (nlt1 3)), (fun z => (List.mem_cons.mp z).elim (fun q => absurd (Nat.add_left_cancel (m := 0) (k := 1) q) (by decide)) (nlt2 0)), List.mem_cons_self, (fun z => (List.mem_cons.mp z).elim (fun q => absurd (Nat.add_left_cancel (m := 4) (k := 1) q) (by decide)) (nlt2 4)), (fun z => (List.mem_cons.mp z).elim (fun q => absurd (Nat.add_left_cancel (m := 2) (k := 1) q) (by decide)) (nlt2 2)), (fun z => (List.mem_cons.mp z).elim (fun q => absurd (Nat.add_left_cancel (m := 3) (k := 1) q) (by decide)) (nlt2 3)), (fun z => (List.mem_cons.mp z).elim (fun q => absurd (Nat.add_left_cancel (m := 1) (k := 0) q) (by decide)) (nlt1 1))⟩
        refine ⟨s2.heap.objs.size + 4, [s2.heap.objs.size + 4, s2.heap.objs.size + 2, s2.heap.objs.size + 3, s2.heap.objs.size, s2.heap.objs.size + 1], _, _, H2, rfl, I3, turn2 Sp (nlt1 0) (nlt2 1), ⟨hz, hTI, ⟨_, _, hTO⟩, hat1 _ _ h1, hat2 _ _ h2⟩, fp2 (n := 0) I2 fun b hb => ?_, q⟩
        have e' : b = s2.heap.objs.size + 4 ∨ b = s2.heap.objs.size + 2 ∨ b = s2.heap.objs.size + 3 ∨ b = s2.heap.objs.size ∨ b = s2.heap.objs.size + 1 := by simpa using hb
        rcases e' with z | z | z | z | z
        · rw [z]; exact Nat.le_add_right _ _
        · rw [z]; exact Nat.le_add_right _ _
        · rw [z]; exact Nat.le_add_right _ _
        · rw [z]; exact Nat.le_refl _
        · rw [z]; exact Nat.le_add_right _ _
def iZ3 (K : PySem.W.Frag) (ta : TA) : TI := fun σ H R => ta σ H fun vs H1 => ∃ v1 v2 v3 S1 S2 S3 xs1 xs2 xs3, vs = [v1, v2, v3] ∧ S1.is v1 ∧ S1.val K H1 xs1 ∧ S2.is v2 ∧ S2.val K H1 xs2 ∧ S3.is v3 ∧ S3.val K H1 xs3 ∧ R (It3 K S1 S2 S3) H1
theorem pi_Z3 {ta : TA} {p pos tpos p3 kp : Pos} {elts : List Expr} {kk j : Nat} (hg : Gl X "zip") (hm : X.mg "zip" = none) (ha : PA X [e, e2, e3] ta) (hs : starEach [e, e2, e3] X.env = (false, eval e X.env) :: starEach [e2, e3] X.env := by rfl) (hpl : (backTo pos (starEach [e2, e3] X.env)).any (·.1) = false := by rfl) :
    PI X (.Tuple elts kk tpos) (.Call (.Name "zip" p) [e, e2, e3] [⟨some (Str.ofString "strict"), .Constant (.bool true) j p3, kp⟩] pos) (iZ3 X.K ta) := by
  refine ⟨fun pins s σ H R I h => ?_⟩
  refine PySem.wpAny_Call_Name_kw (ld_blt I hg hm boot_zip (callWith_typeKw (thn (ha.run pos pins s σ H _ I h) fun us s1 ⟨vs, H1, I1, r1, q1⟩ => ?_) hs hpl))
  have hpk : PK X [⟨some (Str.ofString "strict"), .Constant (.bool true) j p3, kp⟩] (tCons (tC (.bl true)) tNil) := pk_cons pe_bl pk_nil
  refine thn (hpk.run pos pins s1 σ H1 _ I1 (show (tCons (tC (.bl true)) tNil) σ H1 (fun ws H2 => ws = [.bl true] ∧ H2 = H1) from ⟨rfl, rfl⟩)) fun us2 s2 ⟨vs2, H2, I2, r2, e1, e2⟩ => ?_
  subst e1 e2
  obtain ⟨v1, v2, v3, S1, S2, S3, xs1, xs2, xs3, ex, hs1, hv1, hs2, hv2, hs3, hv3, q⟩ := q1
  subst ex
  cases r2 with
  | cons ru rr2 =>
    cases rr2
    cases ru
    cases r1 with
    | cons g1 r1 =>
      cases r1 with
      | cons g2 r1 =>
        cases r1 with
        | cons g3 r1 =>
          cases r1
          obtain ⟨o1, G1, B1, hG1, hat1, hlt1⟩ := src_begins I2 hs1 g1 hv1
          obtain ⟨o2, G2, B2, hG2, hat2, hlt2⟩ := src_begins I2 hs2 g2 hv2
          obtain ⟨o3, G3, B3, hG3, hat3, hlt3⟩ := src_begins I2 hs3 g3 hv3
          have nlt1 : ∀ k : Nat, s2.heap.objs.size + k ∉ S1.fp := fun k z => absurd (hlt1 _ z) (Nat.not_lt.mpr (Nat.le_add_right _ _))
          have nlt2 : ∀ k : Nat, s2.heap.objs.size + k ∉ S2.fp := fun k z => absurd (hlt2 _ z) (Nat.not_lt.mpr (Nat.le_add_right _ _))
          have nlt3 : ∀ k : Nat, s2.heap.objs.size + k ∉ S3.fp := fun k z => absurd (hlt3 _ z) (Nat.not_lt.mpr (Nat.le_add_right _ _))
          refine begins3 B1 B2 B3 hG1 hG2 hG3 fun h' hz hTI hTO h1 h2 h3 hsz hk => iterSelf hz ?_
          have I3 : Inv X pins σ H2 { s2 with heap := h' } := I2.kept (t' := s2.toks) hk
          have Sp : Sep3 (s2.heap.objs.size + 5) (s2.heap.objs.size + 3) (s2.heap.objs.size + 4) s2.heap.objs.size (s2.heap.objs.size + 1) (s2.heap.objs.size + 2) (s2.heap.objs.size :: S1.fp) ((s2.heap.objs.size + 1) :: S2.fp) ((s2.heap.objs.size + 2) :: S3.fp) := ⟨fun q => absurd (Nat.add_left_cancel (m := 5) (k := 3) q) (by decide), fun q => absurd (Nat.add_left_cancel (m := 5) (k := 4) q) (by decide), fun q => absurd (Nat.add_left_cancel (m := 3) (k := 4) q) (by decide), List.mem_cons_self, (fun z => (List.mem_cons.mp z).elim (fun q => absurd (Nat.add_left_cancel (m := 5) (k := 0) q) (by decide)) (nlt1 5)), (fun z => (List.mem_cons.mp z).elim (fun q => absurd (Nat.add_left_cancel (m := 3) (k := 0) q) (by decide)) (nlt1 3)), (fun z => (List.mem_cons.mp z).elim (fun q => absurd (Nat.add_left_cancel (m := 4) (k := 0) q) (by decide)) (nlt1 4)), (fun z => (List.mem_cons.mp z).elim (fun q => absurd (Nat.add_left_cancel (m := 0) (k := 1) q) (by decide)) (nlt2 0)), (fun z => (List.mem_cons.mp z).elim (fun q => absurd (Nat.add_left_cancel (m := 0) (k := 2) q) (by decide)) (nlt3 0)), List.mem_cons_self, (fun z => (List.mem_cons.mp z).elim (fun q => absurd (Nat.add_left_cancel (m := 5) (k := 1) q) (by decide)) (nlt2 5)), (fun z => (List.mem_cons.mp z).elim (fun q => absurd (Nat.add_left_cancel (m := 3) (k := 1) q) (by decide)) (nlt2 3)), (fun z => (List.mem_cons.mp z).elim (fun q => absurd (Nat.add_left_cancel (m := 4) (k := 1) q) (by decide)) (nlt2 4)), (fun z => (List.mem_cons.mp z).elim (fun q => absurd (Nat.add_left_cancel (m := 1) (k := 0) q) (by decide)) (nlt1 1)), (fun z => (List.mem_cons.mp z).elim (fun q => absurd (Nat.add_left_cancel (m := 1) (k := 2) q) (by decide)) (nlt3 1)), List.mem_cons_self, (fun z => (List.mem_cons.mp z).elim (fun q => absurd (Nat.add_left_cancel (m := 5) (k := 2) q) (by decide)) (nlt3 5)), (fun z => (List.mem_cons.mp z).elim (fun q => absurd (Nat.add_left_cancel (m := 3) (k := 2) q) (by decide)) (nlt3 3)), (fun z => (List.mem_cons.mp z).elim (fun q => absurd (Nat.add_left_cancel (m := 4) (k := 2) q) (by decide)) (nlt3 4)), (fun z => (List.mem_cons.mp z).elim (fun q => absurd (Nat.add_left_cancel (m := 2) (k := 0) q) (by decide)) (nlt1 2)), (fun z => (List.mem_cons.mp z).elim (fun q => absurd (Nat.add_left_cancel (m := 2) (k := 1) q) (by decide)) (nlt2 2))⟩
          refine ⟨s2.heap.objs.size + 5, [s2.heap.objs.size + 5, s2.heap.objs.size + 3, s2.heap.objs.size + 4, s2.heap.objs.size, s2.heap.objs.size + 1, s2.heap.objs.size + 2], _, _, H2, rfl, I3, turn3 Sp (nlt1 0) (nlt2 1) (nlt3 2), ⟨hz, hTI, ⟨_, _, _, hTO⟩, hat1 _ _ h1, hat2 _ _ h2, hat3 _ _ h3⟩, fp2 (n := 0) I2 fun b hb => ?_, q⟩
          have e' : b = s2.heap.objs.size + 5 ∨ b = s2.heap.objs.size + 3 ∨ b = s2.heap.objs.size + 4 ∨ b = s2.heap.objs.size ∨ b = s2.heap.objs.size + 1 ∨ b = s2.heap.objs.size + 2 := by simpa using hb
          rcases e' with z | z | z | z | z | z
          · rw [z]; exact Nat.le_add_right _ _
          · rw [z]; exact Nat.le_add_right _ _
          · rw [z]; exact Nat.le_add_right _ _
          · rw [z]; exact Nat.le_refl _
          · rw [z]; exact Nat.le_add_right _ _
          · rw [z]; exact Nat.le_add_right _ _
end
end Zs
end
section
/-! What is walked: lists, tuples, texts, ranges, enumerate, zip(.., strict=True). -/
namespace Dn
open PySem L2 Zs
/-! ### what is walked, as data -/
def signD (x : Str) : List Dt := x.cps.toList.map fun c => Dt.str ⟨#[c]⟩
def srcD : Dt → Option (List Dt)
  | .lst ds => some ds
  | .tup ds => some ds
  | .str x => some (signD x)
  | .scr ns => some (ns.map .int)
  | .emp => some []
  | _ => none
theorem rpl_signs {k : Kp} {D : Hp} (x : Str) : RpL k D (signV x) (signD x) := by
  unfold signV signD
  generalize x.cps.toList = l
  induction l with
  | nil => exact .nil
  | cons a l ih => exact .cons (.str _) ih
theorem src_rp {k : Kp} {D : Hp} {v : V} {d : Dt} {ds : List Dt} (r : Rp k D v d) (h : srcD d = some ds) : ∃ S xs, Src.is S v ∧ (∀ H, Sub D H → S.val k.K H xs) ∧ RpL k D xs ds := by
  cases r with
  | lst hd r => cases h; exact ⟨.l _, _, rfl, fun H s => .inl (.inl (s _ _ hd)), r⟩
  | tup hd r => cases h; exact ⟨.t _, _, rfl, fun H s => tupS s hd, r⟩
  | str x => cases h; exact ⟨.s x, _, rfl, fun H s => rfl, rpl_signs x⟩
  | scr hd => cases h; exact ⟨.l _, _, rfl, fun H s => sqL_sub s hd, rpl_ints _⟩
  | emp hd => cases h; exact ⟨.t _, [], rfl, fun H s => sqT_sub (D := fun _ => none) (by intro _ _ e; cases e) hd, .nil⟩
  | _ => cases h
theorem it1_walk {k : Kp} {D : Hp} {S : Src} {xs : List V} {ds : List Dt} (hv : ∀ H, Sub D H → S.val k.K H xs) (r : RpL k D xs ds) : Walk (It1 k.K S) ds.length (fun H => Sub D H) (Yd k D ds) := by
  have base : ∀ {i : Nat} {H : Hp} {x : V} {H' : Hp}, Sub D H → H' = H ∧ xs[i]? = some x → Yd k D ds i H x H' := by
    rintro i H x H' s ⟨rfl, hx⟩
    obtain ⟨d, hd, rd⟩ := r.get hx
    exact ⟨d, hd, fun D1 s1 u1 _ => ⟨D1, Ex.refl u1, rd.mono s1⟩⟩
  rw [← r.length]
  cases S with
  | l a => exact (walk_list (a := a) (xs := xs)).mono (fun H s => hv H s) fun i H x H' _ s y => base s y
  | t a => exact (walk_tup (a := a) (xs := xs)).mono (fun H s => hv H s) fun i H x H' _ s y => base s y
  | s x =>
    have e : xs = signV x := hv D (Sub.refl _)
    have el : xs.length = x.cps.size := by rw [e]; unfold signV; simp
    rw [el]
    refine (walk_str (z := x)).mono (fun H s => trivial) fun i H v H' _ s y => base s ⟨y.1, ?_⟩
    obtain ⟨_, c, hc, rfl⟩ := y
    rw [e]; unfold signV; simp [hc]
def gIt (f : Dt → Option (List Dt)) (g : GE) : GA := fun env w => (g env w).bind fun d w1 => match f d with
  | some ds => .ok ds w1
  | none => .bad
section
variable {F : Fc}
theorem di_any {tg e : Expr} {g : GE} (h : DE F e g) : DI F tg e (gIt srcD g) := by
  obtain ⟨t, a, b⟩ := h.ex
  refine ⟨⟨fun W => iSrc F.K (t W), fun X W O T => by rw [← O.K]; exact pi_src (a X W O T), fun W C env w σ D H R K S p => ?_⟩⟩
  refine b W C env w σ D H _ K S ?_
  unfold gIt at p
  cases ea : g env w with
  | bad => rw [ea] at p; exact p.elim
  | exc c fs w1 => rw [ea] at p; exact p
  | ok d w1 =>
    rw [ea] at p
    simp only [Out.bind] at p
    intro v D1 H1 S1 s1 rv
    cases es : srcD d with
    | none => rw [es] at p; exact p.elim
    | some ds =>
      rw [es] at p
      obtain ⟨Sr, xs, hs, hv, rx⟩ := src_rp rv es
      rw [← K.K]
      exact ⟨Sr, xs, hs, hv H1 S1.up, p _ D1 H1 S1 s1 (it1_walk hv rx)⟩
/-! range -/
def rngD (lo : Int) : Nat → List Dt := fun n => (List.range n).map fun i => Dt.int (lo + (i : Nat))
def oRng1 : List Dt → Option (List Dt)
  | [.int j] => if -(2 ^ 62) ≤ j ∧ j < 2 ^ 62 then some (rngD 0 j.toNat) else none
  | _ => none
def gIts (f : List Dt → Option (List Dt)) (g : GA) : GA := fun env w => (g env w).bind fun d w1 => match f d with
  | some ds => .ok ds w1
  | none => .bad
theorem rng_walk {k : Kp} {D : Hp} {lo : Int} {n : Nat} : Walk (Itr lo n) (rngD lo n).length (fun H => Sub D H) (Yd k D (rngD lo n)) := by
  have e : (rngD lo n).length = n := by unfold rngD; simp
  rw [e]
  refine (walk_range (lo := lo) (n := n)).mono (fun _ _ => trivial) fun i H x H' hi s y => ?_
  obtain ⟨rfl, rfl⟩ := y
  exact ⟨.int (lo + i), by unfold rngD; simp [hi], fun D1 s1 u1 _ => ⟨D1, Ex.refl u1, .int _⟩⟩
theorem den_its {W : WX} {ta : TA} {ga : GA} {f : List Dt → Option (List Dt)} {wi : TA → TI} (ha : DenL F W ta ga)
    (hw : ∀ (k : Kp) (σ : St) (D H : Hp) (vs : List V) (ds items : List Dt) (R : It → Hp → Prop), k.K = F.K → Sub D H → RpL k D vs ds → f ds = some items → (∀ J, Walk J items.length (fun H => Sub D H) (Yd k D items) → R J H) → wi (fun _ H Q => Q vs H) σ H R)
    (hm : ∀ (t : TA) (σ : St) (H : Hp) (R : It → Hp → Prop), (t σ H fun vs H1 => wi (fun _ H Q => Q vs H) σ H1 R) → wi t σ H R) : DenI F W (wi ta) (gIts f ga) := by
  intro C env w σ D H R K S p
  refine hm _ _ _ _ (ha C env w σ D H _ K S ?_)
  unfold gIts at p
  cases ea : ga env w with
  | bad => rw [ea] at p; exact p.elim
  | exc c fs w1 => rw [ea] at p; exact p
  | ok ds w1 =>
    rw [ea] at p
    simp only [Out.bind] at p
    intro vs D1 H1 S1 s1 rv
    cases es : f ds with
    | none => rw [es] at p; exact p.elim
    | some items =>
      rw [es] at p
      exact hw C.k σ D1 H1 vs ds items R K.K S1.up rv es fun J wk => p J D1 H1 S1 s1 wk
theorem di_range1 {tg a : Expr} {ga : GA} {p pos : PySem.Pos} (hg : F.sc.names.lookup ("range" : Str) = some .globalImplicit) (hm : F.mg "range" = none) (h : DL F [a] ga) (hs : ∀ env, starEach [a] env = [(false, eval a env)] := by intro _; rfl) : DI F tg (.Call (.Name "range" p) [a] [] pos) (gIts oRng1 ga) := by
  obtain ⟨t, a1, a2⟩ := h.ex
  refine ⟨⟨fun W => iRng1 (t W), fun X W O T => pi_range1 (by show X.env.scope.names.lookup _ = _; rw [O.sc]; exact hg) (by rw [O.mg]; exact hm) (a1 X W O T) (hs _), fun W => den_its (a2 W) (fun k σ D H vs ds items R hK u r e q => ?_) fun t σ H R h => h⟩⟩
  unfold oRng1 at e
  split at e
  · split at e
    · cases e
      cases r with
      | cons r rr => cases rr; cases r; exact ⟨_, rfl, by rename_i h; exact h.1, by rename_i h; exact h.2, q _ rng_walk⟩
    · cases e
  · cases e
/-! enumerate -/
def enumD (k : Int) : List Dt → List Dt
  | [] => []
  | d :: ds => .tup [.int k, d] :: enumD (k + 1) ds
theorem enumD_len : ∀ (k : Int) (ds : List Dt), (enumD k ds).length = ds.length
  | _, [] => rfl
  | k, d :: ds => congrArg (· + 1) (enumD_len (k + 1) ds)
theorem enumD_get : ∀ (k : Int) (ds : List Dt) (i : Nat) (d : Dt), ds[i]? = some d → (enumD k ds)[i]? = some (.tup [.int (k + (i : Nat)), d])
  | _, [], i, d, h => by simp at h
  | k, d :: ds, 0, d', h => by simp at h; subst h; simp [enumD]
  | k, d :: ds, i + 1, d', h => by
    simp at h
    have := enumD_get (k + 1) ds i d' h
    simp only [enumD, List.getElem?_cons_succ, this]
    have e : k + 1 + ((i : Nat) : Int) = k + ((i + 1 : Nat) : Int) := by omega
    rw [e]
def oEnum (k : Int) : List Dt → Option (List Dt)
  | [d] => (srcD d).map (enumD k)
  | _ => none
theorem tup_new {k : Kp} {D1 H : Hp} {T : Addr} {xs : List V} {ds : List Dt} (u : Sub D1 H) (hn : H T = none) (r : RpL k D1 xs ds) : ∃ D2, Ex D1 H D2 (upd H T (.tup xs)) ∧ Rp k D2 (.ref T) (.tup ds) :=
  ⟨upd D1 T (.tup xs), Ex.new u hn, .tup upd_same (r.mono (Ex.new (o := .tup xs) u hn).sub)⟩
theorem enum_walk {k : Kp} {D : Hp} {S : Src} {c : Int} {xs : List V} {ds : List Dt} (hv : ∀ H, Sub D H → S.val k.K H xs) (r : RpL k D xs ds) : Walk (ItN k.K c S) (enumD c ds).length (fun H => Sub D H) (Yd k D (enumD c ds)) := by
  rw [enumD_len, ← r.length]
  refine ⟨fun i H hi s => ⟨xs, hv H s, hi⟩, fun H s => ⟨xs, hv H s, rfl⟩, fun i H x H' hi s y => ?_⟩
  obtain ⟨T, x, rfl, hn, rfl, hx⟩ := y
  obtain ⟨d, hd, rd⟩ := r.get (hx xs (hv H s))
  exact ⟨_, enumD_get c ds i d hd, fun D1 s1 u1 _ => tup_new u1 hn (.cons (.int _) (.cons (rd.mono s1) .nil))⟩
theorem one_rp {k : Kp} {D : Hp} {vs : List V} {d : Dt} (r : RpL k D vs [d]) : ∃ v, vs = [v] ∧ Rp k D v d := by
  cases r with | cons r rr => cases rr; exact ⟨_, rfl, r⟩
theorem two_rp {k : Kp} {D : Hp} {vs : List V} {d e : Dt} (r : RpL k D vs [d, e]) : ∃ v u, vs = [v, u] ∧ Rp k D v d ∧ Rp k D u e := by
  cases r with | cons r rr => cases rr with | cons r2 rr => cases rr; exact ⟨_, _, rfl, r, r2⟩
theorem three_rp {k : Kp} {D : Hp} {vs : List V} {d e f : Dt} (r : RpL k D vs [d, e, f]) : ∃ v u t, vs = [v, u, t] ∧ Rp k D v d ∧ Rp k D u e ∧ Rp k D t f := by
  cases r with | cons r rr => obtain ⟨v, u, rfl, a, b⟩ := two_rp rr; exact ⟨_, _, _, rfl, r, a, b⟩
theorem di_enum {a : Expr} {ga : GA} {p pos tpos : PySem.Pos} {elts : List Expr} {kk : Nat} (hg : F.sc.names.lookup ("enumerate" : Str) = some .globalImplicit) (hm : F.mg "enumerate" = none) (h : DL F [a] ga) (hs : ∀ env, starEach [a] env = (false, eval a env) :: starEach [] env := by intro _; rfl) :
    DI F (.Tuple elts kk tpos) (.Call (.Name "enumerate" p) [a] [] pos) (gIts (oEnum 0) ga) := by
  obtain ⟨t, a1, a2⟩ := h.ex
  refine ⟨⟨fun W => iN F.K (t W), fun X W O T => by rw [← O.K]; exact pi_N (by show X.env.scope.names.lookup _ = _; rw [O.sc]; exact hg) (by rw [O.mg]; exact hm) (a1 X W O T) (hs _), fun W => den_its (wi := iN F.K) (a2 W) (fun k σ D H vs ds items R hK u r e q => ?_) fun t σ H R h => h⟩⟩
  unfold oEnum at e
  split at e
  · rename_i d
    cases es : srcD d with
    | none => rw [es] at e; cases e
    | some ds =>
      rw [es] at e
      cases e
      obtain ⟨v, rfl, rv⟩ := one_rp r
      obtain ⟨Sr, xs, hs, hv, rx⟩ := src_rp rv es
      rw [← hK]
      exact ⟨v, Sr, xs, rfl, hs, hv H u, q _ (enum_walk hv rx)⟩
  · cases e
/-! zip -/
def zip2D : List Dt → List Dt → List Dt
  | a :: as, b :: bs => .tup [a, b] :: zip2D as bs
  | _, _ => []
def zip3D : List Dt → List Dt → List Dt → List Dt
  | a :: as, b :: bs, c :: cs => .tup [a, b, c] :: zip3D as bs cs
  | _, _, _ => []
theorem zip2D_len : ∀ (a b : List Dt), a.length = b.length → (zip2D a b).length = a.length
  | [], _, _ => by simp [zip2D]
  | _ :: _, [], h => by simp at h
  | _ :: a, _ :: b, h => by simp [zip2D, zip2D_len a b (by simpa using h)]
theorem zip3D_len : ∀ (a b c : List Dt), a.length = b.length → a.length = c.length → (zip3D a b c).length = a.length
  | [], _, _, _, _ => by simp [zip3D]
  | _ :: _, [], _, h, _ => by simp at h
  | _ :: _, _ :: _, [], _, h => by simp at h
  | _ :: a, _ :: b, _ :: c, h, h' => by simp [zip3D, zip3D_len a b c (by simpa using h) (by simpa using h')]
theorem zip2D_get : ∀ (a b : List Dt) (i : Nat) (x y : Dt), a[i]? = some x → b[i]? = some y → (zip2D a b)[i]? = some (.tup [x, y])
  | [], _, i, x, y, h, _ => by simp at h
  | _ :: _, [], i, x, y, _, h => by simp at h
  | _ :: a, _ :: b, 0, x, y, h, h' => by simp at h h'; subst h h'; simp [zip2D]
  | _ :: a, _ :: b, i + 1, x, y, h, h' => by simpa [zip2D] using zip2D_get a b i x y (by simpa using h) (by simpa using h')
theorem zip3D_get : ∀ (a b c : List Dt) (i : Nat) (x y z : Dt), a[i]? = some x → b[i]? = some y → c[i]? = some z → (zip3D a b c)[i]? = some (.tup [x, y, z])
  | [], _, _, i, x, y, z, h, _, _ => by simp at h
  | _ :: _, [], _, i, x, y, z, _, h, _ => by simp at h
  | _ :: _, _ :: _, [], i, x, y, z, _, _, h => by simp at h
  | _ :: a, _ :: b, _ :: c, 0, x, y, z, h, h', h'' => by simp at h h' h''; subst h h' h''; simp [zip3D]
  | _ :: a, _ :: b, _ :: c, i + 1, x, y, z, h, h', h'' => by simpa [zip3D] using zip3D_get a b c i x y z (by simpa using h) (by simpa using h') (by simpa using h'')
def oZip2 : List Dt → Option (List Dt)
  | [a, b] => match srcD a, srcD b with
    | some x, some y => if x.length = y.length then some (zip2D x y) else none
    | _, _ => none
  | _ => none
def oZip3 : List Dt → Option (List Dt)
  | [a, b, c] => match srcD a, srcD b, srcD c with
    | some x, some y, some z => if x.length = y.length ∧ x.length = z.length then some (zip3D x y z) else none
    | _, _, _ => none
  | _ => none
theorem zip2_walk {k : Kp} {D : Hp} {S1 S2 : Src} {xs1 xs2 : List V} {d1 d2 : List Dt} (h1 : ∀ H, Sub D H → S1.val k.K H xs1) (h2 : ∀ H, Sub D H → S2.val k.K H xs2) (r1 : RpL k D xs1 d1) (r2 : RpL k D xs2 d2) (hl : d1.length = d2.length) :
    Walk (It2 k.K S1 S2) (zip2D d1 d2).length (fun H => Sub D H) (Yd k D (zip2D d1 d2)) := by
  rw [zip2D_len _ _ hl, ← r1.length]
  have e2 : xs2.length = xs1.length := by rw [r1.length, r2.length, hl]
  refine ⟨fun i H hi s => ⟨xs1, xs2, h1 H s, h2 H s, e2, hi⟩, fun H s => ⟨xs1, xs2, h1 H s, h2 H s, e2, rfl⟩, fun i H x H' hi s y => ?_⟩
  obtain ⟨T, x, y, rfl, hn, rfl, hx, hy⟩ := y
  obtain ⟨a, ha, ra⟩ := r1.get (hx xs1 (h1 H s))
  obtain ⟨b, hb, rb⟩ := r2.get (hy xs2 (h2 H s))
  exact ⟨_, zip2D_get _ _ i _ _ ha hb, fun D1 s1 u1 _ => tup_new u1 hn (.cons (ra.mono s1) (.cons (rb.mono s1) .nil))⟩
theorem zip3_walk {k : Kp} {D : Hp} {S1 S2 S3 : Src} {xs1 xs2 xs3 : List V} {d1 d2 d3 : List Dt} (h1 : ∀ H, Sub D H → S1.val k.K H xs1) (h2 : ∀ H, Sub D H → S2.val k.K H xs2) (h3 : ∀ H, Sub D H → S3.val k.K H xs3) (r1 : RpL k D xs1 d1) (r2 : RpL k D xs2 d2) (r3 : RpL k D xs3 d3) (hl : d1.length = d2.length) (hl3 : d1.length = d3.length) :
    Walk (It3 k.K S1 S2 S3) (zip3D d1 d2 d3).length (fun H => Sub D H) (Yd k D (zip3D d1 d2 d3)) := by
  rw [zip3D_len _ _ _ hl hl3, ← r1.length]
  have e2 : xs2.length = xs1.length := by rw [r1.length, r2.length, hl]
  have e3 : xs3.length = xs1.length := by rw [r1.length, r3.length, hl3]
  refine ⟨fun i H hi s => ⟨xs1, xs2, xs3, h1 H s, h2 H s, h3 H s, e2, e3, hi⟩, fun H s => ⟨xs1, xs2, xs3, h1 H s, h2 H s, h3 H s, e2, e3, rfl⟩, fun i H x H' hi s y => ?_⟩
  obtain ⟨T, x, y, z, rfl, hn, rfl, hx, hy, hz⟩ := y
  obtain ⟨a, ha, ra⟩ := r1.get (hx xs1 (h1 H s))
  obtain ⟨b, hb, rb⟩ := r2.get (hy xs2 (h2 H s))
  obtain ⟨c, hc, rc⟩ := r3.get (hz xs3 (h3 H s))
  exact ⟨_, zip3D_get _ _ _ i _ _ _ ha hb hc, fun D1 s1 u1 _ => tup_new u1 hn (.cons (ra.mono s1) (.cons (rb.mono s1) (.cons (rc.mono s1) .nil)))⟩
theorem di_zip2 {a b : Expr} {ga : GA} {p pos tpos p3 kp : PySem.Pos} {elts : List Expr} {kk j : Nat} (hg : F.sc.names.lookup ("zip" : Str) = some .globalImplicit) (hm : F.mg "zip" = none) (h : DL F [a, b] ga) (hs : ∀ env, starEach [a, b] env = (false, eval a env) :: starEach [b] env := by intro _; rfl) (hpl : ∀ env, (backTo pos (starEach [b] env)).any (·.1) = false := by intro _; rfl) :
    DI F (.Tuple elts kk tpos) (.Call (.Name "zip" p) [a, b] [⟨some (Str.ofString "strict"), .Constant (.bool true) j p3, kp⟩] pos) (gIts oZip2 ga) := by
  obtain ⟨t, a1, a2⟩ := h.ex
  refine ⟨⟨fun W => iZ2 F.K (t W), fun X W O T => by rw [← O.K]; exact pi_Z2 (by show X.env.scope.names.lookup _ = _; rw [O.sc]; exact hg) (by rw [O.mg]; exact hm) (a1 X W O T) (hs _) (hpl _), fun W => den_its (wi := iZ2 F.K) (a2 W) (fun k σ D H vs ds items R hK u r e q => ?_) fun t σ H R h => h⟩⟩
  unfold oZip2 at e
  split at e
  · split at e
    · split at e
      · cases e
        rename_i x y es1 es2 hl
        obtain ⟨v1, v2, rfl, g1, g2⟩ := two_rp r
        obtain ⟨S1, xs1, hs1, hv1, rx1⟩ := src_rp g1 es1
        obtain ⟨S2, xs2, hs2, hv2, rx2⟩ := src_rp g2 es2
        rw [← hK]
        exact ⟨v1, v2, S1, S2, xs1, xs2, rfl, hs1, hv1 H u, hs2, hv2 H u, q _ (zip2_walk hv1 hv2 rx1 rx2 hl)⟩
      · cases e
    · cases e
  · cases e
theorem di_zip3 {a b c : Expr} {ga : GA} {p pos tpos p3 kp : PySem.Pos} {elts : List Expr} {kk j : Nat} (hg : F.sc.names.lookup ("zip" : Str) = some .globalImplicit) (hm : F.mg "zip" = none) (h : DL F [a, b, c] ga) (hs : ∀ env, starEach [a, b, c] env = (false, eval a env) :: starEach [b, c] env := by intro _; rfl) (hpl : ∀ env, (backTo pos (starEach [b, c] env)).any (·.1) = false := by intro _; rfl) :
    DI F (.Tuple elts kk tpos) (.Call (.Name "zip" p) [a, b, c] [⟨some (Str.ofString "strict"), .Constant (.bool true) j p3, kp⟩] pos) (gIts oZip3 ga) := by
  obtain ⟨t, a1, a2⟩ := h.ex
  refine ⟨⟨fun W => iZ3 F.K (t W), fun X W O T => by rw [← O.K]; exact pi_Z3 (by show X.env.scope.names.lookup _ = _; rw [O.sc]; exact hg) (by rw [O.mg]; exact hm) (a1 X W O T) (hs _) (hpl _), fun W => den_its (wi := iZ3 F.K) (a2 W) (fun k σ D H vs ds items R hK u r e q => ?_) fun t σ H R h => h⟩⟩
  unfold oZip3 at e
  split at e
  · split at e
    · split at e
      · cases e
        rename_i x y z es1 es2 es3 hl
        obtain ⟨v1, v2, v3, rfl, g1, g2, g3⟩ := three_rp r
        obtain ⟨S1, xs1, hs1, hv1, rx1⟩ := src_rp g1 es1
        obtain ⟨S2, xs2, hs2, hv2, rx2⟩ := src_rp g2 es2
        obtain ⟨S3, xs3, hs3, hv3, rx3⟩ := src_rp g3 es3
        rw [← hK]
        exact ⟨v1, v2, v3, S1, S2, S3, xs1, xs2, xs3, rfl, hs1, hv1 H u, hs2, hv2 H u, hs3, hv3 H u, q _ (zip3_walk hv1 hv2 hv3 rx1 rx2 rx3 hl.1 hl.2)⟩
      · cases e
    · cases e
  · cases e
end
end Dn
end
section
/-! Sets of keys that are told by value (texts): made of a text, sorted. -/
namespace Sk
open PySem PySem.Spec PyProof.Rows L2
section
variable {P : Program} {w : World} {κ : Type} [DecidableEq κ]
/-- the set at a holds the keys ks; f tells a key from its value -/
def SetK (knd : KeyKind P w κ) (f : Value → κ) (h : Heap) (a : Addr) (ks : List κ) : Prop :=
  ∃ o es ep t, h.get? a = some o ∧ o.ExactSet ∧ o.data = .set es ep t ∧ ElemsOf knd es.toList ∧ (es.toList.map fun e => f e.2).Perm ks ∧ ks.Nodup ∧
    es.size < scanBound ∧ t.fits es.size = true ∧ Ris t.place.toList ∧ (w.params.followText "set-order" = true ∨ t.led = true)
variable {knd : KeyKind P w κ} {f : Value → κ} {A : Around} {E : Value → Shared → Prop} {s : Shared} {h h' : Heap} {a : Addr} {ks : List κ}
theorem SetK.at (R : SetK knd f h a ks) (k : ∀ o, h.get? a = some o → h'.get? a = some o) : SetK knd f h' a ks := by
  obtain ⟨o, es, ep, t, ho, r⟩ := R
  exact ⟨o, es, ep, t, k o ho, r⟩
theorem SetK.len (R : SetK knd f h a ks) : ks.length < scanBound := by
  obtain ⟨o, es, ep, t, ho, hx, hd, g, pm, nd, hb, _⟩ := R
  rw [← pm.length_eq, List.length_map, Array.length_toList]
  exact hb
theorem SetK.new {h : Heap} (ho : h.get? a = some { cls := .type "set", dict := none, data := .set #[] 0 (.fresh 0 0 (!w.params.followText "set-order")) }) : SetK knd f h a [] :=
  ⟨_, #[], 0, _, ho, ⟨rfl, rfl, rfl⟩, rfl, (fun e he => by simp at he), List.Perm.refl _, List.nodup_nil, (by decide), (by rfl), List.Pairwise.nil, by
    show _ ∨ (!w.params.followText "set-order") = true
    cases w.params.followText "set-order"
    · exact .inr rfl
    · exact .inl rfl⟩
theorem add_tail {g : Bool → Sem Unit} (hg : ∀ (b : Bool) (s₁ : Shared) (Q' : Unit → Shared → Prop), Q' () s₁ → wpAny (model P w) A (g b) Q' E s₁)
    {o : Obj} {es : Array (Int × Value)} {ep : Nat} {t : SetTable} (ho : s.heap.get? a = some o) (hex : o.ExactSet) (hd : o.data = .set es ep t)
    {es1 : Array (Int × Value)} {t2 : SetTable} {ks' : List κ} (g1 : ElemsOf knd es1.toList) (m1 : (es1.toList.map fun e => f e.2).Perm ks') (nd1 : ks'.Nodup)
    (hb1 : es1.size < scanBound) (hf2 : t2.fits es1.size = true) (hr : Ris t2.place.toList) (hl : w.params.followText "set-order" = true ∨ t2.led = true) {wasDummy : Bool} {R : Option Bool → Shared → Prop}
    (hR : ∀ h', Heap.SameBut a s.heap h' → SetK knd f h' a ks' → R (some true) { s with heap := h' }) :
    wpAny (model P w) A (do
        storeSet a es1 t2
        if (!wasDummy && t2.tooFull) = true then do
            g (relayAll t2 es1 (SetTable.grown es1.size)).2.2
            storeSet a (relayAll t2 es1 (SetTable.grown es1.size)).1 (relayAll t2 es1 (SetTable.grown es1.size)).2.1
            pure (some true)
          else pure (some true)) R E s := by
  refine wpAny_bind (wpAny_storeSet_of ho hd ?_ (fits_of_scanBound hb1))
  have ho1 := store_at (es' := es1) (t' := t2) ho hd
  have sb1 := Heap.SameBut.update s.heap a (Obj.putSet es1 t2)
  split
  · have pm := relayAll_perm t2 es1 (SetTable.grown es1.size)
    have hf3 := relayAll_fits t2 es1 (SetTable.grown es1.size)
    have hr3 := relayAll_ris t2 es1 (SetTable.grown es1.size)
    have hl3 := relayAll_led t2 es1 (SetTable.grown es1.size)
    generalize relayAll t2 es1 (SetTable.grown es1.size) = Z at pm hf3 hr3 hl3 ⊢
    obtain ⟨es2, t3, gave⟩ := Z
    dsimp only at pm hf3 hr3 hl3 ⊢
    have hsz : es2.size = es1.size := by rw [← Array.length_toList, pm.length_eq, Array.length_toList]
    have hb2 : es2.size < scanBound := by rw [hsz]; exact hb1
    refine wpAny_bind (hg _ _ _ ?_)
    refine wpAny_bind (wpAny_storeSet_of ho1 rfl ?_ (fits_of_scanBound hb2))
    have ho2 := store_at (es' := es2) (t' := t3) ho1 rfl
    refine wpAny_pure (hR _ (sb1.trans (Heap.SameBut.update _ a _)) ?_)
    exact ⟨_, es2, _, t3, ho2, hex, rfl, g1.perm pm, (pm.map _).trans m1, nd1, hb2, hf3, hr3, hl.imp id fun z => by rw [hl3]; exact z⟩
  · exact wpAny_pure (hR _ sb1 ⟨_, es1, _, t2, ho1, hex, rfl, g1, m1, nd1, hb1, hf2, hr, hl⟩)
/-- the keys behind an add -/
def addK (k : κ) (ks : List κ) : List κ := if k ∈ ks then ks else k :: ks
theorem add_hashed (hfk : ∀ k v, knd.is k v = true → f v = k) {k : κ} {v : Value} {Q : Bool → Shared → Prop} (hkey : knd.is k v = true) (hsc : v.scannable = true) (R : SetK knd f s.heap a ks) (room : ks.length + 1 < scanBound)
    (hQ : ∀ b h', Heap.SameBut a s.heap h' → SetK knd f h' a (addK k ks) → Q b { s with heap := h' }) :
    wpAny (model P w) A (setAddHashed a v (knd.hash k)) Q E s := by
  obtain ⟨o, es, ep, t, ho, hex, hd, hel, pm0, nd, hb, hf, hr, hl⟩ := R
  have mem : k ∈ ks ↔ ∃ e ∈ es.toList, knd.is k e.2 = true := by
    rw [← pm0.mem_iff, List.mem_map]
    constructor
    · rintro ⟨e, he, q⟩
      obtain ⟨⟨k', h1, _⟩, _⟩ := hel e he
      have := hfk k' e.2 h1
      rw [this] at q
      exact ⟨e, he, q ▸ h1⟩
    · rintro ⟨e, he, q⟩
      exact ⟨e, he, hfk k e.2 q⟩
  unfold setAddHashed setAddHashedIn
  refine wpAny_holding (wpAny_bind (wpAny_setState_of ho hd hf ?_))
  dsimp only
  rw [byScan_of hsc hb hel]
  simp only [↓reduceIte]
  unfold setAddByScan
  refine wpAny_bind ?_
  refine wpAny_bind (wpAny_rule ?_)
  refine wpAny_bind (wpAny_setScan_of hkey ho hd hf hel ?_)
  cases hfi : List.findIdx? (fun e => knd.is k e.2) es.toList with
  | some j =>
    dsimp only
    obtain ⟨hj, pj, _⟩ := List.findIdx?_eq_some_iff_getElem.mp hfi
    have hk : k ∈ ks := mem.2 ⟨es.toList[j], List.getElem_mem hj, pj⟩
    refine wpAny_pure (wpAny_pure ?_)
    refine hQ _ s.heap (Heap.SameBut.refl a s.heap) ?_
    unfold addK
    rw [if_pos hk]
    exact ⟨o, es, ep, t, ho, hex, hd, hel, pm0, nd, hb, hf, hr, hl⟩
  | none =>
    dsimp only
    have hnk : k ∉ ks := fun z => by
      obtain ⟨e, he, q⟩ := mem.1 z
      have c := List.findIdx?_eq_none_iff.mp hfi e he
      rw [q] at c
      cases c
    have hgw : ∀ (b : Bool) {s₁ : Shared} {Q' : Unit → Shared → Prop}, Q' () s₁ → wpAny (model P w) A (match b with | true => rule "set.scan.the-table-gave-way" | false => pure ()) Q' E s₁ :=
      fun b s₁ Q' q => by cases b <;> first | exact wpAny_pure q | exact wpAny_rule q
    have pm := layNew_perm t es (knd.hash k) v
    have hf1 := layNew_fits t es (knd.hash k) v
    have hr1 := layNew_ris t es (knd.hash k) v hr
    have hl1 := layNew_led t es (knd.hash k) v
    generalize layNew t es (knd.hash k) v = Z at pm hf1 hr1 hl1 ⊢
    obtain ⟨es1, t1, wasDummy, gave⟩ := Z
    dsimp only at pm hf1 hr1 hl1 ⊢
    rw [Array.toList_push] at pm
    have pc : es1.toList.Perm ((knd.hash k, v) :: es.toList) := pm.trans (List.perm_append_singleton _ _)
    have g1 : ElemsOf knd es1.toList := (hel.push hkey hsc).perm pm
    have m1 : (es1.toList.map fun e => f e.2).Perm (k :: ks) := by
      have q := pc.map fun e => f e.2
      rw [List.map_cons] at q
      have e : f v = k := hfk k v hkey
      simp only [e] at q
      exact q.trans (List.Perm.cons k pm0)
    have nd1 : (k :: ks).Nodup := List.nodup_cons.mpr ⟨hnk, nd⟩
    have hsz : es1.size = ks.length + 1 := by
      have := m1.length_eq
      rw [List.length_map, Array.length_toList] at this
      exact this
    have hb1 : es1.size < scanBound := by rw [hsz]; exact room
    have hled : w.params.followText "set-order" = true ∨ t1.led = true := hl.imp id fun z => by rw [hl1]; exact z
    have fin : ∀ h', Heap.SameBut a s.heap h' → SetK knd f h' a (k :: ks) → Q true { s with heap := h' } := fun h' sb r => by
      refine hQ true h' sb ?_
      unfold addK
      rw [if_neg hnk]
      exact r
    refine wpAny_bind (hgw _ ?_)
    split
    · refine wpAny_bind ?_
      rw [hashByValue_scannable 8 hsc]
      refine wpAny_pure ?_
      refine add_tail ?_ ho hex hd g1 m1 nd1 hb1 ?_ ?_ ?_ ?_
      · intro b s₁ Q' q; cases b <;> first | exact wpAny_pure q | exact wpAny_rule q
      · first | (split <;> first | exact hf1 | exact SetTable.fits_plain_off hf1) | exact hf1
      · first | (split <;> exact hr1) | exact hr1
      · first | (split <;> exact hled) | exact hled
      · intro h' sb r; dsimp only; exact wpAny_pure (fin h' sb r)
    · refine wpAny_bind (wpAny_pure ?_)
      simp only [↓reduceIte]
      refine add_tail ?_ ho hex hd g1 m1 nd1 hb1 hf1 hr1 hled ?_
      · intro b s₁ Q' q; cases b <;> first | exact wpAny_pure q | exact wpAny_rule q
      · intro h' sb r; dsimp only; exact wpAny_pure (fin h' sb r)
/-- the keys behind a row of adds -/
def addAll (ks : List κ) : List κ → List κ
  | [] => ks
  | k :: r => addAll (addK k ks) r
theorem addK_len (k : κ) (ks : List κ) : (addK k ks).length ≤ ks.length + 1 := by
  unfold addK
  split
  · omega
  · simp
theorem mem_addK {k x : κ} {ks : List κ} : x ∈ addK k ks ↔ x = k ∨ x ∈ ks := by
  unfold addK
  split
  · rename_i h
    exact ⟨.inr, fun q => q.elim (fun e => e ▸ h) id⟩
  · exact List.mem_cons
theorem mem_addAll {x : κ} : ∀ {r ks : List κ}, x ∈ addAll ks r ↔ x ∈ ks ∨ x ∈ r
  | [], ks => by simp [addAll]
  | k :: r, ks => by
    unfold addAll
    rw [mem_addAll, mem_addK, List.mem_cons]
    constructor
    · rintro ((h | h) | h)
      · exact .inr (.inl h)
      · exact .inl h
      · exact .inr (.inr h)
    · rintro (h | h | h)
      · exact .inl (.inr h)
      · exact .inl (.inl h)
      · exact .inr h
theorem set_loop (hfk : ∀ k v, knd.is k v = true → f v = k) {I : Addr} {fp wr : List Addr} {G : Array GenState → Array GenState → Prop} {n : Nat} {Pv : Nat → Value → Prop} {St : Nat → Shared → Prop} {R : Result → Shared → Prop}
    (W : WalksS P w A.in1 I fp wr G n Pv St) (S : Addr) (hSf : S ∉ fp) (zs : List κ) (hn : n = zs.length) (hval : ∀ i v, Pv i v → ∃ k, zs[i]? = some k ∧ knd.is k v = true ∧ v.scannable = true) :
    ∀ (k i : Nat) (s : Shared) (ks : List κ), n - i = k → i ≤ n → St i s → SetK knd f s.heap S ks → ks.length + (n - i) + 1 < scanBound →
      (∀ s', Moved (S :: wr) G s s' → SetK knd f s'.heap S (addAll ks (zs.drop i)) → R (.ok (.ret .none)) s') →
      codeAny (model P w) A (.builtin "set.update.loop" ⟨[.ref S, .ref I], []⟩) R s := by
  have hSw : S ∉ wr := fun h => hSf (W.sub _ h)
  have hsub : ∀ b ∈ wr, b ∈ S :: wr := fun b hb => List.mem_cons_of_mem _ hb
  intro k
  induction k with
  | zero =>
    intro i s ks hk' hi hst hS hb hR
    have hin : i = n := by omega
    subst hin
    refine codeAny_builtin F.entry_set_update_loop ?_
    rw [Around.under_plainId F.plain_set_update_loop _]
    show wpAny _ A.in1 (pyNext (.ref I) >>= _) _ _ s
    refine wpAny_bind (W.done s _ _ hst fun s' hm => ?_)
    show wpAny _ A.in1 (ret Value.none) _ _ s'
    have e : zs.drop i = [] := List.drop_of_length_le (by omega)
    rw [e] at hR
    exact wpAny_pure (hR s' (hm.mono hsub) (hS.at fun o e => hm.heap S o hSw e))
  | succ k ih =>
    intro i s ks hk' hi hst hS hb hR
    have hlt : i < n := by omega
    refine codeAny_builtin F.entry_set_update_loop ?_
    rw [Around.under_plainId F.plain_set_update_loop _]
    show wpAny _ A.in1 (pyNext (.ref I) >>= _) _ _ s
    refine wpAny_bind (W.item i s _ _ hlt hst fun v s' hP hst' hm => ?_)
    obtain ⟨z, hz, hkey, hsc⟩ := hval i v hP
    have hS' : SetK knd f s'.heap S ks := hS.at fun o e => hm.heap S o hSw e
    show wpAny _ A.in1 (holding [v] (setAdd S v) >>= _) _ _ s'
    refine wpAny_bind (wpAny_holding ?_)
    unfold setAdd
    refine wpAny_holding ?_
    refine wpAny_bind (knd.pyHash (k := z) hkey ?_)
    refine add_hashed hfk (s := { s' with toks := s'.toks + 1 }) hkey hsc hS' (by omega) fun b h' hsb hS2 => ?_
    have hl := addK_len z ks
    have hd : zs.drop i = z :: zs.drop (i + 1) := by
      obtain ⟨hl, e⟩ := List.getElem?_eq_some_iff.mp hz
      rw [List.drop_eq_getElem_cons hl, e]
    refine wpAny_pure ⟨plainId_quiet F.plain_set_update_loop _, ih (i + 1) _ (addK z ks) (by omega) hlt (W.frame _ s' _ _ hst' (Nat.le_succ _) fun b hb o e => ?_) hS2 (by omega) fun s'' hm'' hS'' => ?_⟩
    · rw [hsb.2 b (fun h : b = S => hSf (by rw [← h]; exact hb))]; exact e
    · rw [hd] at hR
      refine hR s'' (Moved.trans W.gtrans ((hm.mono hsub).then_heap (Nat.le_succ _) fun b o hb e => ?_) hm'') hS''
      rw [hsb.2 b (fun h : b = S => hb (by rw [h]; exact List.mem_cons_self))]; exact e
end
end Sk
end
section
namespace Sk
open PySem PySem.Spec PyProof.Rows L2
def strV (v : Value) : Str := match v with
  | .str x _ => x
  | _ => ⟨#[]⟩
section
variable {P : Program} {w : World} {A : Around} {E : Value → Shared → Prop} {s : Shared}
theorem strV_is (k : Str) (v : Value) (h : (strKind P w).is k v = true) : strV v = k := by
  have h' : Value.isStrOf k v = true := h
  cases v <;> simp [Value.isStrOf] at h'
  rename_i x t
  unfold strV
  exact h'.symm ▸ rfl
theorem isStr_self (k : Str) (u : Tok) : (strKind P w).is k (.str k u) = true := by
  show Value.isStrOf k (.str k u) = true
  simp [Value.isStrOf]
def signs (x : Str) : List Str := x.cps.toList.map fun c => ⟨#[c]⟩
theorem walksText (hh : A.handled = none) (it : Addr) (x : Str) (t : Tok) : Walks P w A it [it] [it] x.cps.size (SignAt x) (fun i h => h.IsStrIter it (strIterType x) x t i) := by
  cases ha : x.cps.all (· < 128)
  · simp only [strIterType, ha, Bool.false_eq_true, if_false]
    exact Walks.strWide hh it x t
  · simp only [strIterType, ha, if_true]
    exact Walks.strAscii hh it x t
theorem call_set_text {x : Str} {t : Tok} {Q : Value → Shared → Prop} (hh : A.handled = none) (hb : x.cps.size + 1 < scanBound)
    (h : ∀ (h' : Heap) (tk : Nat), SetK (strKind P w) strV h' s.heap.objs.size (addAll [] (signs x)) → (∀ b o, s.heap.get? b = some o → h'.get? b = some o) → Q (.ref s.heap.objs.size) { s with heap := h', toks := tk }) :
    wpAny (model P w) A (call (.type "set") [.str x t]) Q E s := by
  obtain ⟨c, tl, hmro⟩ := F.called_set.mro
  have hmade := F.called_set.made
  have hsub := F.called_set.sub
  refine wpAny_call (codeAny_of_tree ?_)
  show wpAny _ _ (callAny (.type "set") _) _ _ _
  refine wpAny_pure ⟨Code.quiet_builtin _ (by decide +kernel), codeAny_builtin F.entry_type_call ?_⟩
  rw [Around.under_plain (weight_type_call_type "set" [.str x t] []) rfl]
  have h1 := F.called_set.notType
  have h2 := F.called_set.canCreate
  have hct := F.typeCall_set_1 (.str x t)
  repeat (any_goals (first | assumption | wp_step))
  refine codeAny_mono (code_set_led1 (.str x t) (E := E) (Q₁ := fun obj s₁ => obj = .ref s.heap.objs.size ∧ s₁ = { s with heap := s.heap.push { cls := .type "set", dict := none, data := .set #[] 0 (.fresh 0 0 (!w.params.followText "set-order")) } }) ⟨rfl, rfl⟩) fun r s₁ hr => ?_
  cases r with
  | error e => exact hr
  | ok fl =>
    cases fl with
    | ret obj =>
      obtain ⟨rfl, rfl⟩ := hr
      have hS : (s.heap.push { cls := .type "set", dict := none, data := .set #[] 0 (.fresh 0 0 (!w.params.followText "set-order")) }).get? s.heap.objs.size = some { cls := .type "set", dict := none, data := .set #[] 0 (.fresh 0 0 (!w.params.followText "set-order")) } := Heap.get?_push_size _ rfl
      have hT : Shared.TypeIs { s with heap := s.heap.push { cls := .type "set", dict := none, data := .set #[] 0 (.fresh 0 0 (!w.params.followText "set-order")) } } (.ref s.heap.objs.size) "set" := ⟨_, hS, rfl⟩
      have hli := F.called_set.init.lookup
      have hbi := F.called_set.init.bind (.ref s.heap.objs.size)
      repeat (any_goals (first | assumption | wp_step))
      refine codeAny_mono (codeAny_call_builtin (R := wants (fun r s₂ => r = .none ∧ ∃ h' tk, s₂ = { s with heap := h', toks := tk } ∧ SetK (strKind P w) strV h' s.heap.objs.size (addAll [] (signs x)) ∧
          (∀ b o, s.heap.get? b = some o → h'.get? b = some o)) E) F.called_set.init.plain F.entry_set_init (check_set_init_1 hT ?_)) fun r₂ s₂ hr₂ => ?_
      · unfold Builtin.«set.__init__» noKeywords Builtin.Frozenset.updateFrom
        have hsls : isSubtype (.type "str") (.type "set") = pure false := by rw [isSubtype_type]; kernel_rfl
        have hslf : isSubtype (.type "str") (.type "frozenset") = pure false := by rw [isSubtype_type]; kernel_rfl
        have hne : (Value.type "str" == Value.type "dict") = false := by decide
        generalize hPI : pyIter = PI
        wp_walk
        subst hPI
        refine wpAny_pyIter_strU ?_
        refine wpAny_bind (wpAny_runValue ?_)
        have hh3 : A.in1.in1.in1.handled = none := by simp [hh]
        have hSf : s.heap.objs.size ∉ [(s.heap.push { cls := .type "set", dict := none, data := .set #[] 0 (.fresh 0 0 (!w.params.followText "set-order")) }).objs.size] := by
          rw [Heap.size_push]; simp only [List.mem_singleton]
          exact Nat.ne_of_lt (Nat.lt_succ_self _)
        have hget : ((s.heap.push { cls := .type "set", dict := none, data := .set #[] 0 (.fresh 0 0 (!w.params.followText "set-order")) }).push { cls := .type (strIterType x), data := .fields #[.str x t, .int 0 0] }).get? s.heap.objs.size
              = some { cls := .type "set", dict := none, data := .set #[] 0 (.fresh 0 0 (!w.params.followText "set-order")) } := Heap.get?_push_of_some _ hS
        refine set_loop (knd := strKind P w) (f := strV) strV_is ((walksText hh3 _ x t).toS) s.heap.objs.size hSf (signs x) (by unfold signs; simp) (fun i v hv => ?_) (x.cps.size - 0) 0 _ [] (by omega) (Nat.zero_le _)
          ⟨_, Heap.get?_push_size _ rfl, rfl, rfl⟩ (SetK.new hget) (by simpa using hb) fun s' hm hS' => ?_
        · obtain ⟨c, u, hc, rfl⟩ := hv
          exact ⟨⟨#[c]⟩, by unfold signs; simp [hc], isStr_self _ _, rfl⟩
        · obtain ⟨h', g2, d', tk', os'⟩ := s'
          have eg : g2 = s.gens := hm.gens
          have ed : d' = s.drawn := hm.drawn
          have eo : os' = s.os := hm.os
          subst eg; subst ed; subst eo
          refine wpAny_pure ?_
          show wpAny _ _ (ret Value.none) _ _ _
          refine wpAny_pure ⟨rfl, h', tk', rfl, by simpa using hS', fun b o e => ?_⟩
          have hb0 : b < s.heap.objs.size := Heap.lt_size e
          have hb1 : b ≠ s.heap.objs.size := Nat.ne_of_lt hb0
          have hb2 : b ≠ (s.heap.push { cls := .type "set", dict := none, data := .set #[] 0 (.fresh 0 0 (!w.params.followText "set-order")) }).objs.size := by
            rw [Heap.size_push]; exact Nat.ne_of_lt (Nat.lt_succ_of_lt hb0)
          exact hm.heap b o (by simp only [List.mem_cons, List.mem_singleton, List.not_mem_nil, or_false, not_or]; exact ⟨hb1, hb2⟩) (Heap.get?_push_of_some _ (Heap.get?_push_of_some _ e))
      · cases r₂ with
        | error e => exact hr₂
        | ok fl₂ =>
          cases fl₂ with
          | ret r =>
            obtain ⟨rfl, h', tk, rfl, hS', hk'⟩ := hr₂
            repeat (any_goals (first | assumption | wp_step))
            exact h _ _ hS' hk'
          | _ => exact hr₂.elim
    | _ => exact hr.elim
end
end Sk
end
section
/-! sorted(..): lists of data that compare; a text's signs without doubles. -/
namespace Dn
open PySem PySem.Spec PyProof.Rows L2 Sk
open PySem.W (AllAlike Sortable dataLe alike EachIs)
def encD (d : Dt) : PyData := (toPy d).getD .none
theorem each_len {α β : Type} {R : α → β → Prop} {as : List α} {bs : List β} (e : EachIs R as bs) : as.length = bs.length := by
  induction e with
  | nil => rfl
  | cons _ _ ih => simp [ih]
end Dn
end
section
/-! sorted(set(a text)). -/
namespace Dn
open PySem PySem.Spec PyProof.Rows L2 Sk
open PySem.W (AllAlike Sortable dataLe alike EachIs)
def leS (a b : Str) : Bool := decide (a.cps.toList ≤ b.cps.toList)
def srtS (xs : List Str) : List Str := xs.mergeSort leS
theorem leS_trans (a b c : Str) : leS a b = true → leS b c = true → leS a c = true := by
  unfold leS
  rw [decide_eq_true_eq, decide_eq_true_eq, decide_eq_true_eq]
  exact fun h g => List.le_trans h g
theorem leS_total (a b : Str) : (leS a b || leS b a) = true := by
  unfold leS
  rcases List.le_total (l₁ := a.cps.toList) (l₂ := b.cps.toList) with h | h
  · simp [h]
  · simp [h]
theorem leS_anti {a b : Str} (h : leS a b = true) (g : leS b a = true) : a = b := by
  unfold leS at h g
  have e := List.le_antisymm (of_decide_eq_true h) (of_decide_eq_true g)
  cases a; cases b
  simp only [Str.mk.injEq]
  exact Array.toList_inj.mp e
theorem srtS_perm {xs ys : List Str} (h : xs.Perm ys) : srtS xs = srtS ys :=
  List.Perm.eq_of_pairwise (le := fun a b => leS a b = true) (fun a b _ _ => leS_anti) (List.pairwise_mergeSort leS_trans leS_total xs) (List.pairwise_mergeSort leS_trans leS_total ys)
    ((List.mergeSort_perm xs leS).trans (h.trans (List.mergeSort_perm ys leS).symm))
def SetXO (P : Program) (w : World) (a : Addr) (ks : List Str) : HO := .ext fun h => SetK (strKind P w) strV h a ks
section
variable {X : Cx}
def rSetX (P : Program) (w : World) : List V → Hp → VK → Prop := fun vs H Q => ∃ x : Str, vs = [.str x] ∧ x.cps.size + 1 < scanBound ∧ ∀ p, H p = none → Q (.ref p) (upd H p (SetXO P w p (addAll [] (Sk.signs x))))
theorem setX_new {P : Program} {w : World} {H : Hp} {h : Heap} {a : Addr} {ks : List Str} (R : SetK (strKind P w) strV h a ks) : ObjOk P w H h a (SetXO P w a ks) := by
  refine ⟨R, ?_, fun h1 h2 p k => p.at k⟩
  obtain ⟨o, es, ep, t, ho, _⟩ := R
  exact ⟨o, ho⟩
theorem cr_setX (hc : X.calm = true) : CallR X (.type "set") (rSetX X.prog X.w) := by
  intro pins s σ H vs us Q I r h
  obtain ⟨x, rfl, hb, q⟩ := h
  cases r with
  | cons r rr =>
    cases rr
    obtain ⟨t, rfl⟩ := r
    refine call_set_text (I.ok.hd hc) hb fun h' tk R hk => ?_
    exact ⟨.ref _, upd H s.heap.objs.size (SetXO X.prog X.w s.heap.objs.size (addAll [] (Sk.signs x))), I.laid (t' := tk) hk (Nat.le_refl _) (setX_new R), rfl, q _ (I.hok.fresh (Nat.le_refl _))⟩
/-- sorted(a set of texts) -/
def rSrtX (P : Program) (w : World) : List V → Hp → VK → Prop := fun vs H Q => ∃ (a : Addr) (ks : List Str), vs = [.ref a] ∧ H a = some (SetXO P w a ks) ∧ ∀ p, H p = none → Q (.ref p) (upd H p (.lst ((srtS ks).map V.str)))
theorem each_str {P : Program} {w : World} : ∀ {vs : List Value} {ks : List Str}, vs.map strV = ks → (∀ v ∈ vs, ∃ k, (strKind P w).is k v = true) → EachIs (fun v (k : Str) => RelV (.str k) v) vs ks
  | [], _, rfl, _ => .nil
  | v :: vs, _, rfl, h => by
    refine .cons ?_ (each_str rfl fun u hu => h u (List.mem_cons_of_mem _ hu))
    obtain ⟨k, hk⟩ := h v List.mem_cons_self
    have hk' : Value.isStrOf k v = true := hk
    cases v <;> simp [Value.isStrOf] at hk'
    rename_i x t
    exact ⟨t, rfl⟩
theorem each_rd {h : Heap} : ∀ {vs : List Value} {ks : List Str}, EachIs (fun v (k : Str) => RelV (.str k) v) vs ks → EachIs (fun v (k : Str) => ∃ as, Reads h v (.str k) as ∧ ∀ a : Addr, a ∉ as) vs ks
  | _, _, .nil => .nil
  | _, _, .cons ⟨t, e⟩ r => .cons ⟨[], e ▸ .str _ _, fun _ z => nomatch z⟩ (each_rd r)
theorem vals_strs {vs : List Value} {ks : List Str} (e : EachIs (fun v (k : Str) => RelV (.str k) v) vs ks) : Vals (ks.map V.str) vs := by
  induction e with
  | nil => exact .nil
  | cons h _ ih => exact .cons h ih
theorem srtS_data (ks : List Str) : ks.mergeSort (dataLe false fun k => PyData.str k) = srtS ks := by
  have e := PySem.W.dataLe_str (fun k : Str => k)
  unfold srtS
  have e2 : (dataLe false fun k : Str => PyData.str k) = leS := e
  rw [e2]
theorem cr_srtX {lv : Nat} (hc : X.calm = true) (hr : Room lv X.A) : CallR X (.builtin "sorted") (rSrtX X.prog X.w) := by
  intro pins s σ H vs us Q I r h
  obtain ⟨a, ks, rfl, ha, q⟩ := h
  have R : SetK (strKind X.prog X.w) strV s.heap a ks := (I.hok a _ ha).1
  rw [Vals.ref1 r]
  obtain ⟨o, es, ep, t, ho, hex, hd, hel, pm, nd, hb, hf, hri, hl⟩ := R
  refine Calls.call_function_entry PyProof.Rows.kind_sorted PyProof.Rows.plain_sorted PyProof.Rows.entry_sorted (PyProof.Rows.args_sorted1 _) ?_
  unfold Builtin.«sorted»
  refine wpAny_bind (m := checkCount "sorted" 1 1 _) (wpAny_pure ?_)
  refine wpAny_bind (collect_set (A := X.A.in1) (I.ok.hd hc) ⟨o, ho, hex.1, hd⟩ hf hb hri hl fun s1 vs k1 hz g1 o1 pv => ?_)
  have hvl : vs.length < scanBound := by rw [pv.length_eq, List.length_map, Array.length_toList]; exact hb
  have hvs : vs.length ≤ sizeLine := fits_of_scanBound hvl
  have ek : EachIs (fun v (k : Str) => RelV (.str k) v) vs (vs.map strV) := each_str (P := X.prog) (w := X.w) rfl fun v hv => by
    obtain ⟨e, he, rfl⟩ := List.mem_map.mp (pv.mem_iff.mp hv)
    obtain ⟨⟨k, hk, _⟩, _⟩ := hel e he
    exact ⟨k, hk⟩
  have pk : (vs.map strV).Perm ks := by
    have q := pv.map strV
    rw [List.map_map] at q
    exact q.trans pm
  refine wpAny_bind (wpAny_newList ?_ hvs)
  have hoL : (s1.heap.push (seqObj "list" vs.toArray 0)).get? s1.heap.objs.size = some (seqObj "list" vs.toArray 0) := Heap.get?_push_size _ rfl
  refine wpAny_bind (wpAny_holding (PySem.W.list_sort_data (enc := fun k : Str => PyData.str k) (R := fun v k => RelV (.str k) v) hoL ek
    ((each_rd ek).mono fun v k ⟨as, r, hn⟩ => ⟨as, r, hn _⟩) (PySem.W.AllAlike.of fun b b' => by simp [alike]) (PySem.W.Sortable.others fun b => ⟨by simp, fun xs => by simp⟩) (by rw [List.length_map]; exact hvs) (fun b _ => ?_) fun out hol he => ?_))
  · have h3 := hr.un
    show X.A.units + 1 + 1 + (PyData.str b).depth < cLine
    have : (PyData.str b).depth = 0 := by simp [PyData.depth]
    omega
  · obtain ⟨c, hc'⟩ := PyProof.Rows.sortedHeap_at (vs := vs) (out := List.toArray out) hoL
    rw [srtS_data, srtS_perm pk] at he
    have hn : H s1.heap.objs.size = none := I.hok.fresh hz
    have hlen : ((srtS ks).map V.str).length ≤ sizeLine := by
      rw [List.length_map, ← each_len he, hol, List.length_map]; exact hvs
    have up : ∀ b u, s.heap.get? b = some u → (sortedHeap (s1.heap.push (seqObj "list" vs.toArray 0)) s1.heap.objs.size vs (List.toArray out)).get? b = some u := fun b u e => by
      have q := k1 b u e
      have hlt := Heap.lt_size q
      rw [PyProof.Rows.sortedHeap_old (Nat.ne_of_lt hlt) (by rw [size_push']; exact Nat.lt_succ_of_lt hlt)]
      exact Heap.get?_push_of_some _ q
    refine wpAny_pure ⟨_, rfl, ?_⟩
    obtain ⟨h1, gg1, dd1, tt1, oo1⟩ := s1
    dsimp only at g1 o1
    subst g1 o1
    have J : L2.Inv X pins σ (upd H h1.objs.size (.lst ((srtS ks).map V.str))) { s with heap := sortedHeap (h1.push (seqObj "list" vs.toArray 0)) h1.objs.size vs (List.toArray out), drawn := dd1, toks := tt1 } :=
      I.call (ch := []) (Un.laid up hz hn) (I.hok.laid up hz ⟨hlen, out, c, vals_strs he, hc'⟩) I.bare (fun _ z => nomatch z)
    exact ⟨.ref _, _, J, rfl, q _ hn⟩
end
/-- sorted(set(text)) -/
def oSrtX : List Dt → Option Ow
  | [.str x] => if x.cps.size + 1 < scanBound then some (.lst ((srtS (addAll [] (Sk.signs x))).map .str)) else none
  | _ => none
theorem rpl_strs {k : Kp} {D : Hp} : ∀ xs : List Str, RpL k D (xs.map V.str) (xs.map Dt.str)
  | [] => .nil
  | x :: xs => .cons (.str x) (rpl_strs xs)
theorem df_srtX {F : Fc} {p p2 pos pos2 : PySem.Pos} {e : Expr} {ga : GA} (hc : F.calm = true) (hg : F.sc.names.lookup ("sorted" : Str) = some .globalImplicit) (hm : F.mg "sorted" = none) (hg2 : F.sc.names.lookup ("set" : Str) = some .globalImplicit) (hm2 : F.mg "set" = none) (h : DL F [e] ga)
    (hs : ∀ env, starEach [e] env = (false, eval e env) :: starEach [] env := by intro _; rfl) (hs2 : ∀ env, starEach [Expr.Call (.Name "set" p2) [e] [] pos2] env = (false, eval (.Call (.Name "set" p2) [e] [] pos2) env) :: starEach [] env := by intro _; rfl) :
    DF F (.Call (.Name "sorted" p) [.Call (.Name "set" p2) [e] [] pos2] [] pos) (gArgsF oSrtX ga) := by
  obtain ⟨t, a1, a2⟩ := h.ex
  refine ⟨⟨fun W => tCB (rSrtX F.P F.w) (tCons (tCB (rSetX F.P F.w) (t W)) tNil), fun X W O T => ?_, fun W => den_argsF (a2 W) (r := fun xs H1 Q => rSetX F.P F.w xs H1 fun v H2 => rSrtX F.P F.w [v] H2 Q) fun k hK hc D H xs as z u r ez Q q => ?_⟩⟩
  · rw [← O.prog, ← O.w]
    have h1 : PE X (.Call (.Name "set" p2) [e] [] pos2) (tCB (rSetX X.prog X.w) (t W)) := pe_callTy (cr_setX (O.calm hc)) (by show X.env.scope.names.lookup _ = _; rw [O.sc]; exact hg2) (by rw [O.mg]; exact hm2) (by kernel_rfl) (a1 X W O T) (by decide +kernel) (by decide +kernel) (hs _)
    exact pe_callB (cr_srtX (O.calm hc) (O.full hc)) (by show X.env.scope.names.lookup _ = _; rw [O.sc]; exact hg) (by rw [O.mg]; exact hm) (by kernel_rfl) (pa_cons h1 pa_nil (hs2 _)) (by decide +kernel) (by decide +kernel) (hs2 _)
  · unfold oSrtX at ez
    split at ez
    · split at ez
      · cases ez
        rename_i x hb
        obtain ⟨v, rfl, rv⟩ := one_rp r
        cases rv
        refine ⟨x, rfl, hb, fun a ha => ⟨a, _, rfl, upd_same, fun p hp => ?_⟩⟩
        have x1 : Ex D H D (upd H a (SetXO F.P F.w a (addAll [] (Sk.signs x)))) := Ex.hid u ha
        have x2 : Ex D (upd H a (SetXO F.P F.w a (addAll [] (Sk.signs x)))) D (upd (upd H a (SetXO F.P F.w a (addAll [] (Sk.signs x)))) p (.lst ((srtS (addAll [] (Sk.signs x))).map V.str))) := Ex.hid x1.up hp
        refine q p D _ [p] (x1.trans x2) (fun C eC => ⟨rfl, _, upd_same, by rw [eC]; exact rpl_strs _⟩) (by simp) fun b hb => ?_
        rw [List.mem_singleton.mp hb]
        exact ⟨none_of x1.kp hp, none_of x1.up hp⟩
      · cases ez
    · cases ez
end Dn
end
section
/-! sorted(xs, key=lambda one: (len(one), one)), sorted(xs, key=lambda one: 0 - len(one)). -/
namespace Sx
open PySem PySem.Spec PyProof.Rows L2
open PySem.W (AllAlike Sortable dataLe alike EachIs KeyPure)
/-- the lambda's frame at L, the parameter p bound to v -/
structure Fr1 (mg : Str → Option Value) (env : Env) (p : Str) (v : Value) (h : Heap) : Prop where
  kind : env.scope.kind = .function
  len : env.scope.names.lookup ("len" : Str) = some .globalImplicit
  loc : env.scope.names.lookup p = some .local
  gl : env.globals = mainGlobals
  bl : env.builtins = builtinsNs
  glob : h.Ns mainGlobals mg
  blt : ∃ mb, h.Ns builtinsNs mb ∧ mb ("len" : Str) = bootBuiltins "len"
  ns : ∃ m, h.Ns env.locals m ∧ m p = some v
section
variable {P : Program} {w : World} {A : Around} {E : Value → Shared → Prop} {mg : Str → Option Value} {env : Env} {p : Str}
theorem Fr1.name {v : Value} {s : Shared} {q : Pos} {Q : Value → Shared → Prop} (F : Fr1 mg env p v s.heap) (hd : (p == ("__debug__" : Str)) = false) (h : Q v s) : wpAny (model P w) A (eval (.Name p q) env) Q E s := by
  obtain ⟨m, hn, hv⟩ := F.ns
  exact wpAny_Name (wpAny_loadName_local F.kind F.loc hn hv h) hd
end
end Sx
namespace Dn
open PySem PySem.Spec PyProof.Rows L2 Sx
open PySem.W (AllAlike Sortable dataLe alike EachIs KeyPure)
def strsOf : List Dt → Option (List Str)
  | [] => some []
  | .str x :: r => (strsOf r).map (x :: ·)
  | _ => none
theorem strsOf_rp {k : Kp} {D : Hp} : ∀ {ds : List Dt} {vs : List V} {xs : List Str}, RpL k D vs ds → strsOf ds = some xs → vs = xs.map V.str
  | [], _, _, .nil, e => by cases e; rfl
  | .str x :: r, _, _, .cons h t, e => by
    unfold strsOf at e
    cases q : strsOf r with
    | none => rw [q] at e; cases e
    | some ys =>
      rw [q] at e
      cases e
      cases h
      rw [strsOf_rp t q] <;> rfl
  | .non :: r, _, _, .cons h t, e => by simp [strsOf] at e
  | .bl _ :: r, _, _, .cons h t, e => by simp [strsOf] at e
  | .int _ :: r, _, _, .cons h t, e => by simp [strsOf] at e
  | .tup _ :: r, _, _, .cons h t, e => by simp [strsOf] at e
  | .lst _ :: r, _, _, .cons h t, e => by simp [strsOf] at e
  | .dic _ :: r, _, _, .cons h t, e => by simp [strsOf] at e
  | .dicF _ :: r, _, _, .cons h t, e => by simp [strsOf] at e
  | .dicFT _ :: r, _, _, .cons h t, e => by simp [strsOf] at e
  | .obj _ _ :: r, _, _, .cons h t, e => by simp [strsOf] at e
  | .dicT _ :: r, _, _, .cons h t, e => by simp [strsOf] at e
  | .wd :: r, _, _, .cons h t, e => by simp [strsOf] at e
  | .scr _ :: r, _, _, .cons h t, e => by simp [strsOf] at e
  | .emp :: r, _, _, .cons h t, e => by simp [strsOf] at e
end Dn
end
section
/-! Owned slots: written in place, lent to an expression, handed on. -/
namespace Dn
open PySem L2
/-! ### a slot that owns -/
theorem SlotsOk.own {C : Ct} {D H : Hp} {o : Ow} : ∀ {ss : List Sl} {σ : St} {fp : List Addr} {i : Nat}, SlotsOk C D H ss σ fp → ss[i]? = some (.own o) →
    ∃ p f1 f2 f3, fp = f1 ++ (f2 ++ f3) ∧ σ[i]? = some (some (.ref p)) ∧ OwnAt C D H p o f2 ∧ (∀ o' D' H', Sub D D' → (∀ q ∈ f1 ++ f3, ∀ u, H q = some u → H' q = some u) → OwnAt C D' H' p o' f2 → SlotsOk C D' H' (ss.set i (.own o')) σ fp) ∧
      (∀ s' D' H' fx, Sub D D' → (∀ q ∈ f1 ++ f3, ∀ u, H q = some u → H' q = some u) → SlotOk C D' H' s' (some (.ref p)) fx → SlotsOk C D' H' (ss.set i s') σ (f1 ++ (fx ++ f3)))
  | [], [], _, _, _, e => by simp at e
  | a :: ss, x :: xs, fp, 0, ⟨f1, f2, ef, h, r⟩, e => by
    simp at e
    subst e
    obtain ⟨p, ex, ow⟩ := h
    subst ex
    refine ⟨p, [], f1, f2, by simp [ef], by simp, ow, fun o' D' H' s k ow' => ⟨f1, f2, ef, ⟨p, rfl, ow'⟩, r.mono s fun q hq u e => k q (by simp [hq]) u e⟩, fun s' D' H' fx s k sl => ⟨fx, f2, rfl, sl, r.mono s fun q hq u e => k q (by simp [hq]) u e⟩⟩
  | a :: ss, x :: xs, fp, i + 1, ⟨f1, f2, ef, h, r⟩, e => by
    simp at e
    obtain ⟨p, g1, g2, g3, eg, hx, ow, hk, hk2⟩ := r.own e
    refine ⟨p, f1 ++ g1, g2, g3, by rw [ef, eg]; simp, by simpa using hx, ow, fun o' D' H' s k ow' => ?_, fun s' D' H' fx s k sl => ?_⟩
    · exact ⟨f1, f2, ef, h.mono s fun q hq u e => k q (by simp [hq]) u e, hk o' D' H' s (fun q hq u e => k q (by
        rcases List.mem_append.mp hq with z | z
        · simp [z]
        · simp [z]) u e) ow'⟩
    · refine ⟨f1, g1 ++ (fx ++ g3), by simp, h.mono s fun q hq u e => k q (by simp [hq]) u e, hk2 s' D' H' fx s (fun q hq u e => k q (by
        rcases List.mem_append.mp hq with z | z
        · simp [z]
        · simp [z]) u e) sl⟩
  | [], _ :: _, _, _, h, _ => h.elim
  | _ :: _, [], _, _, h, _ => h.elim
section
variable {C : Ct} {env : Env} {w : Ds} {σ : St} {D H : Hp}
/-- a list that is owned: read, written in place -/
theorem Sta.putL (S : Sta C env w σ D H []) {i : Nat} {ds : List Dt} (e : env[i]? = some (.own (.lst ds))) : ∃ p vs, σ[i]? = some (some (.ref p)) ∧ H p = some (.lst vs) ∧ RpL C.k D vs ds ∧
    ∀ vs' ds', RpL C.k D vs' ds' → Sta C (env.set i (.own (.lst ds'))) w σ D (upd H p (.lst vs')) [] := by
  obtain ⟨fp, h1, h2, h3⟩ := S.sl
  obtain ⟨p, f1, f2, f3, ef, hx, ow, hk, _⟩ := h1.own e
  obtain ⟨e2, vs, hp, r⟩ := ow
  subst e2
  have hfr := h3 p (by rw [ef]; simp)
  refine ⟨p, vs, hx, hp, r, fun vs' ds' r' => ?_⟩
  have nd : ∀ q ∈ f1 ++ f3, q ≠ p := fun q hq z => by
    rw [List.nil_append, ef, List.nodup_append] at h2
    subst z
    rcases List.mem_append.mp hq with z | z
    · exact h2.2.2 q z q (by simp) rfl
    · have := (List.nodup_cons.mp h2.2.1).1
      exact this z
  refine ⟨fun a u e => ?_, S.d0, fun b u hb e => ?_, S.nw, S.wd.put hp hfr.2.2 (fun c q z => by unfold LamX.CodeO at z; cases z), fp, ?_, h2, h3⟩
  · rw [upd_ne fun z => by rw [z, hfr.1] at e; cases e]
    exact S.up a u e
  · rw [upd_ne fun z => by rw [z, hfr.2.1] at e; cases e]
    exact S.kp b u hb e
  · refine hk (.lst ds') D _ (Sub.refl _) (fun q hq u e => ?_) ⟨rfl, vs', upd_same, r'⟩
    rw [upd_ne (nd q hq)]
    exact e
end
/-! ### lending -/
mutual
def flat : Dt → Bool
  | .non => true
  | .bl _ => true
  | .int _ => true
  | .str _ => true
  | .tup xs => flats xs
  | .wd => true
  | .emp => true
  | _ => false
def flats : List Dt → Bool
  | [] => true
  | x :: xs => flat x && flats xs
end
section
variable {k : Kp} {D D' : Hp}
mutual
theorem flat_rp (s : ∀ a o, D a = some o → (∃ xs, o = .tup xs) ∨ (∃ u xs, o = .frz u (.tup xs)) ∨ (∃ ys, o = .xd ys) → D' a = some o) : ∀ {d : Dt} {v : V}, flat d = true → Rp k D v d → Rp k D' v d
  | .non, _, _, .non => .non
  | .bl _, _, _, .bl b => .bl b
  | .int _, _, _, .int i => .int i
  | .str _, _, _, .str x => .str x
  | .tup xs, _, f, .tup h r => .tup (s _ _ h (.inl ⟨_, rfl⟩)) (flats_rp s (by simpa [flat] using f) r)
  | .wd, _, _, .wd e => .wd e
  | .emp, _, _, .emp e => .emp e
  | .lst _, _, f, _ => by simp [flat] at f
  | .dic _, _, f, _ => by simp [flat] at f
  | .dicT _, _, f, _ => by simp [flat] at f
  | .dicF _, _, f, _ => by simp [flat] at f
  | .dicFT _, _, f, _ => by simp [flat] at f
  | .obj _ _, _, f, _ => by simp [flat] at f
  | .scr _, _, f, _ => by simp [flat] at f
theorem flats_rp (s : ∀ a o, D a = some o → (∃ xs, o = .tup xs) ∨ (∃ u xs, o = .frz u (.tup xs)) ∨ (∃ ys, o = .xd ys) → D' a = some o) : ∀ {ds : List Dt} {vs : List V}, flats ds = true → RpL k D vs ds → RpL k D' vs ds
  | [], _, _, .nil => .nil
  | d :: ds, _, f, .cons h r => by
    have f' : flat d = true ∧ flats ds = true := by simpa [flats] using f
    exact .cons (flat_rp s f'.1 h) (flats_rp s f'.2 r)
end
end
/-- all owned things as data -/
def lendS : Sl → Sl
  | .own o => .dat o.dt
  | s => s
def lendA (env : Env) : Env := env.map lendS
theorem ownAt_kind {C : Ct} {D H : Hp} {p a : Addr} {u : HO} : ∀ {o : Ow} {fp : List Addr}, OwnAt C D H p o fp → a ∈ fp → H a = some u → (∃ xs, u = .tup xs) ∨ (∃ v xs, u = .frz v (.tup xs)) ∨ (∃ ys, u = .xd ys) → False
  | .lst _, _, ⟨e, vs, hp, _⟩, z, h, t => by
    rw [e] at z
    rw [List.mem_singleton.mp z, hp] at h
    cases h
    rcases t with ⟨_, t⟩ | ⟨_, _, t⟩ | ⟨_, t⟩ <;> cases t
  | .dK _, _, ⟨e, vs, hp, _⟩, z, h, t => by
    rw [e] at z
    rw [List.mem_singleton.mp z, hp] at h
    cases h
    rcases t with ⟨_, t⟩ | ⟨_, _, t⟩ | ⟨_, t⟩ <;> cases t
  | .dT _, _, ⟨e, vs, hp, _⟩, z, h, t => by
    rw [e] at z
    rw [List.mem_singleton.mp z, hp] at h
    cases h
    rcases t with ⟨_, t⟩ | ⟨_, _, t⟩ | ⟨_, t⟩ <;> cases t
  | .ins _ _, _, o, z, h, t => by
    obtain ⟨u', h', k⟩ := InsAt.there o _ z
    rw [h'] at h
    cases h
    rcases k with ⟨_, _, _, rfl⟩ | ⟨_, rfl⟩ | ⟨_, rfl⟩ <;> rcases t with ⟨_, t⟩ | ⟨_, _, t⟩ | ⟨_, t⟩ <;> cases t
  | .slf _ _, _, ⟨_, o⟩, z, h, t => by
    obtain ⟨u', h', k⟩ := InsAt.there o _ z
    rw [h'] at h
    cases h
    rcases k with ⟨_, _, _, rfl⟩ | ⟨_, rfl⟩ | ⟨_, rfl⟩ <;> rcases t with ⟨_, t⟩ | ⟨_, _, t⟩ | ⟨_, t⟩ <;> cases t
  | .ll _, _, ⟨ps, e, hp, ks⟩, z, h, t => by
    rw [e] at z
    rcases List.mem_cons.mp z with z | z
    · rw [z, hp] at h
      cases h
      rcases t with ⟨_, t⟩ | ⟨_, _, t⟩ | ⟨_, t⟩ <;> cases t
    · obtain ⟨vs, h'⟩ := ks.there _ z
      rw [h'] at h
      cases h
      rcases t with ⟨_, t⟩ | ⟨_, _, t⟩ | ⟨_, t⟩ <;> cases t
  | .dL _, _, ⟨ps, ks', e, hp, _, _, ks⟩, z, h, t => by
    rw [e] at z
    rcases List.mem_cons.mp z with z | z
    · rw [z, hp] at h
      cases h
      rcases t with ⟨_, t⟩ | ⟨_, _, t⟩ | ⟨_, t⟩ <;> cases t
    · obtain ⟨vs, h'⟩ := ks.there _ z
      rw [h'] at h
      cases h
      rcases t with ⟨_, t⟩ | ⟨_, _, t⟩ | ⟨_, t⟩ <;> cases t
theorem owned_kind {C : Ct} {D H : Hp} {a : Addr} {u : HO} : ∀ {ss : List Sl} {σ : St} {fp : List Addr}, SlotsOk C D H ss σ fp → a ∈ fp → H a = some u → (∃ xs, u = .tup xs) ∨ (∃ v xs, u = .frz v (.tup xs)) ∨ (∃ ys, u = .xd ys) → False
  | [], [], _, h, z, _, _ => by rw [show _ = [] from h] at z; cases z
  | s :: ss, x :: xs, fp, ⟨f1, f2, e, h, r⟩, z, hu, t => by
    rw [e] at z
    rcases List.mem_append.mp z with z | z
    · cases s with
      | un => rw [show f1 = [] from h] at z; cases z
      | dat d => rw [h.1] at z; cases z
      | own o => obtain ⟨p, _, ow⟩ := h; exact ownAt_kind ow z hu t
    · exact owned_kind r z hu t
  | [], _ :: _, _, h, _, _, _ => h.elim
  | _ :: _, [], _, h, _, _, _ => h.elim
section
variable {C : Ct} {env : Env} {w : Ds} {σ : St} {D H : Hp}
theorem slots_lend {C' : Ct} {D1 : Hp} (hk : C.k = C'.k) (s : Sub D D1) : ∀ {ss : List Sl} {σ : St} {fp : List Addr}, SlotsOk C D H ss σ fp → (∀ q ∈ fp, ∀ u, H q = some u → D1 q = some u) → SlotsOk C' D1 H (ss.map lendS) σ []
  | [], [], _, h, _ => rfl
  | .un :: ss, x :: xs, fp, ⟨f1, f2, e, h, r⟩, k => ⟨[], [], rfl, rfl, slots_lend hk s r fun q hq => k q (by rw [e]; exact List.mem_append_right _ hq)⟩
  | .dat d :: ss, x :: xs, fp, ⟨f1, f2, e, ⟨_, v, h', r'⟩, r⟩, k => ⟨[], [], rfl, ⟨rfl, v, h', hk ▸ r'.mono s⟩, slots_lend hk s r fun q hq => k q (by rw [e]; exact List.mem_append_right _ hq)⟩
  | .own (.dT ds) :: ss, x :: xs, fp, ⟨f1, f2, e, ⟨p, h, ow⟩, r⟩, k => by
    refine ⟨[], [], rfl, ⟨rfl, .ref p, h, ?_⟩, slots_lend hk s r fun q hq => k q (by rw [e]; exact List.mem_append_right _ hq)⟩
    obtain ⟨e2, vs, hp, q1, q⟩ := ow
    exact hk ▸ .dicT (k p (by rw [e, e2]; simp) _ hp) q1 (q.mono s)
  | .own (.lst ds) :: ss, x :: xs, fp, ⟨f1, f2, e, ⟨p, h, ow⟩, r⟩, k => by
    refine ⟨[], [], rfl, ⟨rfl, .ref p, h, ?_⟩, slots_lend hk s r fun q hq => k q (by rw [e]; exact List.mem_append_right _ hq)⟩
    obtain ⟨e2, vs, hp, q⟩ := ow
    exact hk ▸ .lst (k p (by rw [e, e2]; simp) _ hp) (q.mono s)
  | .own (.dK ds) :: ss, x :: xs, fp, ⟨f1, f2, e, ⟨p, h, ow⟩, r⟩, k => by
    refine ⟨[], [], rfl, ⟨rfl, .ref p, h, ?_⟩, slots_lend hk s r fun q hq => k q (by rw [e]; exact List.mem_append_right _ hq)⟩
    obtain ⟨e2, vs, hp, q1, q⟩ := ow
    exact hk ▸ .dic (k p (by rw [e, e2]; simp) _ hp) q1 (q.mono s)
  | .own (.ins c fs) :: ss, x :: xs, fp, ⟨f1, f2, e, ⟨p, h, ow⟩, r⟩, k => by
    refine ⟨[], [], rfl, ⟨rfl, .ref p, h, ?_⟩, slots_lend hk s r fun q hq => k q (by rw [e]; exact List.mem_append_right _ hq)⟩
    exact hk ▸ (InsAt.mono ow s fun _ _ _ x => x).rp fun q hq u x => k q (by rw [e]; exact List.mem_append_left _ hq) u x
  | .own (.slf c fs) :: ss, x :: xs, fp, ⟨f1, f2, e, ⟨p, h, ow⟩, r⟩, k => by
    refine ⟨[], [], rfl, ⟨rfl, .ref p, h, ?_⟩, slots_lend hk s r fun q hq => k q (by rw [e]; exact List.mem_append_right _ hq)⟩
    exact hk ▸ (InsAt.mono ow.2 s fun _ _ _ x => x).rp fun q hq u x => k q (by rw [e]; exact List.mem_append_left _ hq) u x
  | .own (.ll dss) :: ss, x :: xs, fp, ⟨f1, f2, e, ⟨p, h, ow⟩, r⟩, k => by
    refine ⟨[], [], rfl, ⟨rfl, .ref p, h, ?_⟩, slots_lend hk s r fun q hq => k q (by rw [e]; exact List.mem_append_right _ hq)⟩
    obtain ⟨ps, e2, hp, t⟩ := ow
    exact hk ▸ .lst (k p (by rw [e, e2]; simp) _ hp) ((t.mono s fun _ _ _ x => x).rpl fun q hq u x => k q (by rw [e, e2]; simp [hq]) u x)
  | .own (.dL kvs) :: ss, x :: xs, fp, ⟨f1, f2, e, ⟨p, h, ow⟩, r⟩, k => by
    refine ⟨[], [], rfl, ⟨rfl, .ref p, h, ?_⟩, slots_lend hk s r fun q hq => k q (by rw [e]; exact List.mem_append_right _ hq)⟩
    obtain ⟨ps, ks, e2, hp, h4, h5, t⟩ := ow
    refine hk ▸ .dicT (k p (by rw [e, e2]; simp) _ hp) (by rw [h4]; simp [List.map_map, Function.comp_def]) ?_
    have := (t.mono s fun _ _ _ x => x).rpl fun q hq u x => k q (by rw [e, e2]; simp [hq]) u x
    rw [h5]
    simpa [List.map_map, Function.comp_def] using this
  | [], _ :: _, _, h, _ => h.elim
  | _ :: _, [], _, h, _ => h.elim
/-- lent: all that is owned is data for a while; given back: data but for it -/
theorem Sta.lend (S : Sta C env w σ D H []) : ∃ D1, Sta ⟨C.k, H, D1⟩ (lendA env) w σ D1 H [] ∧ Sub D D1 ∧
    ∀ w' D' H' fx, Sta ⟨C.k, H, D1⟩ (lendA env) w' σ D' H' fx → ∃ D'', Sta C env w' σ D'' H' fx ∧ Sub D D'' ∧ (∀ a u, D' a = some u → (∃ xs, u = .tup xs) ∨ (∃ v xs, u = .frz v (.tup xs)) ∨ (∃ ys, u = .xd ys) → D'' a = some u) ∧ Sub D'' D' := by
  obtain ⟨fp, h1, h2, h3⟩ := S.sl
  rw [List.nil_append] at h2
  simp only [List.nil_append] at h3
  have th := h1.there
  let isT : HO → Bool := fun _ => false
  let D1 : Hp := fun a => if a ∈ fp then (H a).bind fun u => if isT u then none else some u else D a
  have eD : ∀ a, a ∈ fp → D1 a = (H a).bind fun u => if isT u then none else some u := fun a z => if_pos z
  have nD : ∀ a, a ∉ fp → D1 a = D a := fun a z => if_neg z
  have inD : ∀ a u, a ∈ fp → D1 a = some u → H a = some u := fun a u z q => by
    rw [eD a z] at q
    cases e : H a with
    | none => rw [e] at q; cases q
    | some u' =>
      rw [e] at q
      simp only [Option.bind] at q
      split at q
      · cases q
      · exact q
  have sub : Sub D D1 := fun a u q => by
    by_cases z : a ∈ fp
    · rw [(h3 a z).1] at q; cases q
    · rw [nD a z]; exact q
  have up : Sub D1 H := fun a u q => by
    by_cases z : a ∈ fp
    · exact inD a u z q
    · rw [nD a z] at q; exact S.up a u q
  have S1 : Sta ⟨C.k, H, D1⟩ (lendA env) w σ D1 H [] := by
    refine ⟨up, Sub.refl _, fun _ _ _ e => e, fun a e n => absurd e n, S.wd.move sub (Sub.refl _) (fun q hq => ?_) (fun a xs e => sub _ _ (S.wd.tp a xs e)), [], ?_, List.nodup_nil, fun q hq => (by cases hq)⟩
    · obtain ⟨_, _, e2⟩ := S.wd.there hq
      rw [nD q fun z => (h3 q z).2.2 hq]
      exact e2
    · refine slots_lend (C := C) (C' := ⟨C.k, H, D1⟩) rfl sub h1 fun q hq u e => ?_
      rw [eD q hq, e]
      simp only [Option.bind]
      have : isT u = false := rfl
      rw [this] <;> rfl
  refine ⟨D1, S1, sub, fun w' D' H' fx S' => ?_⟩
  let D'' : Hp := fun a => if a ∈ fp then none else D' a
  have eD2 : ∀ a, a ∈ fp → D'' a = none := fun a z => if_pos z
  have nD2 : ∀ a, a ∉ fp → D'' a = D' a := fun a z => if_neg z
  have s1 : Sub D1 D' := S'.d0
  have s2 : Sub D D'' := fun a u q => by
    have z : a ∉ fp := fun z => by rw [(h3 a z).1] at q; cases q
    rw [nD2 a z]
    exact s1 a u (sub a u q)
  have down : Sub D'' D' := fun a u q => by
    by_cases z : a ∈ fp
    · rw [eD2 a z] at q; cases q
    · rw [nD2 a z] at q; exact q
  have keep : ∀ q ∈ fp, ∀ u, H q = some u → H' q = some u := fun q hq u hu => S'.kp q u (h3 q hq).2.2 hu
  have H0n : ∀ a, H a = none → C.H0 a = none := fun a e => by
    cases z : C.H0 a with
    | none => rfl
    | some u =>
      by_cases hp : C.k.mu a
      · obtain ⟨_, e1, _⟩ := S.wd.there hp
        rw [e] at e1; cases e1
      · rw [S.kp a u hp z] at e; cases e
  refine ⟨D'', ?_, s2, fun a u q ht => ?_, down⟩
  · obtain ⟨fq, g1, g2, g3⟩ := S'.sl
    have fxf : ∀ q ∈ fx, D' q = none ∧ H q = none ∧ ¬ C.k.mu q := fun q hq => g3 q (List.mem_append_left _ hq)
    refine ⟨fun a u e => S'.up a u (down a u e), S.d0.trans s2, fun b u hb e => S'.kp b u hb (S.kp b u hb e), fun a e n => ?_, ⟨fun p hp => ?_, fun p hp => ⟨(S'.wd.tb p hp).1, ?_⟩, fun a xs e => ?_⟩, fp, h1.mono s2 keep, ?_, fun q hq => ?_⟩
    · have z : a ∉ fp := fun z => n (eD2 a z)
      rw [nD2 a z] at n
      cases q : D1 a with
      | none => exact H0n a (S'.nw a q n)
      | some u =>
        rw [nD a z] at q
        exact S.nw a e (by rw [q]; simp)
    · obtain ⟨k1, k2, k3, k4⟩ := S'.wd.dr p hp
      refine ⟨k1, ?_, k3, sqL_sub s2 (S.wd.dr p hp).2.2.2⟩
      cases z : D'' p with
      | none => rfl
      | some u =>
        have q := down p u z
        rw [k2] at q; cases q
    · cases z : D'' p.1 with
      | none => rfl
      | some u =>
        have q := down p.1 u z
        rw [(S'.wd.tb p hp).2] at q; cases q
    · have e' := S'.wd.tp a xs e
      have z : a ∉ fp := fun z => by
        obtain ⟨u, hu⟩ := th a z
        have := keep a z u hu
        rw [e] at this
        cases this
        exact owned_kind h1 z hu (.inl ⟨_, rfl⟩)
      rw [nD2 a z]; exact e'
    · rw [List.nodup_append] at g2 ⊢
      refine ⟨g2.1, h2, fun a ha b hb e => ?_⟩
      obtain ⟨u, hu⟩ := th b hb
      rw [← e, (fxf a ha).2.1] at hu
      cases hu
    · rcases List.mem_append.mp hq with z | z
      · obtain ⟨k1, k2, k3⟩ := fxf q z
        refine ⟨?_, H0n q k2, k3⟩
        cases y : D'' q with
        | none => rfl
        | some u =>
          have y' := down q u y
          rw [k1] at y'; cases y'
      · exact ⟨eD2 q z, (h3 q z).2⟩
  · have z : a ∉ fp := fun z => by
      obtain ⟨v, hv⟩ := th a z
      -- what stands there is no tuple: it is owned
      have hv' := keep a z v hv
      have hu := S'.up a u q
      rw [hu] at hv'
      cases hv'
      exact owned_kind h1 z hv ht
    rw [nD2 a z]; exact q
end
end Dn
end
section
/-! Lent slots in expressions; lists written in place; more statements and calls. -/
namespace Dn
open PySem L2
open PySem (F.slot_list_append)
/-! ### expressions over lent slots -/
def gLend (g : GE) : GE := fun env w => match g (lendA env) w with
  | .ok r w1 => if flat r then .ok r w1 else .bad
  | .exc c fs w1 => if flats (fs.map (·.2)) then .exc c fs w1 else .bad
  | .bad => .bad
def gLendT (g : GT) : GT := fun env w => match g (lendA env) w with
  | .ok r w1 => .ok r w1
  | .exc c fs w1 => if flats (fs.map (·.2)) then .exc c fs w1 else .bad
  | .bad => .bad
def gLendL (g : GA) : GA := fun env w => match g (lendA env) w with
  | .ok r w1 => if flats r then .ok r w1 else .bad
  | .exc c fs w1 => if flats (fs.map (·.2)) then .exc c fs w1 else .bad
  | .bad => .bad
def flatF (fs : List (Str × Fv)) : Bool := fs.all fun x => match x.2 with
  | .d d => flat d
  | .l ds => flats ds
theorem flatF_ok {k : Kp} {D' D'' H : Hp} (s : ∀ a o, D' a = some o → (∃ xs, o = .tup xs) ∨ (∃ u xs, o = .frz u (.tup xs)) ∨ (∃ ys, o = .xd ys) → D'' a = some o) : ∀ {vs : List (Str × V)} {fs : List (Str × Fv)} {fp : List Addr}, flatF fs = true → FldsOk k D' H vs fs fp → FldsOk k D'' H vs fs fp
  | [], [], _, _, h => h
  | (n, v) :: vs, (m, .d x) :: fs, fp, hf, ⟨e, r, t⟩ => by
    have h' : flat x = true ∧ flatF fs = true := by simpa [flatF] using hf
    exact ⟨e, flat_rp s h'.1 r, flatF_ok s h'.2 t⟩
  | (n, v) :: vs, (m, .l ds) :: fs, fp, hf, ⟨e, z, r, us, e1, e2, h, rr, t⟩ => by
    have h' : flats ds = true ∧ flatF fs = true := by simpa [flatF] using hf
    exact ⟨e, z, r, us, e1, e2, h, flats_rp s h'.1 rr, flatF_ok s h'.2 t⟩
  | [], (_, .d _) :: _, _, _, h => h.elim
  | [], (_, .l _) :: _, _, _, h => h.elim
  | _ :: _, [], _, _, h => h.elim
def gLendF (g : GF) : GF := fun env w => match g (lendA env) w with
  | .ok (.lst ds) w1 => if flats ds then .ok (.lst ds) w1 else .bad
  | .ok (.ins c fs) w1 => if flatF fs then .ok (.ins c fs) w1 else .bad
  | .ok _ _ => .bad
  | .exc c fs w1 => if flats (fs.map (·.2)) then .exc c fs w1 else .bad
  | .bad => .bad
section
variable {F : Fc} {W : WX}
theorem postX_lend {C : Ct} {env : Env} {σ : St} {D H D1 : Hp} {c : Str} {fs : List (Str × Dt)} {w : Ds} (hf : flats (fs.map (·.2)) = true)
    (back : ∀ w' D' H' fx, Sta ⟨C.k, H, D1⟩ (lendA env) w' σ D' H' fx → ∃ D'', Sta C env w' σ D'' H' fx ∧ Sub D D'' ∧ (∀ a u, D' a = some u → (∃ xs, u = .tup xs) ∨ (∃ v xs, u = .frz v (.tup xs)) ∨ (∃ ys, u = .xd ys) → D'' a = some u) ∧ Sub D'' D')
    (p : PostX C env σ W c fs w) : PostX ⟨C.k, H, D1⟩ (lendA env) σ W c fs w := by
  intro Ca d D' H' S' hx
  obtain ⟨D'', S'', _, up, _⟩ := back _ _ _ _ S'
  obtain ⟨cc, vs, hd, e, r⟩ := hx
  exact p Ca d D'' H' S'' ⟨cc, vs, up _ _ hd (.inr (.inr ⟨_, rfl⟩)), e, flats_rp up hf r⟩
theorem den_lend {t : TE} {g : GE} (h : DenE F W t g) : DenE F W t (gLend g) := by
  intro C env w σ D H Q K S p
  obtain ⟨D1, S1, s1, back⟩ := S.lend
  refine h ⟨C.k, H, D1⟩ (lendA env) w σ D1 H Q (kin_here K _ _) S1 ?_
  unfold gLend at p
  cases e : g (lendA env) w with
  | bad => rw [e] at p; exact p
  | exc c fs w1 =>
    rw [e] at p
    simp only at p
    split at p
    · rename_i hf
      exact postX_lend hf back p
    · exact p.elim
  | ok r w1 =>
    rw [e] at p
    simp only at p
    split at p
    · rename_i hf
      intro v D' H' S' s' rv
      obtain ⟨D'', S'', s'', up, _⟩ := back _ _ _ _ S'
      exact p v D'' H' S'' s'' (flat_rp up hf rv)
    · exact p.elim
theorem den_lendT {t : TT} {g : GT} (h : DenT F W t g) : DenT F W t (gLendT g) := by
  intro C env w σ D H Q K S p
  obtain ⟨D1, S1, s1, back⟩ := S.lend
  refine h ⟨C.k, H, D1⟩ (lendA env) w σ D1 H Q (kin_here K _ _) S1 ?_
  unfold gLendT at p
  cases e : g (lendA env) w with
  | bad => rw [e] at p; exact p
  | exc c fs w1 =>
    rw [e] at p
    simp only at p
    split at p
    · rename_i hf
      exact postX_lend hf back p
    · exact p.elim
  | ok r w1 =>
    rw [e] at p
    intro D' H' S' s'
    obtain ⟨D'', S'', s'', up, _⟩ := back _ _ _ _ S'
    exact p D'' H' S'' s''
theorem den_lendL {t : TA} {g : GA} (h : DenL F W t g) : DenL F W t (gLendL g) := by
  intro C env w σ D H Q K S p
  obtain ⟨D1, S1, s1, back⟩ := S.lend
  refine h ⟨C.k, H, D1⟩ (lendA env) w σ D1 H Q (kin_here K _ _) S1 ?_
  unfold gLendL at p
  cases e : g (lendA env) w with
  | bad => rw [e] at p; exact p
  | exc c fs w1 =>
    rw [e] at p
    simp only at p
    split at p
    · rename_i hf
      exact postX_lend hf back p
    · exact p.elim
  | ok r w1 =>
    rw [e] at p
    simp only at p
    split at p
    · rename_i hf
      intro v D' H' S' s' rv
      obtain ⟨D'', S'', s'', up, _⟩ := back _ _ _ _ S'
      exact p v D'' H' S'' s'' (flats_rp up hf rv)
    · exact p.elim
theorem den_lendF {t : TE} {g : GF} (h : DenF F W t g) : DenF F W t (gLendF g) := by
  intro C env w σ D H Q K S p
  obtain ⟨D1, S1, s1, back⟩ := S.lend
  refine h ⟨C.k, H, D1⟩ (lendA env) w σ D1 H Q (kin_here K _ _) S1 ?_
  unfold gLendF at p
  cases e : g (lendA env) w with
  | bad => rw [e] at p; exact p
  | exc c fs w1 =>
    rw [e] at p
    simp only at p
    split at p
    · rename_i hf
      exact postX_lend hf back p
    · exact p.elim
  | ok r w1 =>
    rw [e] at p
    cases r with
    | lst ds =>
      simp only at p
      split at p
      · rename_i hf
        intro q fp D' H' S' s' ow
        obtain ⟨D'', S'', s'', up, _⟩ := back _ _ _ _ S'
        obtain ⟨e1, vs, hq, rv⟩ := ow
        exact p q fp D'' H' S'' s'' ⟨e1, vs, hq, flats_rp up hf rv⟩
      · exact p.elim
    | dK kvs => exact p.elim
    | dT kvs => exact p.elim
    | slf c fs => exact p.elim
    | ll dss => exact p.elim
    | dL kvs => exact p.elim
    | ins c fs =>
      simp only at p
      split at p
      · rename_i hf
        intro q fp D' H' S' s' ow
        obtain ⟨D'', S'', s'', up, _⟩ := back _ _ _ _ S'
        obtain ⟨Ca, dx, vs, r, e1, h1, h2, h3, t⟩ := ow
        exact p q fp D'' H' S'' s'' ⟨Ca, dx, vs, r, e1, h1, h2, h3, flatF_ok up hf t⟩
      · exact p.elim
theorem de_lend {e : Expr} {g : GE} (h : DE F e g) : DE F e (gLend g) := let ⟨t, a, b⟩ := h.ex; ⟨⟨t, a, fun W => den_lend (b W)⟩⟩
theorem df_lend {e : Expr} {g : GF} (h : DF F e g) : DF F e (gLendF g) := let ⟨t, a, b⟩ := h.ex; ⟨⟨t, a, fun W => den_lendF (b W)⟩⟩
theorem dt_lend {e : Expr} {g : GT} (h : DT F e g) : DT F e (gLendT g) := let ⟨t, a, b⟩ := h.ex; ⟨⟨t, a, fun W => den_lendT (b W)⟩⟩
theorem dl_lend {e : List Expr} {g : GA} (h : DL F e g) : DL F e (gLendL g) := let ⟨t, a, b⟩ := h.ex; ⟨⟨t, a, fun W => den_lendL (b W)⟩⟩
end
/-! ### handing on -/
section
variable {C : Ct} {env : Env} {w : Ds} {σ : St} {D H : Hp}
/-- the owned thing at i leaves its slot -/
theorem Sta.take (S : Sta C env w σ D H []) {i : Nat} {o : Ow} (e : env[i]? = some (.own o)) : ∃ p fp, σ[i]? = some (some (.ref p)) ∧ OwnAt C D H p o fp ∧ Sta C (env.set i .un) w σ D H fp := by
  obtain ⟨fs, h1, h2, h3⟩ := S.sl
  obtain ⟨p, f1, f2, f3, ef, hx, ow, hk, hk2⟩ := h1.own e
  refine ⟨p, f2, hx, ow, S.up, S.d0, S.kp, S.nw, S.wd, f1 ++ ([] ++ f3), hk2 .un D H [] (Sub.refl _) (fun _ _ _ e => e) rfl, ?_, fun q hq => h3 q ?_⟩
  · rw [List.nil_append] at h2 ⊢
    rw [ef] at h2
    have : (f1 ++ (f2 ++ f3)).Perm (f2 ++ (f1 ++ f3)) := by
      rw [← List.append_assoc, ← List.append_assoc]
      exact (List.perm_append_comm).append_right f3
    exact this.nodup_iff.mp h2
  · rw [List.nil_append, ef]
    rw [List.nil_append] at hq
    rcases List.mem_append.mp hq with z | z
    · simp [z]
    · rcases List.mem_append.mp z with z | z
      · simp [z]
      · simp [z]
end
section
variable {F : Fc}
/-- return x -/
def sRetV (i : Nat) : GS := fun env w => match env[i]? with
  | some (.own o) => .rtf o w
  | some (.dat d) => .ret d w
  | _ => .bad
/-! ### lists in place -/
/-- what a method without an answer makes of a list and its arguments -/
structure Lm (id : String) (f : List Dt → List Dt → Option (List Dt)) : Prop where
  run : ∃ r : V → List V → Hp → VK → Prop, (∀ X : Cx, MtR X id r) ∧ ∀ (k : Kp) (D H : Hp) (p : Addr) (vs xs : List V) (ds es ds' : List Dt) (Q : VK), H p = some (.lst vs) → Sub D H → RpL k D vs ds → RpL k D xs es → f ds es = some ds' →
    (∀ vs', RpL k D vs' ds' → Q .non (upd H p (.lst vs'))) → r (.ref p) xs H Q
def sLm (i : Nat) (f : List Dt → List Dt → Option (List Dt)) (ga : GA) : GS := fun env w => match env[i]? with
  | some (.own (.lst ds)) => match ga env w with
    | .ok es w1 => match f ds es with
      | some ds' => .nx (env.set i (.own (.lst ds'))) w1
      | none => .bad
    | .exc c fs w1 => .exc c fs env w1
    | .bad => .bad
  | _ => .bad
theorem ds_lm {x name : Str} {id : String} {f : List Dt → List Dt → Option (List Dt)} {p ap cp pos : PySem.Pos} {e : Expr} {es : List Expr} {ga : GA} (i : Nat) (L : Lm id f) (slot : Slot "list" name id) (hty : typeOf (.builtin id) = pure (.type "method_descriptor"))
    (hN : F.N[i]? = some x) (hv : Vis F.sc x) (h : DL F (e :: es) ga) (hd : (x == ("__debug__" : Str)) = false := by decide +kernel) (hcd : (x == ("__classdict__" : Str)) = false := by decide +kernel)
    (hbase : ∀ env, attributeBase (.Name x p) name env (eval (.Name x p) env) = eval (.Name x p) env := by intro _; rfl)
    (hfew : ∀ env, ((backTo cp (starEach (e :: es) env)).all (fun x => !x.1) && (backToKw cp (keywordEach [] env)).all (fun x => x.1.isSome)
      && decide ((e :: es).length + ([] : List Keyword).length + (if ([] : List Keyword).isEmpty then 0 else 1) < 30)) = true := by intro _; rfl)
    (hline : (ap.endLine == cp.line) = true := by rfl) (hs : ∀ env, starEach (e :: es) env = (false, eval e env) :: starEach es env := by intro _; rfl) (hplain : ∀ env, (backTo cp (starEach es env)).any (·.1) = false := by intro _; rfl)
    (hsw : ∀ env, swapsWith (.Call (.Attribute (.Name x p) name ap) (e :: es) [] cp) none pos.line env = pure false := by intro _; rfl) :
    DS F (.Expr (.Call (.Attribute (.Name x p) name ap) (e :: es) [] cp) pos) (sLm i f ga) := by
  obtain ⟨t, a1, a2⟩ := h.ex
  obtain ⟨r, r1, r2⟩ := L.run
  refine ⟨⟨fun W => tDrop (tBM F.K "list" r (tVar i) (t W)), fun X W O T => ?_, fun W C env w σ D H Dn K S q => ?_⟩⟩
  · rw [← O.K]
    exact ps_expr (pe_bm PySem.F.plainAttrs_list slot hty (r1 X) (pe_var (by rw [O.N]; exact hN) (by rw [O.sc]; exact hv) hd hcd) (a1 X W O T) (hbase _) (hfew _) hline (hs _) (hplain _)) (hsw _)
  · unfold sLm at q
    split at q
    · rename_i ds e
      obtain ⟨p, vs, hx, hp, rv, put⟩ := S.putL e
      refine ⟨_, hx, .inl ⟨rfl, vs, .inl (.inl hp)⟩, ?_⟩
      refine a2 W C env w σ D H _ K S ?_
      cases eg : ga env w with
      | bad => rw [eg] at q; exact q.elim
      | exc c fs w1 => rw [eg] at q; exact q σ
      | ok es w1 =>
        rw [eg] at q
        simp only at q
        intro xs D' H' S' s' rx
        obtain ⟨p', vs', hx', hp', rv', put'⟩ := S'.putL e
        rw [hx] at hx'
        cases hx'
        cases ef : f ds es with
        | none => rw [ef] at q; exact q.elim
        | some ds' =>
          rw [ef] at q
          exact r2 C.k D' H' p vs' xs ds es ds' _ hp' S'.up rv' rx ef fun vs2 r2' => q σ D' _ (put' vs2 ds' r2')
    · exact q.elim
def fApp : List Dt → List Dt → Option (List Dt) := fun ds es => match es with
  | [e] => if ds.length < sizeLine then some (ds ++ [e]) else none
  | _ => none
theorem lm_append : Lm "list.append" fApp := ⟨rAppend, fun X => mt_append, fun k D H p vs xs ds es ds' Q hp u rv rx e q => by
  unfold fApp at e
  split at e
  · split at e
    · cases e
      rename_i hl
      obtain ⟨v, rfl, r⟩ := one_rp rx
      exact ⟨p, vs, v, rfl, rfl, hp, by rw [rv.length]; exact hl, q _ (rv.append (.cons r .nil))⟩
    · cases e
  · cases e⟩
def fExt : List Dt → List Dt → Option (List Dt) := fun ds es => match es with
  | [.lst zs] => if ds.length + zs.length ≤ sizeLine then some (ds ++ zs) else none
  | _ => none
theorem ds_append {x : Str} {p ap cp pos : PySem.Pos} {e : Expr} {ga : GA} (i : Nat) (hN : F.N[i]? = some x) (hv : Vis F.sc x) (h : DL F [e] ga) (hd : (x == ("__debug__" : Str)) = false := by decide +kernel) (hcd : (x == ("__classdict__" : Str)) = false := by decide +kernel)
    (hfew : ∀ env, ((backTo cp (starEach [e] env)).all (fun x => !x.1) && (backToKw cp (keywordEach [] env)).all (fun x => x.1.isSome)
      && decide (([e] : List Expr).length + ([] : List Keyword).length + (if ([] : List Keyword).isEmpty then 0 else 1) < 30)) = true := by intro _; rfl)
    (hline : (ap.endLine == cp.line) = true := by rfl) (hs : ∀ env, starEach [e] env = (false, eval e env) :: starEach [] env := by intro _; rfl)
    (hsw : ∀ env, swapsWith (.Call (.Attribute (.Name x p) "append" ap) [e] [] cp) none pos.line env = pure false := by intro _; rfl) :
    DS F (.Expr (.Call (.Attribute (.Name x p) "append" ap) [e] [] cp) pos) (sLm i fApp ga) := ds_lm i lm_append PySem.F.slot_list_append PySem.F.type_list_append hN hv h hd hcd (fun _ => rfl) hfew hline hs (fun _ => rfl) hsw
/-- x += [..] -/
def sAugL (i : Nat) (g : GE) : GS := fun env w => match env[i]? with
  | some (.own (.lst ds)) => match g env w with
    | .ok (.lst zs) w1 => if ds.length + zs.length ≤ sizeLine then .nx (env.set i (.own (.lst (ds ++ zs)))) w1 else .bad
    | .ok _ _ => .bad
    | .exc c fs w1 => .exc c fs env w1
    | .bad => .bad
  | _ => .bad
end
end Dn
end
section
/-! isinstance, methods of texts, parallel stores. -/
namespace Dn
open PySem L2
section
variable {F : Fc}
/-! ### isinstance(x, a built-in type) -/
def tyD : Dt → Option String
  | .non => some "NoneType"
  | .bl _ => some "bool"
  | .int _ => some "int"
  | .str _ => some "str"
  | .tup _ => some "tuple"
  | .lst _ => some "list"
  | .dic _ => some "dict"
  | .scr _ => some "list"
  | .emp => some "tuple"
  | _ => none
theorem tyD_rp {k : Kp} {D H : Hp} {v : V} {d : Dt} {t : String} (u : Sub D H) (r : Rp k D v d) (e : tyD d = some t) : TyX k.K H v (.type t) := by
  cases r with
  | non => cases e; exact .base .non
  | bl b => cases e; exact .base (.bl b)
  | int i => cases e; exact .base (.int i)
  | str x => cases e; exact .base (.str x)
  | tup h r => cases e; exact .base (.tup (u _ _ h))
  | lst h r => cases e; exact .base (.lst (u _ _ h))
  | dic h _ r => cases e; exact .base (.dK (u _ _ h))
  | obj _ _ _ _ _ => cases e
  | dicT _ _ _ => cases e
  | dicF _ _ _ => cases e
  | dicFT _ _ _ => cases e
  | exn _ _ _ _ _ => cases e
  | wd _ => cases e
  | emp h =>
    cases e
    rcases h with (h | ⟨o, h⟩) | ⟨o, its, n, h, hc, _⟩
    · cases h
    · cases h
    · exact .kTuple h hc
  | scr h =>
    cases e
    rcases h with (h | ⟨o, h⟩) | ⟨o, its, n, h, hc, _⟩
    · exact .base (.lst (u _ _ h))
    · exact .base (.frz (u _ _ h))
    · exact .kList h hc
def gIsi (T : String) (g : GE) : GE := fun env w => (g env w).bind fun d w1 => match (tyD d).bind fun t => kitB t T with
  | some b => .ok (.bl b) w1
  | none => .bad
theorem de_isi {e : Expr} {x : Str} {T : String} {p p2 pos : PySem.Pos} {g : GE} (h : DE F e g) (hg : F.sc.names.lookup ("isinstance" : Str) = some .globalImplicit) (hm : F.mg "isinstance" = none) (hg2 : F.sc.names.lookup x = some .globalImplicit) (hm2 : F.mg x = none) (hv : bootBuiltins x = some (.type T))
    (hn : x ≠ "__name__" := by decide +kernel) (hdb : (x == ("__debug__" : Str)) = false := by decide +kernel)
    (hs : ∀ env, starEach [e, Expr.Name x p2] env = (false, eval e env) :: starEach [Expr.Name x p2] env := by intro _; rfl) : DE F (.Call (.Name "isinstance" p) [e, .Name x p2] [] pos) (gIsi T g) := by
  obtain ⟨t, a1, a2⟩ := h.ex
  refine ⟨⟨fun W => tCB (rIsi F.K) (tCons (t W) (tCons (tC (.ty T)) tNil)), fun X W O T' => ?_, fun W C env w σ D H Q K S p => ?_⟩⟩
  · rw [← O.K]
    exact pe_callB call_isi (by show X.env.scope.names.lookup _ = _; rw [O.sc]; exact hg) (by rw [O.mg]; exact hm) (by kernel_rfl) (pa_cons (a1 X W O T') (pa_cons (pe_bltn (by show X.env.scope.names.lookup _ = _; rw [O.sc]; exact hg2) (by rw [O.mg]; exact hm2) hv rfl hn hdb) pa_nil (by rfl)) (hs _)) (by decide +kernel) (by decide +kernel) (hs _) (by rfl)
  · refine a2 W C env w σ D H _ K S ?_
    unfold gIsi at p
    cases eg : g env w with
    | bad => rw [eg] at p; exact p.elim
    | exc c fs w1 => rw [eg] at p; exact p
    | ok d w1 =>
      rw [eg] at p
      simp only [Out.bind] at p
      intro v D' H' S' s' r
      cases et : tyD d with
      | none => rw [et] at p; exact p.elim
      | some t =>
        rw [et] at p
        simp only [Option.bind] at p
        cases ek : kitB t T with
        | none => rw [ek] at p; exact p.elim
        | some b =>
          rw [ek] at p
          exact ⟨v, .ty T, .type t, .type T, b, rfl, .ty T, K.K ▸ tyD_rp S'.up r et, kit_ty ek, p _ D' H' S' s' (.bl b)⟩
/-! ### methods of texts -/
/-- sep.join(texts) -/
def oJoin (a : Str) : Dt → Option Dt
  | .lst ds => (strsOf ds).bind fun ys => if (ys.map (·.length)).sum + ys.length * a.length ≤ 16777216 then some (.str (Txt.join a ys)) else none
  | .tup ds => (strsOf ds).bind fun ys => if (ys.map (·.length)).sum + ys.length * a.length ≤ 16777216 then some (.str (Txt.join a ys)) else none
  | _ => none
def gM1 (f : Str → Dt → Option Dt) (go ge : GE) : GE := fun env w => (go env w).bind fun a w1 => match a with
  | .str x => (ge env w1).bind fun d w2 => match f x d with
    | some r => .ok r w2
    | none => .bad
  | _ => .bad
theorem den_m1 {W : WX} {to te : TE} {go ge : GE} {r : V → List V → Hp → VK → Prop} {f : Str → Dt → Option Dt} (ho : DenE F W to go) (he : DenE F W te ge)
    (hr : ∀ k : Kp, k.K = F.K → ∀ D H x y d z, Sub D H → Rp k D y d → f x d = some z → ∀ Q : VK, (∀ v D' H', Ex D H D' H' → Rp k D' v z → Q v H') → r (.str x) [y] H Q) : DenE F W (tM1 r to te) (gM1 f go ge) := by
  intro C env w σ D H Q K S p
  refine ho C env w σ D H _ K S ?_
  unfold gM1 at p
  cases ea : go env w with
  | bad => rw [ea] at p; exact p.elim
  | exc c fs w1 => rw [ea] at p; exact p
  | ok a w1 =>
    rw [ea] at p
    simp only [Out.bind] at p
    intro v D1 H1 S1 s1 ra
    cases a with
    | str x =>
      cases ra
      refine ⟨⟨x, rfl⟩, he C env w1 σ D1 H1 _ K S1 ?_⟩
      simp only at p
      cases eb : ge env w1 with
      | bad => rw [eb] at p; exact p.elim
      | exc c fs w2 => rw [eb] at p; exact p
      | ok d w2 =>
        rw [eb] at p
        intro y D2 H2 S2 s2 rb
        simp only [Out.bind] at p
        cases ef : f x d with
        | none => rw [ef] at p; exact p.elim
        | some z =>
          rw [ef] at p
          exact hr C.k K.K D2 H2 x y d z S2.up rb ef Q fun v D' H' x' rv => p v D' H' (S2.ex x') (s1.trans (s2.trans x'.sub)) rv
    | _ => exact p.elim
theorem de_join {o e : Expr} {apos pos : PySem.Pos} {go ge : GE} (ho : DE F o go) (he : DE F e ge) (hs : ∀ env, starEach [e] env = [(false, eval e env)] := by intro _; rfl) (hbase : ∀ env, attributeBase o "join" env (eval o env) = eval o env := by intro _; rfl) (hline : (apos.endLine == pos.line) = true := by rfl) :
    DE F (.Call (.Attribute o "join" apos) [e] [] pos) (gM1 oJoin go ge) := by
  obtain ⟨to, o1, o2⟩ := ho.ex
  obtain ⟨te, e1, e2⟩ := he.ex
  refine ⟨⟨fun W => tM1 (fun x xs H Q => ∃ a p, ∃ ys : List Str, x = .str a ∧ xs = [.ref p] ∧ (SqL F.K H p (ys.map V.str) ∨ SqT F.K H p (ys.map V.str)) ∧ (ys.map (·.length)).sum + ys.length * a.length ≤ 16777216 ∧ Q (.str (Txt.join a ys)) H) (to W) (te W),
    fun X W O T => by rw [← O.K]; exact pe_join (o1 X W O T) (e1 X W O T) (hs _) (hbase _) hline, fun W => den_m1 (o2 W) (e2 W) fun k hK D H x y d z u r e Q q => ?_⟩⟩
  have fin : ∀ ds vs ys p, RpL k D vs ds → strsOf ds = some ys → (SqL F.K H p vs ∨ SqT F.K H p vs) → ((ys.map (·.length)).sum + ys.length * x.length ≤ 16777216) → ∃ a p', ∃ ys : List Str, V.str x = .str a ∧ [V.ref p] = [V.ref p'] ∧ (SqL F.K H p' (ys.map V.str) ∨ SqT F.K H p' (ys.map V.str)) ∧ (ys.map (·.length)).sum + ys.length * a.length ≤ 16777216 ∧ (Q (.str (Txt.join x ys)) H → Q (.str (Txt.join a ys)) H) := fun ds vs ys p r es hq hl => by
    have ev := strsOf_rp r es
    rw [ev] at hq
    exact ⟨x, p, ys, rfl, rfl, hq, hl, id⟩
  unfold oJoin at e
  split at e
  · rename_i ds
    cases es : strsOf ds with
    | none => rw [es] at e; cases e
    | some ys =>
      rw [es] at e
      simp only [Option.bind] at e
      split at e
      · rename_i hl
        cases e
        cases r with
        | lst hd rl =>
          have ev := strsOf_rp rl es
          rw [ev] at hd
          exact ⟨x, _, ys, rfl, rfl, .inl (.inl (.inl (u _ _ hd))), hl, q _ D H (Ex.refl u) (.str _)⟩
      · cases e
  · rename_i ds
    cases es : strsOf ds with
    | none => rw [es] at e; cases e
    | some ys =>
      rw [es] at e
      simp only [Option.bind] at e
      split at e
      · rename_i hl
        cases e
        cases r with
        | tup hd rl =>
          have ev := strsOf_rp rl es
          rw [ev] at hd
          exact ⟨x, _, ys, rfl, rfl, .inr (tupS u hd), hl, q _ D H (Ex.refl u) (.str _)⟩
      · cases e
  · cases e
/-- text.index(text) where it is found -/
def oIndex (a : Str) : Dt → Option Dt
  | .str b => match Builtin.Str.occurrences a b 0 a.length 1 with
    | i :: _ => some (.int (i : Nat))
    | [] => none
  | _ => none
/-! ### x, y = a, b; x, y, z = a, b, c -/
def sPar (is : List Nat) (ga : GA) : GS := fun env w => match ga env w with
  | .ok ds w1 => if ds.length = is.length ∧ is.all (fun i => decide (i < env.length)) then .nx ((is.zip ds).foldl (fun e p => e.set p.1 (.dat p.2)) env) w1 else .bad
  | .exc c fs w1 => .exc c fs env w1
  | .bad => .bad
theorem ds_par3 {x y z : Str} {a b c : Expr} {px py pz pt pt2 pos : PySem.Pos} {kt k2 : Nat} {ga : GA} (i j l : Nat) (hc : F.calm = true) (hN : F.N.Nodup) (hi : F.N[i]? = some x) (hj : F.N[j]? = some y) (hl : F.N[l]? = some z) (hij : i ≠ j) (hil : i ≠ l) (hjl : j ≠ l)
    (hx : F.sc.names.lookup x = some .local) (hy : F.sc.names.lookup y = some .local) (hz : F.sc.names.lookup z = some .local) (h : DL F [a, b, c] ga)
    (hw : ∀ env, env.scope = F.sc → swappedStores [.Tuple [.Name x px, .Name y py, .Name z pz] kt pt] (.Tuple [a, b, c] k2 pt2) env = pure (some [x, y, z]))
    (hs : ∀ env, swapsWithSole [.Tuple [.Name x px, .Name y py, .Name z pz] kt pt] (.Tuple [a, b, c] k2 pt2) pos.line env = pure false := by intro _; rfl) :
    DS F (.Assign [.Tuple [.Name x px, .Name y py, .Name z pz] kt pt] (.Tuple [a, b, c] k2 pt2) pos) (sPar [i, j, l] ga) := by
  obtain ⟨t, a1, a2⟩ := h.ex
  refine ⟨⟨fun W => tPar3 i j l (t W), fun X W O T => ?_, fun W C env w σ D H Dn K S q => ?_⟩⟩
  · exact ps_par3 (O.calm hc) (by rw [O.N]; exact hN) (by rw [O.N]; exact hi) (by rw [O.N]; exact hj) (by rw [O.N]; exact hl) hij hil hjl (by rw [O.sc]; exact hx) (by rw [O.sc]; exact hy) (by rw [O.sc]; exact hz) (a1 X W O T) (hw _ O.sc) (hs _)
  · refine a2 W C env w σ D H _ K S ?_
    unfold sPar at q
    cases e : ga env w with
    | bad => rw [e] at q; exact q
    | exc c fs w1 => rw [e] at q; exact q σ
    | ok ds w1 =>
      rw [e] at q
      simp only at q
      split at q
      · rename_i hl
        intro vs D' H' S' s' r
        obtain ⟨h1, h2⟩ := hl
        match ds, h1, r, q with
        | [d1, d2, d3], _, r, q =>
          obtain ⟨v, u, t, rfl, r1, r2, r3⟩ := three_rp r
          simp at h2
          exact ⟨v, u, t, rfl, q _ D' H' (((S'.setD r1 h2.1).setD r2 (by rw [List.length_set]; exact h2.2.1)).setD r3 (by rw [List.length_set, List.length_set]; exact h2.2.2))⟩
        | [], h, _, _ => simp at h
        | [_], h, _, _ => simp at h
        | [_, _], h, _, _ => simp at h
        | _ :: _ :: _ :: _ :: _, h, _, _ => simp at h
      · exact q.elim
end
end Dn
end
section
/-! The law's own def: the draws' list is made, the rest goes by it. -/
namespace Dn
open PySem L2
section
variable {k k' : Kp} {D : Hp}
structure KpUp (k k' : Kp) : Prop where
  K : k.K = k'.K
  cls : k.cls = k'.cls
  pd : ∀ a, k.pd = some a → k'.pd = some a
  xa : ∀ p, k.xa = some p → k'.xa = some p
mutual
theorem Rp.kp (h : KpUp k k') : ∀ {v : V} {d : Dt}, Rp k D v d → Rp k' D v d
  | _, _, .non => .non
  | _, _, .bl b => .bl b
  | _, _, .int i => .int i
  | _, _, .str x => .str x
  | _, _, .tup s r => .tup s (RpL.kp h r)
  | _, _, .lst s r => .lst s (RpL.kp h r)
  | _, _, .dic s e r => .dic s e (RpL.kp h r)
  | _, _, .dicT s e r => .dicT s e (RpL.kp h r)
  | _, _, .dicF s e r => .dicF s e (RpL.kp h r)
  | _, _, .dicFT s e r => .dicFT s e (RpL.kp h r)
  | _, _, .obj s o c e r => .obj s o (h.cls ▸ c) e (RpL.kp h r)
  | _, _, .exn s c o e r => .exn (h.xa _ s) (h.cls ▸ c) o e (RpL.kp h r)
  | _, _, .wd e => .wd (h.pd _ e)
  | _, _, .scr s => .scr (h.K ▸ s)
  | _, _, .emp s => .emp (h.K ▸ s)
theorem RpL.kp (h : KpUp k k') : ∀ {vs : List V} {ds : List Dt}, RpL k D vs ds → RpL k' D vs ds
  | _, _, .nil => .nil
  | _, _, .cons a r => .cons (Rp.kp h a) (RpL.kp h r)
end
theorem Kids.kp (h : KpUp k k') {H : Hp} : ∀ {ps : List Addr} {dss : List (List Dt)}, Kids k D H ps dss → Kids k' D H ps dss
  | [], [], _ => trivial
  | p :: ps, ds :: dss, ⟨⟨vs, e, r⟩, t⟩ => ⟨⟨vs, e, r.kp h⟩, Kids.kp h t⟩
  | [], _ :: _, h => h.elim
  | _ :: _, [], h => h.elim
theorem FldsOk.kp (h : KpUp k k') {H : Hp} : ∀ {vs : List (Str × V)} {fs : List (Str × Fv)} {fp : List Addr}, FldsOk k D H vs fs fp → FldsOk k' D H vs fs fp
  | [], [], _, z => z
  | (n, v) :: vs, (m, .d x) :: fs, fp, ⟨e, r, t⟩ => ⟨e, r.kp h, FldsOk.kp h t⟩
  | (n, v) :: vs, (m, .l ds) :: fs, fp, ⟨e, q, r, us, e1, e2, hq, rr, t⟩ => ⟨e, q, r, us, e1, e2, hq, rr.kp h, FldsOk.kp h t⟩
  | [], (_, .d _) :: _, _, h => h.elim
  | [], (_, .l _) :: _, _, h => h.elim
  | _ :: _, [], _, h => h.elim
theorem InsAt.kp (h : KpUp k k') {H : Hp} {p : Addr} {c : Str} {fs : List (Str × Fv)} {fp : List Addr} : InsAt k D H p c fs fp → InsAt k' D H p c fs fp
  | ⟨Ca, dx, vs, r, e, h1, h2, h3, t⟩ => ⟨Ca, dx, vs, r, e, h1, h2, h.cls ▸ h3, t.kp h⟩
end
theorem OwnAt.kp {C C' : Ct} {D H : Hp} {p : Addr} (h : KpUp C.k C'.k) (hs : ∀ p, C.k.sf = some p → C'.k.sf = some p) : ∀ {o : Ow} {fp : List Addr}, OwnAt C D H p o fp → OwnAt C' D H p o fp
  | .lst _, _, ⟨e, vs, hp, r⟩ => ⟨e, vs, hp, r.kp h⟩
  | .dK _, _, ⟨e, vs, hp, q, r⟩ => ⟨e, vs, hp, q, r.kp h⟩
  | .dT _, _, ⟨e, vs, hp, q, r⟩ => ⟨e, vs, hp, q, r.kp h⟩
  | .ins _ _, _, o => InsAt.kp h o
  | .slf _ _, _, ⟨z, o⟩ => ⟨hs _ z, o.kp h⟩
  | .ll _, _, ⟨ps, e, hp, t⟩ => ⟨ps, e, hp, t.kp h⟩
  | .dL _, _, ⟨ps, ks, e, hp, q1, q2, t⟩ => ⟨ps, ks, e, hp, q1, q2, t.kp h⟩
theorem SlotsOk.kp {C C' : Ct} {D H : Hp} (h : KpUp C.k C'.k) (hs : ∀ p, C.k.sf = some p → C'.k.sf = some p) : ∀ {ss : List Sl} {σ : St} {fp : List Addr}, SlotsOk C D H ss σ fp → SlotsOk C' D H ss σ fp
  | [], [], _, s => s
  | .un :: ss, x :: xs, fp, ⟨f1, f2, e, a, r⟩ => ⟨f1, f2, e, a, r.kp h hs⟩
  | .dat d :: ss, x :: xs, fp, ⟨f1, f2, e, ⟨a, v, hv, q⟩, r⟩ => ⟨f1, f2, e, ⟨a, v, hv, q.kp h⟩, r.kp h hs⟩
  | .own o :: ss, x :: xs, fp, ⟨f1, f2, e, ⟨p, hp, q⟩, r⟩ => ⟨f1, f2, e, ⟨p, hp, q.kp h hs⟩, r.kp h hs⟩
  | [], _ :: _, _, s => s.elim
  | _ :: _, [], _, s => s.elim
def w0 (ns : List Int) : Ds := ⟨ns, 0, 0, 7⟩
/-- the draws' list made at slot j -/
theorem Sta.begin {C : Ct} {env : Env} {w : Ds} {σ : St} {D H : Hp} {j : Nat} {ns : List Int} (S : Sta C env w σ D H []) (hpd : C.k.pd = none) (hns : C.k.ns = ns) (e : env[j]? = some (.own (.lst [.scr ns, .int 0, .int 0, .int 7]))) :
    ∃ k1 : Kp, k1.K = C.k.K ∧ k1.cls = C.k.cls ∧ k1.tb = C.k.tb ∧ k1.xa = C.k.xa ∧ Sta ⟨k1, H, D⟩ ((hideO (env.set j .un)).set j (.dat .wd)) (w0 ns) σ D H [] := by
  obtain ⟨p, fp, hx, ow, S1⟩ := S.take e
  obtain ⟨ef, vs, hp, r⟩ := ow
  subst ef
  cases r with
  | cons r1 r =>
    cases r with
    | cons r2 r =>
      cases r with
      | cons r3 r =>
        cases r with
        | cons r4 r =>
          cases r
          cases r2
          cases r3
          cases r4
          cases r1 with
          | @scr a _ hs =>
            have up : KpUp C.k { C.k with pd := some p, sq := a } := ⟨rfl, rfl, fun a e => (by rw [hpd] at e; cases e), fun _ e => e⟩
            obtain ⟨fs, g1, g2, g3⟩ := S1.sl
            have hpn := g3 p (by simp)
            refine ⟨{ C.k with pd := some p, sq := a }, rfl, rfl, rfl, rfl, S1.up, Sub.refl _, fun _ _ _ q => q, fun a q n => absurd q n, ⟨fun q hq => ?_, fun q hq => S1.wd.tb q hq, S1.wd.tp⟩, ?_⟩
            · cases hq
              exact ⟨hp, hpn.1, hns.symm, by rw [hns]; exact hs⟩
            · have hj : j < (hideO (env.set j .un)).length := by
                have l1 := (slots_hideO g1).length
                have l2 := S.len
                rw [l1]
                cases z : Nat.decLt j σ.length with
                | isTrue h => exact h
                | isFalse h => rw [List.getElem?_eq_none (Nat.le_of_not_lt h)] at hx; cases hx
              have g4 : SlotsOk ⟨{ C.k with pd := some p, sq := a }, H, D⟩ D H (hideO (env.set j .un)) σ [] := SlotsOk.kp (C := C) (C' := ⟨{ C.k with pd := some p, sq := a }, H, D⟩) up (fun _ e => e) (slots_hideO g1)
              obtain ⟨fp', k1, k2, k3⟩ := g4.set (i := j) (s := .dat .wd) (x := some (.ref p)) (fx := []) ⟨rfl, _, rfl, .wd rfl⟩ hj (by simp)
              have e0 : fp' = [] := List.eq_nil_iff_forall_not_mem.mpr fun q hq => by
                have := k3 q hq
                simp at this
              subst e0
              have eσ : σ.set j (some (.ref p)) = σ := by
                apply List.ext_getElem?
                intro i
                by_cases z : j = i
                · subst z
                  have hlt : j < σ.length := by
                    cases zz : Nat.decLt j σ.length with
                    | isTrue h => exact h
                    | isFalse h => rw [List.getElem?_eq_none (Nat.le_of_not_lt h)] at hx; cases hx
                  rw [hx, List.getElem?_set_self hlt]
                · rw [List.getElem?_set_ne z]
              rw [eσ] at k1
              exact ⟨[], k1, List.nodup_nil, fun q hq => nomatch hq⟩
/-- the law's promise: a row of ints to True -/
def spLaw (K : PySem.W.Frag) (n : Nat) (cs : List (Addr × Addr)) : Sp := fun vs H Q E => ∃ (a : Addr) (ns : List Int), vs = [.ref a] ∧ ns.length ≤ n ∧ (∀ z ∈ ns, Builtin.Int.intBits z ≤ 1048576) ∧ (∀ p ∈ cs, H p.2 = some (.tbl #[])) ∧ SqL K H a (ns.map V.int) ∧ ∀ H', Q (.bl true) H'
end Dn
end
section
/-! Small rules; defs out of the head's facts. -/
namespace Dn
open PySem L2
section
variable {F : Fc}
def gNeg (g : GE) : GE := fun env w => (g env w).bind fun a w1 => match a with
  | .int i => .ok (.int (-i)) w1
  | _ => .bad
/-- return f(..): an owned thing is handed on -/
def sRetC (na : Nat) (dds : List Dt) (m : Mf) (ga : GA) : GS := fun env w => match ga env w with
  | .ok ds w1 => if ds.length = na then (match m (ds ++ dds) w1 with
    | .dat r w2 => .ret r w2
    | .own o w2 => .rtf o w2
    | .exc c fs w2 => .exc c fs env w2
    | .bad => .bad) else .bad
  | .exc c fs w1 => .exc c fs env w1
  | .bad => .bad
theorem ds_retC {x : Str} {p pos pos2 : PySem.Pos} {e : Expr} {es : List Expr} {ga : GA} {j na : Nat} {dds : List Dt} {m : Mf} (G : FkA F.toBs j x na dds m) (hj : j ≤ F.lv) (hg : F.sc.names.lookup x = some .globalImplicit) (h : DL F (e :: es) ga)
    (hdb : (x == ("__debug__" : Str)) = false := by decide +kernel) (he : ∀ env, starEach (e :: es) env = (false, eval e env) :: starEach es env := by intro _; rfl) (hpl : ∀ env, (backTo pos (starEach es env)).any (·.1) = false := by intro _; rfl) (hx : F.xa = none := by rfl) (hc : F.calm = true := by rfl) :
    DS F (.Return (some (.Call (.Name x p) (e :: es) [] pos)) pos2) (sRetC na dds m ga) := by
  obtain ⟨ta, a1, a2⟩ := h.ex
  obtain ⟨f, fd, ps, dvs, ds, hm, hk, fn, hb, hd, hn, hr⟩ := G.ex
  refine ⟨⟨fun W => tRet (tCallSD (spM F.K F.cls F.tb ps.length m) dvs (WE W) (ta W)), fun X W O T => ps_ret ?_, fun W C env w σ D H Dn K S q => ?_⟩⟩
  · refine pe_callSD (CX := L2.CX X.prog X.w) (f := f) (fd := fd) (ps := ps) (ds := ds) (k := j) ?_ ((O.full hc).mono hj) ?_ ?_ ?_ ?_ hd (fun σ => passAt T.tk σ) (a1 X W O T) hdb (he _) (hpl _)
    · rw [O.prog, O.w, O.K, O.mg, O.base]; exact fn
    · show X.env.scope.names.lookup x = _; rw [O.sc]; exact hg
    · rw [O.mg]; exact hm
    · rw [O.K]; exact hk
    · rw [O.K]; exact hb
  · refine a2 W C env w σ D H _ K S ?_
    unfold sRetC at q
    cases ea : ga env w with
    | bad => rw [ea] at q; exact q.elim
    | exc c fs w1 => rw [ea] at q; exact q σ
    | ok ds w1 =>
      rw [ea] at q
      simp only at q
      intro vs D1 H1 S1 s1 r
      by_cases hl : ds.length = na
      · rw [if_pos hl] at q
        refine ⟨by rw [List.length_append, r.length, (hr C.k D1 K.K K.cls).length, hl, hn], C.k, D1, ds ++ dds, w1, K.K, K.cls, K.tb, K.xa.trans hx, S1.up, r.append (hr C.k D1 K.K K.cls), S1.wd, ?_⟩
        cases em : m (ds ++ dds) w1 with
        | bad => rw [em] at q; exact q
        | dat d w2 => rw [em] at q; exact fun v D' H' x rv => q env σ v D' H' (S1.ew (fun _ h => nomatch h) (Ew.ct (C := ⟨C.k, H1, D1⟩) (C' := C) rfl x)) rv
        | exc c fs w2 => rw [em] at q; exact fun Ca d D' H' x xx => q σ Ca d D' H' (S1.ew (fun _ h => nomatch h) (Ew.ct (C := ⟨C.k, H1, D1⟩) (C' := C) rfl x)) xx
        | own o w2 =>
          rw [em] at q
          exact fun p fp D' H' x ow nd hq => q env σ p fp D' H' (S1.freshW (Ew.ct (C := ⟨C.k, H1, D1⟩) (C' := C) rfl x) nd hq) (ow.ct rfl)
      · rw [if_neg hl] at q; exact q.elim
end
/-! ### defs out of facts -/
theorem fk_of {B : Bs} {x qual : Str} {params : Arguments} {body : List Stmt} {scope : Scope} {f : Addr} {fd : FuncData} {ps : List Str} {m : Mf} {j : Nat} (Fu : FunD B.K x qual params body scope [] [] f fd) (hm : B.mg x = some (.ref f))
    (fn : FnOk B.P B.w B.K B.mg B.base (L2.CX B.P B.w) j f fd ps (spM B.K B.cls B.tb ps.length m)) (hb : Binds B.K fd ps []) : FkA B j x ps.length [] m :=
  ⟨f, fd, ps, [], [], hm, Fu.kp, fn, hb, .nil, rfl, fun _ _ _ _ => .nil⟩
end Dn
end
section
/-! What the printed texts share. -/
namespace Dn
open PySem L2
/-- the statements at a path: .inl i: the body of the i-th statement, .inr i: its other branch -/
def bodyAt : List Stmt → List (Nat ⊕ Nat) → List Stmt
  | ss, [] => ss
  | ss, .inl i :: r => (match ss.getD i (.Pass ⟨0, 0, 0, 0⟩) with
    | .For _ _ b _ _ => bodyAt b r
    | .While _ b _ _ => bodyAt b r
    | .If _ b _ _ => bodyAt b r
    | .Try b _ _ _ _ => bodyAt b r
    | _ => [])
  | ss, .inr i :: r => (match ss.getD i (.Pass ⟨0, 0, 0, 0⟩) with
    | .If _ _ b _ => bodyAt b r
    | _ => [])
abbrev keyPair : Str → PyData := fun x => .tuple [.int x.length, .str x]
end Dn
end
section
/-! j -> 5 j + 1 modulo 2^k, from 0, runs through all places (for sets of tuples of any size; nothing uses it yet). -/
namespace Lcg
def s : Nat → Nat
  | 0 => 0
  | n + 1 => 5 * s n + 1
theorem s_add (a : Nat) : ∀ d, s (a + d) = 5 ^ d * s a + s d
  | 0 => by simp [s]
  | d + 1 => by
    rw [← Nat.add_assoc]
    show 5 * s (a + d) + 1 = 5 ^ (d + 1) * s a + (5 * s d + 1)
    rw [s_add a d, Nat.pow_succ, Nat.mul_add, ← Nat.add_assoc]
    congr 2
    rw [Nat.mul_comm (5 ^ d) 5, Nat.mul_assoc]
theorem s_par : ∀ n, s n % 2 = n % 2
  | 0 => rfl
  | n + 1 => by
    have := s_par n
    show (5 * s n + 1) % 2 = (n + 1) % 2
    omega
theorem five_mod : ∀ n, 5 ^ n % 4 = 1
  | 0 => rfl
  | n + 1 => by
    have := five_mod n
    rw [Nat.pow_succ]
    omega
theorem s_two (m : Nat) : s (m + m) = s m * (5 ^ m + 1) := by
  rw [s_add, Nat.mul_add, Nat.mul_one, Nat.mul_comm]
theorem odd_cop {a : Nat} (h : a % 2 = 1) (k : Nat) : Nat.Coprime (2 ^ k) a := by
  refine Nat.Coprime.pow_left k ?_
  have g := Nat.gcd_dvd_left 2 a
  have g2 := Nat.gcd_dvd_right 2 a
  have le := Nat.le_of_dvd (by decide) g
  show Nat.gcd 2 a = 1
  have pos : 0 < Nat.gcd 2 a := Nat.gcd_pos_of_pos_left _ (by decide)
  by_cases e : Nat.gcd 2 a = 2
  · rw [e] at g2
    omega
  · omega
theorem dvd_s : ∀ (k n : Nat), 2 ^ k ∣ s n → 2 ^ k ∣ n
  | 0, n, _ => by simp
  | k + 1, n, h => by
    have even : s n % 2 = 0 := by
      have : 2 ∣ s n := Nat.dvd_trans ⟨2 ^ k, by rw [Nat.pow_succ, Nat.mul_comm]⟩ h
      omega
    have ne : n % 2 = 0 := by rw [← s_par]; exact even
    obtain ⟨m, rfl⟩ : ∃ m, n = m + m := ⟨n / 2, by omega⟩
    have f := five_mod m
    obtain ⟨o, ho⟩ : ∃ o, 5 ^ m + 1 = 2 * o := ⟨(5 ^ m + 1) / 2, by omega⟩
    have oo : o % 2 = 1 := by omega
    rw [s_two, ho, Nat.pow_succ] at h
    have h2 : 2 ^ k * 2 ∣ s m * o * 2 := by
      rw [Nat.mul_assoc, Nat.mul_comm o 2]; exact h
    have h3 : 2 ^ k ∣ s m * o := Nat.dvd_of_mul_dvd_mul_right (by decide) h2
    have h4 : 2 ^ k ∣ s m := (odd_cop oo k).dvd_of_dvd_mul_right h3
    obtain ⟨c, hc⟩ := dvd_s k m h4
    exact ⟨c, by rw [Nat.pow_succ, Nat.mul_assoc, Nat.mul_comm 2 c, ← Nat.mul_assoc, ← hc]; omega⟩
theorem s_inj {k a b : Nat} (ab : a < b) (hb : b - a < 2 ^ k) : s a % 2 ^ k ≠ s b % 2 ^ k := fun e => by
  obtain ⟨d, rfl⟩ : ∃ d, b = d + a := ⟨b - a, by omega⟩
  have eq := s_add d a
  have h1 : 2 ^ k ∣ 5 ^ a * s d := by
    have z := Nat.dvd_of_mod_eq_zero (Nat.sub_mod_eq_zero_of_mod_eq e.symm)
    rw [eq, Nat.add_sub_cancel] at z
    exact z
  have odd : (5 ^ a) % 2 = 1 := by have := five_mod a; omega
  have h2 : 2 ^ k ∣ s d := (odd_cop odd k).dvd_of_dvd_mul_left h1
  have h3 := Nat.le_of_dvd (by omega) (dvd_s k d h2)
  omega
theorem nd_len : ∀ {xs ys : List Nat}, xs.Nodup → (∀ c ∈ xs, c ∈ ys) → xs.length ≤ ys.length
  | [], _, _, _ => by simp
  | x :: xs, ys, n, h => by
    have hn := List.nodup_cons.mp n
    have hx := h x List.mem_cons_self
    have := nd_len (xs := xs) (ys := ys.erase x) hn.2 fun c hc => (List.mem_erase_of_ne (fun e : c = x => hn.1 (e ▸ hc))).mpr (h c (List.mem_cons_of_mem _ hc))
    rw [List.length_erase_of_mem hx] at this
    have := List.length_pos_of_mem hx
    simp only [List.length_cons]
    omega
/-- every place is met within 2^k steps, from anywhere -/
theorem s_from (c : Nat) {k j : Nat} (hj : j < 2 ^ k) : ∃ b, b < 2 ^ k ∧ s (c + b) % 2 ^ k = j := by
  have nd : ((List.range (2 ^ k)).map fun b => s (c + b) % 2 ^ k).Nodup := by
    refine List.pairwise_map.mpr (List.Pairwise.imp_of_mem ?_ List.pairwise_lt_range)
    intro a b _ hb lt
    exact s_inj (by omega) (by have := List.mem_range.mp hb; omega)
  by_cases m : j ∈ (List.range (2 ^ k)).map fun b => s (c + b) % 2 ^ k
  · obtain ⟨b, hb, e⟩ := List.mem_map.mp m
    exact ⟨b, List.mem_range.mp hb, e⟩
  · have := nd_len (xs := j :: (List.range (2 ^ k)).map fun b => s (c + b) % 2 ^ k) (ys := List.range (2 ^ k)) (List.nodup_cons.mpr ⟨m, nd⟩) fun c' hc => by
      rcases List.mem_cons.mp hc with e | hc
      · rw [e]; exact List.mem_range.mpr hj
      · obtain ⟨b, _, e⟩ := List.mem_map.mp hc
        rw [← e]
        exact List.mem_range.mpr (Nat.mod_lt _ (Nat.two_pow_pos k))
    simp at this
    omega
/-- stepping modulo 2^k is s -/
theorem step_mod (k n : Nat) : (5 * (s n % 2 ^ k) + 1) % 2 ^ k = s (n + 1) % 2 ^ k := by
  show _ = (5 * s n + 1) % 2 ^ k
  rw [Nat.add_mod, Nat.mul_mod, Nat.mod_mod, ← Nat.mul_mod, ← Nat.add_mod]
end Lcg
end
section
/-! Sets of tuples of ints, up to some thousand of them: the tables. -/
namespace Tg
open PySem PySem.Spec PyProof.Rows L2
/-! ### the way of a search -/
/-- every place begins a run early enough -/
def Rnd (m : Nat) : Prop := m % 2 = 1 ∧ ∀ (h : Int) (j : Nat), j ≤ m → ∃ n, n ≤ m + 12 ∧ runI m (SetTable.bits h) n = j
theorem lcg_s {m k : Nat} (hm : m + 1 = 2 ^ k) (b : Nat) : ∀ n, lcgI m (Lcg.s b % 2 ^ k) n = Lcg.s (b + n) % 2 ^ k
  | 0 => rfl
  | n + 1 => by
    show (lcgI m (Lcg.s b % 2 ^ k) n * 5 + 1) % (m + 1) = Lcg.s (b + n + 1) % 2 ^ k
    rw [lcg_s hm b n, hm, Nat.mul_comm, Lcg.step_mod]
theorem rnd_pow {m k : Nat} (hm : m + 1 = 2 ^ (k + 1)) : Rnd m := by
  refine ⟨by rw [Nat.pow_succ] at hm; omega, fun h j hj => ?_⟩
  obtain ⟨b, _, e⟩ := Lcg.s_from 0 (k := k + 1) (j := runI m (SetTable.bits h) 12) (by have := runI_le m (SetTable.bits h) 12; omega)
  obtain ⟨n, hn, e2⟩ := Lcg.s_from (0 + b) (k := k + 1) (j := j) (by omega)
  exact ⟨12 + n, by omega, by rw [runI_tail (bits_lt h), ← e, lcg_s hm, e2]⟩
/-- the probe's c-th state -/
abbrev pr (m : Nat) (h : Int) (c : Nat) : SetTable.Probe := nth m (runAt m (SetTable.bits h % (m + 1)) (SetTable.bits h)) c
theorem pr_add (m : Nat) (h : Int) (c q : Nat) : nth m (pr m h c) q = pr m h (c + q) := (nth_add m c _ q).symm
theorem pr_clean (m : Nat) (h : Int) : ∀ c, (pr m h c).dummy = none
  | 0 => rfl
  | c + 1 => by
    have ih := pr_clean m h c
    show (nth m _ (c + 1)).dummy = none
    rw [nth_succ]
    unfold adv
    split <;> exact ih
theorem way_meets {m : Nat} (R : Rnd m) (h : Int) {j : Nat} (hj : j ≤ m) : ∃ k, k < 10 * SetTable.turns m ∧ way m h k = j := by
  obtain ⟨n, hn, e⟩ := R.2 h j hj
  obtain ⟨k, hk, e2⟩ := run_nth m (SetTable.bits h) n
  exact ⟨k, by unfold SetTable.turns; omega, (congrArg SetTable.Probe.j e2).trans e⟩
theorem way_in (m : Nat) (h : Int) (k : Nat) : way m h k ≤ m := by
  have b := runEnd_bd (m := m) (i := SetTable.bits h % (m + 1)) (Nat.le_of_lt_succ (Nat.mod_lt (SetTable.bits h) (Nat.succ_pos m)))
  have q := nth_in (m := m) k (runAt m (SetTable.bits h % (m + 1)) (SetTable.bits h)) (by
    show SetTable.bits h % (m + 1) + (SetTable.runEnd m (SetTable.bits h % (m + 1)) - SetTable.bits h % (m + 1)) ≤ m
    omega)
  exact Nat.le_trans (Nat.le_add_right _ _) q
/-! ### tables -/
/-- a hash leads to its place by occupied ones -/
def Led (m : Nat) (occ : Nat → Prop) (h : Int) (j : Nat) : Prop := ∃ k, way m h k = j ∧ ∀ k', k' < k → occ (way m h k')
theorem Led.mono {m : Nat} {p q : Nat → Prop} (f : ∀ x, p x → q x) {h : Int} {j : Nat} : Led m p h j → Led m q h j
  | ⟨k, e, b⟩ => ⟨k, e, fun k' l => f _ (b k' l)⟩
structure Tab (t : SetTable) (hs : List Int) : Prop where
  asc : Ris t.place.toList
  none : t.dummies = #[]
  cnt : t.place.toList.length = hs.length
  rnd : Rnd t.mask
  led : ∀ q ∈ hs.zip t.place.toList, Led t.mask (· ∈ t.place.toList) q.1 q.2
variable {t : SetTable} {hs : List Int}
theorem Tab.gap (T : Tab t hs) (hl : hs.length ≤ t.mask) (h : Int) : ∃ K, K < 10 * SetTable.turns t.mask ∧ way t.mask h K ∉ t.place.toList ∧ ∀ k, k < K → way t.mask h k ∈ t.place.toList := by
  obtain ⟨j, hj, hn⟩ := st_missing t.place.toList (t.mask + 1) (by rw [T.cnt]; omega)
  obtain ⟨k, hk, rfl⟩ := way_meets T.rnd h (Nat.le_of_lt_succ hj)
  obtain ⟨K, h1, h2, h3⟩ := st_least (p := fun k => way t.mask h k ∉ t.place.toList) k hn
  exact ⟨K, Nat.lt_of_le_of_lt h1 hk, h2, fun k' hk' => Classical.not_not.mp (h3 k' hk')⟩
theorem Tab.ahead (T : Tab t hs) {h : Int} {K i j : Nat} (hK : way t.mask h K ∉ t.place.toList) (hi : hs[i]? = some h) (hj : t.place.toList[i]? = some j) : ∃ k, k < K ∧ way t.mask h k = j := by
  obtain ⟨k, e, b⟩ := T.led (h, j) (List.mem_of_getElem? (i := i) (by rw [List.getElem?_zip_eq_some]; exact ⟨hi, hj⟩))
  have e : way t.mask h k = j := e
  refine ⟨k, ?_, e⟩
  rcases Nat.lt_trichotomy k K with c | c | c
  · exact c
  · exact absurd (List.mem_of_getElem? hj) (by rw [← e, c]; exact hK)
  · exact absurd (b K c) hK
theorem zip_ins {α β : Type} {xs : List α} {ys : List β} {p : Nat} {x : α} {y : β} (hl : xs.length = ys.length) {q : α × β} (hq : q ∈ (xs.take p ++ x :: xs.drop p).zip (ys.take p ++ y :: ys.drop p)) : q = (x, y) ∨ q ∈ xs.zip ys := by
  rw [List.zip_append (by simp [hl]), List.zip_cons_cons, List.mem_append, List.mem_cons] at hq
  have e : xs.zip ys = (xs.take p).zip (ys.take p) ++ (xs.drop p).zip (ys.drop p) := by
    rw [← List.zip_append (by simp [hl]), List.take_append_drop, List.take_append_drop]
  rw [e, List.mem_append]
  rcases hq with z | z | z
  · exact .inr (.inl z)
  · exact .inl z
  · exact .inr (.inr z)
/-- one put in, at the first gap -/
theorem Tab.put (T : Tab t hs) {h : Int} {K : Nat} (hK : way t.mask h K ∉ t.place.toList) (hb : ∀ k, k < K → way t.mask h k ∈ t.place.toList) {t' : SetTable} {p : Nat} (e : t.put (way t.mask h K) = (t', p)) :
    p = SetTable.below t.place (way t.mask h K) ∧ Tab t' (hs.take p ++ h :: hs.drop p) ∧ t'.mask = t.mask ∧ t'.led = t.led ∧ t'.plain = t.plain ∧ t'.fill = hs.length + 1 := by
  have ep : p = SetTable.below t.place (way t.mask h K) := (congrArg Prod.snd e).symm
  have et : t' = (t.put (way t.mask h K)).1 := (congrArg Prod.fst e).symm
  have em : t'.mask = t.mask := by rw [et]; rfl
  have pl : t'.place.toList = t.place.toList.take p ++ way t.mask h K :: t.place.toList.drop p := by rw [et, ep]; exact put_place _ _
  have pd : t'.dummies = #[] := by rw [et]; exact put_dm T.none _
  have occ : ∀ x, x ∈ t.place.toList → x ∈ t'.place.toList := fun x hx => by rw [pl]; exact mem_ins.mpr (.inr hx)
  have le : p ≤ t.place.toList.length := by rw [ep]; exact (below_cut T.asc _).1
  have hn : t.place[SetTable.below t.place (way t.mask h K)]? ≠ some (way t.mask h K) := fun z => hK (List.mem_of_getElem? (by rw [Array.getElem?_toList]; exact z))
  have cnt : t'.place.toList.length = hs.length + 1 := by rw [pl, len_ins _ le, T.cnt]
  refine ⟨ep, ⟨by rw [et]; exact ris_insert T.asc hn, pd, by rw [cnt, len_ins _ (by rw [← T.cnt]; exact le)], by rw [em]; exact T.rnd, fun q hq => ?_⟩, em, by rw [et]; rfl, by rw [et]; rfl, ?_⟩
  · rw [em]
    rw [pl] at hq
    rcases zip_ins T.cnt.symm hq with z | z
    · rw [z]
      exact ⟨K, rfl, fun k' l => occ _ (hb k' l)⟩
    · exact (T.led q z).mono occ
  · show t'.place.size + t'.dummies.size = _
    rw [pd, ← Array.length_toList, cnt]
    rfl
/-! ### laying all anew -/
theorem free_gap {m : Nat} (R : Rnd m) (owner : Array (Option Nat)) (h : Int) {j : Nat} (hj : j ≤ m) (hf : oAt owner j = none) :
    ∃ K, SetTable.layClean.free m owner (SetTable.turns m) (SetTable.bits h % (m + 1)) (SetTable.bits h) = some (way m h K) ∧ oAt owner (way m h K) = none ∧ ∀ k, k < K → oAt owner (way m h k) ≠ none := by
  obtain ⟨n, hn, e⟩ := R.2 h j hj
  have ew : way m h (off m (SetTable.bits h % (m + 1)) (SetTable.bits h) n) = j := by
    show (nth m _ _).j = j
    rw [nth_off, itL_run]
    exact e
  obtain ⟨K, k1, k2, k3⟩ := st_least (p := fun k => oAt owner (way m h k) = none) _ (show oAt owner (way m h _) = none by rw [ew]; exact hf)
  refine ⟨K, free_spec m owner (SetTable.turns m) n _ _ K (by unfold SetTable.turns; omega) k1 (fun k hk => ?_) ?_, k2, k3⟩
  · have q := k3 k hk
    show (oAt owner (way m h k)).isNone = false
    cases z : oAt owner (way m h k) with
    | none => exact absurd z q
    | some _ => rfl
  · show (oAt owner (way m h K)).isNone = true
    rw [k2]; rfl
/-- who sits where, of the first ones -/
structure Sat (m : Nat) (done : List Int) (owner : Array (Option Nat)) : Prop where
  size : owner.size = m + 1
  who : ∀ j k, j ≤ m → oAt owner j = some k → ∃ h, done[k]? = some h ∧ Led m (fun x => oAt owner x ≠ none) h j
  seat : ∀ k, k < done.length → ∃ j, j ≤ m ∧ oAt owner j = some k
  few : ∃ ps : List Nat, ps.length = done.length ∧ ∀ j, j ≤ m → oAt owner j ≠ none → j ∈ ps
theorem Sat.none (m : Nat) : Sat m [] (Array.replicate (m + 1) none) :=
  ⟨by simp, fun j k hj e => (by rw [oAt_init hj] at e; cases e), fun k hk => absurd hk (Nat.not_lt_zero k), ⟨[], rfl, fun j hj e => absurd (oAt_init hj) e⟩⟩
theorem Sat.more {m : Nat} (R : Rnd m) {done : List Int} {owner : Array (Option Nat)} (S : Sat m done owner) (hl : done.length ≤ m) (h : Int) :
    ∃ j, SetTable.layClean.free m owner (SetTable.turns m) (SetTable.bits h % (m + 1)) (SetTable.bits h) = some j ∧ Sat m (done ++ [h]) (owner.setIfInBounds j (some done.length)) := by
  obtain ⟨ps, hps, hin⟩ := S.few
  obtain ⟨j0, h0, n0⟩ := st_missing ps (m + 1) (by omega)
  obtain ⟨K, e1, e2, e3⟩ := free_gap R owner h (Nat.le_of_lt_succ h0) (Classical.not_not.mp fun z => n0 (hin j0 (Nat.le_of_lt_succ h0) z))
  have hw := way_in m h K
  refine ⟨_, e1, ?_⟩
  generalize ej : way m h K = j at hw e2 ⊢
  have at1 : oAt (owner.setIfInBounds j (some done.length)) j = some done.length := oAt_set_self _ (by rw [S.size]; omega)
  have at2 : ∀ x, x ≠ j → oAt (owner.setIfInBounds j (some done.length)) x = oAt owner x := fun x n => oAt_set_ne _ n
  have up : ∀ x, oAt owner x ≠ Option.none → oAt (owner.setIfInBounds j (some done.length)) x ≠ Option.none := fun x hx => by
    by_cases c : x = j
    · rw [c, at1]; exact fun z => nomatch z
    · rw [at2 x c]; exact hx
  refine ⟨by simp [S.size], fun x k hx e => ?_, fun k hk => ?_, ⟨j :: ps, by simp [hps], fun x hx e => ?_⟩⟩
  · by_cases c : x = j
    · rw [c, at1] at e
      cases e
      exact ⟨h, by simp, K, ej.trans c.symm, fun k' l => up _ (e3 k' l)⟩
    · rw [at2 x c] at e
      obtain ⟨h', a1, a2⟩ := S.who x k hx e
      exact ⟨h', by rw [List.getElem?_append_left (List.getElem?_eq_some_iff.mp a1).1]; exact a1, a2.mono up⟩
  · rw [List.length_append, List.length_singleton] at hk
    by_cases c : k = done.length
    · exact ⟨j, hw, by rw [c]; exact at1⟩
    · obtain ⟨x, hx, e⟩ := S.seat k (by omega)
      exact ⟨x, hx, by rw [at2 x fun z => by rw [z, e2] at e; cases e]; exact e⟩
  · by_cases c : x = j
    · rw [c]; exact List.mem_cons_self
    · rw [at2 x c] at e
      exact List.mem_cons_of_mem _ (hin x hx e)
theorem sat_all {m : Nat} (R : Rnd m) : ∀ (rest done : List Int) (owner : Array (Option Nat)), Sat m done owner → done.length + rest.length ≤ m →
    ∃ o2 n, rest.foldl (stepF m) (some (owner, done.length)) = some (o2, n) ∧ Sat m (done ++ rest) o2
  | [], done, owner, S, _ => ⟨owner, _, rfl, by rw [List.append_nil]; exact S⟩
  | h :: rest, done, owner, S, hl => by
    rw [List.length_cons] at hl
    obtain ⟨j, e, S2⟩ := S.more R (by omega) h
    obtain ⟨o2, n, f, S3⟩ := sat_all R rest (done ++ [h]) _ S2 (by simp; omega)
    rw [List.length_append, List.length_singleton] at f
    refine ⟨o2, n, by rw [List.foldl_cons, stepF_some e]; exact f, by simpa using S3⟩
theorem clean_sat {m : Nat} (R : Rnd m) {hs : Array Int} (hn : hs.size ≤ m) : ∃ owner, SetTable.layClean m hs = some owner ∧ Sat m hs.toList owner := by
  obtain ⟨owner, n, f, S⟩ := sat_all R hs.toList [] _ (Sat.none m) (by simpa using hn)
  refine ⟨owner, ?_, S⟩
  rw [layClean_eq]
  show Option.map _ (List.foldl (stepF m) (some (_, ([] : List Int).length)) _) = _
  rw [f]; rfl
theorem relaid_tab (t : SetTable) {hs : Array Int} {wanted M : Nat} (hw : SetTable.sizeAbove wanted - 1 = M) (R : Rnd M) (hn : hs.size ≤ M) :
    ∃ t' order, t.relaid hs wanted = some (t', order) ∧ order.toList.Perm (List.range hs.size) ∧ Tab t' (order.toList.map fun i => hs.getD i 0) ∧ t'.mask = M ∧ t'.led = t.led ∧ t'.plain = t.plain := by
  obtain ⟨owner, e, S⟩ := clean_sat R hn
  have asc := ris_live (fun j => owner.getD j none) (List.range (M + 1)) List.pairwise_lt_range
  have a1 : Ris ((liveOf M owner).map (·.1)) := asc.1
  have len : (liveOf M owner).length = hs.size := by
    obtain ⟨ps, p1, p2⟩ := S.few
    have le1 := nat_nodup_len ((liveOf M owner).map (·.1)) ps (by unfold Ris at a1; exact List.Pairwise.imp (fun h => Nat.ne_of_lt h) a1) fun x hx => by
      obtain ⟨⟨y, k⟩, hq, rfl⟩ := List.mem_map.mp hx
      obtain ⟨b1, b2⟩ := (mem_live S.size).1 hq
      exact p2 y b1 (by rw [b2]; exact fun z => nomatch z)
    have le2 := nat_nodup_len (List.range hs.size) ((liveOf M owner).map (·.2)) List.nodup_range fun k hk => by
      obtain ⟨j, b1, b2⟩ := S.seat k (by simpa using hk)
      exact List.mem_map.mpr ⟨(j, k), (mem_live S.size).2 ⟨b1, b2⟩, rfl⟩
    simp [p1] at le1 le2
    omega
  refine ⟨tabOf t M owner, ((liveOf M owner).map (·.2)).toArray, by rw [relaid_eq, hw, e]; rfl, ?_, ⟨a1, rfl, ?_, R, fun q hq => ?_⟩, rfl, rfl, rfl⟩
  · refine perm_range hs.size _ (by simpa using len) fun k hk => ?_
    obtain ⟨j, b1, b2⟩ := S.seat k (by simpa using hk)
    exact List.mem_map.mpr ⟨(j, k), (mem_live S.size).2 ⟨b1, b2⟩, rfl⟩
  · show ((liveOf M owner).map (·.1)).length = (((liveOf M owner).map (·.2)).map fun i => hs.getD i 0).length
    simp
  · have hq : q ∈ (((liveOf M owner).map (·.2)).map fun i => hs.getD i 0).zip ((liveOf M owner).map (·.1)) := hq
    rw [List.map_map, List.zip_map', List.mem_map] at hq
    obtain ⟨⟨j, k⟩, hp, rfl⟩ := hq
    obtain ⟨b1, b2⟩ := (mem_live S.size).1 hp
    obtain ⟨h, a2, a3⟩ := S.who j k b1 b2
    have eh : hs.getD k 0 = h := by
      rw [Array.getD_eq_getD_getElem?, ← Array.getElem?_toList, a2]; rfl
    show Led M _ (hs.getD k 0) j
    rw [eh]
    obtain ⟨K, k1, k2⟩ := a3
    refine ⟨K, k1, fun k' l => ?_⟩
    show way M h k' ∈ (liveOf M owner).map (·.1)
    cases z : oAt owner (way M h k') with
    | none => exact absurd z (k2 k' l)
    | some y => exact List.mem_map.mpr ⟨(way M h k', y), (mem_live S.size).2 ⟨way_in M h k', z⟩, rfl⟩
end Tg
end
section
/-! Runs of ten places from j, 5 j + 1, ..: so many of them cover more places than a table holds. -/
namespace Cov
def tbl : Nat := 4367623077290611604609183542899508640617468325020331465696276639735454226239946642591715566487387942275480869399490248137247221838152571361414148819975112304287061320456268925831697543273998388731794318035462886437978148873717633894245709178936182628129405935985285276083751660687932743647197405867390894768755442694641471626644222454433444800425674034104231743267222644349069421602972887922854689225493284182776884035294448067939012212660655091499804790530076275939164331871429756922814057854789967384791129288709867834878494031656041144970724425932262034850207766421100719488432408345867526676680304698428082704205000024492621694658364473540782040025907351473551866601189319267230836431976695163821602112445975482508308758206270795572091797272920057926784391028210235286933718536136481351966696491588419211260148892379081823763318795043120214527998280335651959484528836614118198222950079114628879175033448890063650163704208465500374097502820713413238295768541166965932119599073619354618128469267188790586498152201000534628044720580259525770015878466940504665642017264947212430971747744877573737609152396623060712416774764327897630729959627243285280440532684699961119463467343743041702229802148503330974988914824613886072088791450
/-- how many of ten signs are nought -/
def nb (x : Nat) : Nat := (tbl >>> (x <<< 2)) % 16
/-- the places that n runs cover: how many, beside cnt -/
def run (M : Nat) (n : Nat) : Nat → Nat → Nat → Nat :=
  Nat.rec (motive := fun _ => Nat → Nat → Nat → Nat) (fun _ _ cnt => cnt)
    (fun _ ih j acc cnt => bif Nat.beq ((5 * j + 1) % M) M then 0 else
      bif Nat.ble (j + 10) M then (bif Nat.beq (acc ||| (1023 <<< j)) 0 then 0 else bif Nat.beq (cnt + nb ((acc >>> j) % 1024)) M then 0 else ih ((5 * j + 1) % M) (acc ||| (1023 <<< j)) (cnt + nb ((acc >>> j) % 1024)))
      else ih ((5 * j + 1) % M) acc cnt) n
theorem nb_all : ((List.range 1024).all fun x => ((List.range 10).filter fun i => !x.testBit i).length == nb x) = true := by decide +kernel
theorem nb_eq {x : Nat} (h : x < 1024) : ((List.range 10).filter fun i => !x.testBit i).length = nb x := beq_iff_eq.mp (List.all_eq_true.mp nb_all x (List.mem_range.mpr h))
theorem run_le (M : Nat) (Occ : List Nat) : ∀ (n c j acc cnt : Nat) (L : List Nat), j = Lcg.s c % M → L.Nodup → L.length = cnt → (∀ p, p ∈ L ↔ acc.testBit p = true) → (∀ p ∈ L, p ∈ Occ) →
    (∀ b, b < n → ∀ i, i < 10 → Lcg.s (c + b) % M + 10 ≤ M → Lcg.s (c + b) % M + i ∈ Occ) → (∀ a, (5 * (Lcg.s a % M) + 1) % M = Lcg.s (a + 1) % M) → run M n j acc cnt ≤ Occ.length
  | 0, c, j, acc, cnt, L, _, nd, hl, _, hO, _, _ => by
    show cnt ≤ _
    rw [← hl]
    exact Lcg.nd_len nd hO
  | n + 1, c, j, acc, cnt, L, hj, nd, hl, hb, hO, hw, st => by
    have e1 : (5 * j + 1) % M = Lcg.s (c + 1) % M := by rw [hj]; exact st c
    have next : ∀ b, b < n → ∀ i, i < 10 → Lcg.s (c + 1 + b) % M + 10 ≤ M → Lcg.s (c + 1 + b) % M + i ∈ Occ := fun b hb' i hi => by
      have := hw (b + 1) (by omega) i hi
      rw [show c + (b + 1) = c + 1 + b by omega] at this
      exact this
    show (bif Nat.beq ((5 * j + 1) % M) M then 0 else
      bif Nat.ble (j + 10) M then (bif Nat.beq (acc ||| (1023 <<< j)) 0 then 0 else bif Nat.beq (cnt + nb ((acc >>> j) % 1024)) M then 0 else run M n ((5 * j + 1) % M) (acc ||| (1023 <<< j)) (cnt + nb ((acc >>> j) % 1024)))
      else run M n ((5 * j + 1) % M) acc cnt) ≤ _
    cases Nat.beq ((5 * j + 1) % M) M with
    | true => exact Nat.zero_le _
    | false =>
      cases hle : Nat.ble (j + 10) M with
      | false => exact run_le M Occ n (c + 1) _ _ _ L e1 nd hl hb hO next st
      | true =>
        cases Nat.beq (acc ||| (1023 <<< j)) 0 with
        | true => exact Nat.zero_le _
        | false =>
          cases Nat.beq (cnt + nb ((acc >>> j) % 1024)) M with
          | true => exact Nat.zero_le _
          | false =>
            have hjM : Lcg.s (c + 0) % M + 10 ≤ M := by
              show Lcg.s c % M + 10 ≤ M
              rw [← hj]
              exact Nat.le_of_ble_eq_true hle
            have low : ∀ i, i < 10 → ((acc >>> j) % 1024).testBit i = acc.testBit (j + i) := fun i hi => by
              rw [show (1024 : Nat) = 2 ^ 10 from rfl, Nat.testBit_mod_two_pow, Nat.testBit_shiftRight, decide_eq_true hi, Bool.true_and]
            let F := (List.range 10).filter fun i => !((acc >>> j) % 1024).testBit i
            have mF : ∀ {i}, i ∈ F ↔ i < 10 ∧ acc.testBit (j + i) = false := fun {i} => by
              show i ∈ List.filter _ _ ↔ _
              rw [List.mem_filter, List.mem_range]
              constructor
              · rintro ⟨h1, h2⟩; rw [low i h1] at h2; exact ⟨h1, by simpa using h2⟩
              · rintro ⟨h1, h2⟩; exact ⟨h1, by rw [low i h1, h2]; rfl⟩
            refine run_le M Occ n (c + 1) _ _ _ (F.map (j + ·) ++ L) e1 (List.nodup_append.mpr ⟨?_, nd, ?_⟩) ?_ (fun p => ?_) (fun p hp => ?_) next st
            · exact List.pairwise_map.mpr (List.Pairwise.imp (fun h e => h (by omega)) ((List.filter_sublist).nodup List.nodup_range))
            · rintro p hp q hq rfl
              obtain ⟨i, hi, rfl⟩ := List.mem_map.mp hp
              have := (mF.mp hi).2
              rw [(hb _).mp hq] at this
              cases this
            · rw [List.length_append, List.length_map, hl, ← nb_eq (Nat.mod_lt _ (by decide))]
              exact Nat.add_comm _ _
            · rw [List.mem_append, List.mem_map, Nat.testBit_or, Bool.or_eq_true, Nat.testBit_shiftLeft, show (1023 : Nat) = 2 ^ 10 - 1 from rfl, Nat.testBit_two_pow_sub_one, Bool.and_eq_true, decide_eq_true_eq, decide_eq_true_eq, hb p]
              constructor
              · rintro (⟨i, hi, rfl⟩ | h)
                · exact .inr ⟨by omega, by have := (mF.mp hi).1; omega⟩
                · exact .inl h
              · rintro (h | ⟨h1, h2⟩)
                · exact .inr h
                · by_cases z : acc.testBit p = true
                  · exact .inr z
                  · exact .inl ⟨p - j, mF.mpr ⟨h2, by rw [show j + (p - j) = p by omega]; simpa using z⟩, by omega⟩
            · rcases List.mem_append.mp hp with h | h
              · obtain ⟨i, hi, rfl⟩ := List.mem_map.mp h
                have := hw 0 (by omega) i (mF.mp hi).1 hjM
                rw [Nat.add_zero, ← hj] at this
                exact this
              · exact hO p h
theorem s_jump {M d q r : Nat} (hq : 5 ^ d % M = q) (hr : Lcg.s d % M = r) (c : Nat) : Lcg.s (c + d) % M = (q * (Lcg.s c % M) + r) % M := by
  rw [Lcg.s_add, ← hq, ← hr, Nat.add_mod, Nat.mul_mod (5 ^ d)]
  rw [Nat.add_mod (5 ^ d % M * (Lcg.s c % M)), Nat.mod_mod]
def st15 : List Nat := [0, 24924, 9976, 27860, 3824, 10572]
theorem pw15 : 5 ^ 6980 % 32768 = 1393 := by decide +kernel
theorem sj15 : Lcg.s 6980 % 32768 = 24924 := by decide +kernel
theorem ch15 : ((List.range 5).all fun i => st15.getD (i + 1) 0 == (1393 * st15.getD i 0 + 24924) % 32768) = true := by decide +kernel
theorem at15 : ∀ i, i < 6 → st15.getD i 0 = Lcg.s (6980 * i) % 32768
  | 0, _ => rfl
  | i + 1, h => by
    have e := beq_iff_eq.mp (List.all_eq_true.mp ch15 i (List.mem_range.mpr (by omega)))
    rw [e, at15 i (by omega), Nat.mul_succ]
    exact (s_jump pw15 sj15 _).symm
theorem b15_0 : Nat.ble 20000 (run 32768 3000 0 0 0) = true := by decide +kernel
theorem b15_1 : Nat.ble 20000 (run 32768 3000 24924 0 0) = true := by decide +kernel
theorem b15_2 : Nat.ble 20000 (run 32768 3000 9976 0 0) = true := by decide +kernel
theorem b15_3 : Nat.ble 20000 (run 32768 3000 27860 0 0) = true := by decide +kernel
theorem b15_4 : Nat.ble 20000 (run 32768 3000 3824 0 0) = true := by decide +kernel
theorem b15_5 : Nat.ble 20000 (run 32768 3000 10572 0 0) = true := by decide +kernel
theorem bl15 : ∀ x ∈ st15, Nat.ble 20000 (run 32768 3000 x 0 0) = true :=
  List.forall_mem_cons.mpr ⟨b15_0, List.forall_mem_cons.mpr ⟨b15_1, List.forall_mem_cons.mpr ⟨b15_2, List.forall_mem_cons.mpr ⟨b15_3, List.forall_mem_cons.mpr ⟨b15_4, List.forall_mem_cons.mpr ⟨b15_5, fun _ h => nomatch h⟩⟩⟩⟩⟩⟩
theorem bs15 (i : Nat) (h : i < 6) : 20000 ≤ run 32768 3000 (st15.getD i 0) 0 0 := by
  have hl : i < st15.length := h
  rw [List.getD_eq_getElem?_getD, List.getElem?_eq_getElem hl]
  exact Nat.le_of_ble_eq_true (bl15 _ (List.getElem_mem hl))
theorem gap15 (Occ : List Nat) (hO : Occ.length < 20000) {c : Nat} (hc : c < 32768) : ∃ b i, b < 9980 ∧ i < 10 ∧ Lcg.s (c + b) % 32768 + 10 ≤ 32768 ∧ Lcg.s (c + b) % 32768 + i ∉ Occ := by
  refine Classical.byContradiction fun no => ?_
  have hi : c / 6980 + 1 < 6 := by omega
  have z := bs15 (c / 6980 + 1) hi
  rw [at15 _ hi] at z
  have := run_le 32768 Occ 3000 (6980 * (c / 6980 + 1)) _ 0 0 [] rfl List.nodup_nil rfl (fun p => by simp) (fun p hp => nomatch hp) (fun b hb i hi' hM => Classical.byContradiction fun n => no ⟨6980 * (c / 6980 + 1) - c + b, i, ?_, hi', ?_, ?_⟩) (fun a => Lcg.step_mod 15 a)
  · omega
  · omega
  · rw [show c + (6980 * (c / 6980 + 1) - c + b) = 6980 * (c / 6980 + 1) + b by omega]; exact hM
  · rw [show c + (6980 * (c / 6980 + 1) - c + b) = 6980 * (c / 6980 + 1) + b by omega]; exact n
end Cov
end
section
namespace Cov
def st17 : List Nat := [0, 13284, 62472, 58476, 59664, 9716, 130840, 6268, 22048, 56324, 3624, 37004, 83760, 87572, 8504, 85148, 48192, 37924, 79944, 85164, 111952, 103988, 21336, 102588, 78432, 89156, 29288, 71884, 13168, 58964, 38264, 58588, 112768, 78948, 113800, 128236, 49552, 83572, 59288, 84220, 20128, 7300, 71336, 123148, 90032, 46740, 84408, 48412, 62656, 5284, 32968, 56620, 3536, 79540, 113624, 82236, 109280, 72900, 129768, 59724, 52208, 50900, 15864, 54620, 28928, 79076, 99592, 1388]
theorem pw17 : 5 ^ 1980 % 131072 = 53137 := by decide +kernel
theorem sj17 : Lcg.s 1980 % 131072 = 13284 := by decide +kernel
theorem ch17 : ((List.range 67).all fun i => st17.getD (i + 1) 0 == (53137 * st17.getD i 0 + 13284) % 131072) = true := by decide +kernel
theorem at17 : ∀ i, i < 68 → st17.getD i 0 = Lcg.s (1980 * i) % 131072
  | 0, _ => rfl
  | i + 1, h => by
    have e := beq_iff_eq.mp (List.all_eq_true.mp ch17 i (List.mem_range.mpr (by omega)))
    rw [e, at17 i (by omega), Nat.mul_succ]
    exact (s_jump pw17 sj17 _).symm
theorem b17_0 : Nat.ble 60001 (run 131072 8000 0 0 0) = true := by decide +kernel
theorem b17_1 : Nat.ble 60001 (run 131072 8000 13284 0 0) = true := by decide +kernel
theorem b17_2 : Nat.ble 60001 (run 131072 8000 62472 0 0) = true := by decide +kernel
theorem b17_3 : Nat.ble 60001 (run 131072 8000 58476 0 0) = true := by decide +kernel
theorem b17_4 : Nat.ble 60001 (run 131072 8000 59664 0 0) = true := by decide +kernel
theorem b17_5 : Nat.ble 60001 (run 131072 8000 9716 0 0) = true := by decide +kernel
theorem b17_6 : Nat.ble 60001 (run 131072 8000 130840 0 0) = true := by decide +kernel
theorem b17_7 : Nat.ble 60001 (run 131072 8000 6268 0 0) = true := by decide +kernel
theorem b17_8 : Nat.ble 60001 (run 131072 8000 22048 0 0) = true := by decide +kernel
theorem b17_9 : Nat.ble 60001 (run 131072 8000 56324 0 0) = true := by decide +kernel
theorem b17_10 : Nat.ble 60001 (run 131072 8000 3624 0 0) = true := by decide +kernel
theorem b17_11 : Nat.ble 60001 (run 131072 8000 37004 0 0) = true := by decide +kernel
theorem b17_12 : Nat.ble 60001 (run 131072 8000 83760 0 0) = true := by decide +kernel
theorem b17_13 : Nat.ble 60001 (run 131072 8000 87572 0 0) = true := by decide +kernel
theorem b17_14 : Nat.ble 60001 (run 131072 8000 8504 0 0) = true := by decide +kernel
theorem b17_15 : Nat.ble 60001 (run 131072 8000 85148 0 0) = true := by decide +kernel
theorem b17_16 : Nat.ble 60001 (run 131072 8000 48192 0 0) = true := by decide +kernel
theorem b17_17 : Nat.ble 60001 (run 131072 8000 37924 0 0) = true := by decide +kernel
theorem b17_18 : Nat.ble 60001 (run 131072 8000 79944 0 0) = true := by decide +kernel
theorem b17_19 : Nat.ble 60001 (run 131072 8000 85164 0 0) = true := by decide +kernel
theorem b17_20 : Nat.ble 60001 (run 131072 8000 111952 0 0) = true := by decide +kernel
theorem b17_21 : Nat.ble 60001 (run 131072 8000 103988 0 0) = true := by decide +kernel
theorem b17_22 : Nat.ble 60001 (run 131072 8000 21336 0 0) = true := by decide +kernel
theorem b17_23 : Nat.ble 60001 (run 131072 8000 102588 0 0) = true := by decide +kernel
theorem b17_24 : Nat.ble 60001 (run 131072 8000 78432 0 0) = true := by decide +kernel
theorem b17_25 : Nat.ble 60001 (run 131072 8000 89156 0 0) = true := by decide +kernel
theorem b17_26 : Nat.ble 60001 (run 131072 8000 29288 0 0) = true := by decide +kernel
theorem b17_27 : Nat.ble 60001 (run 131072 8000 71884 0 0) = true := by decide +kernel
theorem b17_28 : Nat.ble 60001 (run 131072 8000 13168 0 0) = true := by decide +kernel
theorem b17_29 : Nat.ble 60001 (run 131072 8000 58964 0 0) = true := by decide +kernel
theorem b17_30 : Nat.ble 60001 (run 131072 8000 38264 0 0) = true := by decide +kernel
theorem b17_31 : Nat.ble 60001 (run 131072 8000 58588 0 0) = true := by decide +kernel
theorem b17_32 : Nat.ble 60001 (run 131072 8000 112768 0 0) = true := by decide +kernel
theorem b17_33 : Nat.ble 60001 (run 131072 8000 78948 0 0) = true := by decide +kernel
theorem b17_34 : Nat.ble 60001 (run 131072 8000 113800 0 0) = true := by decide +kernel
theorem b17_35 : Nat.ble 60001 (run 131072 8000 128236 0 0) = true := by decide +kernel
theorem b17_36 : Nat.ble 60001 (run 131072 8000 49552 0 0) = true := by decide +kernel
theorem b17_37 : Nat.ble 60001 (run 131072 8000 83572 0 0) = true := by decide +kernel
theorem b17_38 : Nat.ble 60001 (run 131072 8000 59288 0 0) = true := by decide +kernel
theorem b17_39 : Nat.ble 60001 (run 131072 8000 84220 0 0) = true := by decide +kernel
theorem b17_40 : Nat.ble 60001 (run 131072 8000 20128 0 0) = true := by decide +kernel
theorem b17_41 : Nat.ble 60001 (run 131072 8000 7300 0 0) = true := by decide +kernel
theorem b17_42 : Nat.ble 60001 (run 131072 8000 71336 0 0) = true := by decide +kernel
theorem b17_43 : Nat.ble 60001 (run 131072 8000 123148 0 0) = true := by decide +kernel
theorem b17_44 : Nat.ble 60001 (run 131072 8000 90032 0 0) = true := by decide +kernel
theorem b17_45 : Nat.ble 60001 (run 131072 8000 46740 0 0) = true := by decide +kernel
theorem b17_46 : Nat.ble 60001 (run 131072 8000 84408 0 0) = true := by decide +kernel
theorem b17_47 : Nat.ble 60001 (run 131072 8000 48412 0 0) = true := by decide +kernel
theorem b17_48 : Nat.ble 60001 (run 131072 8000 62656 0 0) = true := by decide +kernel
theorem b17_49 : Nat.ble 60001 (run 131072 8000 5284 0 0) = true := by decide +kernel
theorem b17_50 : Nat.ble 60001 (run 131072 8000 32968 0 0) = true := by decide +kernel
theorem b17_51 : Nat.ble 60001 (run 131072 8000 56620 0 0) = true := by decide +kernel
theorem b17_52 : Nat.ble 60001 (run 131072 8000 3536 0 0) = true := by decide +kernel
theorem b17_53 : Nat.ble 60001 (run 131072 8000 79540 0 0) = true := by decide +kernel
theorem b17_54 : Nat.ble 60001 (run 131072 8000 113624 0 0) = true := by decide +kernel
theorem b17_55 : Nat.ble 60001 (run 131072 8000 82236 0 0) = true := by decide +kernel
theorem b17_56 : Nat.ble 60001 (run 131072 8000 109280 0 0) = true := by decide +kernel
theorem b17_57 : Nat.ble 60001 (run 131072 8000 72900 0 0) = true := by decide +kernel
theorem b17_58 : Nat.ble 60001 (run 131072 8000 129768 0 0) = true := by decide +kernel
theorem b17_59 : Nat.ble 60001 (run 131072 8000 59724 0 0) = true := by decide +kernel
theorem b17_60 : Nat.ble 60001 (run 131072 8000 52208 0 0) = true := by decide +kernel
theorem b17_61 : Nat.ble 60001 (run 131072 8000 50900 0 0) = true := by decide +kernel
theorem b17_62 : Nat.ble 60001 (run 131072 8000 15864 0 0) = true := by decide +kernel
theorem b17_63 : Nat.ble 60001 (run 131072 8000 54620 0 0) = true := by decide +kernel
theorem b17_64 : Nat.ble 60001 (run 131072 8000 28928 0 0) = true := by decide +kernel
theorem b17_65 : Nat.ble 60001 (run 131072 8000 79076 0 0) = true := by decide +kernel
theorem b17_66 : Nat.ble 60001 (run 131072 8000 99592 0 0) = true := by decide +kernel
theorem b17_67 : Nat.ble 60001 (run 131072 8000 1388 0 0) = true := by decide +kernel
theorem bl17 : ∀ x ∈ st17, Nat.ble 60001 (run 131072 8000 x 0 0) = true :=
  List.forall_mem_cons.mpr ⟨b17_0, List.forall_mem_cons.mpr ⟨b17_1, List.forall_mem_cons.mpr ⟨b17_2, List.forall_mem_cons.mpr ⟨b17_3, List.forall_mem_cons.mpr ⟨b17_4, List.forall_mem_cons.mpr ⟨b17_5, List.forall_mem_cons.mpr ⟨b17_6, List.forall_mem_cons.mpr ⟨b17_7, List.forall_mem_cons.mpr ⟨b17_8, List.forall_mem_cons.mpr ⟨b17_9, List.forall_mem_cons.mpr ⟨b17_10, List.forall_mem_cons.mpr ⟨b17_11, List.forall_mem_cons.mpr ⟨b17_12, List.forall_mem_cons.mpr ⟨b17_13, List.forall_mem_cons.mpr ⟨b17_14, List.forall_mem_cons.mpr ⟨b17_15, List.forall_mem_cons.mpr ⟨b17_16, List.forall_mem_cons.mpr ⟨b17_17, List.forall_mem_cons.mpr ⟨b17_18, List.forall_mem_cons.mpr ⟨b17_19, List.forall_mem_cons.mpr ⟨b17_20, List.forall_mem_cons.mpr ⟨b17_21, List.forall_mem_cons.mpr ⟨b17_22, List.forall_mem_cons.mpr ⟨b17_23, List.forall_mem_cons.mpr ⟨b17_24, List.forall_mem_cons.mpr ⟨b17_25, List.forall_mem_cons.mpr ⟨b17_26, List.forall_mem_cons.mpr ⟨b17_27, List.forall_mem_cons.mpr ⟨b17_28, List.forall_mem_cons.mpr ⟨b17_29, List.forall_mem_cons.mpr ⟨b17_30, List.forall_mem_cons.mpr ⟨b17_31, List.forall_mem_cons.mpr ⟨b17_32, List.forall_mem_cons.mpr ⟨b17_33, List.forall_mem_cons.mpr ⟨b17_34, List.forall_mem_cons.mpr ⟨b17_35, List.forall_mem_cons.mpr ⟨b17_36, List.forall_mem_cons.mpr ⟨b17_37, List.forall_mem_cons.mpr ⟨b17_38, List.forall_mem_cons.mpr ⟨b17_39, List.forall_mem_cons.mpr ⟨b17_40, List.forall_mem_cons.mpr ⟨b17_41, List.forall_mem_cons.mpr ⟨b17_42, List.forall_mem_cons.mpr ⟨b17_43, List.forall_mem_cons.mpr ⟨b17_44, List.forall_mem_cons.mpr ⟨b17_45, List.forall_mem_cons.mpr ⟨b17_46, List.forall_mem_cons.mpr ⟨b17_47, List.forall_mem_cons.mpr ⟨b17_48, List.forall_mem_cons.mpr ⟨b17_49, List.forall_mem_cons.mpr ⟨b17_50, List.forall_mem_cons.mpr ⟨b17_51, List.forall_mem_cons.mpr ⟨b17_52, List.forall_mem_cons.mpr ⟨b17_53, List.forall_mem_cons.mpr ⟨b17_54, List.forall_mem_cons.mpr ⟨b17_55, List.forall_mem_cons.mpr ⟨b17_56, List.forall_mem_cons.mpr ⟨b17_57, List.forall_mem_cons.mpr ⟨b17_58, List.forall_mem_cons.mpr ⟨b17_59, List.forall_mem_cons.mpr ⟨b17_60, List.forall_mem_cons.mpr ⟨b17_61, List.forall_mem_cons.mpr ⟨b17_62, List.forall_mem_cons.mpr ⟨b17_63, List.forall_mem_cons.mpr ⟨b17_64, List.forall_mem_cons.mpr ⟨b17_65, List.forall_mem_cons.mpr ⟨b17_66, List.forall_mem_cons.mpr ⟨b17_67, fun _ h => nomatch h⟩⟩⟩⟩⟩⟩⟩⟩⟩⟩⟩⟩⟩⟩⟩⟩⟩⟩⟩⟩⟩⟩⟩⟩⟩⟩⟩⟩⟩⟩⟩⟩⟩⟩⟩⟩⟩⟩⟩⟩⟩⟩⟩⟩⟩⟩⟩⟩⟩⟩⟩⟩⟩⟩⟩⟩⟩⟩⟩⟩⟩⟩⟩⟩⟩⟩⟩⟩
theorem bs17 (i : Nat) (h : i < 68) : 60001 ≤ run 131072 8000 (st17.getD i 0) 0 0 := by
  have hl : i < st17.length := h
  rw [List.getD_eq_getElem?_getD, List.getElem?_eq_getElem hl]
  exact Nat.le_of_ble_eq_true (bl17 _ (List.getElem_mem hl))
theorem gap17 (Occ : List Nat) (hO : Occ.length < 60001) {c : Nat} (hc : c < 131072) : ∃ b i, b < 9980 ∧ i < 10 ∧ Lcg.s (c + b) % 131072 + 10 ≤ 131072 ∧ Lcg.s (c + b) % 131072 + i ∉ Occ := by
  refine Classical.byContradiction fun no => ?_
  have hi : c / 1980 + 1 < 68 := by omega
  have z := bs17 (c / 1980 + 1) hi
  rw [at17 _ hi] at z
  have := run_le 131072 Occ 8000 (1980 * (c / 1980 + 1)) _ 0 0 [] rfl List.nodup_nil rfl (fun p => by simp) (fun p hp => nomatch hp) (fun b hb i hi' hM => Classical.byContradiction fun n => no ⟨1980 * (c / 1980 + 1) - c + b, i, ?_, hi', ?_, ?_⟩) (fun a => Lcg.step_mod 17 a)
  · omega
  · omega
  · rw [show c + (1980 * (c / 1980 + 1) - c + b) = 1980 * (c / 1980 + 1) + b by omega]; exact hM
  · rw [show c + (1980 * (c / 1980 + 1) - c + b) = 1980 * (c / 1980 + 1) + b by omega]; exact n
end Cov
end
section
/-! Sets of tuples of ints, up to some thousand of them: searching, adding. -/
namespace Tg
open PySem PySem.Spec PyProof.Rows L2
/-- the masks that come -/
def Mk (m : Nat) : Prop := m = 7 ∨ m = 31 ∨ m = 127 ∨ m = 511 ∨ m = 2047 ∨ m = 8191 ∨ m = 32767 ∨ m = 131071
theorem Mk.rnd {m : Nat} : Mk m → Rnd m
  | .inl e => rnd_pow (k := 2) (by rw [e])
  | .inr (.inl e) => rnd_pow (k := 4) (by rw [e])
  | .inr (.inr (.inl e)) => rnd_pow (k := 6) (by rw [e])
  | .inr (.inr (.inr (.inl e))) => rnd_pow (k := 8) (by rw [e])
  | .inr (.inr (.inr (.inr (.inl e)))) => rnd_pow (k := 10) (by rw [e])
  | .inr (.inr (.inr (.inr (.inr (.inl e))))) => rnd_pow (k := 12) (by rw [e])
  | .inr (.inr (.inr (.inr (.inr (.inr (.inl e)))))) => rnd_pow (k := 14) (by rw [e])
  | .inr (.inr (.inr (.inr (.inr (.inr (.inr e)))))) => rnd_pow (k := 16) (by rw [e])
theorem Mk.le {m : Nat} (h : Mk m) : m ≤ 131071 := by rcases h with e | e | e | e | e | e | e | e <;> omega
/-- the table that follows a full one -/
theorem Mk.grow {m n : Nat} (h : Mk m) (hn : n < 60000) (f : (n + 1) * 5 ≥ m * 3) (r : n * 5 < m * 3) :
    ∃ M, SetTable.sizeAbove (SetTable.grown (n + 1)) = M + 1 ∧ Mk M ∧ (n + 1) * 5 < M * 3 := by
  rcases h with rfl | rfl | rfl | rfl | rfl | rfl | rfl | rfl
  · obtain rfl : n = 4 := by omega
    exact ⟨31, by decide +kernel, .inr (.inl rfl), by decide⟩
  · obtain rfl : n = 18 := by omega
    exact ⟨127, by decide +kernel, .inr (.inr (.inl rfl)), by decide⟩
  · obtain rfl : n = 76 := by omega
    exact ⟨511, by decide +kernel, .inr (.inr (.inr (.inl rfl))), by decide⟩
  · obtain rfl : n = 306 := by omega
    exact ⟨2047, by decide +kernel, .inr (.inr (.inr (.inr (.inl rfl)))), by decide⟩
  · obtain rfl : n = 1228 := by omega
    exact ⟨8191, by decide +kernel, .inr (.inr (.inr (.inr (.inr (.inl rfl))))), by decide⟩
  · obtain rfl : n = 4914 := by omega
    exact ⟨32767, by decide +kernel, .inr (.inr (.inr (.inr (.inr (.inr (.inl rfl)))))), by decide⟩
  · obtain rfl : n = 19660 := by omega
    exact ⟨131071, by decide +kernel, .inr (.inr (.inr (.inr (.inr (.inr (.inr rfl)))))), by decide⟩
  · omega
/-- from a run's start each of its places is met soon -/
theorem way_soon {m : Nat} (h : Int) (n i : Nat) (hi : i < 10) (hm : runI m (SetTable.bits h) n + 10 ≤ m + 1) : ∃ k, k ≤ 10 * n + 9 ∧ way m h k = runI m (SetTable.bits h) n + i := by
  obtain ⟨k, hk, e⟩ := run_nth m (SetTable.bits h) n
  refine ⟨k + i, by omega, ?_⟩
  show (nth m _ (k + i)).j = _
  rw [nth_add, e, nth_run m _ _ i (by unfold SetTable.runEnd; rw [if_pos (by omega)]; omega)]
theorem soon_pow {m k B : Nat} (hm : m + 1 = 2 ^ (k + 1)) {Occ : List Nat} (g : ∀ c, c < m + 1 → ∃ b i, b < B ∧ i < 10 ∧ Lcg.s (c + b) % (m + 1) + 10 ≤ m + 1 ∧ Lcg.s (c + b) % (m + 1) + i ∉ Occ) (h : Int) : ∃ K, K ≤ 10 * (12 + B) + 9 ∧ way m h K ∉ Occ := by
  obtain ⟨c, hc, e⟩ := Lcg.s_from 0 (k := k + 1) (j := runI m (SetTable.bits h) 12) (by have := runI_le m (SetTable.bits h) 12; omega)
  obtain ⟨b, i, hb, hi, h1, h2⟩ := g c (by omega)
  have ej : runI m (SetTable.bits h) (12 + b) = Lcg.s (c + b) % (m + 1) := by rw [runI_tail (bits_lt h), ← e, lcg_s hm, Nat.zero_add, hm]
  obtain ⟨K, hK, ew⟩ := way_soon h (12 + b) i hi (by rw [ej]; exact h1)
  exact ⟨K, by omega, by rw [ew, ej]; exact h2⟩
theorem Mk.soon {m : Nat} (M : Mk m) {Occ : List Nat} (rm : Occ.length * 5 < m * 3) (few : Occ.length < 60001) (h : Int) : ∃ K, K < 100000 ∧ way m h K ∉ Occ := by
  have small : m ≤ 8191 → ∃ K, K < 100000 ∧ way m h K ∉ Occ := fun le => by
    obtain ⟨j, hj, hn⟩ := st_missing Occ (m + 1) (by omega)
    obtain ⟨k, hk, e⟩ := way_meets M.rnd h (Nat.le_of_lt_succ hj)
    exact ⟨k, by unfold SetTable.turns at hk; omega, by rw [e]; exact hn⟩
  rcases M with e | e | e | e | e | e | rfl | rfl
  · exact small (by omega)
  · exact small (by omega)
  · exact small (by omega)
  · exact small (by omega)
  · exact small (by omega)
  · exact small (by omega)
  · obtain ⟨K, hK, n⟩ := soon_pow (m := 32767) (k := 14) (B := 9980) (by decide) (fun c hc => Cov.gap15 Occ (by omega) hc) h
    exact ⟨K, by omega, n⟩
  · obtain ⟨K, hK, n⟩ := soon_pow (m := 131071) (k := 16) (B := 9980) (by decide) (fun c hc => Cov.gap17 Occ few hc) h
    exact ⟨K, by omega, n⟩
theorem Tab.gap' {t : SetTable} {hs : List Int} (T : Tab t hs) (M : Mk t.mask) (rm : hs.length * 5 < t.mask * 3) (few : hs.length < 60001) (h : Int) : ∃ K, K < 10 * SetTable.turns t.mask ∧ K < 100000 ∧ way t.mask h K ∉ t.place.toList ∧ ∀ k, k < K → way t.mask h k ∈ t.place.toList := by
  obtain ⟨K, h1, h2, h3⟩ := T.gap (by omega) h
  obtain ⟨k, k1, k2⟩ := M.soon (Occ := t.place.toList) (by rw [T.cnt]; exact rm) (by rw [T.cnt]; exact few) h
  refine ⟨K, h1, ?_, h2, h3⟩
  rcases Nat.lt_or_ge k K with z | z
  · exact absurd (h3 k z) k2
  · omega
/-- the set at a holds the tuples L, in its table's order -/
structure SetG (P : Program) (w : World) (h : Heap) (a : Addr) (L : List (Addr × List Int)) (es : Array (Int × Value)) (ep : Nat) (t : SetTable) : Prop where
  ob : ∃ o, h.get? a = some o ∧ o.ExactSet ∧ o.data = .set es ep t
  rows : es.toList = rowsOf P w L
  tab : Tab t (L.map fun p => thash P w p.2)
  nd : (L.map (·.2)).Nodup
  tup : ∀ p ∈ L, IsT P w h p.2 p.1
  plain : t.plain = true
  led : w.params.followText "set-order" = true ∨ t.led = true
  room : L.length * 5 < t.mask * 3
  few : L.length < 60001
  msk : Mk t.mask
section
variable {P : Program} {w : World} {A : Around} {E : Value → Shared → Prop} {s : Shared}
variable {a : Addr} {L : List (Addr × List Int)} {es : Array (Int × Value)} {ep : Nat} {t : SetTable}
theorem rows_size (h : es.toList = rowsOf P w L) : es.size = L.length := by
  rw [← Array.length_toList, h]
  exact List.length_map _
theorem tab_fits {hs : List Int} (T : Tab t hs) (n : es.size = hs.length) (le : hs.length ≤ t.mask) : t.fits es.size = true := by
  unfold SetTable.fits SetTable.fill
  rw [T.none, Bool.and_eq_true, beq_iff_eq, decide_eq_true_eq]
  have c := T.cnt
  rw [Array.length_toList] at c
  exact ⟨by omega, by show t.place.size + 0 ≤ t.mask; omega⟩
theorem SetG.fits (R : SetG P w s.heap a L es ep t) : t.fits es.size = true :=
  tab_fits R.tab (by rw [rows_size R.rows, List.length_map]) (by have := R.room; rw [List.length_map]; omega)
theorem SetG.item (R : SetG P w s.heap a L es ep t) {i : Nat} {p : Addr × List Int} (h : L[i]? = some p) : es[i]? = some (thash P w p.2, Value.ref p.1) := by
  rw [← Array.getElem?_toList, R.rows]
  unfold rowsOf
  rw [List.getElem?_map, h]; rfl
/-- the search, from the c-th step of the way on; K is the first gap -/
theorem seek (R : SetG P w s.heap a L es ep t) {x : Addr} {k : List Int} (hx : IsT P w s.heap k x) (hu : A.units < cLine) {K : Nat} (lim : K < 10 * SetTable.turns t.mask)
    (gap : way t.mask (thash P w k) K ∉ t.place.toList) (occ : ∀ c, c < K → way t.mask (thash P w k) c ∈ t.place.toList) {Q : SetFound → Shared → Prop}
    (yes : k ∈ L.map (·.2) → Q (.there none) s) (no : k ∉ L.map (·.2) → Q (.free (way t.mask (thash P w k) K) false) s) :
    ∀ (f c : Nat) (from' : Option SetTable.Probe), from'.getD (t.probeStart (thash P w k)) = pr t.mask (thash P w k) c → c ≤ K → K < c + f →
      (∀ (i : Nat) p, L[i]? = some p → p.2 = k → ∃ c', c ≤ c' ∧ c' < K ∧ t.place.toList[i]? = some (way t.mask (thash P w k) c')) →
      wpAny (model P w) A (setSearchFrom a (.ref x) (thash P w k) true f from') Q E s
  | 0, c, _, _, h1, h2, _ => absurd h2 (by omega)
  | f + 1, c, from', est, hc, hf, later => by
    obtain ⟨o, ho, _, hd⟩ := R.ob
    have hsh : ∀ (i : Nat) p, L[i]? = some p → (es[i]?.map (·.1)).getD 0 = thash P w p.2 := fun i p hp => by rw [R.item hp]; rfl
    have step := fun q => congrArg SetTable.Probe.j (pr_add t.mask (thash P w k) c q)
    have found := go_spec t R.tab.asc R.tab.none (fun i => (es[i]?.map (·.1)).getD 0) (thash P w k) (10 * SetTable.turns t.mask) (K - c) (pr t.mask (thash P w k) c) (pr_clean _ _ c) (by omega)
      (fun q hq => by rw [step]; exact occ (c + q) (by omega)) (by rw [step, show c + (K - c) = K by omega]; exact gap)
    rw [setSearchFrom_succ]
    refine wpAny_bind (wpAny_setState_of ho hd R.fits ?_)
    dsimp only
    refine wp_if_neg (by unfold SetTable.gaveWay; rw [R.tab.rnd.1]; decide) ?_
    try refine wpAny_bind (wpAny_pure ?_)
    -- an entry met later than c' = c + q with the key's hash is not passed
    have met : ∀ (i : Nat) p (c' : Nat), L[i]? = some p → p.2 = k → t.place.toList[i]? = some (way t.mask (thash P w k) c') → (es[i]?.map (·.1)).getD 0 = thash P w k := fun i p c' h1 h2 _ => by rw [hsh i p h1, h2]
    rcases found with ⟨q, i, hq, hi, _, before, go⟩ | ⟨before, go⟩
    · rw [step] at hi
      have e1 : t.probe (fun i => (es[i]?.map (·.1)).getD 0) (thash P w k) (from'.getD (t.probeStart (thash P w k))) = some (.candidate (way t.mask (thash P w k) (c + q)) i (pr t.mask (thash P w k) (c + (q + 1)))) := by
        rw [step, pr_add] at go
        rw [est]
        exact go
      rw [e1]
      dsimp only
      have hil : i < L.length := by
        have h1 := (List.getElem?_eq_some_iff.mp hi).1
        rw [R.tab.cnt, List.length_map] at h1
        exact h1
      obtain ⟨p, hp⟩ : ∃ p, L[i]? = some p := ⟨_, List.getElem?_eq_getElem hil⟩
      have hpm : p ∈ L := List.mem_of_getElem? hp
      have after : wpAny (model P w) A (searchRest a (.ref x) (thash P w k) true f es t (way t.mask (thash P w k) (c + q)) i (pr t.mask (thash P w k) (c + (q + 1)))) Q E s := by
        unfold searchRest
        rw [R.item hp]
        dsimp only
        refine wpAny_bind (wpAny_holding (wpAny_eqBool_tuple hu (R.tup p hpm) hx ?_))
        refine wpAny_bind (wpAny_setState_of ho hd R.fits ?_)
        dsimp only
        by_cases same : p.2 = k
        · refine wp_if_pos (by simp [same]) (wpAny_pure (yes (List.mem_map.mpr ⟨p, hpm, same⟩)))
        · refine wp_if_neg (by simp [same]) ?_
          try refine wpAny_bind (wpAny_pure ?_)
          have live := slot_live R.tab.asc hi
          rw [sameMem]
          dsimp only
          simp only [if_true, live, R.item hp]
          refine wpAny_bind (wpAny_isSame_ref_self (wpAny_bind (wpAny_pure ?_)))
          simp only [if_true]
          refine wp_if_neg (by simp [same]) ?_
          refine seek R hx hu lim gap occ yes no f (c + (q + 1)) _ rfl (by omega) (by omega) fun i0 p0 h0 k0 => ?_
          obtain ⟨c', a1, a2, a3⟩ := later i0 p0 h0 k0
          refine ⟨c', ?_, a2, a3⟩
          rcases Nat.lt_trichotomy c' (c + q) with z | z | z
          · exact absurd (met i0 p0 c' h0 k0 a3) (before (c' - c) i0 (by omega) (by rw [step, show c + (c' - c) = c' by omega]; exact a3))
          · have live2 := slot_live R.tab.asc (z ▸ a3)
            rw [live] at live2
            cases live2
            rw [hp] at h0
            cases h0
            exact absurd k0 same
          · omega
      by_cases hl : t.led = true
      · refine wp_if_neg (by simp [hl]) ?_
        try refine wpAny_bind (wpAny_pure ?_)
        exact after
      · refine wp_if_pos (by simp [hl]) ?_
        refine wpAny_bind (seen_tup hx (fun y hy => ?_) ?_)
        · obtain ⟨e, he, rfl⟩ := List.mem_map.mp hy
          have he2 : e ∈ es.toList := by
            have z : e ∈ es ∧ e.1 = thash P w k := by simpa using he
            simpa using z.1
          rw [R.rows] at he2
          obtain ⟨p2, hp2, rfl⟩ := List.mem_map.mp he2
          exact ⟨p2.2, p2.1, rfl, R.tup p2 hp2⟩
        · refine wp_if_neg (by decide) ?_
          try refine wpAny_bind (wpAny_pure ?_)
          exact after
    · have e1 : t.probe (fun i => (es[i]?.map (·.1)).getD 0) (thash P w k) (from'.getD (t.probeStart (thash P w k))) = some (.empty (way t.mask (thash P w k) K) none) := by
        rw [step, show c + (K - c) = K by omega] at go
        rw [est]
        exact go
      rw [e1]
      dsimp only
      refine wpAny_pure (no fun hm => ?_)
      obtain ⟨p0, m0, k0⟩ := List.mem_map.mp hm
      obtain ⟨i0, h0⟩ := List.getElem?_of_mem m0
      obtain ⟨c', a1, a2, a3⟩ := later i0 p0 h0 k0
      exact before (c' - c) i0 (by omega) (by rw [step, show c + (c' - c) = c' by omega]; exact a3) (met i0 p0 c' h0 k0 a3)
theorem seek0 (R : SetG P w s.heap a L es ep t) {x : Addr} {k : List Int} (hx : IsT P w s.heap k x) (hu : A.units < cLine) {Q : SetFound → Shared → Prop} (yes : k ∈ L.map (·.2) → Q (.there none) s)
    (no : ∀ K, k ∉ L.map (·.2) → way t.mask (thash P w k) K ∉ t.place.toList → (∀ c, c < K → way t.mask (thash P w k) c ∈ t.place.toList) → Q (.free (way t.mask (thash P w k) K) false) s) :
    wpAny (model P w) A (setSearch a (.ref x) (thash P w k) true) Q E s := by
  obtain ⟨K, lim, small, gap, occ⟩ := R.tab.gap' R.msk (by have := R.room; rw [List.length_map]; exact this) (by rw [List.length_map]; exact R.few) (thash P w k)
  unfold setSearch
  refine seek R hx hu lim gap occ yes (fun hn => no K hn gap occ) 100000 0 none rfl (Nat.zero_le _) (by omega) fun i p hp hk => ?_
  have hi : (L.map fun p => thash P w p.2)[i]? = some (thash P w k) := by rw [List.getElem?_map, hp, ← hk]; rfl
  obtain ⟨j, hj⟩ : ∃ j, t.place.toList[i]? = some j := ⟨_, List.getElem?_eq_getElem (by
    rw [R.tab.cnt]
    exact (List.getElem?_eq_some_iff.mp hi).1)⟩
  obtain ⟨c, hc, e⟩ := R.tab.ahead gap hi hj
  exact ⟨c, Nat.zero_le _, hc, by rw [hj, e]⟩
/-- the table laid anew, larger -/
theorem relay {o : Obj} (ho : s.heap.get? a = some o) (hex : o.ExactSet) (hd : o.data = .set es ep t) (rows : es.toList = rowsOf P w L) (T : Tab t (L.map fun p => thash P w p.2)) (full : L.length ≤ t.mask)
    (nd : (L.map (·.2)).Nodup) (tup : ∀ p ∈ L, IsT P w s.heap p.2 p.1) (pl : t.plain = true) (ld : w.params.followText "set-order" = true ∨ t.led = true) (few : L.length < 60001) {wanted M : Nat}
    (hw : SetTable.sizeAbove wanted = M + 1) (hM : Mk M) (hn : L.length * 5 < M * 3) {Q : Unit → Shared → Prop}
    (hQ : ∀ h' L' es' ep' t', Heap.SameBut a s.heap h' → SetG P w h' a L' es' ep' t' → L'.Perm L → Q () { s with heap := h' }) : wpAny (model P w) A (setRelay a wanted) Q E s := by
  have sz := rows_size rows
  have lM := hM.le
  obtain ⟨t', order, e, hp, T2, em, el, ep'⟩ := relaid_tab t (hs := es.map (·.1)) (wanted := wanted) (M := M) (by omega) hM.rnd (by rw [Array.size_map, sz]; omega)
  rw [Array.size_map, sz] at hp
  obtain ⟨L2, r1, r2, r3⟩ := order_rows L es order rows hp
  rw [← r3] at T2
  have s2 : (order.filterMap (es[·]?)).size = es.size := by rw [rows_size r1, r2.length_eq, sz]
  rw [setRelay_eq]
  refine wpAny_bind (wpAny_setState_of ho hd (tab_fits T (by rw [sz, List.length_map]) (by rw [List.length_map]; exact full)) ?_)
  dsimp only
  refine wp_if_neg (by rw [hw, sizeLine_eq]; omega) ?_
  try refine wpAny_bind (wpAny_pure ?_)
  rw [e]
  dsimp only
  refine wpAny_bind (wp_if_neg (by rw [s2]; simp) ?_)
  try refine wpAny_bind (wpAny_pure ?_)
  refine wpAny_pure ?_
  dsimp only
  refine wpAny_storeSet_of ho hd ?_ (by rw [s2, sz, sizeLine_eq]; omega)
  have but : Heap.SameBut a s.heap (s.heap.update a (Obj.putSet (order.filterMap (es[·]?)) t')) := Heap.SameBut.update ..
  exact hQ _ L2 (order.filterMap (es[·]?)) (ep + 1) t' but ⟨⟨_, store_at ho hd, ⟨hex.1, hex.2.1, hex.2.2⟩, rfl⟩, r1, T2, (r2.map (·.2)).nodup_iff.mpr nd, fun p m => isT_same (tup p (r2.mem_iff.mp m)) ho hd but, by rw [ep']; exact pl, by rw [el]; exact ld,
    by rw [r2.length_eq, em]; exact hn, by rw [r2.length_eq]; exact few, by rw [em]; exact hM⟩ r2
/-- a tuple joins -/
theorem join (R : SetG P w s.heap a L es ep t) {x : Addr} {k : List Int} (hx : IsT P w s.heap k x) (hu : A.units < cLine) (few : L.length < 60000) {Q : Bool → Shared → Prop}
    (hQ : ∀ b h' L' es' ep' t', Heap.SameBut a s.heap h' → SetG P w h' a L' es' ep' t' → (k ∈ L.map (·.2) → L' = L) → (k ∉ L.map (·.2) → L'.Perm ((x, k) :: L)) → Q b { s with heap := h' }) :
    wpAny (model P w) A (setAddHashed a (.ref x) (thash P w k)) Q E s := by
  obtain ⟨o, ho, hex, hd⟩ := R.ob
  have sz := rows_size R.rows
  have room := R.room
  unfold setAddHashed
  refine wpAny_holding ?_
  rw [show (100000 : Nat) = 99999 + 1 from rfl, setAddHashedIn_succ]
  refine wpAny_bind (wpAny_setState_of ho hd R.fits ?_)
  dsimp only
  refine wp_if_neg (by simp [byScan, Value.scannable]) ?_
  try refine wpAny_bind (wpAny_pure ?_)
  refine wpAny_bind (seek0 R hx hu (fun hm => ?_) fun K hm gap occ => ?_)
  · exact wpAny_pure (hQ false s.heap L es ep t (Heap.SameBut.refl a s.heap) R (fun _ => rfl) fun z => absurd hm z)
  · dsimp only
    refine wpAny_bind (wpAny_setState_of ho hd R.fits ?_)
    dsimp only
    obtain ⟨t1, p, ept⟩ : ∃ t1 p, t.put (way t.mask (thash P w k) K) = (t1, p) := ⟨_, _, rfl⟩
    obtain ⟨_, T1, e2, e3, e4, e5⟩ := R.tab.put gap occ ept
    rw [ept]
    dsimp only
    have pl1 : t1.plain = true := e4.trans R.plain
    first
      | (refine wpAny_bind ?_; refine wp_if_pos pl1 ?_; refine hashBy_tup hx ?_)
      | refine wp_if_pos pl1 (wpAny_bind (hashBy_tup hx ?_))
    simp only [if_true]
    have r1 : (SetTable.insertAt es p (thash P w k, Value.ref x)).toList = rowsOf P w (L.take p ++ (x, k) :: L.drop p) := by rw [SetTable.toList_insertAt, rows_put, R.rows]
    have pm := put_perm L p (x, k)
    have T2 : Tab t1 ((L.take p ++ (x, k) :: L.drop p).map fun p => thash P w p.2) := by
      rw [List.map_append, List.map_cons, List.map_take, List.map_drop]
      exact T1
    rw [List.length_map] at e5
    generalize SetTable.insertAt es p (thash P w k, Value.ref x) = es1 at r1 ⊢
    generalize L.take p ++ (x, k) :: L.drop p = L1 at pm T2 r1
    have ln : L1.length = L.length + 1 := pm.length_eq
    have sz1 := rows_size r1
    have nd1 : (L1.map (·.2)).Nodup := (pm.map (·.2)).nodup_iff.mpr (List.nodup_cons.mpr ⟨hm, R.nd⟩)
    refine wpAny_bind (wpAny_storeSet_of ho hd ?_ (by rw [sz1, ln, sizeLine_eq]; omega))
    have but : Heap.SameBut a s.heap (s.heap.update a (Obj.putSet es1 t1)) := Heap.SameBut.update ..
    have ho1 := store_at (es' := es1) (t' := t1) ho hd
    generalize s.heap.update a (Obj.putSet es1 t1) = h1 at but ho1 ⊢
    have tup1 : ∀ p ∈ L1, IsT P w h1 p.2 p.1 := fun p hp => (List.mem_cons.mp (pm.mem_iff.mp hp)).elim (fun e => by rw [e]; exact isT_same hx ho hd but) fun hp => isT_same (R.tup p hp) ho hd but
    have ld1 : w.params.followText "set-order" = true ∨ t1.led = true := by rw [e3]; exact R.led
    have tf : t1.tooFull = decide ((L.length + 1) * 5 ≥ t.mask * 3) := by unfold SetTable.tooFull; rw [e5, e2]
    by_cases hf : (L.length + 1) * 5 ≥ t.mask * 3
    · rw [tf]
      obtain ⟨M, g1, g2, g3⟩ := R.msk.grow few hf room
      first
        | (refine wpAny_bind ?_; refine wp_if_pos (by simp [hf]) ?_)
        | (refine wp_if_pos (by simp [hf]) ?_; refine wpAny_bind ?_)
      rw [sz]
      refine relay (s := { s with heap := h1 }) ho1 ⟨hex.1, hex.2.1, hex.2.2⟩ rfl r1 T2 (by rw [ln, e2]; omega) nd1 tup1 pl1 ld1 (by omega) g1 g2 (by rw [ln]; exact g3) fun h2 L2 es2 ep2 t2 but2 R2 pm2 => ?_
      exact wpAny_pure (hQ true h2 L2 es2 ep2 t2 (but.trans but2) R2 (fun z => absurd z hm) fun _ => pm2.trans pm)
    · rw [tf]
      first
        | refine wp_if_neg (by simp [hf]) ?_
        | (refine wpAny_bind ?_; refine wp_if_neg (by simp [hf]) ?_; refine wpAny_pure ?_)
      exact wpAny_pure (hQ true h1 L1 es1 (ep + 1) t1 but ⟨⟨_, ho1, ⟨hex.1, hex.2.1, hex.2.2⟩, rfl⟩, r1, T2, nd1, tup1, pl1, ld1, by rw [ln, e2]; omega, by omega, by rw [e2]; exact R.msk⟩ (fun z => absurd z hm) fun _ => pm)
end
end Tg
end
section
/-! Sets of tuples of ints, up to some thousand of them: set(a list), as the reading holds it. -/
namespace Tg
open PySem PySem.Spec PyProof.Rows L2
section
variable {P : Program} {w : World} {A : Around} {E : Value → Shared → Prop} {s : Shared}
theorem SetG.keep {h h' : Heap} {a : Addr} {L : List (Addr × List Int)} {es : Array (Int × Value)} {ep : Nat} {t : SetTable} (R : SetG P w h a L es ep t) (ha : ∀ o, h.get? a = some o → h'.get? a = some o) (ht : ∀ p ∈ L, IsT P w h' p.2 p.1) : SetG P w h' a L es ep t :=
  { R with ob := let ⟨o, ho, r⟩ := R.ob; ⟨o, ha o ho, r⟩, tup := ht }
theorem fresh_set {h : Heap} {a : Addr} (ho : h.get? a = some { cls := .type "set", dict := none, data := .set #[] 0 (.fresh 0 0 (!w.params.followText "set-order")) }) : SetG P w h a [] #[] 0 (.fresh 0 0 (!w.params.followText "set-order")) where
  ob := ⟨_, ho, ⟨rfl, rfl, rfl⟩, rfl⟩
  rows := rfl
  tab := ⟨List.Pairwise.nil, rfl, rfl, (Mk.rnd (.inl rfl) : Rnd 7), fun q hq => nomatch hq⟩
  nd := List.nodup_nil
  tup := fun p hp => nomatch hp
  plain := rfl
  led := by
    show w.params.followText "set-order" = true ∨ (!w.params.followText "set-order") = true
    cases w.params.followText "set-order" <;> simp
  room := (by decide : 0 * 5 < 7 * 3)
  few := (by decide : 0 < 60001)
  msk := .inl rfl
theorem nd_in {α : Type} [DecidableEq α] : ∀ {xs ys : List α}, xs.Nodup → (∀ c ∈ xs, c ∈ ys) → xs.length ≤ ys.length
  | [], _, _, _ => by simp
  | x :: xs, ys, n, h => by
    obtain ⟨n1, n2⟩ := List.nodup_cons.mp n
    have hx := h x List.mem_cons_self
    have ih := nd_in (ys := ys.erase x) n2 fun c hc => (List.mem_erase_of_ne (fun e : c = x => n1 (e ▸ hc))).mpr (h c (List.mem_cons_of_mem _ hc))
    have pos := List.length_pos_of_mem hx
    rw [List.length_erase_of_mem hx] at ih
    simp only [List.length_cons]
    omega
theorem fits_in {L : List (Addr × List Int)} {D : List (List Int)} (nd : (L.map (·.2)).Nodup) (h : ∀ p ∈ L, p.2 ∈ D) : L.length ≤ D.length := by
  have := nd_in nd (ys := D) fun c hc => by
    obtain ⟨p, hp, rfl⟩ := List.mem_map.mp hc
    exact h p hp
  simpa using this
/-- the loop of set.update: all tuples of a walk join -/
theorem update_loop {I : Addr} {fp wr : List Addr} {G : Array GenState → Array GenState → Prop} {n : Nat} {Pv : Nat → Value → Prop} {St : Nat → Shared → Prop} {R : Result → Shared → Prop}
    (W : WalksS P w A.in1 I fp wr G n Pv St) (S : Addr) (hSf : S ∉ fp) (ks : List (Addr × List Int)) (hn : n = ks.length) (D : List (List Int)) (hD : ∀ p ∈ ks, p.2 ∈ D) (few : D.length < 60000) (hval : ∀ i v, Pv i v → ∃ p, ks[i]? = some p ∧ v = .ref p.1)
    (h0 : Heap) (hk : ∀ p ∈ ks, IsT P w h0 p.2 p.1) (hS0 : h0.get? S = none) (hw0 : ∀ b ∈ wr, h0.get? b = none) (hu : A.in1.units < cLine) :
    ∀ (m i : Nat) (s : Shared), n = i + m → St i s → (∀ b o, h0.get? b = some o → s.heap.get? b = some o) → (∃ L es ep t, SetG P w s.heap S L es ep t ∧ Got ks i L) →
      (∀ s' L es ep t, Moved (S :: wr) G s s' → SetG P w s'.heap S L es ep t → Got ks n L → (∀ b o, h0.get? b = some o → s'.heap.get? b = some o) → R (.ok (.ret .none)) s') →
      codeAny (model P w) A (.builtin "set.update.loop" ⟨[.ref S, .ref I], []⟩) R s := by
  have out : S ∉ wr := fun h => hSf (W.sub _ h)
  have sub : ∀ b ∈ wr, b ∈ S :: wr := fun b hb => List.mem_cons_of_mem _ hb
  have old : ∀ {s s' : Shared}, Moved wr G s s' → (∀ b o, h0.get? b = some o → s.heap.get? b = some o) → ∀ b o, h0.get? b = some o → s'.heap.get? b = some o := fun hm kp b o e => hm.heap b o (fun hb => by rw [hw0 b hb] at e; cases e) (kp b o e)
  have stay : ∀ {s s' : Shared} {L es ep t i}, Moved wr G s s' → SetG P w s.heap S L es ep t → Got ks i L → (∀ b o, h0.get? b = some o → s'.heap.get? b = some o) → SetG P w s'.heap S L es ep t := fun hm hS g kp =>
    hS.keep (fun o e => hm.heap S o out e) fun p hp => isT_keep (hk p (List.mem_of_mem_take (g.sub p hp))) kp
  intro m
  induction m with
  | zero =>
    intro i s hi hst kp ⟨L, es, ep, t, hS, g⟩ hR
    obtain rfl : n = i := by omega
    refine codeAny_builtin F.entry_set_update_loop ?_
    rw [Around.under_plainId F.plain_set_update_loop _]
    show wpAny _ A.in1 (pyNext (.ref I) >>= _) _ _ s
    refine wpAny_bind (W.done s _ _ hst fun s' hm => ?_)
    exact wpAny_pure (hR s' L es ep t (hm.mono sub) (stay hm hS g (old hm kp)) g (old hm kp))
  | succ m ih =>
    intro i s hi hst kp ⟨L, es, ep, t, hS, g⟩ hR
    refine codeAny_builtin F.entry_set_update_loop ?_
    rw [Around.under_plainId F.plain_set_update_loop _]
    show wpAny _ A.in1 (pyNext (.ref I) >>= _) _ _ s
    refine wpAny_bind (W.item i s _ _ (by omega) hst fun v s' hP hst' hm => ?_)
    obtain ⟨p, hp, rfl⟩ := hval i v hP
    have kp' := old hm kp
    have hx : IsT P w s'.heap p.2 p.1 := isT_keep (hk p (List.mem_of_getElem? hp)) kp'
    show wpAny _ A.in1 (holding [Value.ref p.1] (setAdd S (.ref p.1)) >>= _) _ _ s'
    refine wpAny_bind (wpAny_holding ?_)
    unfold setAdd
    refine wpAny_holding (wpAny_bind (wpAny_pyHash_tuple hu hx ?_))
    have lt : i < ks.length := by omega
    have hS1 : SetG P w s'.heap S L es ep t := stay hm hS g kp'
    refine join (s := { s' with toks := s'.toks + (p.2.length + 1) }) hS1 hx hu (Nat.lt_of_le_of_lt (fits_in hS1.nd fun p hp => hD p (List.mem_of_mem_take (g.sub p hp))) few) fun b h' L' es' ep' t' but hS2 c1 c2 => ?_
    have g' : Got ks (i + 1) L' := by
      by_cases c : p.2 ∈ L.map (·.2)
      · rw [c1 c]; exact g.same hp c
      · exact g.more hp (c2 c)
    have kp2 : ∀ b o, h0.get? b = some o → h'.get? b = some o := fun b o e => (but.2 b (fun z => by rw [z, hS0] at e; cases e)).trans (kp' b o e)
    refine wpAny_pure ⟨plainId_quiet F.plain_set_update_loop _, ih (i + 1) _ (by omega) (W.frame _ s' _ _ hst' (Nat.le_add_right _ _) fun b hb o e => ?_) kp2 ⟨L', es', ep', t', hS2, g'⟩ fun s2 L2 es2 ep2 t2 hm2 hS3 g2 kp3 => ?_⟩
    · exact (but.2 b (fun h : b = S => hSf (h ▸ hb))).trans e
    · exact hR s2 L2 es2 ep2 t2 (Moved.trans W.gtrans ((hm.mono sub).then_heap (Nat.le_add_right _ _) fun b o hb e => (but.2 b (fun h : b = S => hb (by rw [h]; exact List.mem_cons_self))).trans e) hm2) hS3 g2 kp3
/-- set(xs) -/
theorem call_set {l : Addr} {items : Array Value} (ks : List (Addr × List Int)) {Q : Value → Shared → Prop} (hh : A.handled = none) (hl : s.heap.IsList l items) (hit : items.toList = ks.map fun p => Value.ref p.1)
    (hk : ∀ p ∈ ks, IsT P w s.heap p.2 p.1) (D : List (List Int)) (hD : ∀ p ∈ ks, p.2 ∈ D) (few : D.length < 60000) (hu : A.units + 3 < cLine)
    (h : ∀ (h' : Heap) (tk : Nat) L es ep t, SetG P w h' s.heap.objs.size L es ep t → Got ks ks.length L → (∀ b o, s.heap.get? b = some o → h'.get? b = some o) → Q (.ref s.heap.objs.size) { s with heap := h', toks := tk }) :
    wpAny (model P w) A (call (.type "set") [.ref l]) Q E s := by
  have cnt : items.size = ks.length := by rw [← Array.length_toList, hit, List.length_map]
  obtain ⟨c, tl, hmro⟩ := F.called_set.mro
  have hmade := F.called_set.made
  have hsub := F.called_set.sub
  have h1 := F.called_set.notType
  have h2 := F.called_set.canCreate
  have hct := F.typeCall_set_1 (.ref l)
  refine wpAny_call (codeAny_of_tree ?_)
  show wpAny _ _ (callAny (.type "set") _) _ _ _
  refine wpAny_pure ⟨Code.quiet_builtin _ (by decide +kernel), codeAny_builtin F.entry_type_call ?_⟩
  rw [Around.under_plain (weight_type_call_type "set" [.ref l] []) rfl]
  repeat (any_goals (first | assumption | wp_step))
  generalize eO : ({ cls := .type "set", dict := none, data := .set #[] 0 (.fresh 0 0 (!w.params.followText "set-order")) } : Obj) = oS
  refine codeAny_mono (code_set_led1 (.ref l) (E := E) (Q₁ := fun obj s₁ => obj = .ref s.heap.objs.size ∧ s₁ = { s with heap := s.heap.push oS }) ⟨rfl, by rw [← eO]⟩) fun r s₁ hr => ?_
  cases r with
  | error e => exact hr
  | ok fl =>
    cases fl with
    | ret obj =>
      obtain ⟨rfl, rfl⟩ := hr
      have hS : (s.heap.push oS).get? s.heap.objs.size = some oS := by rw [← eO]; exact Heap.get?_push_size _ rfl
      have hT : Shared.TypeIs { s with heap := s.heap.push oS } (.ref s.heap.objs.size) "set" := ⟨_, hS, by rw [← eO]⟩
      have hli := F.called_set.init.lookup
      have hbi := F.called_set.init.bind (.ref s.heap.objs.size)
      repeat (any_goals (first | assumption | wp_step))
      refine codeAny_mono (codeAny_call_builtin (R := wants (fun r s₂ => r = .none ∧ ∃ h' tk L es ep t, s₂ = { s with heap := h', toks := tk } ∧ SetG P w h' s.heap.objs.size L es ep t ∧ Got ks ks.length L ∧
          (∀ b o, s.heap.get? b = some o → h'.get? b = some o)) E) F.called_set.init.plain F.entry_set_init (check_set_init_1 hT ?_)) fun r₂ s₂ hr₂ => ?_
      · have hl1 : (s.heap.push oS).IsList l items := by
          obtain ⟨ol, hol, hcl, r⟩ := hl
          exact ⟨ol, Heap.get?_push_of_some _ hol, hcl, r⟩
        obtain ⟨ol, hol', hcl, nl, hdl⟩ := id hl1
        obtain ⟨ocls, odict, odata, oslots⟩ := ol
        simp only at hcl hdl
        subst hcl; subst hdl
        have q1 := F.sub_list_set
        have q2 := F.sub_list_frozenset
        have q3 : (Value.type "list" == Value.type "dict") = false := by decide
        subst eO
        unfold Builtin.«set.__init__» noKeywords Builtin.Frozenset.updateFrom
        generalize hPI : pyIter = PI
        wp_walk
        subst hPI
        refine wpAny_pyIter_list (s := { s with heap := s.heap.push _ }) hl1 ?_
        refine wpAny_bind (wpAny_runValue ?_)
        have hz1 : ∀ o, (s.heap.push o).objs.size = s.heap.objs.size + 1 := fun o => Heap.size_push ..
        have hlS : l < s.heap.objs.size := by
          obtain ⟨o, ho, _⟩ := hl
          exact Heap.lt_size ho
        have hh3 : A.in1.in1.in1.handled = none := by simp [hh]
        have neI : ∀ o, l ≠ (s.heap.push o).objs.size := fun o => by rw [hz1]; exact Nat.ne_of_lt (Nat.lt_succ_of_lt hlS)
        have absent : ∀ b, s.heap.objs.size ≤ b → s.heap.get? b = none := fun b hb => by
          cases q : s.heap.get? b with
          | none => rfl
          | some o => exact absurd (Heap.lt_size q) (Nat.not_lt.mpr hb)
        refine update_loop ((Walks.list hh3 _ l (neI _) items).toS) s.heap.objs.size (by simp only [List.mem_cons, List.not_mem_nil, or_false, not_or, hz1]; exact ⟨Nat.ne_of_lt (Nat.lt_succ_self _), Nat.ne_of_gt hlS⟩) ks cnt D hD few (fun i v hv => ?_) s.heap hk (absent _ (Nat.le_refl _))
          (fun b hb => absent b (by rw [List.mem_singleton.mp hb, hz1]; exact Nat.le_succ _)) hu items.size 0 _ (by omega) ⟨⟨_, Heap.get?_push_size _ rfl, rfl, rfl⟩, hl1.push _⟩ (fun b o e => Heap.get?_push_of_some _ (Heap.get?_push_of_some _ e))
          ⟨[], #[], 0, _, fresh_set (Heap.get?_push_of_some _ hS), Got.zero ks⟩ fun s' L es ep t hm hS' g' kp => ?_
        · have q : items.toList[i]? = some v := by rw [Array.getElem?_toList]; exact hv
          rw [hit, List.getElem?_map] at q
          obtain ⟨p, hp, e⟩ := Option.map_eq_some_iff.mp q
          exact ⟨p, hp, e.symm⟩
        · obtain ⟨h', g2, d', tk', os'⟩ := s'
          have eg : g2 = s.gens := hm.gens
          have ed : d' = s.drawn := hm.drawn
          have eo : os' = s.os := hm.os
          subst eg; subst ed; subst eo
          refine wpAny_pure ?_
          show wpAny _ _ (ret Value.none) _ _ _
          exact wpAny_pure ⟨rfl, h', tk', L, es, ep, t, rfl, hS', cnt ▸ g', kp⟩
      · cases r₂ with
        | error e => exact hr₂
        | ok fl₂ =>
          cases fl₂ with
          | ret r =>
            obtain ⟨rfl, h', tk, L, es, ep, t, rfl, hS', g', hk'⟩ := hr₂
            repeat (any_goals (first | assumption | wp_step))
            exact h _ _ _ _ _ _ hS' g' hk'
          | _ => exact hr₂.elim
    | _ => exact hr.elim
end
/-! ### as the reading holds them -/
/-- the set at a, without the tuples themselves -/
def SetG0 (P : Program) (w : World) (h : Heap) (a : Addr) (L : List (Addr × List Int)) : Prop :=
  ∃ (es : Array (Int × Value)) (ep : Nat) (t : SetTable), (∃ o, h.get? a = some o ∧ o.ExactSet ∧ o.data = .set es ep t) ∧ es.toList = rowsOf P w L ∧ Tab t (L.map fun p => thash P w p.2) ∧ (L.map (·.2)).Nodup ∧ t.plain = true ∧
    (w.params.followText "set-order" = true ∨ t.led = true) ∧ L.length * 5 < t.mask * 3 ∧ L.length < 60001 ∧ Mk t.mask
def SetGO (P : Program) (w : World) (a : Addr) (L : List (Addr × List Int)) : HO := .ext fun h => SetG0 P w h a L
theorem SetG.g0 {P : Program} {w : World} {h : Heap} {a : Addr} {L : List (Addr × List Int)} {es : Array (Int × Value)} {ep : Nat} {t : SetTable} (R : SetG P w h a L es ep t) : SetG0 P w h a L :=
  ⟨es, ep, t, R.ob, R.rows, R.tab, R.nd, R.plain, R.led, R.room, R.few, R.msk⟩
theorem SetG0.whole {P : Program} {w : World} {h : Heap} {a : Addr} {L : List (Addr × List Int)} (R : SetG0 P w h a L) (ht : ∀ p ∈ L, IsT P w h p.2 p.1) : ∃ es ep t, SetG P w h a L es ep t := by
  obtain ⟨es, ep, t, h1, h2, h3, h4, h5, h6, h7, h8, h9⟩ := R
  exact ⟨es, ep, t, h1, h2, h3, h4, ht, h5, h6, h7, h8, h9⟩
theorem setGO_new {P : Program} {w : World} {H : Hp} {h : Heap} {a : Addr} {L : List (Addr × List Int)} (R : SetG0 P w h a L) : ObjOk P w H h a (SetGO P w a L) := by
  have ⟨es, ep, t, ⟨o, ho, r⟩, q⟩ := R
  refine ⟨R, ⟨o, ho⟩, fun h1 h2 p k => ?_⟩
  have ⟨es', ep', t', ⟨o', ho', r'⟩, q'⟩ := (show SetG0 P w h1 a L from p)
  exact ⟨es', ep', t', ⟨o', k o' ho', r'⟩, q'⟩
/-- set(xs), xs a list of tuples of ints -/
def rSetOfG (K : PySem.W.Frag) (P : Program) (w : World) : List V → Hp → VK → Prop := fun xs H Q => ∃ (l : Addr) (ks : List (Addr × List Int)), xs = [V.ref l] ∧ SqL K H l (ks.map fun p => V.ref p.1) ∧ (∀ p ∈ ks, SqT K H p.1 (p.2.map V.int)) ∧ (∃ D : List (List Int), (∀ p ∈ ks, p.2 ∈ D) ∧ D.length < 60000) ∧
  ∀ a L, H a = none → (∀ p ∈ L, p ∈ ks) → (∀ p ∈ ks, p.2 ∈ L.map (·.2)) → Q (.ref a) (upd H a (SetGO P w a L))
theorem cr_setOfG {X : Cx} (hc : X.calm = true) (hu : X.A.units + 64 < cLine) : CallR X (.type "set") (rSetOfG X.K X.prog X.w) := by
  intro pins s σ H xs us Q I r ⟨l, ks, e, hl, hk, ⟨D, hD, hf⟩, q⟩
  subst e
  rw [Vals.ref1 r]
  obtain ⟨its, rv, pl, _⟩ := I.list hl
  refine call_set (P := X.prog) (w := X.w) ks (I.ok.hd hc) pl.isList (by simpa using refs_of_vals rv) (fun p hp => I.isT (hk p hp)) D hD hf (by omega) fun h' tk L es ep t R g kp => ?_
  exact ⟨.ref s.heap.objs.size, upd H s.heap.objs.size (SetGO X.prog X.w s.heap.objs.size L), I.laid (t' := tk) kp (Nat.le_refl _) (setGO_new R.g0), rfl, q _ L (I.hok.fresh (Nat.le_refl _)) (fun p hp => List.mem_of_mem_take (g.sub p hp)) fun p hp => g.all p (by rw [List.take_length]; exact hp)⟩
end Tg
end
section
/-! Comprehensions of sets of tuples of ints, and of dicts with tuples for keys. Printed by gencomp.py. -/
namespace Tc
open PySem PySem.Spec PyProof.Rows L2
section
variable {X : Cx} {pins : List (Addr × Obj)} {τ : L2.St} {G : Hp} {s : Shared} {E : Value → Shared → Prop} {B : Addr}
/-- a tuple joins a set of tuples -/
theorem add_tup {L : List (Addr × List Int)} {b : Addr} {k : List Int} {Q : Value → Shared → Prop} (hu : X.A.units + 2 < cLine) (J : L2.Inv X pins τ G s) (hB : G B = some (Tg.SetGO X.prog X.w B L)) (hL : ∀ p ∈ L, SqT X.K G p.1 (p.2.map V.int)) (hb : SqT X.K G b (k.map V.int)) (few : L.length < 60000)
    (h : ∀ L' s', (k ∈ L.map (·.2) → L' = L) → (k ∉ L.map (·.2) → L'.Perm ((b, k) :: L)) → L2.Inv X pins τ (upd G B (Tg.SetGO X.prog X.w B L')) s' → Q .none s') :
    wpAny (model X.prog X.w) X.A (call (.builtin "set.add") [.ref B, .ref b]) Q E s := by
  obtain ⟨es, ep, t, R⟩ := (show Tg.SetG0 X.prog X.w s.heap B L from (J.hok B _ hB).1).whole fun p hp => J.isT (hL p hp)
  have hk : IsT X.prog X.w s.heap k b := J.isT hb
  obtain ⟨o, ho, hex, hd⟩ := R.ob
  refine wpAny_call_entry F.slot_set_add ⟨o, ho, hex.1⟩ F.entry_set_add ?_ (F.args_set_add_2 _ _)
  unfold Builtin.«set.add» Builtin.Frozenset.oneOther
  simp only [List.isEmpty_nil, bind_assoc]
  unfold Builtin.Frozenset.addrOf setAdd
  refine wpAny_bind (wpAny_pure ?_)
  try dsimp only
  refine wpAny_bind (wpAny_pure ?_)
  try dsimp only
  refine wpAny_bind (wpAny_holding (wpAny_bind (wpAny_pyHash_tuple (by show X.A.in1.units < cLine; have : X.A.in1.units = X.A.units + 1 := rfl; omega) hk ?_)))
  refine Tg.join (s := { s with toks := s.toks + (k.length + 1) }) (A := X.A.in1) (hx := hk) R (by have : X.A.in1.units = X.A.units + 1 := rfl; omega) few fun b' h' L' es' ep' t' sb R' c1 c2 => ?_
  show wpAny _ _ (ret Value.none) _ _ _
  have he : ∃ u, h'.get? B = some u := let ⟨u, hu, _⟩ := R'.ob; ⟨u, hu⟩
  exact wpAny_pure ⟨_, rfl, h L' _ c1 c2 (J.write (e := B) (t' := s.toks + (k.length + 1)) (by rw [hB]; trivial) (.inl rfl) (fun c u hc hu => (sb.2 c hc).trans hu) he (Tg.setGO_new R'.g0))⟩
/-- d[a tuple] = v within a comprehension -/
theorem put_tup {kvs : List (List Key × V)} {k : List Key} {b : Addr} {v : V} {r : Value} {Q : Unit → Shared → Prop} (hu : X.A.units + 1 < cLine) (J : L2.Inv X pins τ G s) (hB : G B = some (.dT kvs)) (hb : G b = some (.tup (k.map kV))) (few : kvs.length < sizeLine) (rv : RelV v r)
    (h : ∀ s', L2.Inv X pins τ (upd G B (.dT (putK kvs k v))) s' → Q () s') : wpAny (model X.prog X.w) X.A (dictSet B (.ref b) r) Q E s := by
  obtain ⟨z, hd, xs, rel, dd⟩ := dt_of J.hok hB
  have hz : xs.length ≤ sizeLine := by rw [← Paired.length rel]; exact z
  refine wpAny_dictSet_heap (hsz := hz) (show X.A.units < cLine by omega) (key_of J.hok hb) dd fun h' dd' hs => h _ ?_
  obtain ⟨q, es, ep, hq, q2, q3, q4, _, q5⟩ := dd'
  refine d_write J (by rw [hB]; exact True.intro) hs ⟨q, hq⟩ ⟨by have := length_putK kvs k v; omega, hd, _, (rel.put k hb rv).keeps fun c ys ec => ?_, q, es, ep, hq, q2, q3, q4, q5⟩
  rw [upd_ne (ne_of ec hB (fun z => nomatch z))]
  exact ec
end
section
variable {X : Cx}
/-- {elt for target in iter if ..}, elt a tuple of ints: B the new object -/
def tScT (K : PySem.W.Frag) (P : Program) (w : World) (wi : TI) (g : TG) (tt : TT) (te : TE) (vs : List Nat) : TE := fun τ G Q => wi τ G fun J G1 => ∀ B, G1 B = none → ∃ Wd : Nat → Nat → Hp → Prop, (∃ m, Wd 0 m (upd G1 B (Tg.SetGO P w B []))) ∧ ∀ i m G, Wd i m G →
  (J.stop i G ∧ Q (.ref B) G) ∨ (J.go i G ∧ ∃ Nx : Hp → Prop, (∀ G', Nx G' → ∃ m', m' < m ∧ Wd (i + 1) m' G') ∧ ∀ x G', J.yld i G x G' → g x (wipe τ vs) G' fun τ2 G2 => wipe τ2 vs = wipe τ vs ∧ tt τ2 G2 fun b G3 =>
    if b = true then te τ2 G3 fun y G4 => ∃ (b : Addr) (k : List Int) (L : List (Addr × List Int)), y = .ref b ∧ SqT K G4 b (k.map V.int) ∧ G4 B = some (Tg.SetGO P w B L) ∧ (∀ p ∈ L, SqT K G4 p.1 (p.2.map V.int)) ∧ L.length < 60000 ∧ ∀ L', (k ∈ L.map (·.2) → L' = L) → (k ∉ L.map (·.2) → L'.Perm ((b, k) :: L)) → Nx (upd G4 B (Tg.SetGO P w B L')) else Nx G3)
theorem sct_core {pins : List (Addr × Obj)} {s : Shared} {τ : L2.St} {G : Hp} {Q : VK} {elt tg iter : Expr} {ifs : List Expr} {scope : Scope} {own : List (Str × Nat)} {pos pos' : Pos} {wi : TI} {g : TG} {tt : TT} {te : TE} {use : Option (Value → Sem Unit)} {Qf : Value → Shared → Prop}
    (calm : X.calm = true) (nd : X.N.Nodup) (hu : X.A.units + 64 < cLine) (J0 : L2.Inv X pins τ G s) (pi : PI X tg iter wi) (bo : BlkOk X.N X.env.scope scope own)
    (pg : ∀ (s : Shared) (G : Hp) (C : Addr) (cl : List (Str × Addr)) (fp : List Addr), PG (X.blk s G scope (compEnvC scope cl C X.env) fp) tg g) (pt : ∀ (s : Shared) (G : Hp) (C : Addr) (cl : List (Str × Addr)) (fp : List Addr), PTs (X.blk s G scope (compEnvC scope cl C X.env) fp) ifs tt)
    (pe : ∀ (s : Shared) (G : Hp) (C : Addr) (cl : List (Str × Addr)) (fp : List Addr), PE (X.blk s G scope (compEnvC scope cl C X.env) fp) elt te) (fi : ∀ x, foldedSetIterable iter X.env x = pure x)
    (h : tScT X.K X.prog X.w wi g tt te (own.map (·.2)) τ G Q)
    (back : ∀ B C s' m G', L2.Inv X pins τ G' s' → Q (.ref B) G' → s'.heap.Ns C m → FpOk X pins G' C → compPost (model X.prog X.w) X.A X.xe use Qf (.ref B) C (.ok .next) s') :
    wpAny (model X.prog X.w) X.A (comprehension (.SetComp elt [⟨tg, iter, ifs, 0⟩] scope pos) scope X.env pos' (newSet (.type "set")) false (eval iter X.env) use) Qf X.xe s := by
  have caught : ∀ y ∈ scope.names, y.2 = .free → ∃ c, X.env.cells.lookup y.1 = some c := fun y hy e => (bo.free y hy e).elim (fun k => J0.ok.has _ (.inl k)) fun k => J0.ok.has _ (.inr k)
  refine wpAny_comprehension_free (use := use) rfl fi (closure_ok caught) bo.kind (fun y hy e => by rw [bo.uniq y hy, e]) (thn (pi.run pins s τ G _ J0 h) fun xv s1 hx => thn hx fun itv s2 h2 => ?_)
  obtain ⟨it, fp, tn, J, G2, e, J2, T, st2, f2, q⟩ := h2
  subst e
  refine PpSet.newSet_ok (newEnv_comp ?_)
  generalize hB : s2.heap.objs.size = B
  have nB : G2 B = none := J2.hok.fresh (Nat.le_of_eq hB)
  obtain ⟨Wd, ⟨m0, w0⟩, turn⟩ := q B nB
  generalize es3 : ({ s2 with heap := s2.heap.push { cls := .type "set", dict := none, data := .set #[] 0 (.fresh 0 0 (!X.w.params.followText "set-order")) } } : Shared) = s3
  generalize eN : ((Tg.SetGO X.prog X.w B []) : HO) = oN at w0
  have J3 : L2.Inv X pins τ (upd G2 B oN) s3 := by
    rw [← es3]
    refine J2.laid (t' := s2.toks) (fun b o e => Heap.get?_push_of_some _ e) (Nat.le_of_eq hB) ?_
    rw [← eN, ← hB]
    exact Tg.setGO_new (Tg.fresh_set (Heap.get?_push_size _ rfl)).g0
  have eh : s3.heap = s2.heap.push { cls := .type "set", dict := none, data := .set #[] 0 (.fresh 0 0 (!X.w.params.followText "set-order")) } := by rw [← es3]
  have small : ∀ b ∈ fp, b < s2.heap.objs.size := fun b hb => let ⟨o, e, _⟩ := T.obj _ _ st2 b hb; Heap.lt_size e
  have f3 : ∀ b ∈ fp, FpOk X pins (upd G2 B oN) b ∧ b < s3.heap.objs.size := fun b hb =>
    ⟨⟨by rw [upd_ne (by rw [← hB]; exact Nat.ne_of_lt (small b hb))]; exact (f2 b hb).1, (f2 b hb).2⟩, by rw [eh, Heap.size_push]; exact Nat.lt_succ_of_lt (small b hb)⟩
  have st3 : tn 0 s3.heap := T.keep _ _ _ st2 fun b _ o e => by rw [eh]; exact Heap.get?_push_of_some _ e
  have J4 := block_start J3 bo nd f3
  generalize eG : upd G2 B oN = G3 at J3 J4 w0 f3
  have rg := pg s3 G3 s3.heap.objs.size (cellsFrom (s3.heap.objs.size + 1) scope.names (cloFrom X.env.cells scope.names [])) fp
  have rt := pt s3 G3 s3.heap.objs.size (cellsFrom (s3.heap.objs.size + 1) scope.names (cloFrom X.env.cells scope.names [])) fp
  have rpe := pe s3 G3 s3.heap.objs.size (cellsFrom (s3.heap.objs.size + 1) scope.names (cloFrom X.env.cells scope.names [])) fp
  have nfp : ∀ b ∈ fp, G3 b = none := fun b hb => (f3 b hb).1.1
  show codeAny _ _ (.compStart (.SetComp elt [⟨tg, iter, ifs, 0⟩] scope pos) 0 (.ref it) (.ref B) (compEnvC scope (cellsFrom (s3.heap.objs.size + 1) scope.names (cloFrom X.env.cells scope.names [])) s3.heap.objs.size X.env)) (compPost (model X.prog X.w) X.A X.xe use Qf (.ref B) s3.heap.objs.size) { s3 with heap := pushCells (s3.heap.push { cls := .type "dict", data := .dict #[] }) scope.names }
  generalize hce : compEnvC scope (cellsFrom (s3.heap.objs.size + 1) scope.names (cloFrom X.env.cells scope.names [])) s3.heap.objs.size X.env = ce at J4 rg rt rpe ⊢
  have cL : ce.locals = s3.heap.objs.size := by subst hce; rfl
  generalize es4 : ({ s3 with heap := pushCells (s3.heap.push { cls := .type "dict", data := .dict #[] }) scope.names } : Shared) = s4 at J4 ⊢
  have st4 : tn 0 s4.heap := T.keep _ _ _ st3 fun b _ o e => by rw [← es4]; exact pushCells_keeps _ _ _ _ (Heap.get?_push_of_some _ e)
  have stay : ∀ {τ' : L2.St} {G' : Hp} {s' : Shared}, L2.Inv (X.blk s3 G3 scope ce fp) [] τ' G' s' → (∀ b ∈ fp, G' b = none) → ∀ b ∈ fp, FpOk (X.blk s3 G3 scope ce fp) [] G' b := fun J' hn b hb =>
    ⟨hn b hb, (J'.ok.exf b hb).1, J'.ok.exfs b hb, .inl hb, fun x c e => (J'.ok.exf b hb).2 x c e, fun p hp => absurd (show p ∈ ([] : List (Addr × Obj)) ++ [] from hp) (by simp)⟩
  have loop : codeAny (model X.prog X.w) X.A (.compLoop (.SetComp elt [⟨tg, iter, ifs, 0⟩] scope pos) 0 (.ref it) (.ref B) ce) (compPost (model X.prog X.w) X.A X.xe use Qf (.ref B) s3.heap.objs.size) s4 := by
    refine PpSet.compLoopS_any (fun n s' => ∃ i G', L2.Inv (X.blk s3 G3 scope ce fp) [] (wipe τ (own.map (·.2))) G' s' ∧ tn i s'.heap ∧ (∀ b ∈ fp, G' b = none) ∧ Wd i n G') ?_ m0 ⟨0, G3, J4, st4, nfp, w0⟩
    rintro n s5 ⟨i, G5, J5, st5, n5, w5⟩
    rcases turn i n G5 w5 with ⟨stop, qq⟩ | ⟨go, Nx, hNx, step⟩
    · refine thnF (T.done (X.blk s3 G3 scope ce fp) rfl rfl rfl calm i [] s5 _ G5 (fun _ _ => False) J5 (stay J5 n5) st5 stop) fun r s6 ⟨hr, J6⟩ => ?_
      subst hr
      have J7 : L2.Inv X pins τ G5 s6 := J3.call' (ch := fp) J6.os J6.base J6.hok J6.bare fun b hb => let z := (f3 b hb).1.2; ⟨z.2.2.1, z.1, z.2.2.2.1, z.2.2.2.2⟩
      have nC : G5 s3.heap.objs.size = none := cL ▸ (show G5 ce.locals = none from J6.free)
      obtain ⟨m, hn, _⟩ := J6.loc
      exact back B s3.heap.objs.size s6 m G5 J7 qq (cL ▸ (show s6.heap.Ns ce.locals m from hn)) (J3.fpOk (Nat.le_refl _) nC)
    · refine thnF (T.item (X.blk s3 G3 scope ce fp) rfl rfl rfl calm i [] s5 _ G5 (fun _ _ => False) J5 (stay J5 n5) st5 go) fun r s6 ⟨u, hr, h6⟩ => ?_
      subst hr
      refine thnF h6 fun _ s7 ⟨x, G7, J7, r7, y7, st7, n7⟩ => ?_
      refine thnF (rg.run _ s7 _ G7 x u _ (J7.pinned (stay J7 n7) (T.obj _ _ st7)) r7 (step x G7 y7)) fun _ s8 ⟨τ8, G8, J8, hw8, q8⟩ => ?_
      refine thnF (rt.run _ s8 τ8 G8 _ J8 q8) fun b s9 ⟨G9, J9, q9⟩ => ?_
      have fin : ∀ {s' : Shared} {G' : Hp}, L2.Inv (X.blk s3 G3 scope ce fp) ([] ++ pinsAt fp s7.heap) τ8 G' s' → Nx G' → ∃ m, m < n ∧ ∃ i G', L2.Inv (X.blk s3 G3 scope ce fp) [] (wipe τ (own.map (·.2))) G' s' ∧ tn i s'.heap ∧ (∀ b ∈ fp, G' b = none) ∧ Wd i m G' := fun {s' G'} J' nx => by
        obtain ⟨m', hm, w'⟩ := hNx G' nx
        have kept : ∀ b ∈ fp, ∀ o, s7.heap.get? b = some o → s'.heap.get? b = some o ∧ G' b = none := fun b hb o e =>
          let z := J'.pin (b, o) (List.mem_append_right _ (List.mem_append_right _ (mem_pinsAt hb e))); ⟨z.1, z.2.1⟩
        refine ⟨m', hm, i + 1, G', (J'.unpinned (pins := [])).weak (by rw [← hw8, wipe_length]) (fun j v e => (wipe_some (by rw [hw8]; exact e)).1), T.keep _ _ _ st7 fun b hb o e => (kept b hb o e).1, fun b hb => ?_, w'⟩
        obtain ⟨o, e, _⟩ := T.obj _ _ st7 b hb
        exact (kept b hb o e).2
      cases b with
      | false =>
        simp only [Bool.false_eq_true, if_false] at q9 ⊢
        exact fin J9 q9
      | true =>
        simp only [if_true] at q9 ⊢
        refine thnF (rpe.run _ s9 τ8 G9 _ J9 q9) fun z s10 ⟨yv, G10, J10, r10, b, k, L, ey, hb, hB10, hL, few, nx⟩ => ?_
        subst ey
        cases (show z = Value.ref b from r10)
        exact add_tup (X := X.blk s3 G3 scope ce fp) (by show X.A.units + 2 < cLine; omega) J10 hB10 hL hb few fun L' s11 c1 c2 J11 => fin J11 (nx L' c1 c2)
  exact PpSet.codeAny_compStart_set loop (T.self X.A 0 _ _ _ st4 loop)
/-- as a value -/
theorem pe_sct {elt tg iter : Expr} {ifs : List Expr} {scope : Scope} {own : List (Str × Nat)} {pos : Pos} {wi : TI} {g : TG} {tt : TT} {te : TE} (calm : X.calm = true) (nd : X.N.Nodup) (hu : X.A.units + 64 < cLine) (pi : PI X tg iter wi) (bo : BlkOk X.N X.env.scope scope own)
    (pg : ∀ (s : Shared) (G : Hp) (C : Addr) (cl : List (Str × Addr)) (fp : List Addr), PG (X.blk s G scope (compEnvC scope cl C X.env) fp) tg g) (pt : ∀ (s : Shared) (G : Hp) (C : Addr) (cl : List (Str × Addr)) (fp : List Addr), PTs (X.blk s G scope (compEnvC scope cl C X.env) fp) ifs tt)
    (pe : ∀ (s : Shared) (G : Hp) (C : Addr) (cl : List (Str × Addr)) (fp : List Addr), PE (X.blk s G scope (compEnvC scope cl C X.env) fp) elt te) (fi : ∀ x, foldedSetIterable iter X.env x = pure x := by intro _; rfl) :
    PE X (.SetComp elt [⟨tg, iter, ifs, 0⟩] scope pos) (tScT X.K X.prog X.w wi g tt te (own.map (·.2))) := by
  refine ⟨fun pins s τ G Q J0 h => ?_⟩
  rw [PpSet.eval_SetComp]
  refine sct_core calm nd hu J0 pi bo pg pt pe fi h fun B C s' m G' J' q hn f => ⟨m, hn, fun h'' sb => ?_⟩
  exact ⟨.ref B, G', J'.turned (t' := s'.toks) (fun b o hb e => (sb.2 b hb).trans e) f.1 f.2.1 f.2.2.2.1 f.2.2.2.2.1 f.2.2.2.2.2, rfl, q⟩
end
section
variable {X : Cx}
/-- {k: v for target in iter if ..}, k a tuple: B the new object -/
def tDcT (wi : TI) (g : TG) (tt : TT) (tk tv : TE) (vs : List Nat) : TE := fun τ G Q => wi τ G fun J G1 => ∀ B, G1 B = none → ∃ Wd : Nat → Nat → Hp → Prop, (∃ m, Wd 0 m (upd G1 B (.dT []))) ∧ ∀ i m G, Wd i m G →
  (J.stop i G ∧ Q (.ref B) G) ∨ (J.go i G ∧ ∃ Nx : Hp → Prop, (∀ G', Nx G' → ∃ m', m' < m ∧ Wd (i + 1) m' G') ∧ ∀ x G', J.yld i G x G' → g x (wipe τ vs) G' fun τ2 G2 => wipe τ2 vs = wipe τ vs ∧ tt τ2 G2 fun b G3 =>
    if b = true then tk τ2 G3 fun y G4 => tv τ2 G4 fun z G5 => ∃ (b : Addr) (k : List Key) (kvs : List (List Key × V)), y = .ref b ∧ G5 b = some (.tup (k.map kV)) ∧ G5 B = some (.dT kvs) ∧ kvs.length < sizeLine ∧ Nx (upd G5 B (.dT (putK kvs k z))) else Nx G3)
theorem dct_core {pins : List (Addr × Obj)} {s : Shared} {τ : L2.St} {G : Hp} {Q : VK} {kx vx tg iter : Expr} {ifs : List Expr} {scope : Scope} {own : List (Str × Nat)} {pos pos' : Pos} {wi : TI} {g : TG} {tt : TT} {tk tv : TE} {use : Option (Value → Sem Unit)} {Qf : Value → Shared → Prop}
    (calm : X.calm = true) (nd : X.N.Nodup) (hu : X.A.units + 64 < cLine) (J0 : L2.Inv X pins τ G s) (pi : PI X tg iter wi) (bo : BlkOk X.N X.env.scope scope own)
    (pg : ∀ (s : Shared) (G : Hp) (C : Addr) (cl : List (Str × Addr)) (fp : List Addr), PG (X.blk s G scope (compEnvC scope cl C X.env) fp) tg g) (pt : ∀ (s : Shared) (G : Hp) (C : Addr) (cl : List (Str × Addr)) (fp : List Addr), PTs (X.blk s G scope (compEnvC scope cl C X.env) fp) ifs tt)
    (pk : ∀ (s : Shared) (G : Hp) (C : Addr) (cl : List (Str × Addr)) (fp : List Addr), PE (X.blk s G scope (compEnvC scope cl C X.env) fp) kx tk) (pe : ∀ (s : Shared) (G : Hp) (C : Addr) (cl : List (Str × Addr)) (fp : List Addr), PE (X.blk s G scope (compEnvC scope cl C X.env) fp) vx tv) (fi : ∀ x, foldedSetIterable iter X.env x = pure x)
    (h : tDcT  wi g tt tk tv (own.map (·.2)) τ G Q)
    (back : ∀ B C s' m G', L2.Inv X pins τ G' s' → Q (.ref B) G' → s'.heap.Ns C m → FpOk X pins G' C → compPost (model X.prog X.w) X.A X.xe use Qf (.ref B) C (.ok .next) s') :
    wpAny (model X.prog X.w) X.A (comprehension (.DictComp kx vx [⟨tg, iter, ifs, 0⟩] scope pos) scope X.env pos' newDict false (eval iter X.env) use) Qf X.xe s := by
  have caught : ∀ y ∈ scope.names, y.2 = .free → ∃ c, X.env.cells.lookup y.1 = some c := fun y hy e => (bo.free y hy e).elim (fun k => J0.ok.has _ (.inl k)) fun k => J0.ok.has _ (.inr k)
  refine wpAny_comprehension_free (use := use) rfl fi (closure_ok caught) bo.kind (fun y hy e => by rw [bo.uniq y hy, e]) (thn (pi.run pins s τ G _ J0 h) fun xv s1 hx => thn hx fun itv s2 h2 => ?_)
  obtain ⟨it, fp, tn, J, G2, e, J2, T, st2, f2, q⟩ := h2
  subst e
  refine wpAny_newObj_type (newEnv_comp ?_)
  generalize hB : s2.heap.objs.size = B
  have nB : G2 B = none := J2.hok.fresh (Nat.le_of_eq hB)
  obtain ⟨Wd, ⟨m0, w0⟩, turn⟩ := q B nB
  generalize es3 : ({ s2 with heap := s2.heap.push { cls := .type "dict", data := .dict #[] } } : Shared) = s3
  generalize eN : ((.dT []) : HO) = oN at w0
  have J3 : L2.Inv X pins τ (upd G2 B oN) s3 := by
    rw [← es3]
    refine J2.laid (t' := s2.toks) (fun b o e => Heap.get?_push_of_some _ e) (Nat.le_of_eq hB) ?_
    rw [← eN, ← hB]
    exact dt_empty s2.heap J2.big
  have eh : s3.heap = s2.heap.push { cls := .type "dict", data := .dict #[] } := by rw [← es3]
  have small : ∀ b ∈ fp, b < s2.heap.objs.size := fun b hb => let ⟨o, e, _⟩ := T.obj _ _ st2 b hb; Heap.lt_size e
  have f3 : ∀ b ∈ fp, FpOk X pins (upd G2 B oN) b ∧ b < s3.heap.objs.size := fun b hb =>
    ⟨⟨by rw [upd_ne (by rw [← hB]; exact Nat.ne_of_lt (small b hb))]; exact (f2 b hb).1, (f2 b hb).2⟩, by rw [eh, Heap.size_push]; exact Nat.lt_succ_of_lt (small b hb)⟩
  have st3 : tn 0 s3.heap := T.keep _ _ _ st2 fun b _ o e => by rw [eh]; exact Heap.get?_push_of_some _ e
  have J4 := block_start J3 bo nd f3
  generalize eG : upd G2 B oN = G3 at J3 J4 w0 f3
  have rg := pg s3 G3 s3.heap.objs.size (cellsFrom (s3.heap.objs.size + 1) scope.names (cloFrom X.env.cells scope.names [])) fp
  have rt := pt s3 G3 s3.heap.objs.size (cellsFrom (s3.heap.objs.size + 1) scope.names (cloFrom X.env.cells scope.names [])) fp
  have rpk := pk s3 G3 s3.heap.objs.size (cellsFrom (s3.heap.objs.size + 1) scope.names (cloFrom X.env.cells scope.names [])) fp
  have rpe := pe s3 G3 s3.heap.objs.size (cellsFrom (s3.heap.objs.size + 1) scope.names (cloFrom X.env.cells scope.names [])) fp
  have nfp : ∀ b ∈ fp, G3 b = none := fun b hb => (f3 b hb).1.1
  show codeAny _ _ (.compStart (.DictComp kx vx [⟨tg, iter, ifs, 0⟩] scope pos) 0 (.ref it) (.ref B) (compEnvC scope (cellsFrom (s3.heap.objs.size + 1) scope.names (cloFrom X.env.cells scope.names [])) s3.heap.objs.size X.env)) (compPost (model X.prog X.w) X.A X.xe use Qf (.ref B) s3.heap.objs.size) { s3 with heap := pushCells (s3.heap.push { cls := .type "dict", data := .dict #[] }) scope.names }
  generalize hce : compEnvC scope (cellsFrom (s3.heap.objs.size + 1) scope.names (cloFrom X.env.cells scope.names [])) s3.heap.objs.size X.env = ce at J4 rg rt rpk rpe ⊢
  have cL : ce.locals = s3.heap.objs.size := by subst hce; rfl
  generalize es4 : ({ s3 with heap := pushCells (s3.heap.push { cls := .type "dict", data := .dict #[] }) scope.names } : Shared) = s4 at J4 ⊢
  have st4 : tn 0 s4.heap := T.keep _ _ _ st3 fun b _ o e => by rw [← es4]; exact pushCells_keeps _ _ _ _ (Heap.get?_push_of_some _ e)
  have stay : ∀ {τ' : L2.St} {G' : Hp} {s' : Shared}, L2.Inv (X.blk s3 G3 scope ce fp) [] τ' G' s' → (∀ b ∈ fp, G' b = none) → ∀ b ∈ fp, FpOk (X.blk s3 G3 scope ce fp) [] G' b := fun J' hn b hb =>
    ⟨hn b hb, (J'.ok.exf b hb).1, J'.ok.exfs b hb, .inl hb, fun x c e => (J'.ok.exf b hb).2 x c e, fun p hp => absurd (show p ∈ ([] : List (Addr × Obj)) ++ [] from hp) (by simp)⟩
  have loop : codeAny (model X.prog X.w) X.A (.compLoop (.DictComp kx vx [⟨tg, iter, ifs, 0⟩] scope pos) 0 (.ref it) (.ref B) ce) (compPost (model X.prog X.w) X.A X.xe use Qf (.ref B) s3.heap.objs.size) s4 := by
    refine compLoop_anyD (fun n s' => ∃ i G', L2.Inv (X.blk s3 G3 scope ce fp) [] (wipe τ (own.map (·.2))) G' s' ∧ tn i s'.heap ∧ (∀ b ∈ fp, G' b = none) ∧ Wd i n G') ?_ m0 ⟨0, G3, J4, st4, nfp, w0⟩
    rintro n s5 ⟨i, G5, J5, st5, n5, w5⟩
    rcases turn i n G5 w5 with ⟨stop, qq⟩ | ⟨go, Nx, hNx, step⟩
    · refine thnF (T.done (X.blk s3 G3 scope ce fp) rfl rfl rfl calm i [] s5 _ G5 (fun _ _ => False) J5 (stay J5 n5) st5 stop) fun r s6 ⟨hr, J6⟩ => ?_
      subst hr
      have J7 : L2.Inv X pins τ G5 s6 := J3.call' (ch := fp) J6.os J6.base J6.hok J6.bare fun b hb => let z := (f3 b hb).1.2; ⟨z.2.2.1, z.1, z.2.2.2.1, z.2.2.2.2⟩
      have nC : G5 s3.heap.objs.size = none := cL ▸ (show G5 ce.locals = none from J6.free)
      obtain ⟨m, hn, _⟩ := J6.loc
      exact back B s3.heap.objs.size s6 m G5 J7 qq (cL ▸ (show s6.heap.Ns ce.locals m from hn)) (J3.fpOk (Nat.le_refl _) nC)
    · refine thnF (T.item (X.blk s3 G3 scope ce fp) rfl rfl rfl calm i [] s5 _ G5 (fun _ _ => False) J5 (stay J5 n5) st5 go) fun r s6 ⟨u, hr, h6⟩ => ?_
      subst hr
      refine thnF h6 fun _ s7 ⟨x, G7, J7, r7, y7, st7, n7⟩ => ?_
      refine thnF (rg.run _ s7 _ G7 x u _ (J7.pinned (stay J7 n7) (T.obj _ _ st7)) r7 (step x G7 y7)) fun _ s8 ⟨τ8, G8, J8, hw8, q8⟩ => ?_
      refine thnF (rt.run _ s8 τ8 G8 _ J8 q8) fun b s9 ⟨G9, J9, q9⟩ => ?_
      have fin : ∀ {s' : Shared} {G' : Hp}, L2.Inv (X.blk s3 G3 scope ce fp) ([] ++ pinsAt fp s7.heap) τ8 G' s' → Nx G' → ∃ m, m < n ∧ ∃ i G', L2.Inv (X.blk s3 G3 scope ce fp) [] (wipe τ (own.map (·.2))) G' s' ∧ tn i s'.heap ∧ (∀ b ∈ fp, G' b = none) ∧ Wd i m G' := fun {s' G'} J' nx => by
        obtain ⟨m', hm, w'⟩ := hNx G' nx
        have kept : ∀ b ∈ fp, ∀ o, s7.heap.get? b = some o → s'.heap.get? b = some o ∧ G' b = none := fun b hb o e =>
          let z := J'.pin (b, o) (List.mem_append_right _ (List.mem_append_right _ (mem_pinsAt hb e))); ⟨z.1, z.2.1⟩
        refine ⟨m', hm, i + 1, G', (J'.unpinned (pins := [])).weak (by rw [← hw8, wipe_length]) (fun j v e => (wipe_some (by rw [hw8]; exact e)).1), T.keep _ _ _ st7 fun b hb o e => (kept b hb o e).1, fun b hb => ?_, w'⟩
        obtain ⟨o, e, _⟩ := T.obj _ _ st7 b hb
        exact (kept b hb o e).2
      cases b with
      | false =>
        simp only [Bool.false_eq_true, if_false] at q9 ⊢
        exact fin J9 q9
      | true =>
        simp only [if_true] at q9 ⊢
        refine thnF (rpk.run _ s9 τ8 G9 _ J9 q9) fun z s10 ⟨yk, G10, J10, r10, q10⟩ => ?_
        refine thnF (rpe.run _ s10 τ8 G10 _ J10 q10) fun z2 s11 ⟨yv, G11, J11, r11, b, k, kvs, ey, hb, hB11, few, nx⟩ => ?_
        subst ey
        cases (show z = Value.ref b from r10)
        exact put_tup (X := X.blk s3 G3 scope ce fp) (by show X.A.units + 1 < cLine; omega) J11 hB11 hb few r11 fun s12 J12 => fin J12 nx
  exact codeAny_compStart_dict loop (T.self X.A 0 _ _ _ st4 loop)
end
end Tc
end
section
/-! The members of a set of any size, gathered into a list (a set whose order is not drawn). -/
namespace Tg
open PySem PySem.Spec PyProof.Rows L2
section
variable {P : Program} {w : World} {A : Around} {E : Value → Shared → Prop} {s : Shared} {c : Addr} {xs : Array (Int × Value)} {ep : Nat} {t : SetTable}
/-- an iterator over it -/
theorem iter_plain {Q : Value → Shared → Prop} (hc : SetAt s.heap c xs ep t) (fit : t.fits xs.size = true) (pl : t.plain = true) (asc : Ris t.place.toList) (ld : w.params.followText "set-order" = true ∨ t.led = true)
    (q : ∀ s2 J, SetIt P w s c xs s2 J → Q (.ref J) s2) : wpAny (model P w) A (pyIter (.ref c)) Q E s := by
  have hc' := hc
  obtain ⟨u, hu, cu, du⟩ := hc'
  have ty : s.TypeIs (.ref c) "set" := ⟨u, hu, cu⟩
  have ne : c ≠ s.heap.objs.size := Nat.ne_of_lt (Heap.lt_size hu)
  refine wpAny_pyIter_slot ty F.slot_set_iter (wpAny_call_entry F.slot_set_iter ty entry_s_iter (id ?_) (F.args_set_iter_1 _)); unfold Builtin.«frozenset.__iter__»
  refine wpAny_bind (m := Builtin.Frozenset.slot0 "__iter__" _) (wpAny_of_eq (a := c) (by rfl) (wpAny_bind (m := Builtin.Frozenset.sizeOf c) (id ?_))); unfold Builtin.Frozenset.sizeOf
  refine wpAny_bind (wpAny_setEntries_of hu du fit (wpAny_pure (id ?_)))
  have drawn : (!w.params.followText "set-order" && (!t.plain && decide (xs.size > 1))) = false := by rw [pl]; simp
  first
    | refine wpAny_bind (setDrawn_at hc fit (id ?_))
    | refine wpAny_bind (wpAny_bind (setDrawn_at hc fit (id ?_)))
  rw [drawn]; refine wp_if_neg (by simp) (id ?_)
  first
    | refine wpAny_bind (wpAny_pure (id ?_))
    | refine wpAny_pure (id ?_)
  refine wpAny_bind (wpAny_setEpoch_of hu du fit (wpAny_bind (wpAny_newObj_type (wpAny_pure ⟨_, rfl, "set_iterator", _, ⟨_, Heap.get?_push_size _ rfl, rfl⟩, slot_si_next.lookup, id ?_⟩))))
  have fresh : ∀ z ∈ [s.heap.objs.size, c], z = c ∨ s.heap.objs.size ≤ z := fun z hz => (List.mem_cons.mp hz).elim (fun e => .inr (by rw [e]; exact Nat.le_refl _)) fun hz => .inl (List.mem_singleton.mp hz)
  cases ft : w.params.followText "set-order" with
  | true =>
    have len : ((pickOrder (w.params.setOrder c ep) xs).toList.map (·.2)).length = (pickOrder (w.params.setOrder c ep) xs).size := (List.length_map _).trans Array.length_toList
    refine q _ _ (SetIt.of (fun A' hA' => walks_text (P := P) (ep := ep) hA' ne fit ft) len (fun z o e => Heap.get?_push_of_some _ e) rfl rfl rfl (Nat.le_refl _) fresh ((pick_perm (w.params.setOrder c ep) xs).map _) (fun j v e => ?_)
      ⟨⟨_, Heap.get?_push_size _ rfl, rfl, rfl⟩, hc.at fun o e => Heap.get?_push_of_some _ e⟩)
    rw [List.getElem?_map, Array.getElem?_toList]; exact e
  | false =>
    have ld' : t.led = true := ld.elim (fun z => by rw [ft] at z; cases z) id
    have len : (xs.toList.map (·.2)).length = xs.size := (List.length_map _).trans Array.length_toList
    refine q _ _ (SetIt.of (fun A' hA' => walks_led (P := P) (ep := ep) hA' ne fit asc ft (by rw [pl]; rfl) ld') len (fun z o e => Heap.get?_push_of_some _ e) rfl rfl rfl (Nat.le_refl _) fresh (List.Perm.refl _) (fun j v e => ?_)
      ⟨⟨_, Heap.get?_push_size _ rfl, rfl, rfl⟩, hc.at fun o e => Heap.get?_push_of_some _ e⟩)
    rw [List.getElem?_map, Array.getElem?_toList]; exact e
/-- all its members -/
theorem collect_plain {Q : List Value → Shared → Prop} (nh : A.handled = none) (hc : SetAt s.heap c xs ep t) (fit : t.fits xs.size = true) (pl : t.plain = true) (big : xs.size ≤ sizeLine) (asc : Ris t.place.toList) (ld : w.params.followText "set-order" = true ∨ t.led = true)
    (q : ∀ s2 out, (∀ z o, s.heap.get? z = some o → s2.heap.get? z = some o) → s.heap.objs.size ≤ s2.heap.objs.size → s2.gens = s.gens → s2.os = s.os → out.Perm (xs.toList.map (·.2)) → Q out s2) :
    wpAny (model P w) A (collect (.ref c)) Q E s := by
  have hc' := hc
  obtain ⟨u, hu, cu, du⟩ := hc'
  have lt := Heap.lt_size hu
  have ne : s.heap.objs.size ≠ c := Nat.ne_of_gt lt
  unfold collect
  refine wpAny_bind (wpAny_runValue (codeAny_builtin F.entry_proto_collect (id ?_))); rw [Around.under_plainId F.plain_proto_collect _]
  refine wpAny_bind (m := newList []) (wpAny_newObj_type (wpAny_pure ⟨plainId_quiet F.plain_list_iadd _, codeAny_builtin F.entry_list_iadd (id ?_)⟩)); rw [Around.under_plainId F.plain_list_iadd _]
  generalize eL : ({ cls := .type "list", data := .seq ([] : List Value).toArray } : Obj) = oL
  have gL : (s.heap.push oL).get? s.heap.objs.size = some oL := by rw [← eL]; exact Heap.get?_push_size _ rfl
  have hc1 : SetAt (s.heap.push oL) c xs ep t := hc.at fun o e => Heap.get?_push_of_some _ e
  have sz1 : (s.heap.push oL).objs.size = s.heap.objs.size + 1 := size_push' _ _
  show wpAny _ A.in1 (Builtin.List.listExtendWith (.ref s.heap.objs.size) (.ref c) (.ref s.heap.objs.size)) _ _ { s with heap := s.heap.push oL }
  unfold Builtin.List.listExtendWith
  refine wpAny_bind (wpAny_typeOf (T := "set") ⟨u, Heap.get?_push_of_some _ hu, cu⟩ ?_)
  have n1 : Builtin.List.listSameRef (.ref s.heap.objs.size) (.ref c) = false := by simp [Builtin.List.listSameRef, ne]
  simp only [n1, show (Value.type "set" == Value.type "list") = false from by decide, show (Value.type "set" == Value.type "tuple") = false from by decide, Bool.or_false, Bool.false_eq_true, if_false]
  refine wpAny_bind (iter_plain (s := { s with heap := s.heap.push oL }) hc1 fit pl asc ld fun s2 J walk => ?_)
  obtain ⟨fp, St, out, Pv, up, eg, eo, et, hJ, hfp, pm, hW, hPv, st0⟩ := walk
  have hJ' : s.heap.objs.size + 1 ≤ J := by rw [← sz1]; exact hJ
  have off : s.heap.objs.size ∉ fp := fun hm => (hfp _ hm).elim ne fun z => by
    have z' : (s.heap.push oL).objs.size ≤ s.heap.objs.size := z
    rw [sz1] at z'
    exact Nat.not_succ_le_self _ z'
  have hu2 := up c u (Heap.get?_push_of_some _ hu)
  have ty2 : s2.TypeIs (.ref c) "set" := ⟨u, hu2, cu⟩
  refine wpAny_bind (wpAny_holding (id ?_)); unfold Builtin.List.listLengthHint
  refine wpAny_bind (wpAny_specialOf ty2 F.slot_set_len.lookup (id ?_))
  (generalize hid : ("set.__len__" : String) = id0); (fail_if_success (clear hid id0)); wp_delta; rw [show splitId id0 = some ("set", "__len__") from by subst hid; decide +kernel]; subst hid
  refine wpAny_bind (wpAny_isInstance (b := true) ty2 sub_set_self (id ?_)); refine wpAny_bind (m := typeOf (.ref c)) (wpAny_typeOf ty2 (wpAny_pure (id ?_)))
  refine wpAny_bind (m := rule "list.extend.makes-room") (wpAny_rule (id ?_))
  have gL2 := up _ _ gL
  have dL : oL.data = .seq ([] : List Value).toArray := by rw [← eL]
  refine wpAny_bind (m := Builtin.List.listTouch (.ref s.heap.objs.size)) (id ?_)
  refine wpAny_bind (m := updateSeq s.heap.objs.size (·.push .none)) (wpAny_updateSeq gL2 dL (id ?_))
  have gL3 := Heap.get?_update_self (Obj.mapSeq (·.push Value.none)) gL2 (by rw [← eL]; rfl)
  refine wpAny_updateSeq gL3 (by rw [← eL]; rfl) (id ?_)
  have gL4 := Heap.get?_update_self (Obj.mapSeq (·.pop)) gL3 (by rw [← eL]; rfl)
  have rest : ∀ z o, z ≠ s.heap.objs.size → s2.heap.get? z = some o → ((s2.heap.update s.heap.objs.size (Obj.mapSeq (·.push Value.none))).update s.heap.objs.size (Obj.mapSeq (·.pop))).get? z = some o := fun z o hz e => by
    rw [Heap.get?_update_other _ _ (Ne.symm hz), Heap.get?_update_other _ _ (Ne.symm hz)]; exact e
  have few : out.length ≤ sizeLine := by rw [pm.length_eq, List.length_map, Array.length_toList]; exact big
  have W := hW A.in1 nh
  have st2 := W.frame 0 _ _ st0 fun z hz o e => rest z o (fun y => off (y ▸ hz)) e
  refine wpAny_pure ⟨plainId_quiet F.plain_extend_loop _, codeAny_extend_loopS W.toS few _ off _ out.length 0 _ _ _ rfl (Nat.zero_le _) st2 (by rw [gL4, ← eL]; rfl) (ItemsOf.nil Pv) fun s3 acc tk mv gS got => ?_⟩
  refine wpAny_bind (m := load s.heap.objs.size) (wpAny_load gS (wpAny_pure ?_))
  have eo' := items_out got hPv
  show Q acc.toList s3
  rw [eo']
  refine q s3 out (fun z o e => ?_) (Nat.le_of_lt (Heap.lt_size gS)) (mv.gens.trans eg) (mv.os.trans eo) pm
  have lz : z < s.heap.objs.size := Heap.lt_size e
  refine mv.heap z o (fun y => ?_) (rest z o (Nat.ne_of_lt lz) (up z o (Heap.get?_push_of_some _ e)))
  rcases List.mem_cons.mp y with y | y
  · exact Nat.lt_irrefl _ (y ▸ lz)
  · exact Nat.lt_irrefl _ (Nat.lt_of_lt_of_le (List.mem_singleton.mp y ▸ lz) (Nat.le_of_succ_le hJ'))
end
end Tg
end
section
/-! Rows of tuples of ints: sets of them, sorted. -/
namespace Dn
open PySem PySem.Spec PyProof.Rows L2
open PySem.W (AllAlike Sortable dataLe alike EachIs)
/-! ### data -/
def intsOf : List Dt → Option (List Int)
  | [] => some []
  | .int i :: r => (intsOf r).map (i :: ·)
  | _ => none
def tupI : Dt → Option (List Int)
  | .tup xs => intsOf xs
  | _ => none
def tupIs : List Dt → Option (List (List Int))
  | [] => some []
  | d :: r => (tupI d).bind fun x => (tupIs r).map (x :: ·)
def rowD (r : List Int) : Dt := .tup (r.map .int)
theorem intsOf_rp {k : Kp} {D : Hp} : ∀ {ds : List Dt} {vs : List V} {is : List Int}, RpL k D vs ds → intsOf ds = some is → vs = is.map V.int
  | [], _, _, .nil, e => by cases e; rfl
  | d :: r, _, is, .cons h t, e => by
    cases d <;> simp only [intsOf] at e <;> try (cases e; done)
    rename_i i
    cases q : intsOf r with
    | none => rw [q] at e; cases e
    | some ys =>
      rw [q] at e
      cases e
      cases h
      rw [intsOf_rp t q, List.map_cons]
theorem tupI_rp {k : Kp} {D : Hp} {d : Dt} {v : V} {r : List Int} (h : Rp k D v d) (e : tupI d = some r) : ∃ a, v = .ref a ∧ D a = some (.tup (r.map V.int)) := by
  cases d <;> simp only [tupI] at e <;> try (cases e; done)
  cases h with
  | tup s t => exact ⟨_, rfl, by rw [← intsOf_rp t e]; exact s⟩
theorem tupIs_rp {k : Kp} {D : Hp} : ∀ {ds : List Dt} {vs : List V} {rs : List (List Int)}, RpL k D vs ds → tupIs ds = some rs →
    ∃ L : List (Addr × List Int), vs = L.map (fun p => V.ref p.1) ∧ L.map (·.2) = rs ∧ ∀ p ∈ L, D p.1 = some (.tup (p.2.map V.int))
  | [], _, _, .nil, e => by cases e; exact ⟨[], rfl, rfl, fun _ h => nomatch h⟩
  | d :: r, _, rs, .cons h t, e => by
    unfold tupIs at e
    cases q1 : tupI d with
    | none => rw [q1] at e; cases e
    | some x =>
      cases q2 : tupIs r with
      | none => rw [q1, q2] at e; cases e
      | some ys =>
        rw [q1, q2] at e
        cases e
        obtain ⟨a, rfl, ha⟩ := tupI_rp h q1
        obtain ⟨L, rfl, e2, e3⟩ := tupIs_rp t q2
        exact ⟨(a, x) :: L, rfl, by simp [e2], fun p hp => (List.mem_cons.mp hp).elim (fun e => e ▸ ha) (e3 p)⟩
theorem rowD_rp {k : Kp} {D : Hp} {a : Addr} {r : List Int} (h : D a = some (.tup (r.map V.int))) : Rp k D (.ref a) (rowD r) := .tup h (rpl_ints r)
theorem rowsD_rp {k : Kp} {D : Hp} : ∀ {L : List (Addr × List Int)}, (∀ p ∈ L, D p.1 = some (.tup (p.2.map V.int))) → RpL k D (L.map fun p => V.ref p.1) ((L.map (·.2)).map rowD)
  | [], _ => .nil
  | p :: L, h => .cons (rowD_rp (h p List.mem_cons_self)) (rowsD_rp fun q hq => h q (List.mem_cons_of_mem _ hq))
/-! ### the order -/
def leR (a b : List Int) : Bool := decide (a ≤ b)
def srtR (rs : List (List Int)) : List (List Int) := rs.mergeSort leR
theorem leR_trans (a b c : List Int) : leR a b = true → leR b c = true → leR a c = true := by
  simp only [leR, decide_eq_true_eq]
  exact fun h g => List.le_trans h g
theorem leR_total (a b : List Int) : (leR a b || leR b a) = true := by
  simp only [leR, Bool.or_eq_true, decide_eq_true_eq]
  exact List.le_total a b
theorem leR_anti {a b : List Int} (h : leR a b = true) (g : leR b a = true) : a = b := by
  simp only [leR, decide_eq_true_eq] at h g
  exact List.le_antisymm h g
theorem srtR_perm {xs ys : List (List Int)} (h : xs.Perm ys) : srtR xs = srtR ys :=
  List.Perm.eq_of_pairwise (le := fun a b => leR a b = true) (fun a b _ _ h g => leR_anti h g) (List.pairwise_mergeSort leR_trans leR_total xs) (List.pairwise_mergeSort leR_trans leR_total ys) (((List.mergeSort_perm xs leR).trans h).trans (List.mergeSort_perm ys leR).symm)
/-- unlike rows, rising -/
def sortRows (rs : List (List Int)) : List (List Int) := srtR (Sk.addAll [] rs)
theorem dataLe_tups {β : Type} (x : β → List Int) : dataLe false (fun b => .tuple ((x b).map .int)) = fun p q => leR (x p) (x q) := PySem.W.dataLe_rows x
/-! ### sorted(a set of tuples) -/
section
variable {X : Cx} {k : Kp}
def rSortTT (K : PySem.W.Frag) (P : Program) (w : World) : List V → Hp → VK → Prop := fun vs H Q => ∃ (a : Addr) (L : List (Addr × List Int)), vs = [V.ref a] ∧ H a = some (Tg.SetGO P w a L) ∧ (∀ p ∈ L, SqT K H p.1 (p.2.map V.int)) ∧ ((∀ p ∈ L, p.2 ≠ []) ∨ ∀ p ∈ L, p.2 = []) ∧
  ∀ (L' : List (Addr × List Int)) (p : Addr), (L.map (·.2)).Nodup → L'.Perm L → L'.map (·.2) = srtR (L.map (·.2)) → H p = none → Q (.ref p) (upd H p (.lst (L'.map fun q => V.ref q.1)))
theorem each_mk {α : Type} {R : Value → α → Prop} (f : α → Value) (h : ∀ b, R (f b) b) : ∀ bs : List α, EachIs R (bs.map f) bs
  | [] => .nil
  | b :: bs => .cons (h b) (each_mk f h bs)
theorem each_mem {α : Type} {R S : Value → α → Prop} : ∀ {vs : List Value} {bs : List α}, EachIs R vs bs → (∀ v b, b ∈ bs → R v b → S v b) → EachIs S vs bs
  | _, _, .nil, _ => .nil
  | _, _, .cons h t, f => .cons (f _ _ List.mem_cons_self h) (each_mem t fun v b hb => f v b (List.mem_cons_of_mem _ hb))
theorem refs_back {vs : List Value} {L : List (Addr × List Int)} (e : EachIs (fun v (b : Addr × List Int) => v = Value.ref b.1) vs L) : vs = L.map fun b => Value.ref b.1 := by
  induction e with
  | nil => rfl
  | cons h _ ih => rw [h, ih, List.map_cons]
theorem toPys_ints : ∀ r : List Int, toPys (r.map .int) = some (r.map .int)
  | [] => rfl
  | i :: r => by simp [toPys, toPy, toPys_ints r]
theorem readsAll_ints {h : Heap} : ∀ {r : List Int} {vs : List Value} {as : List Addr}, ReadsAll h vs (r.map PyData.int) as → as = []
  | [], _, _, x => by cases x; rfl
  | i :: r, _, _, x => by
    cases x with
    | cons a b =>
      cases a
      rw [readsAll_ints b]; rfl
theorem reads_ints {h : Heap} {r : List Int} {v : Value} {as : List Addr} (x : Reads h v (.tuple (r.map PyData.int)) as) : as = [] := by
  cases x with
  | tuple h1 h2 h3 h4 => exact readsAll_ints h4
theorem alike_ints : ∀ a b : List Int, PySem.W.alikeAll (a.map .int) (b.map .int) = true
  | [], b => by simp [PySem.W.alikeAll]
  | _ :: _, [] => by simp [PySem.W.alikeAll]
  | x :: a, y :: b => by simp [PySem.W.alikeAll, alike, alike_ints a b]
theorem depth_ints : ∀ r : List Int, PyData.depthAll (r.map .int) = 0
  | [] => rfl
  | i :: r => by simp [PyData.depthAll, PyData.depth, depth_ints r]
theorem one_nil {L : List (Addr × List Int)} (nd : (L.map (·.2)).Nodup) (h : ∀ p ∈ L, p.2 = []) : L.length ≤ 1 := by
  match L, nd, h with
  | [], _, _ => simp
  | [_], _, _ => simp
  | a :: b :: r, nd, h =>
    have h1 := h a (by simp)
    have h2 := h b (by simp)
    simp [h1, h2] at nd
theorem cr_sortTT {lv : Nat} (hc : X.calm = true) (hr : Room lv X.A) : CallR X (.builtin "sorted") (rSortTT X.K X.prog X.w) := by
  intro pins s σ H vs us Q I r h
  obtain ⟨a, L, rfl, ha, hk, hne0, q⟩ := h
  have R0 : Tg.SetG0 X.prog X.w s.heap a L := (I.hok a _ ha).1
  obtain ⟨es, ep, t, R⟩ := R0.whole fun p hp => I.isT (hk p hp)
  rw [Vals.ref1 r]
  obtain ⟨o, ho, hex, hd⟩ := R.ob
  have hne : (∀ p ∈ L, p.2 ≠ []) ∨ L.length ≤ 1 := hne0.imp id fun z => one_nil R.nd z
  have hfew := R.few
  have hsz := Tg.rows_size R.rows
  refine Calls.call_function_entry PyProof.Rows.kind_sorted PyProof.Rows.plain_sorted PyProof.Rows.entry_sorted (PyProof.Rows.args_sorted1 _) ?_
  unfold Builtin.«sorted»
  refine wpAny_bind (m := checkCount "sorted" 1 1 _) (wpAny_pure ?_)
  refine wpAny_bind (Tg.collect_plain (A := X.A.in1) (I.ok.hd hc) ⟨o, ho, hex.1, hd⟩ R.fits R.plain (by rw [sizeLine_eq]; omega) R.tab.asc R.led fun s1 vs k1 hz g1 o1 pm => ?_)
  have hes : es.toList.map (·.2) = L.map fun q => Value.ref q.1 := by
    rw [R.rows]
    unfold rowsOf
    rw [List.map_map]
    rfl
  rw [hes] at pm
  -- the values are rows of L, in some order
  obtain ⟨L1, e1, pL⟩ : ∃ L1 : List (Addr × List Int), vs = L1.map (fun q => Value.ref q.1) ∧ L1.Perm L := by
    have key : ∀ (vs : List Value) (L : List (Addr × List Int)), vs.Perm (L.map fun q => Value.ref q.1) → ∃ L1 : List (Addr × List Int), vs = L1.map (fun q => Value.ref q.1) ∧ L1.Perm L := by
      intro vs
      induction vs with
      | nil => intro L p; have := p.length_eq; simp at this; exact ⟨[], rfl, by rw [List.eq_nil_of_length_eq_zero this.symm]⟩
      | cons v vs ih =>
        intro L p
        obtain ⟨b, hb, rfl⟩ := List.mem_map.mp (p.mem_iff.mp List.mem_cons_self)
        obtain ⟨l1, l2, rfl⟩ := List.append_of_mem hb
        have p2 : vs.Perm ((l1 ++ l2).map fun q => Value.ref q.1) := by
          rw [List.map_append, List.map_cons] at p
          rw [List.map_append]
          exact (List.perm_cons _).mp (p.trans List.perm_middle)
        obtain ⟨L1, e, pe⟩ := ih _ p2
        exact ⟨b :: L1, by rw [List.map_cons, e], (pe.cons b).trans List.perm_middle.symm⟩
    exact key vs L pm
  have hvl : vs.length = L.length := by rw [pm.length_eq, List.length_map]
  refine wpAny_bind (wpAny_newList ?_ (by rw [sizeLine_eq]; omega))
  have hoL : (s1.heap.push (seqObj "list" vs.toArray 0)).get? s1.heap.objs.size = some (seqObj "list" vs.toArray 0) := Heap.get?_push_size _ rfl
  have up1 : ∀ b u, s.heap.get? b = some u → (s1.heap.push (seqObj "list" vs.toArray 0)).get? b = some u := fun b u e => Heap.get?_push_of_some _ (k1 b u e)
  have hn : H s1.heap.objs.size = none := I.hok.fresh hz
  -- the end, whatever sorts
  have fin : ∀ (L' : List (Addr × List Int)) (out : List Value), L'.Perm L → L'.map (·.2) = srtR (L.map (·.2)) → out = L'.map (fun q => Value.ref q.1) →
      wpAny (model X.prog X.w) (X.A.in1) (ret (Value.ref s1.heap.objs.size)) (fun f s' => ∃ v, f = .done (.ret v) ∧ EP X pins σ Q v s') X.xe { s1 with heap := sortedHeap (s1.heap.push (seqObj "list" vs.toArray 0)) s1.heap.objs.size vs (List.toArray out) } := by
    intro L' out p1 p2 p3
    obtain ⟨c, hc'⟩ := PyProof.Rows.sortedHeap_at (vs := vs) (out := List.toArray out) hoL
    have hlen : (L'.map fun q => V.ref q.1).length ≤ sizeLine := by rw [List.length_map, p1.length_eq, sizeLine_eq]; omega
    have up : ∀ b u, s.heap.get? b = some u → (sortedHeap (s1.heap.push (seqObj "list" vs.toArray 0)) s1.heap.objs.size vs (List.toArray out)).get? b = some u := fun b u e => by
      have q := k1 b u e
      have hlt := Heap.lt_size q
      rw [PyProof.Rows.sortedHeap_old (Nat.ne_of_lt hlt) (by rw [size_push']; exact Nat.lt_succ_of_lt hlt)]
      exact Heap.get?_push_of_some _ q
    refine wpAny_pure ⟨_, rfl, ?_⟩
    obtain ⟨h1, gg1, dd1, tt1, oo1⟩ := s1
    dsimp only at g1 o1
    subst g1 o1
    have hv : Vals (L'.map fun q => V.ref q.1) out := by rw [p3]; exact vals_of_refs L'
    have J : L2.Inv X pins σ (upd H h1.objs.size (.lst (L'.map fun q => V.ref q.1))) { s with heap := sortedHeap (h1.push (seqObj "list" vs.toArray 0)) h1.objs.size vs (List.toArray out), drawn := dd1, toks := tt1 } :=
      I.call (ch := []) (Un.laid up hz hn) (I.hok.laid up hz ⟨hlen, out, c, hv, hc'⟩) I.bare (fun _ z => nomatch z)
    exact ⟨.ref _, _, J, rfl, q L' _ R.nd p1 p2 hn⟩
  rcases Nat.lt_or_ge L.length 2 with hs | hs
  · refine wpAny_bind (wpAny_holding (wpAny_call_entry slot_list_sort ⟨_, hoL, rfl⟩ entry_list_sort (SK.plain_sort (r := fun _ => 0) hoL (by rw [pm.length_eq, List.length_map]; omega) (fun h2 => absurd h2 (by rw [pm.length_eq, List.length_map]; omega)) fun ps out h1 h2 h3 => ⟨_, rfl, ?_⟩) (args_list_sort _)))
    obtain ⟨p1, _⟩ := TS.out_rank (r := fun _ => 0) h1 h2 h3
    have : out.toList = L1.map fun q => Value.ref q.1 := by
      rw [← e1]
      have hl : vs.length ≤ 1 := by rw [pm.length_eq, List.length_map]; omega
      match vs, hl, p1 with
      | [], _, p1 => simpa using p1.length_eq
      | [v], _, p1 => exact List.perm_singleton.mp p1
      | _ :: _ :: _, hl, _ => simp at hl
    have e2 := fin L1 out.toList pL (by
      rw [srtR_perm (pL.symm.map (·.2))]
      have hl : L1.length ≤ 1 := by rw [pL.length_eq]; omega
      match L1, hl with
      | [], _ => simp [srtR]
      | [p], _ => simp [srtR]
      | _ :: _ :: _, hl => simp at hl) this
    simpa using e2
  · have hne' : ∀ p ∈ L, p.2 ≠ [] := hne.resolve_right (by omega)
    have ek : EachIs (fun v (b : Addr × List Int) => v = Value.ref b.1) vs L1 := by rw [e1]; exact each_mk (R := fun v (b : Addr × List Int) => v = Value.ref b.1) (fun b => Value.ref b.1) (fun _ => rfl) L1
    have rd : EachIs (fun v (b : Addr × List Int) => ∃ as, Reads (s1.heap.push (seqObj "list" vs.toArray 0)) v (.tuple (b.2.map .int)) as ∧ s1.heap.objs.size ∉ as) vs L1 := each_mem ek fun v b hb e => by
      subst e
      have hb' : b ∈ L := pL.mem_iff.mp hb
      obtain ⟨as, r1⟩ := Dp.reads I (.tuple (b.2.map .int)) (.ref b.1) (.ref b.1) (.tup (hk b hb') (dps_of (k := ⟨X.K, fun _ => none, none, 0, [], [], none, none⟩) (D := H) (b.2.map .int) (rpl_ints b.2) (toPys_ints b.2))) rfl
      cases reads_ints r1
      exact ⟨[], PyProof.Rows.Reads.keeps up1 r1, fun z => nomatch z⟩
    refine wpAny_bind (wpAny_holding (PySem.W.list_sort_data (enc := fun b : Addr × List Int => PyData.tuple (b.2.map .int)) (R := fun v b => v = Value.ref b.1) hoL ek rd (PySem.W.AllAlike.of fun b b' => ?_) (.inl fun d hd => ?_) (by rw [← ek.length, sizeLine_eq]; omega) (fun b _ => ?_) fun out hol he => ?_))
    · simp only [alike]
      exact alike_ints b.2 b'.2
    · obtain ⟨b, hb, rfl⟩ := List.mem_map.mp hd
      have := hne' b (pL.mem_iff.mp hb)
      match hb2 : b.2, this with
      | x :: r, _ => exact ⟨_, _, by rw [List.map_cons]⟩
    · have h3 := hr.un
      show X.A.units + 1 + 1 + (PyData.tuple (b.2.map .int)).depth < cLine
      have : (PyData.tuple (b.2.map .int)).depth ≤ 1 := by
        simp only [PyData.depth]
        have : PyData.depthAll (b.2.map .int) = 0 := depth_ints b.2
        omega
      omega
    · rw [dataLe_tups (fun b : Addr × List Int => b.2)] at he
      refine fin (L1.mergeSort fun p q => leR p.2 q.2) out ((List.mergeSort_perm _ _).trans pL) ?_ (refs_back he)
      rw [srtR_perm (pL.symm.map (·.2))]
      unfold srtR
      exact List.map_mergeSort (f := Prod.snd) fun _ _ _ _ => rfl
end
/-! ### sorted(set(a list of rows)) -/
def okRows (rs : List (List Int)) : Bool := decide ((Sk.addAll [] rs).length < 60000) && (rs.all (fun r => !r.isEmpty) || rs.all (fun r => r.isEmpty)) && decide (rs.length ≤ sizeLine)
def oSrtT : List Dt → Option Ow
  | [.lst ds] => (tupIs ds).bind fun rs => if okRows rs then some (.lst ((sortRows rs).map rowD)) else none
  | _ => none
theorem addK_nd {κ : Type} [DecidableEq κ] {k : κ} {ks : List κ} (h : ks.Nodup) : (Sk.addK k ks).Nodup := by
  unfold Sk.addK
  split
  · exact h
  · rename_i n; exact List.nodup_cons.mpr ⟨n, h⟩
theorem addAll_nd {κ : Type} [DecidableEq κ] : ∀ {r ks : List κ}, ks.Nodup → (Sk.addAll ks r).Nodup
  | [], _, h => h
  | k :: r, ks, h => addAll_nd (r := r) (addK_nd (k := k) h)
theorem rows_same {L : List (Addr × List Int)} {rs : List (List Int)} (nd : (L.map (·.2)).Nodup) (h : ∀ r, r ∈ L.map (·.2) ↔ r ∈ rs) : srtR (L.map (·.2)) = sortRows rs :=
  srtR_perm ((List.perm_ext_iff_of_nodup nd (addAll_nd List.nodup_nil)).mpr fun r => by rw [h, Sk.mem_addAll]; simp)
theorem rows_ne {L : List (Addr × List Int)} {rs : List (List Int)} (h : ∀ r, r ∈ L.map (·.2) → r ∈ rs) (ok : okRows rs = true) : (∀ p ∈ L, p.2 ≠ []) ∨ ∀ p ∈ L, p.2 = [] := by
  unfold okRows at ok
  simp only [Bool.and_eq_true, Bool.or_eq_true, List.all_eq_true, decide_eq_true_eq, Bool.not_eq_true'] at ok
  rcases ok.1.2 with z | z
  · exact .inl fun p hp e => by
      have := z p.2 (h _ (List.mem_map.mpr ⟨p, hp, rfl⟩))
      rw [e] at this
      cases this
  · exact .inr fun p hp => List.isEmpty_iff.mp (z p.2 (h _ (List.mem_map.mpr ⟨p, hp, rfl⟩)))
theorem new_rows {k : Kp} {C : Ct} {D' H' : Hp} {p : Addr} {L' : List (Addr × List Int)} {rs : List (List Int)} (hk : ∀ q ∈ L', D' q.1 = some (.tup (q.2.map V.int))) (e : L'.map (·.2) = rs) (hp : H' p = some (.lst (L'.map fun q => V.ref q.1))) (eC : C.k = k) : OwnAt C D' H' p (.lst (rs.map rowD)) [p] :=
  ⟨rfl, _, hp, by rw [eC, ← e]; exact rowsD_rp hk⟩
theorem df_srtST {F : Fc} {p p2 pos pos2 : PySem.Pos} {e : Expr} {ga : GA} (hc : F.calm = true) (hg : F.sc.names.lookup ("sorted" : Str) = some .globalImplicit) (hm : F.mg "sorted" = none) (hg2 : F.sc.names.lookup ("set" : Str) = some .globalImplicit) (hm2 : F.mg "set" = none) (h : DL F [e] ga)
    (hs : ∀ env, starEach [e] env = (false, eval e env) :: starEach [] env := by intro _; rfl) (hs2 : ∀ env, starEach [Expr.Call (.Name "set" p2) [e] [] pos2] env = (false, eval (.Call (.Name "set" p2) [e] [] pos2) env) :: starEach [] env := by intro _; rfl) :
    DF F (.Call (.Name "sorted" p) [.Call (.Name "set" p2) [e] [] pos2] [] pos) (gArgsF oSrtT ga) := by
  obtain ⟨t, a1, a2⟩ := h.ex
  refine ⟨⟨fun W => tCB (rSortTT F.K F.P F.w) (tCons (tCB (Tg.rSetOfG F.K F.P F.w) (t W)) tNil), fun X W O T => ?_, fun W => den_argsF (a2 W) (r := fun xs H1 Q => Tg.rSetOfG F.K F.P F.w xs H1 fun v H2 => rSortTT F.K F.P F.w [v] H2 Q) fun k hK hc D H xs as z u r ez Q q => ?_⟩⟩
  · rw [← O.prog, ← O.w, ← O.K]
    have h1 : PE X (.Call (.Name "set" p2) [e] [] pos2) (tCB (Tg.rSetOfG X.K X.prog X.w) (t W)) := pe_callTy (Tg.cr_setOfG (O.calm hc) (by have := O.room.un; omega)) (by show X.env.scope.names.lookup _ = _; rw [O.sc]; exact hg2) (by rw [O.mg]; exact hm2) (by kernel_rfl) (a1 X W O T) (by decide +kernel) (by decide +kernel) (hs _)
    exact pe_callB (cr_sortTT (O.calm hc) (O.full hc)) (by show X.env.scope.names.lookup _ = _; rw [O.sc]; exact hg) (by rw [O.mg]; exact hm) (by kernel_rfl) (pa_cons h1 pa_nil (hs2 _)) (by decide +kernel) (by decide +kernel) (hs2 _)
  · unfold oSrtT at ez
    split at ez
    · rename_i ds
      cases er : tupIs ds with
      | none => rw [er] at ez; cases ez
      | some rs =>
        rw [er] at ez
        simp only [Option.bind] at ez
        split at ez
        · rename_i ok
          cases ez
          obtain ⟨v, rfl, rv⟩ := one_rp r
          cases rv with
          | @lst l vs _ hl rl =>
            obtain ⟨L0, rfl, e0, k0⟩ := tupIs_rp rl er
            have hn : ∃ E : List (List Int), (∀ p ∈ L0, p.2 ∈ E) ∧ E.length < 60000 := by
              refine ⟨Sk.addAll [] rs, fun p hp => ?_, ?_⟩
              · rw [Sk.mem_addAll]
                exact .inr (by rw [← e0]; exact List.mem_map_of_mem hp)
              · unfold okRows at ok
                simp only [Bool.and_eq_true, decide_eq_true_eq] at ok
                exact ok.1.1
            refine ⟨l, L0, rfl, SqL.of (u _ _ hl), fun p hp => tupS u (k0 p hp), hn, fun a L ha h1 h2 => ?_⟩
            have sub : ∀ q ∈ L, SqT F.K H q.1 (q.2.map V.int) := fun q hq => tupS u (k0 q (h1 q hq))
            have x1 : Ex D H D (upd H a (Tg.SetGO F.P F.w a L)) := Ex.hid u ha
            have mm : ∀ r, r ∈ L.map (·.2) ↔ r ∈ rs := fun r => by
              rw [← e0]
              refine ⟨fun z => ?_, fun z => ?_⟩
              · obtain ⟨p, hp, e⟩ := List.mem_map.mp z
                exact List.mem_map.mpr ⟨p, h1 p hp, e⟩
              · obtain ⟨p, hp, e⟩ := List.mem_map.mp z
                exact e ▸ h2 p hp
            refine ⟨a, L, rfl, upd_same, fun q hq => sqT_sub x1.kp (sub q hq), rows_ne (fun r => (mm r).mp) ok, fun L' p nd p1 p2 hp => ?_⟩
            have x2 : Ex D (upd H a (Tg.SetGO F.P F.w a L)) D (upd (upd H a (Tg.SetGO F.P F.w a L)) p (.lst (L'.map fun q => V.ref q.1))) := Ex.hid x1.up hp
            refine q p D _ [p] (x1.trans x2) (fun C eC => new_rows (fun q hq => k0 q (h1 q (p1.mem_iff.mp hq))) (p2.trans (rows_same nd mm)) upd_same eC) (by simp) fun b hb => ?_
            rw [List.mem_singleton.mp hb]
            exact ⟨none_of x1.kp hp, none_of x1.up hp⟩
        · cases ez
    · cases ez
/-! ### sorted({a row for ..}) -/
theorem lcG_grow {b : Bd} {gt : GT} {ge : GE} {he : Env} : ∀ {xs acc : List Dt} {w w2 : Ds} {r : List Dt}, lcG b gt ge he xs acc w = .ok r w2 → ∃ ys, r = acc ++ ys
  | [], acc, w, w2, r, h => by cases h; exact ⟨[], by simp⟩
  | x :: xs, acc, w, w2, r, h => by
    unfold lcG at h
    split at h
    · cases h
    · split at h
      · split at h
        · split at h
          · obtain ⟨ys, e⟩ := lcG_grow h
            exact ⟨_, by rw [e, List.append_assoc]⟩
          · cases h
        · cases h
      · exact lcG_grow h
      · cases h
theorem tupIs_split : ∀ {xs ys : List Dt} {rs : List (List Int)}, tupIs (xs ++ ys) = some rs → ∃ r1 r2, tupIs xs = some r1 ∧ tupIs ys = some r2 ∧ rs = r1 ++ r2
  | [], ys, rs, h => ⟨[], rs, rfl, h, rfl⟩
  | x :: xs, ys, rs, h => by
    rw [List.cons_append] at h
    unfold tupIs at h
    cases q1 : tupI x with
    | none => rw [q1] at h; cases h
    | some a =>
      cases q2 : tupIs (xs ++ ys) with
      | none => rw [q1, q2] at h; cases h
      | some t =>
        rw [q1, q2] at h
        cases h
        obtain ⟨r1, r2, e1, e2, rfl⟩ := tupIs_split q2
        exact ⟨a :: r1, r2, by unfold tupIs; rw [q1, e1]; rfl, e2, rfl⟩
def gSrtSc (vs : List Nat) (gi : GA) (b : Bd) (gt : GT) (ge : GE) : GF := fun env w => (gi env w).bind fun items w1 => match lcG b gt ge (hide vs env) items [] w1 with
  | .ok acc w2 => match oSrtT [.lst acc] with
    | some o => .ok o w2
    | none => .bad
  | _ => .bad
/-- over anything that is walked -/
theorem sct_it {J : It} {n : Nat} {G : Hp → Prop} {Y : Nat → Hp → V → Hp → Prop} (wk : Walk J n G Y) {K : PySem.W.Frag} {P : Program} {w : World} {g : TG} {tt : TT} {te : TE} {vs : List Nat} {σ : L2.St} {H1 : Hp} {A : Addr} {Qd : Hp → Prop} (Pv : Nat → Hp → Prop) (h0 : Pv 0 (upd H1 A (Tg.SetGO P w A []))) (hG : ∀ i H, i ≤ n → Pv i H → G H)
    (hs : ∀ i x H H', i < n → Pv i H → Y i H x H' → g x (wipe σ vs) H' fun σ2 H2 => wipe σ2 vs = wipe σ vs ∧ tt σ2 H2 fun b H3 =>
      if b = true then te σ2 H3 fun y H4 => ∃ (b : Addr) (k : List Int) (L : List (Addr × List Int)), y = .ref b ∧ SqT K H4 b (k.map V.int) ∧ H4 A = some (Tg.SetGO P w A L) ∧ (∀ p ∈ L, SqT K H4 p.1 (p.2.map V.int)) ∧ L.length < 60000 ∧ ∀ L', (k ∈ L.map (·.2) → L' = L) → (k ∉ L.map (·.2) → L'.Perm ((b, k) :: L)) → Pv (i + 1) (upd H4 A (Tg.SetGO P w A L')) else Pv (i + 1) H3) (hd : ∀ H, Pv n H → Qd H) :
    ∃ Wd : Nat → Nat → Hp → Prop, (∃ m, Wd 0 m (upd H1 A (Tg.SetGO P w A []))) ∧ ∀ i m H, Wd i m H →
      (J.stop i H ∧ Qd H) ∨ (J.go i H ∧ ∃ Nx : Hp → Prop, (∀ H', Nx H' → ∃ m', m' < m ∧ Wd (i + 1) m' H') ∧ ∀ x H', J.yld i H x H' → g x (wipe σ vs) H' fun σ2 H2 => wipe σ2 vs = wipe σ vs ∧ tt σ2 H2 fun b H3 =>
        if b = true then te σ2 H3 fun y H4 => ∃ (b : Addr) (k : List Int) (L : List (Addr × List Int)), y = .ref b ∧ SqT K H4 b (k.map V.int) ∧ H4 A = some (Tg.SetGO P w A L) ∧ (∀ p ∈ L, SqT K H4 p.1 (p.2.map V.int)) ∧ L.length < 60000 ∧ ∀ L', (k ∈ L.map (·.2) → L' = L) → (k ∉ L.map (·.2) → L'.Perm ((b, k) :: L)) → Nx (upd H4 A (Tg.SetGO P w A L')) else Nx H3) := by
  refine ⟨fun i m H => m = n - i ∧ i ≤ n ∧ Pv i H, ⟨n, by simp, Nat.zero_le _, h0⟩, ?_⟩
  rintro i m H ⟨rfl, hi, p⟩
  have q := hG i H hi p
  by_cases hlt : i < n
  · exact .inr ⟨wk.goes i H hlt q, Pv (i + 1), fun H' p' => ⟨n - (i + 1), by omega, rfl, hlt, p'⟩, fun x H' y => hs i x H H' hlt p (wk.yields i H x H' hlt q y)⟩
  · have e : i = n := by omega
    subst e
    exact .inl ⟨wk.stops H q, hd H p⟩
theorem setTO_code {P : Program} {w : World} {A c : Addr} {L : List (Addr × List Int)} {q : Str} (h : (fun h => Tg.SetG0 P w h A L) = fun h : Heap => ∃ (oc : Obj) (vs : Array Value) (t : Tok), h.get? c = some oc ∧ oc.data = .fields vs ∧ vs[1]? = some (.str q t)) : False := by
  let X : Obj := { cls := .none, data := .fields #[.none, .str q 0] }
  let h0 : Heap := { objs := Array.replicate (c + 1) X }
  have hg : ∀ b o, h0.get? b = some o → o = X := fun b o e => by
    have e' : (match (Array.replicate (c + 1) X)[b]? with
      | some ⟨_, _, .freed, _⟩ => none
      | o => o) = some o := e
    rw [Array.getElem?_replicate] at e'
    by_cases hb : b < c + 1
    · rw [if_pos hb] at e'; exact (Option.some.inj e').symm
    · rw [if_neg hb] at e'; cases e'
  have hc : h0.get? c = some X := by
    show (match (Array.replicate (c + 1) X)[c]? with
      | some ⟨_, _, .freed, _⟩ => none
      | o => o) = some X
    rw [Array.getElem?_replicate, if_pos (Nat.lt_succ_self c)]
  have z : Tg.SetG0 P w h0 A L := (congrFun h h0).mpr ⟨X, _, 0, hc, rfl, rfl⟩
  obtain ⟨es, ep, t, ⟨o, ho, _, hd⟩, _⟩ := z
  rw [hg A o ho] at hd
  cases hd
theorem den_sct {F : Fc} {W : WX} {wi : TI} {g : TG} {tt : TT} {te : TE} {gi : GA} {b : Bd} {gt : GT} {ge : GE} {ix vs : List Nat} {F' : Fc} (hF : F'.K = F.K ∧ F'.cls = F.cls ∧ F'.tb = F.tb ∧ F'.xa = F.xa) (hi : DenI F W wi gi) (hg : DenG F' g b ix) (ht : DenT F' W0 tt gt) (he : DenE F' W0 te ge) (hix : ∀ i ∈ ix, i ∈ vs) :
    DenF F W (fun σ H Q => Tc.tScT F.K F.P F.w wi g tt te vs σ H fun v H2 => rSortTT F.K F.P F.w [v] H2 Q) (gSrtSc vs gi b gt ge) := by
  intro C env w σ D H Q K S p
  refine hi C env w σ D H _ K S ?_
  unfold gSrtSc at p
  cases e : gi env w with
  | bad => rw [e] at p; exact p
  | exc c fs w1 => rw [e] at p; exact p
  | ok items w1 =>
    rw [e] at p
    simp only [Out.bind] at p
    intro J D1 H1 S1 s1 wk A hA
    have hDA : D1 A = none := none_of S1.up hA
    have hpdA : ¬ C.k.mu A := fun z => by
      obtain ⟨_, e1, _⟩ := S1.wd.there z
      rw [hA] at e1; cases e1
    cases el : lcG b gt ge (hide vs env) items [] w1 with
    | bad => rw [el] at p; exact p.elim
    | exc c fs w2 => rw [el] at p; exact p.elim
    | ok accF wF =>
      rw [el] at p
      simp only at p
      cases eo : oSrtT [.lst accF] with
      | none => rw [eo] at p; exact p.elim
      | some o =>
        rw [eo] at p
        simp only at p
        obtain ⟨rsF, ers, okF, rfl⟩ : ∃ rs, tupIs accF = some rs ∧ okRows rs = true ∧ o = .lst ((sortRows rs).map rowD) := by
          simp only [oSrtT] at eo
          cases er : tupIs accF with
          | none => rw [er] at eo; cases eo
          | some rs =>
            rw [er] at eo
            simp only [Option.bind] at eo
            split at eo
            · rename_i ok; cases eo; exact ⟨rs, rfl, ok, rfl⟩
            · cases eo
        have few : (Sk.addAll [] rsF).length < 60000 := by
          unfold okRows at okF
          simp only [Bool.and_eq_true, decide_eq_true_eq] at okF
          exact okF.1.1
        obtain ⟨fp0, sl0, nd0, fr0⟩ := S1.sl
        have slH : SlotsOk C D1 H1 (hide vs env) (wipe σ vs) [] := slots_wipe (slots_hideO sl0) vs
        let Pv : Nat → Hp → Prop := fun i H' => ∃ D' w' acc L rs, Ew C D1 H1 D' H' w' ∧ H' A = some (Tg.SetGO F.P F.w A L) ∧ D' A = none ∧ tupIs acc = some rs ∧ (∀ r, r ∈ L.map (·.2) ↔ r ∈ rs) ∧ (L.map (·.2)).Nodup ∧ (∀ p ∈ L, D' p.1 = some (.tup (p.2.map V.int))) ∧
          lcG b gt ge (hide vs env) (items.drop i) acc w' = .ok accF wF
        refine sct_it wk Pv ?_ ?_ ?_ ?_
        · exact ⟨D1, w1, [], [], [], ((Ex.hid S1.up hA).ew S1.wd), upd_same, hDA, rfl, fun r => Iff.rfl, List.nodup_nil, fun _ h => (nomatch h), by simpa using el⟩
        · rintro i H' _ ⟨D', w', acc, L, rs, x, _⟩
          exact x.sub.trans x.up
        · rintro i x H' H'' hi ⟨D', w', acc, L, rs, ew, hAl, hDn, er, mm, hle, hk, p'⟩ y
          obtain ⟨d, hd, hy⟩ := y
          obtain ⟨D2, ex, r⟩ := hy D' ew.sub ew.up ew.wd.tp
          have hdr : items.drop i = d :: items.drop (i + 1) := by
            obtain ⟨hl, e⟩ := List.getElem?_eq_some_iff.mp hd
            rw [List.drop_eq_getElem_cons hl, e]
          rw [hdr] at p'
          unfold lcG at p'
          have wd2 : WdAt C.k w' D2 H'' := (ex.ew ew.wd).wd
          have S2 : Sta ⟨C.k, H'', D2⟩ (hide vs env) w' (wipe σ vs) D2 H'' [] := by
            refine ⟨ex.up, Sub.refl _, fun _ _ _ e => e, fun a e n => absurd e n, wd2, [], ?_, List.nodup_nil, fun q hq => (by cases hq)⟩
            exact SlotsOk.ct (C := C) (C' := ⟨C.k, H'', D2⟩) rfl (slH.mono (ew.sub.trans ex.sub) fun q hq => (by cases hq))
          have hA2 : H'' A = some (Tg.SetGO F.P F.w A L) := ex.kp _ _ hAl
          have hDA2 : D2 A = none := by
            cases z : D2 A with
            | none => rfl
            | some u =>
              rw [ex.nw A hDn (by rw [z]; simp)] at hAl
              cases hAl
          have keep : ∀ {env3 : Env} {w3 : Ds} {σ3 : L2.St} {D3 H3 : Hp}, Sta ⟨C.k, H'', D2⟩ env3 w3 σ3 D3 H3 [] → Ew C D1 H1 D3 H3 w3 ∧ H3 A = some (Tg.SetGO F.P F.w A L) ∧ D3 A = none ∧ ∀ p ∈ L, D3 p.1 = some (.tup (p.2.map V.int)) := by
            intro env3 w3 σ3 D3 H3 S3
            refine ⟨⟨ew.sub.trans (ex.sub.trans S3.d0), S3.up, fun b o hb e => S3.kp b o hb (ex.kp b o (ew.kp b o hb e)), fun a e n => ?_, S3.wd⟩, S3.kp A _ hpdA hA2, ?_, fun p hp => S3.d0 _ _ (ex.sub _ _ (hk p hp))⟩
            · cases z : D2 a with
              | none =>
                have q : H'' a = none := S3.nw a z n
                cases zz : H1 a with
                | none => rfl
                | some u =>
                  by_cases hp : C.k.mu a
                  · obtain ⟨_, e1, _⟩ := wd2.there hp
                    rw [q] at e1; cases e1
                  · have := ex.kp a u (ew.kp a u hp zz)
                    rw [q] at this; cases this
              | some u =>
                cases zz : D' a with
                | none =>
                  have q : H' a = none := ex.nw a zz (by rw [z]; simp)
                  cases zzz : H1 a with
                  | none => rfl
                  | some u =>
                    by_cases hp : C.k.mu a
                    · obtain ⟨_, e1, _⟩ := ew.wd.there hp
                      rw [q] at e1; cases e1
                    · have := ew.kp a u hp zzz
                      rw [q] at this; cases this
                | some u' => exact ew.nw a e (by rw [zz]; simp)
            · cases z : D3 A with
              | none => rfl
              | some u =>
                have q : H'' A = none := S3.nw A hDA2 (by rw [z]; simp)
                rw [q] at hA2; cases hA2
          cases eb : b d (hide vs env) with
          | none => rw [eb] at p'; cases p'
          | some e2 =>
            rw [eb] at p'
            simp only at p'
            have K' : Kin F' ⟨C.k, H'', D2⟩ := ⟨K.K.trans hF.1.symm, K.cls.trans hF.2.1.symm, K.tb.trans hF.2.2.1.symm, K.xa.trans hF.2.2.2.symm⟩
            refine hg ⟨C.k, H'', D2⟩ (hide vs env) w' (wipe σ vs) D2 H'' x d e2 _ K' S2 r eb fun σ3 S3 hw => ⟨(hw vs hix).trans (wipe_wipe vs σ), ?_⟩
            refine ht ⟨C.k, H'', D2⟩ e2 w' σ3 D2 H'' _ K' S3 ?_
            cases et : gt e2 w' with
            | bad => rw [et] at p'; cases p'
            | exc c fs w1 => rw [et] at p'; cases p'
            | ok t w3 =>
              rw [et] at p'
              intro D4 H4 S4 s4
              cases t with
              | false =>
                simp only at p'
                obtain ⟨k1, k2, k3, k4⟩ := keep S4
                exact iteF ⟨D4, w3, acc, L, rs, k1, k2, k3, er, mm, hle, k4, p'⟩
              | true =>
                simp only at p'
                refine iteT ?_
                refine he ⟨C.k, H'', D2⟩ e2 w3 σ3 D4 H4 _ K' S4 ?_
                cases ee : ge e2 w3 with
                | bad => rw [ee] at p'; cases p'
                | exc c fs w1 => rw [ee] at p'; cases p'
                | ok z w4 =>
                  rw [ee] at p'
                  simp only at p'
                  intro v D5 H5 S5 s5 rv
                  obtain ⟨k1, k2, k3, k4⟩ := keep S5
                  by_cases hl : acc.length < sizeLine
                  · rw [if_pos hl] at p'
                    obtain ⟨ys, ey⟩ := lcG_grow p'
                    obtain ⟨r1, r2, q1, q2, q3⟩ := tupIs_split (ey ▸ ers)
                    obtain ⟨r3, r4, q4, q5, q6⟩ := tupIs_split q1
                    rw [er] at q4
                    cases q4
                    obtain ⟨t, et2, rfl⟩ : ∃ t, tupI z = some t ∧ r4 = [t] := by
                      unfold tupIs at q5
                      cases q7 : tupI z with
                      | none => rw [q7] at q5; cases q5
                      | some t => rw [q7] at q5; cases q5; exact ⟨t, rfl, rfl⟩
                    obtain ⟨a, rfl, ha⟩ := tupI_rp rv et2
                    have ha' : D5 a = some (.tup (t.map V.int)) := ha
                    have hlen : acc.length + 1 ≤ accF.length := by rw [ey]; simp
                    refine ⟨a, t, L, rfl, tupS k1.up ha', k2, fun p hp => tupS k1.up (k4 p hp), ?_, fun L' c1 c2 => ?_⟩
                    · exact Nat.lt_of_le_of_lt (Tg.fits_in hle fun p hp => Sk.mem_addAll.mpr (.inr (by rw [q3]; exact List.mem_append_left _ (by rw [q6]; exact List.mem_append_left _ ((mm p.2).mp (List.mem_map_of_mem hp)))))) few
                    have mem' : ∀ r, r ∈ L'.map (·.2) ↔ r ∈ rs ++ [t] := fun r => by
                      rw [List.mem_append, List.mem_singleton, ← mm r]
                      by_cases hc : t ∈ L.map (·.2)
                      · rw [c1 hc]
                        exact ⟨.inl, fun z => z.elim id fun z => z ▸ hc⟩
                      · rw [((c2 hc).map (·.2)).mem_iff, List.map_cons, List.mem_cons]
                        exact ⟨fun z => z.elim .inr .inl, fun z => z.elim .inr .inl⟩
                    have len' : (L'.map (·.2)).Nodup := by
                      by_cases hc : t ∈ L.map (·.2)
                      · rw [c1 hc]; exact hle
                      · exact ((c2 hc).map (·.2)).nodup_iff.mpr (List.nodup_cons.mpr ⟨hc, hle⟩)
                    have tup' : ∀ p ∈ L', D5 p.1 = some (.tup (p.2.map V.int)) := fun p hp => by
                      by_cases hc : t ∈ L.map (·.2)
                      · rw [c1 hc] at hp; exact k4 p hp
                      · rcases List.mem_cons.mp ((c2 hc).mem_iff.mp hp) with z | z
                        · rw [z]; exact ha'
                        · exact k4 p z
                    refine ⟨D5, w4, acc ++ [z], L', rs ++ [t], ?_, upd_same, k3, by rw [q1, q6], mem', len', tup', p'⟩
                    refine ⟨k1.sub, fun a q e => ?_, fun b o hb e => ?_, k1.nw, k1.wd.put k2 hpdA fun c q z => (by unfold LamX.CodeO Tg.SetGO at z; injection z with z; exact setTO_code z)⟩
                    · rw [upd_ne (ne_of_none e k3)]; exact k1.up a q e
                    · rw [upd_ne (ne_of_none e hA)]; exact k1.kp b o hb e
                  · rw [if_neg hl] at p'
                    cases p'
        · rintro H' ⟨D', w', acc, L, rs, ew, hAl, hDn, er, mm, hle, hk, p'⟩
          rw [List.drop_length] at p'
          unfold lcG at p'
          cases p'
          rw [ers] at er
          cases er
          refine ⟨A, L, rfl, hAl, fun q hq => tupS ew.up (hk q hq), rows_ne (fun r => (mm r).mp) okF, fun L' q nd p1 p2 hq => ?_⟩
          have x2 : Ex D' H' D' (upd H' q (.lst (L'.map fun q => V.ref q.1))) := Ex.hid ew.up hq
          have hq1 : H1 q = none := by
            cases z : H1 q with
            | none => rfl
            | some u =>
              by_cases hp : C.k.mu q
              · obtain ⟨_, e1, _⟩ := ew.wd.there hp
                rw [hq] at e1; cases e1
              · have := ew.kp q u hp z
                rw [hq] at this; cases this
          have ew2 : Ew C D1 H1 D' (upd H' q (.lst (L'.map fun q => V.ref q.1))) wF :=
            ⟨ew.sub, x2.up, fun b o hb e => x2.kp b o (ew.kp b o hb e), ew.nw, (x2.ew ew.wd).wd⟩
          have S3 : Sta C env wF σ D' (upd H' q (.lst (L'.map fun q => V.ref q.1))) [q] := S1.freshW ew2 (by simp) fun b hb => by
            rw [List.mem_singleton.mp hb]
            exact ⟨none_of ew.up hq, hq1⟩
          exact p q [q] D' _ S3 (s1.trans ew.sub) (new_rows (k := C.k) (fun q hq => hk q (p1.mem_iff.mp hq)) (p2.trans (rows_same nd mm)) upd_same rfl)
theorem df_srtSC {F : Fc} {elt tg iter : Expr} {ifs : List Expr} {scope : Scope} {p spos pos : PySem.Pos} {gi : GA} {b : Bd} {gt : GT} {ge : GE} {ix : List Nat} (own : List (Str × Nat)) (hc : F.calm = true) (hN : F.N.Nodup) (hg1 : F.sc.names.lookup ("sorted" : Str) = some .globalImplicit) (hm : F.mg "sorted" = none) (hi : DI F tg iter gi) (ok : blkC F.N F.sc scope own = true)
    (hg : DG (F.blk scope) tg b ix) (ht : DTs (F.blk scope) ifs gt) (he : DE (F.blk scope) elt ge) (hix : (ix.all fun i => decide (i ∈ own.map (·.2))) = true) (hs : ∀ env x, foldedSetIterable iter env x = pure x := by intro _ _; rfl)
    (hs2 : ∀ env, starEach [Expr.SetComp elt [⟨tg, iter, ifs, 0⟩] scope spos] env = (false, eval (.SetComp elt [⟨tg, iter, ifs, 0⟩] scope spos) env) :: starEach [] env := by intro _; rfl) :
    DF F (.Call (.Name "sorted" p) [.SetComp elt [⟨tg, iter, ifs, 0⟩] scope spos] [] pos) (gSrtSc (own.map (·.2)) gi b gt ge) := by
  obtain ⟨ti, i1, i2⟩ := hi.ex
  obtain ⟨g, g1, g2⟩ := hg.ex
  obtain ⟨tt, t1, t2⟩ := ht.ex
  obtain ⟨te, e1, e2⟩ := he.ex
  refine ⟨⟨fun W => fun σ H Q => Tc.tScT F.K F.P F.w (ti W) g (tt W0) (te W0) (own.map (·.2)) σ H fun v H2 => rSortTT F.K F.P F.w [v] H2 Q, fun X W O T => ?_, fun W => den_sct (F := F) (F' := F.blk scope) ⟨rfl, rfl, rfl, rfl⟩ (i2 W) g2 (t2 W0) (e2 W0) fun i h => of_decide_eq_true (List.all_eq_true.mp hix i h)⟩⟩
  rw [← O.prog, ← O.w, ← O.K]
  have h1 : PE X (.SetComp elt [⟨tg, iter, ifs, 0⟩] scope spos) (Tc.tScT X.K X.prog X.w (ti W) g (tt W0) (te W0) (own.map (·.2))) := by
    refine Tc.pe_sct (O.calm hc) (by rw [O.N]; exact hN) (by have := O.room.un; omega) (i1 X W O T) (blkOk_by (by rw [O.N, O.sc]; exact ok)) ?_ ?_ ?_ (hs _)
    · exact fun s H Ca cl fp => g1 _ (O.blk s H Ca cl fp)
    · exact fun s H Ca cl fp => t1 _ _ (O.blk s H Ca cl fp) tk_blk
    · exact fun s H Ca cl fp => e1 _ _ (O.blk s H Ca cl fp) tk_blk
  exact pe_callB (cr_sortTT (O.calm hc) (O.full hc)) (by show X.env.scope.names.lookup _ = _; rw [O.sc]; exact hg1) (by rw [O.mg]; exact hm) (by kernel_rfl) (pa_cons h1 pa_nil (hs2 _)) (by decide +kernel) (by decide +kernel) (hs2 _)
end Dn
end
section
/-! Dicts with ints, texts or tuples of these for keys: made by a comprehension, asked. -/
namespace Tc
open PySem PySem.Spec PyProof.Rows L2
section
variable {X : Cx}
theorem sw_dict {kx vx : Expr} {gs : List Comprehension} {scope : Scope} {pos py : Pos} {y : Str} {l : Nat} {env : PySem.Env} (hk : env.scope.kind = .function) (hy : env.scope.names.lookup y = some .local) (hl : (py.line == pos.line) = true)
    (ha : (scope.names.any fun (n, k) => n == y && (k == .local || k == .cell)) = false) : swapsWith (.DictComp kx vx gs scope pos) (some (.Name y py)) l env = pure true := by
  unfold swapsWith
  have e1 : env.blockKind = .function := by unfold Env.blockKind; rw [hk]; rfl
  have e2 : env.kindOf y = some .local := hy
  simp only [e1, e2, ha, Expr.pos, hl]
  rfl
/-- y = {k: v for ..}, y a local -/
theorem ps_setDct {i : Nat} {y : Str} {py : Pos} {kx vx tg iter : Expr} {ifs : List Expr} {scope : Scope} {own : List (Str × Nat)} {pos spos : Pos} {wi : TI} {g : TG} {tt : TT} {tk te : TE} (calm : X.calm = true) (nd : X.N.Nodup) (hu : X.A.units + 64 < cLine) (at_ : X.N[i]? = some y) (loc : X.env.scope.names.lookup y = some .local)
    (sw : swapsWith (.DictComp kx vx [⟨tg, iter, ifs, 0⟩] scope pos) (some (.Name y py)) spos.line X.env = pure true) (pi : PI X tg iter wi) (bo : BlkOk X.N X.env.scope scope own)
    (pg : ∀ (s : Shared) (G : Hp) (C : Addr) (cl : List (Str × Addr)) (fp : List Addr), PG (X.blk s G scope (compEnvC scope cl C X.env) fp) tg g) (pt : ∀ (s : Shared) (G : Hp) (C : Addr) (cl : List (Str × Addr)) (fp : List Addr), PTs (X.blk s G scope (compEnvC scope cl C X.env) fp) ifs tt)
    (pk : ∀ (s : Shared) (G : Hp) (C : Addr) (cl : List (Str × Addr)) (fp : List Addr), PE (X.blk s G scope (compEnvC scope cl C X.env) fp) kx tk) (pe : ∀ (s : Shared) (G : Hp) (C : Addr) (cl : List (Str × Addr)) (fp : List Addr), PE (X.blk s G scope (compEnvC scope cl C X.env) fp) vx te) (fi : ∀ x, foldedSetIterable iter X.env x = pure x := by intro _; rfl) :
    PS X (.Assign [.Name y py] (.DictComp kx vx [⟨tg, iter, ifs, 0⟩] scope pos) spos) (tAsg (tDcT wi g tt tk te (own.map (·.2))) (gName i)) := by
  refine ⟨fun pins s τ G D J h => ?_⟩
  rw [exec_Assign_Name_used _ _ _ _ sw]
  refine wpAny_bind (wpAny_standAt (wpAny_bind ?_))
  show wpAny _ X.A (do let _ ← comprehension (.DictComp kx vx [⟨tg, iter, ifs, 0⟩] scope pos) scope X.env (firstIterPos [⟨tg, iter, ifs, 0⟩] pos) newDict false (eval iter X.env) (some (assign (.Name y py) X.env))) _ _ s
  have h : tDcT wi g tt tk te (own.map (·.2)) τ G (fun x G1 => gName i x τ G1 D.nx) := h
  refine wpAny_bind (thn (dct_core (Qf := fun _ s' => SP X pins D .next s') calm nd hu J pi bo pg pt pk pe fi h fun B C s' m G' J' q hn f => ?_) fun _ s' hq => wpAny_pure (wpAny_pure hq))
  show wpAny _ _ (assign (.Name y py) X.env (.ref B)) _ _ _
  refine wpAny_assign_Name (store_ok2 (v := V.ref B) J' nd at_ (.inl loc) rfl (fun s2 J2 ⟨a, sb, ha⟩ => ?_) (.inr loc))
  have away : C ≠ a := ha.elim (fun z => z ▸ f.2.1) fun z e => f.2.2.2.2.1 y a z e.symm
  exact ⟨m, hn.sameBut sb away, fun h3 sb3 => ⟨_, G', J2.turned (t' := s2.toks) (fun b o hb e => (sb3.2 b hb).trans e) f.1 f.2.1 f.2.2.2.1 f.2.2.2.2.1 f.2.2.2.2.2, q⟩⟩
end
end Tc
namespace Dn
open PySem PySem.Spec PyProof.Rows L2
/-! ### keys -/
def keyI : Dt → Option Key
  | .int i => some (.inl i)
  | .str x => some (.inr x)
  | _ => none
def keysI : List Dt → Option (List Key)
  | [] => some []
  | d :: r => (keyI d).bind fun k => (keysI r).map (k :: ·)
def keyT : Dt → Option (List Key)
  | .tup xs => keysI xs
  | _ => none
section
variable {k : Kp} {D : Hp}
theorem keyI_rp {d : Dt} {v : V} {x : Key} (r : Rp k D v d) (e : keyI d = some x) : v = kV x := by
  cases d <;> simp only [keyI] at e <;> try (cases e; done)
  · cases e; cases r; rfl
  · cases e; cases r; rfl
theorem keysI_rp : ∀ {ds : List Dt} {vs : List V} {xs : List Key}, RpL k D vs ds → keysI ds = some xs → vs = xs.map kV
  | [], _, _, .nil, e => by cases e; rfl
  | d :: r, _, xs, .cons h t, e => by
    unfold keysI at e
    cases q1 : keyI d with
    | none => rw [q1] at e; cases e
    | some x =>
      cases q2 : keysI r with
      | none => rw [q1, q2] at e; cases e
      | some ys =>
        rw [q1, q2] at e
        cases e
        rw [keyI_rp h q1, keysI_rp t q2, List.map_cons]
theorem keyT_rp {d : Dt} {v : V} {xs : List Key} (r : Rp k D v d) (e : keyT d = some xs) : ∃ b, v = .ref b ∧ D b = some (.tup (xs.map kV)) := by
  cases d <;> simp only [keyT] at e <;> try (cases e; done)
  cases r with
  | tup h t => exact ⟨_, rfl, by rw [← keysI_rp t e]; exact h⟩
/-! ### pairs -/
variable {κ : Type} [DecidableEq κ]
def Rk (k : Kp) (D : Hp) (ks : List (κ × V)) (kvs : List (κ × Dt)) : Prop := ks.map (·.1) = kvs.map (·.1) ∧ RpL k D (ks.map (·.2)) (kvs.map (·.2))
def getG (kvs : List (κ × Dt)) (x : κ) : Option Dt := (kvs.find? fun kv => decide (kv.1 = x)).map (·.2)
def putG (kvs : List (κ × Dt)) (x : κ) (v : Dt) : List (κ × Dt) := if (kvs.any fun kv => decide (kv.1 = x)) = true then kvs.map (fun kv => if kv.1 = x then (kv.1, v) else kv) else kvs ++ [(x, v)]
theorem Rk.uncons {p : κ × V} {ks : List (κ × V)} {kvs : List (κ × Dt)} (r : Rk k D (p :: ks) kvs) : ∃ d kvs', kvs = (p.1, d) :: kvs' ∧ Rp k D p.2 d ∧ Rk k D ks kvs' := by
  obtain ⟨e, r⟩ := r
  match kvs, e, r with
  | [], e, _ => cases e
  | q :: kvs', e, .cons h t =>
    rw [List.map_cons, List.map_cons, List.cons.injEq] at e
    exact ⟨q.2, kvs', by rw [e.1], h, e.2, t⟩
theorem Rk.nil_of {kvs : List (κ × Dt)} (r : Rk k D ([] : List (κ × V)) kvs) : kvs = [] := by
  have := r.1
  simp at this
  exact this
theorem Rk.cons {p : κ × V} {d : Dt} {ks : List (κ × V)} {kvs : List (κ × Dt)} (h : Rp k D p.2 d) (r : Rk k D ks kvs) : Rk k D (p :: ks) ((p.1, d) :: kvs) := ⟨by simp [r.1], .cons h r.2⟩
theorem Rk.length {ks : List (κ × V)} {kvs : List (κ × Dt)} (r : Rk k D ks kvs) : ks.length = kvs.length := by have := congrArg List.length r.1; simpa using this
theorem Rk.any {ks : List (κ × V)} {kvs : List (κ × Dt)} (r : Rk k D ks kvs) (x : κ) : (ks.any fun kv => decide (kv.1 = x)) = kvs.any fun kv => decide (kv.1 = x) := by
  have e : ∀ {α : Type} (l : List (κ × α)), (l.any fun kv => decide (kv.1 = x)) = (l.map (·.1)).any fun y => decide (y = x) := fun l => by rw [List.any_map]; rfl
  rw [e, e, r.1]
theorem Rk.get {ks : List (κ × V)} : ∀ {kvs : List (κ × Dt)}, Rk k D ks kvs → ∀ x, (valV ks x = none ∧ getG kvs x = none) ∨ ∃ v d, valV ks x = some v ∧ getG kvs x = some d ∧ Rp k D v d := by
  induction ks with
  | nil => intro kvs r x; rw [r.nil_of]; exact .inl ⟨rfl, rfl⟩
  | cons p ks ih =>
    intro kvs r x
    obtain ⟨d, kvs', rfl, h, r'⟩ := r.uncons
    by_cases z : p.1 = x
    · exact .inr ⟨p.2, d, by simp [valV, List.find?_cons, z], by simp [getG, List.find?_cons, z], h⟩
    · rcases ih r' x with ⟨a, b⟩ | ⟨v, d', a, b, c⟩
      · exact .inl ⟨by simpa [valV, List.find?_cons, z] using a, by simpa [getG, List.find?_cons, z] using b⟩
      · exact .inr ⟨v, d', by simpa [valV, List.find?_cons, z] using a, by simpa [getG, List.find?_cons, z] using b, c⟩
theorem Rk.put {ks : List (κ × V)} {kvs : List (κ × Dt)} (r : Rk k D ks kvs) (x : κ) {v : V} {d : Dt} (h : Rp k D v d) : Rk k D (putK ks x v) (putG kvs x d) := by
  unfold putK putG
  rw [r.any x]
  by_cases z : (kvs.any fun kv => decide (kv.1 = x)) = true
  · rw [if_pos z, if_pos z]
    clear z
    induction ks generalizing kvs with
    | nil => rw [r.nil_of]; exact ⟨rfl, .nil⟩
    | cons p ks ih =>
      obtain ⟨d', kvs', rfl, h', r'⟩ := r.uncons
      rw [List.map_cons, List.map_cons]
      by_cases z : p.1 = x
      · rw [if_pos z, if_pos z]
        exact Rk.cons (p := (p.1, v)) h (ih r')
      · rw [if_neg z, if_neg z]
        exact Rk.cons h' (ih r')
  · rw [if_neg z, if_neg z]
    exact ⟨by simp [r.1], by simpa using r.2.append (.cons h .nil)⟩
theorem Rk.mono {D' : Hp} (s : Sub D D') {ks : List (κ × V)} {kvs : List (κ × Dt)} (r : Rk k D ks kvs) : Rk k D' ks kvs := ⟨r.1, r.2.mono s⟩
end
/-! ### {k: v for ..}, k a tuple -/
def dcG (b : Bd) (gt : GT) (gk ge : GE) (he : Env) : List Dt → List (List Key × Dt) → Ds → Out (List (List Key × Dt))
  | [], acc, w => .ok acc w
  | x :: xs, acc, w => match b x he with
    | none => .bad
    | some e1 => match gt e1 w with
      | .ok true w1 => match gk e1 w1 with
        | .ok y w2 => match ge e1 w2 with
          | .ok d w3 => match keyT y with
            | some z => if acc.length < sizeLine then dcG b gt gk ge he xs (putG acc z d) w3 else .bad
            | none => .bad
          | _ => .bad
        | _ => .bad
      | .ok false w1 => dcG b gt gk ge he xs acc w1
      | _ => .bad
def gDc (vs : List Nat) (gi : GA) (b : Bd) (gt : GT) (gk ge : GE) : GF := fun env w => (gi env w).bind fun items w1 => match dcG b gt gk ge (hide vs env) items [] w1 with
  | .ok acc w2 => .ok (.dT acc) w2
  | _ => .bad
theorem dct_it {J : It} {n : Nat} {G : Hp → Prop} {Y : Nat → Hp → V → Hp → Prop} (wk : Walk J n G Y) {g : TG} {tt : TT} {tk te : TE} {vs : List Nat} {σ : L2.St} {H1 : Hp} {A : Addr} {Qd : Hp → Prop} (Pv : Nat → Hp → Prop) (h0 : Pv 0 (upd H1 A (.dT []))) (hG : ∀ i H, i ≤ n → Pv i H → G H)
    (hs : ∀ i x H H', i < n → Pv i H → Y i H x H' → g x (wipe σ vs) H' fun σ2 H2 => wipe σ2 vs = wipe σ vs ∧ tt σ2 H2 fun b H3 =>
      if b = true then tk σ2 H3 fun y H4 => te σ2 H4 fun z H5 => ∃ (b : Addr) (k : List Key) (kvs : List (List Key × V)), y = .ref b ∧ H5 b = some (.tup (k.map kV)) ∧ H5 A = some (.dT kvs) ∧ kvs.length < sizeLine ∧ Pv (i + 1) (upd H5 A (.dT (putK kvs k z))) else Pv (i + 1) H3) (hd : ∀ H, Pv n H → Qd H) :
    ∃ Wd : Nat → Nat → Hp → Prop, (∃ m, Wd 0 m (upd H1 A (.dT []))) ∧ ∀ i m H, Wd i m H →
      (J.stop i H ∧ Qd H) ∨ (J.go i H ∧ ∃ Nx : Hp → Prop, (∀ H', Nx H' → ∃ m', m' < m ∧ Wd (i + 1) m' H') ∧ ∀ x H', J.yld i H x H' → g x (wipe σ vs) H' fun σ2 H2 => wipe σ2 vs = wipe σ vs ∧ tt σ2 H2 fun b H3 =>
        if b = true then tk σ2 H3 fun y H4 => te σ2 H4 fun z H5 => ∃ (b : Addr) (k : List Key) (kvs : List (List Key × V)), y = .ref b ∧ H5 b = some (.tup (k.map kV)) ∧ H5 A = some (.dT kvs) ∧ kvs.length < sizeLine ∧ Nx (upd H5 A (.dT (putK kvs k z))) else Nx H3) := by
  refine ⟨fun i m H => m = n - i ∧ i ≤ n ∧ Pv i H, ⟨n, by simp, Nat.zero_le _, h0⟩, ?_⟩
  rintro i m H ⟨rfl, hi, p⟩
  have q := hG i H hi p
  by_cases hlt : i < n
  · exact .inr ⟨wk.goes i H hlt q, Pv (i + 1), fun H' p' => ⟨n - (i + 1), by omega, rfl, hlt, p'⟩, fun x H' y => hs i x H H' hlt p (wk.yields i H x H' hlt q y)⟩
  · have e : i = n := by omega
    subst e
    exact .inl ⟨wk.stops H q, hd H p⟩
/-- what a block's evaluation leaves: nothing that stood turned -/
theorem blk_keep {C : Ct} {D1 H1 D' H' D2 H'' : Hp} {w' : Ds} (ew : Ew C D1 H1 D' H' w') (ex : Ex D' H' D2 H'') (wd2 : WdAt C.k w' D2 H'') {env3 : Env} {w3 : Ds} {σ3 : L2.St} {D3 H3 : Hp} (S3 : Sta ⟨C.k, H'', D2⟩ env3 w3 σ3 D3 H3 []) : Ew C D1 H1 D3 H3 w3 := by
  refine ⟨ew.sub.trans (ex.sub.trans S3.d0), S3.up, fun b o hb e => S3.kp b o hb (ex.kp b o (ew.kp b o hb e)), fun a e n => ?_, S3.wd⟩
  cases z : D2 a with
  | none =>
    have q : H'' a = none := S3.nw a z n
    cases zz : H1 a with
    | none => rfl
    | some u =>
      by_cases hp : C.k.mu a
      · obtain ⟨_, e1, _⟩ := wd2.there hp
        rw [q] at e1; cases e1
      · have := ex.kp a u (ew.kp a u hp zz)
        rw [q] at this; cases this
  | some u =>
    cases zz : D' a with
    | none =>
      have q : H' a = none := ex.nw a zz (by rw [z]; simp)
      cases zzz : H1 a with
      | none => rfl
      | some u =>
        by_cases hp : C.k.mu a
        · obtain ⟨_, e1, _⟩ := ew.wd.there hp
          rw [q] at e1; cases e1
        · have := ew.kp a u hp zzz
          rw [q] at this; cases this
    | some u' => exact ew.nw a e (by rw [zz]; simp)
theorem none_stays {A : Addr} {D2 D3 H'' : Hp} {o : HO} (hA : H'' A = some o) (hD : D2 A = none) (nw : ∀ a, D2 a = none → D3 a ≠ none → H'' a = none) : D3 A = none := by
  cases z : D3 A with
  | none => rfl
  | some u =>
    have q : H'' A = none := nw A hD (by rw [z]; simp)
    rw [q] at hA; cases hA
theorem den_dct {F : Fc} {W : WX} {wi : TI} {g : TG} {tt : TT} {tk te : TE} {gi : GA} {b : Bd} {gt : GT} {gk ge : GE} {ix vs : List Nat} {F' : Fc} (hF : F'.K = F.K ∧ F'.cls = F.cls ∧ F'.tb = F.tb ∧ F'.xa = F.xa) (hi : DenI F W wi gi) (hg : DenG F' g b ix) (ht : DenT F' W0 tt gt) (hk : DenE F' W0 tk gk) (he : DenE F' W0 te ge) (hix : ∀ i ∈ ix, i ∈ vs) :
    DenF F W (Tc.tDcT wi g tt tk te vs) (gDc vs gi b gt gk ge) := by
  intro C env w σ D H Q K S p
  refine hi C env w σ D H _ K S ?_
  unfold gDc at p
  cases e : gi env w with
  | bad => rw [e] at p; exact p
  | exc c fs w1 => rw [e] at p; exact p
  | ok items w1 =>
    rw [e] at p
    simp only [Out.bind] at p
    intro J D1 H1 S1 s1 wk A hA
    have hDA : D1 A = none := none_of S1.up hA
    have hpdA : ¬ C.k.mu A := fun z => by
      obtain ⟨_, e1, _⟩ := S1.wd.there z
      rw [hA] at e1; cases e1
    cases el : dcG b gt gk ge (hide vs env) items [] w1 with
    | bad => rw [el] at p; exact p.elim
    | exc c fs w2 => rw [el] at p; exact p.elim
    | ok accF wF =>
      rw [el] at p
      simp only at p
      obtain ⟨fp0, sl0, nd0, fr0⟩ := S1.sl
      have slH : SlotsOk C D1 H1 (hide vs env) (wipe σ vs) [] := slots_wipe (slots_hideO sl0) vs
      let Pv : Nat → Hp → Prop := fun i H' => ∃ D' w' acc ks, Ew C D1 H1 D' H' w' ∧ H' A = some (.dT ks) ∧ D' A = none ∧ Rk C.k D' ks acc ∧ dcG b gt gk ge (hide vs env) (items.drop i) acc w' = .ok accF wF
      refine dct_it wk Pv ?_ ?_ ?_ ?_
      · exact ⟨D1, w1, [], [], ((Ex.hid S1.up hA).ew S1.wd), upd_same, hDA, ⟨rfl, .nil⟩, by simpa using el⟩
      · rintro i H' _ ⟨D', w', acc, ks, x, _⟩
        exact x.sub.trans x.up
      · rintro i x H' H'' hi ⟨D', w', acc, ks, ew, hAl, hDn, rk, p'⟩ y
        obtain ⟨d, hd, hy⟩ := y
        obtain ⟨D2, ex, r⟩ := hy D' ew.sub ew.up ew.wd.tp
        have hdr : items.drop i = d :: items.drop (i + 1) := by
          obtain ⟨hl, e⟩ := List.getElem?_eq_some_iff.mp hd
          rw [List.drop_eq_getElem_cons hl, e]
        rw [hdr] at p'
        unfold dcG at p'
        have wd2 : WdAt C.k w' D2 H'' := (ex.ew ew.wd).wd
        have S2 : Sta ⟨C.k, H'', D2⟩ (hide vs env) w' (wipe σ vs) D2 H'' [] := by
          refine ⟨ex.up, Sub.refl _, fun _ _ _ e => e, fun a e n => absurd e n, wd2, [], ?_, List.nodup_nil, fun q hq => (by cases hq)⟩
          exact SlotsOk.ct (C := C) (C' := ⟨C.k, H'', D2⟩) rfl (slH.mono (ew.sub.trans ex.sub) fun q hq => (by cases hq))
        have hA2 : H'' A = some (.dT ks) := ex.kp _ _ hAl
        have hDA2 : D2 A = none := none_stays hAl hDn ex.nw
        have keep : ∀ {env3 : Env} {w3 : Ds} {σ3 : L2.St} {D3 H3 : Hp}, Sta ⟨C.k, H'', D2⟩ env3 w3 σ3 D3 H3 [] → Ew C D1 H1 D3 H3 w3 ∧ H3 A = some (.dT ks) ∧ D3 A = none ∧ Rk C.k D3 ks acc := fun S3 =>
          ⟨blk_keep ew ex wd2 S3, S3.kp A _ hpdA hA2, none_stays hA2 hDA2 S3.nw, rk.mono (ex.sub.trans S3.d0)⟩
        cases eb : b d (hide vs env) with
        | none => rw [eb] at p'; cases p'
        | some e2 =>
          rw [eb] at p'
          simp only at p'
          have K' : Kin F' ⟨C.k, H'', D2⟩ := ⟨K.K.trans hF.1.symm, K.cls.trans hF.2.1.symm, K.tb.trans hF.2.2.1.symm, K.xa.trans hF.2.2.2.symm⟩
          refine hg ⟨C.k, H'', D2⟩ (hide vs env) w' (wipe σ vs) D2 H'' x d e2 _ K' S2 r eb fun σ3 S3 hw => ⟨(hw vs hix).trans (wipe_wipe vs σ), ?_⟩
          refine ht ⟨C.k, H'', D2⟩ e2 w' σ3 D2 H'' _ K' S3 ?_
          cases et : gt e2 w' with
          | bad => rw [et] at p'; cases p'
          | exc c fs w1 => rw [et] at p'; cases p'
          | ok t w3 =>
            rw [et] at p'
            intro D4 H4 S4 s4
            cases t with
            | false =>
              simp only at p'
              obtain ⟨k1, k2, k3, k4⟩ := keep S4
              exact iteF ⟨D4, w3, acc, ks, k1, k2, k3, k4, p'⟩
            | true =>
              simp only at p'
              refine iteT ?_
              refine hk ⟨C.k, H'', D2⟩ e2 w3 σ3 D4 H4 _ K' S4 ?_
              cases ek : gk e2 w3 with
              | bad => rw [ek] at p'; cases p'
              | exc c fs w1 => rw [ek] at p'; cases p'
              | ok y w4 =>
                rw [ek] at p'
                simp only at p'
                intro vy D5 H5 S5 s5 ry
                refine he ⟨C.k, H'', D2⟩ e2 w4 σ3 D5 H5 _ K' S5 ?_
                cases ee : ge e2 w4 with
                | bad => rw [ee] at p'; cases p'
                | exc c fs w1 => rw [ee] at p'; cases p'
                | ok z w5 =>
                  rw [ee] at p'
                  simp only at p'
                  intro vz D6 H6 S6 s6 rz
                  obtain ⟨k1, k2, k3, k4⟩ := keep S6
                  cases q : keyT y with
                  | none => rw [q] at p'; cases p'
                  | some kx =>
                    rw [q] at p'
                    simp only at p'
                    by_cases hl : acc.length < sizeLine
                    · rw [if_pos hl] at p'
                      obtain ⟨bb, rfl, hb⟩ := keyT_rp ry q
                      have hb6 : H6 bb = some (.tup (kx.map kV)) := k1.up _ _ (s6 _ _ hb)
                      refine ⟨bb, kx, ks, rfl, hb6, k2, by rw [k4.length]; exact hl, D6, w5, putG acc kx z, putK ks kx vz, ?_, upd_same, k3, k4.put kx rz, p'⟩
                      refine ⟨k1.sub, fun a q e => ?_, fun b o hb e => ?_, k1.nw, k1.wd.put k2 hpdA fun c q z => (by unfold LamX.CodeO at z; cases z)⟩
                      · rw [upd_ne (ne_of_none e k3)]; exact k1.up a q e
                      · rw [upd_ne (ne_of_none e hA)]; exact k1.kp b o hb e
                    · rw [if_neg hl] at p'
                      cases p'
      · rintro H' ⟨D', w', acc, ks, ew, hAl, hDn, rk, p'⟩
        rw [List.drop_length] at p'
        unfold dcG at p'
        cases p'
        have S3 : Sta C env wF σ D' H' [A] := S1.freshW ew (by simp) fun b hb => by
          rw [List.mem_singleton.mp hb]
          exact ⟨hDn, hA⟩
        exact p A [A] D' H' S3 (s1.trans ew.sub) ⟨rfl, ks, hAl, rk.1, rk.2⟩
section
variable {F : Fc}
theorem ds_setDct {kx vx tg iter : Expr} {ifs : List Expr} {scope : Scope} {y : Str} {py pos spos : PySem.Pos} {gi : GA} {b : Bd} {gt : GT} {gk ge : GE} {ix : List Nat} (i : Nat) (own : List (Str × Nat)) (hc : F.calm = true) (hN : F.N.Nodup) (hy : F.N[i]? = some y) (hyl : F.sc.names.lookup y = some .local)
    (hk : F.sc.kind = .function) (hl : (py.line == pos.line) = true) (hsp : spos.line = spos.line) (ha : (scope.names.any fun (n, k) => n == y && (k == .local || k == .cell)) = false)
    (hi : DI F tg iter gi) (ok : blkC F.N F.sc scope own = true) (hg : DG (F.blk scope) tg b ix) (ht : DTs (F.blk scope) ifs gt) (hx : DE (F.blk scope) kx gk) (he : DE (F.blk scope) vx ge) (hix : (ix.all fun i => decide (i ∈ own.map (·.2))) = true) (hs : ∀ env x, foldedSetIterable iter env x = pure x := by intro _ _; rfl) :
    DS F (.Assign [.Name y py] (.DictComp kx vx [⟨tg, iter, ifs, 0⟩] scope pos) spos) (sSetF i (gDc (own.map (·.2)) gi b gt gk ge)) := by
  obtain ⟨ti, i1, i2⟩ := hi.ex
  obtain ⟨g, g1, g2⟩ := hg.ex
  obtain ⟨tt, t1, t2⟩ := ht.ex
  obtain ⟨tk, x1, x2⟩ := hx.ex
  obtain ⟨te, e1, e2⟩ := he.ex
  refine ⟨⟨fun W => tAsg (Tc.tDcT (ti W) g (tt W0) (tk W0) (te W0) (own.map (·.2))) (L2.gName i), fun X W O T => ?_, fun W C env w σ D H Dn K S p => ?_⟩⟩
  · refine Tc.ps_setDct (O.calm hc) (by rw [O.N]; exact hN) (by have := O.room.un; omega) (by rw [O.N]; exact hy) (by rw [O.sc]; exact hyl) (Tc.sw_dict (by rw [O.sc]; exact hk) (by rw [O.sc]; exact hyl) hl ha) (i1 X W O T) (blkOk_by (by rw [O.N, O.sc]; exact ok)) ?_ ?_ ?_ ?_ (hs _)
    · exact fun s H Ca cl fp => g1 _ (O.blk s H Ca cl fp)
    · exact fun s H Ca cl fp => t1 _ _ (O.blk s H Ca cl fp) tk_blk
    · exact fun s H Ca cl fp => x1 _ _ (O.blk s H Ca cl fp) tk_blk
    · exact fun s H Ca cl fp => e1 _ _ (O.blk s H Ca cl fp) tk_blk
  · have dl : DenF F W (Tc.tDcT (ti W) g (tt W0) (tk W0) (te W0) (own.map (·.2))) (gDc (own.map (·.2)) gi b gt gk ge) := den_dct (F := F) (F' := F.blk scope) ⟨rfl, rfl, rfl, rfl⟩ (i2 W) g2 (t2 W0) (x2 W0) (e2 W0) fun i h => of_decide_eq_true (List.all_eq_true.mp hix i h)
    refine dl C env w σ D H _ K S ?_
    unfold sSetF at p
    cases e : gDc (own.map (·.2)) gi b gt gk ge env w with
    | bad => rw [e] at p; exact p
    | exc c fs w1 => rw [e] at p; exact p σ
    | ok d w1 =>
      rw [e] at p
      intro q fp D' H' S' s' r
      simp only at p
      split at p
      · rename_i hl
        exact p _ D' H' (S'.set (s := .own d) ⟨q, rfl, r⟩ hl)
      · exact p.elim
/-! ### in a dict, a tuple -/
def inK : Dt → Dt → Option Bool
  | a, .dic kvs => (keyI a).map fun x => (getG kvs x).isSome
  | a, .dicT kvs => (keyT a).map fun x => (getG kvs x).isSome
  | _, _ => none
def orO (f g : Dt → Dt → Option Dt) : Dt → Dt → Option Dt := fun a b => match f a b with
  | some r => some r
  | none => g a b
theorem CmK.or {op : CmpOp} {f g : Dt → Dt → Option Dt} (h1 : CmK F op f) (h2 : CmK F op g) : CmK F op (orO f g) := by
  obtain ⟨r1, a1, b1⟩ := h1.ex
  obtain ⟨r2, a2, b2⟩ := h2.ex
  refine ⟨⟨fun x y H Q => r1 x y H Q ∨ r2 x y H Q, fun X O => (a1 X O).or (a2 X O), fun k hK hc D H x y a b z u ra rb e Q q => ?_⟩⟩
  unfold orO at e
  cases ef : f a b with
  | some r => rw [ef] at e; cases e; exact .inl (b1 k hK hc D H x y a b _ u ra rb ef Q q)
  | none => rw [ef] at e; exact .inr (b2 k hK hc D H x y a b _ u ra rb e Q q)
theorem dget_of {k : Kp} {D H : Hp} {x y : V} {a b : Dt} {r : Bool} (u : Sub D H) (ra : Rp k D x a) (rb : Rp k D y b) (e : inK a b = some r) : ∃ p o, y = .ref p ∧ DGet H p x o ∧ o.isSome = r := by
  cases b <;> simp only [inK] at e <;> try (cases e; done)
  · cases rb with
    | @dic p ks kvs h e1 r1 =>
      cases q : keyI a with
      | none => rw [q] at e; cases e
      | some z =>
        rw [q] at e
        cases e
        rw [keyI_rp ra q]
        refine ⟨p, _, rfl, DGet.k (u _ _ h), ?_⟩
        rcases Rk.get (k := k) (D := D) (show Rk k D ks _ from ⟨e1, r1⟩) z with ⟨a1, a2⟩ | ⟨v, d, a1, a2, _⟩
        · show _ = (getG _ z).isSome; rw [a1, a2]; rfl
        · show _ = (getG _ z).isSome; rw [a1, a2]; rfl
  · cases rb with
    | @dicT p ks kvs h e1 r1 =>
      cases q : keyT a with
      | none => rw [q] at e; cases e
      | some z =>
        rw [q] at e
        cases e
        obtain ⟨bb, rfl, hb⟩ := keyT_rp ra q
        refine ⟨p, _, rfl, DGet.t (u _ _ h) (u _ _ hb), ?_⟩
        rcases Rk.get (k := k) (D := D) (show Rk k D ks _ from ⟨e1, r1⟩) z with ⟨a1, a2⟩ | ⟨v, d, a1, a2, _⟩
        · show _ = (getG _ z).isSome; rw [a1, a2]; rfl
        · show _ = (getG _ z).isSome; rw [a1, a2]; rfl
theorem op_dictNotIn {X : Cx} (hu : X.A.units + 1 < cLine) : OpR X (compareOp .NotIn) (fun x y H Q => ∃ p o, y = .ref p ∧ DGet H p x o ∧ Q (.bl (!o.isSome)) H) := by
  intro pins s σ H x y v u Q I rx ry h
  obtain ⟨p, o, rfl, g, q⟩ := h
  cases (show u = Value.ref p from ry)
  exact d_notIn hu I g rx fun s' I' => ⟨.bl (!o.isSome), H, I', rfl, q⟩
def oNotInK (a b : Dt) : Option Dt := (inK a b).map fun r => .bl (!r)
theorem c_notInK : CmK F .NotIn oNotInK := ⟨⟨_, fun X O => op_dictNotIn (by have := O.room.un; omega), fun k hK hc D H x y a b z u ra rb e Q q => by
  unfold oNotInK at e
  cases ee : inK a b with
  | none => rw [ee] at e; cases e
  | some r =>
    rw [ee] at e
    cases e
    obtain ⟨p, o, e1, g, e2⟩ := dget_of u ra rb ee
    exact ⟨p, o, e1, g, by rw [e2]; exact q _ D H (Ex.refl u) (.bl _)⟩⟩⟩
end
end Dn
end
section
/-! Comprehensions given to names of data, reversed lists. -/
namespace Dn
open PySem L2
end Dn
end
section
/-! Dicts of the module; f-strings; split; lists unpacked. -/
namespace Dn
open PySem L2
/-! ### a dict of the module: text keys, text values -/
end Dn
end
section
/-! f-strings; split; lists unpacked. -/
namespace Dn
open PySem L2
end Dn
end
section
/-! Exceptions: classes with an own __init__, raised. -/
namespace Dn
open PySem L2 PySem.Spec PyProof.Rows ClX
/-! ### what the written part says of such a class -/
/-! ### U.m(e, ..), U a class of the module, m a def of it -/
/-! ### an exception's __init__ -/
end Dn
end
section
/-! raise. -/
namespace Dn
open PySem L2 PySem.Spec PyProof.Rows
end Dn
end
section
/-! try .. several clauses, each with a name. -/
namespace Tm
open PySem L2 PySem.Spec PyProof.Rows
/-- an exception of X's body come down to the except lines -/
structure Down (X : Cx) (pins : List (Addr × Obj)) (B : Heap) (a : Addr) (cls : Value) (d : Option Addr) (σ : L2.St) (H : Hp) (s : Shared) : Prop where
  fly : HandSPX.FlyingZ B X.stack a (Zc cls d) s.heap
  inv : ∃ sI : Shared, Inv X pins σ H sI ∧ (∀ b o, sI.heap.get? b = some o → b ∉ frs X.stack → B.get? b = some o) ∧ sI.heap.UpToSlots s.heap ∧ s.os = sI.os
  bare : AllBare s.gens
  un : H a = none
section
variable {X : Cx} {pins : List (Addr × Obj)} {B : Heap} {a : Addr} {cls : Value} {d : Option Addr} {σ : L2.St} {H : Hp} {s : Shared}
theorem Down.here (D : Down X pins B a cls d σ H s) : Inv X pins σ H s :=
  let ⟨sI, I, nb, up, os⟩ := D.inv
  I.landed nb D.fly.1 up os D.bare
theorem Down.obj (D : Down X pins B a cls d σ H s) : ∃ oe vs, s.heap.get? a = some oe ∧ Zc cls d oe ∧ oe.data = .fields vs := D.fly.there
theorem Down.off (D : Down X pins B a cls d σ H s) : a ∉ frs X.stack := fun hm => by
  obtain ⟨oe, vs, he, _, hd⟩ := D.obj
  obtain ⟨_, o', e', hnf⟩ := D.fly.2.2.1.mem hm
  rw [he] at e'
  cases e'
  exact hnf _ hd
/-- the state of a suite that holds it -/
theorem Down.suite (D : Down X pins B a cls d σ H s) (hs : X.stack = X.env :: X.outer) (hf : X.env.frame = some X.env.locals) {oe : Obj} {vs : Array Value} (he : s.heap.get? a = some oe) (hd : oe.data = .fields vs) :
    Inv (X.suite a ((a, oe) :: (X.pn ++ pins))) [] σ H s := by
  have off := D.off
  rw [hs] at off
  exact D.here.suite he hd D.un (fun z => off (List.mem_filterMap.mpr ⟨X.env, List.mem_cons_self, by rw [hf, z]⟩)) fun hm => by
    obtain ⟨e, h1, h2⟩ := List.mem_filterMap.mp hm
    exact off (List.mem_filterMap.mpr ⟨e, List.mem_cons_of_mem _ h1, h2⟩)
/-- no clause takes it -/
theorem Down.none {D' : Ends} {Wout : WX} (D : Down X pins B a cls d σ H s) (hf : X.env.frame = some X.env.locals) (tk : Takes X Wout) (w : Wout cls d σ H) :
    wpAny (model X.prog X.w) X.A (handleBy (.ref a) X.env []) (SP X pins D') X.xe s := by
  refine wpAny_handleBy_nil ?_
  obtain ⟨k1, k2, k3, oe, vs, T, oT, ts', he, hz, hd, h1, hr⟩ := id D.fly
  obtain ⟨sI, I, nb, up, os⟩ := D.inv
  have fin : wpAny (model X.prog X.w) X.A (setFlight (.ref a) X.env.frame) (fun _ s4 => wpAny (model X.prog X.w) X.A (throw (.ref a) : Sem Flow) (SP X pins D') X.xe s4) X.xe s := by
    rw [hf]
    exact HandSPX.setFlight_upZ D.fly fun h4 hh4 up4 => wpAny_throw (tk _ _ ⟨a, B, sI, pins, σ, H, cls, d, rfl, I, nb, up.trans up4, .inr (.inr hh4), D.un, os, D.bare, w⟩)
  unfold PySem.passOn
  refine wpAny_bind (wpAny_field he hd h1 ?_)
  rw [if_neg (show ¬ ((Value.ref T == Value.none) = true) from by simp)]
  first
    | exact wpAny_bind (wpAny_pure (wpAny_bind fin))
    | exact wpAny_bind fin
end
/-- the wish, clause by clause: its class, its name's slot, what its suite does -/
def wClauses (K : PySem.W.Frag) (Wout : WX) (D : Ends) : List (Value × Nat × (Addr → Value → Option Addr → TS)) → WX
  | [] => Wout
  | (c, i, ts) :: r => fun cls d σ H => ∃ b, PySem.W.exmOne K cls c = some b ∧
      (b = true → ∀ a, H a = none → ts a cls d { nx := fun σ' H' => D.nx (σ'.set i none) H', rt := D.rt, bk := fun σ' H' => D.bk (σ'.set i none) H', ct := fun σ' H' => D.ct (σ'.set i none) H' } (σ.set i (some (.ref a))) H) ∧
      (b = false → wClauses K Wout D r cls d σ H)
inductive Clauses (X : Cx) : List ExceptHandler → List (Value × Nat × (Addr → Value → Option Addr → TS)) → Prop
  | nil : Clauses X [] []
  | cons {x n : Str} {c : Value} {i : Nat} {ts : Addr → Value → Option Addr → TS} {b₀ : Stmt} {suite : List Stmt} {np pos' : Pos} {hds : List ExceptHandler} {l : List (Value × Nat × (Addr → Value → Option Addr → TS))} (hi : X.N[i]? = some n) (hln : X.env.kindOf n = some .local) (hc : Names X x c)
      (hsu : ∀ (a : Addr) (oe : Obj) (cls : Value) (d : Option Addr) (pn : List (Addr × Obj)), Zc cls d oe → (∃ vs, oe.data = .fields vs) → PSs (X.suite a ((a, oe) :: pn)) (b₀ :: suite) (ts a cls d)) (r : Clauses X hds l) :
      Clauses X (.ExceptHandler (some (.Name x np)) (some n) (b₀ :: suite) pos' :: hds) ((c, i, ts) :: l)
end Tm
end
section
/-! try .. except X as e. -/
namespace Dn
open PySem L2 PySem.Spec Tm
/-! ### data without exceptions -/
mutual
def noX : Dt → Bool
  | .tup xs => noXL xs
  | .lst xs => noXL xs
  | .dic kvs => noXK kvs
  | .dicT kvs => noXT kvs
  | .dicF kvs => noXK kvs
  | .dicFT kvs => noXT kvs
  | .obj _ fs => noXF fs
  | .exn _ _ => false
  | _ => true
def noXL : List Dt → Bool
  | [] => true
  | x :: xs => noX x && noXL xs
def noXK : List (Key × Dt) → Bool
  | [] => true
  | x :: xs => noX x.2 && noXK xs
def noXT : List (List Key × Dt) → Bool
  | [] => true
  | x :: xs => noX x.2 && noXT xs
def noXF : List (Str × Dt) → Bool
  | [] => true
  | x :: xs => noX x.2 && noXF xs
end
theorem noXK_eq : ∀ kvs : List (Key × Dt), noXK kvs = noXL (kvs.map (·.2))
  | [] => rfl
  | x :: xs => by simp [noXK, noXL, noXK_eq xs]
theorem noXT_eq : ∀ kvs : List (List Key × Dt), noXT kvs = noXL (kvs.map (·.2))
  | [] => rfl
  | x :: xs => by simp [noXT, noXL, noXT_eq xs]
theorem noXF_eq : ∀ kvs : List (Str × Dt), noXF kvs = noXL (kvs.map (·.2))
  | [] => rfl
  | x :: xs => by simp [noXF, noXL, noXF_eq xs]
/-- the same run, but for the exception that is held -/
structure KpX (k k' : Kp) : Prop where
  K : k.K = k'.K
  cls : k.cls = k'.cls
  pd : k.pd = k'.pd
  sf : k.sf = k'.sf
section
variable {k k' : Kp} {D : Hp}
mutual
theorem Rp.nox (h : KpX k k') : ∀ {v : V} {d : Dt}, noX d = true → Rp k D v d → Rp k' D v d
  | _, _, _, .non => .non
  | _, _, _, .bl b => .bl b
  | _, _, _, .int i => .int i
  | _, _, _, .str x => .str x
  | _, _, n, .tup s r => .tup s (RpL.nox h (by simpa [noX] using n) r)
  | _, _, n, .lst s r => .lst s (RpL.nox h (by simpa [noX] using n) r)
  | _, _, n, .dic s e r => .dic s e (RpL.nox h (by rw [← noXK_eq]; simpa [noX] using n) r)
  | _, _, n, .dicF s e r => .dicF s e (RpL.nox h (by rw [← noXK_eq]; simpa [noX] using n) r)
  | _, _, n, .dicFT s e r => .dicFT s e (RpL.nox h (by rw [← noXT_eq]; simpa [noX] using n) r)
  | _, _, n, .dicT s e r => .dicT s e (RpL.nox h (by rw [← noXT_eq]; simpa [noX] using n) r)
  | _, _, n, .obj s o c e r => .obj s o (h.cls ▸ c) e (RpL.nox h (by rw [← noXF_eq]; simpa [noX] using n) r)
  | _, _, n, .exn _ _ _ _ _ => by simp [noX] at n
  | _, _, _, .wd e => .wd (h.pd ▸ e)
  | _, _, _, .scr s => .scr (h.K ▸ s)
  | _, _, _, .emp s => .emp (h.K ▸ s)
theorem RpL.nox (h : KpX k k') : ∀ {vs : List V} {ds : List Dt}, noXL ds = true → RpL k D vs ds → RpL k' D vs ds
  | _, _, _, .nil => .nil
  | _, _, n, .cons a r => by
    have n' := (Bool.and_eq_true_iff.mp (show (noX _ && noXL _) = true by simpa [noXL] using n))
    exact .cons (Rp.nox h n'.1 a) (RpL.nox h n'.2 r)
end
end
def noXO : Ow → Bool
  | .lst ds => noXL ds
  | .dK kvs => noXK kvs
  | .dT kvs => noXT kvs
  | .ins _ fs => fs.all fun x => noX x.2.dt
  | .slf _ fs => fs.all fun x => noX x.2.dt
  | .ll dss => dss.all noXL
  | .dL kvs => kvs.all fun kv => noXL kv.2
def noXS : Sl → Bool
  | .un => true
  | .dat d => noX d
  | .own o => noXO o
theorem Kids.nox {k k' : Kp} {D : Hp} (h : KpX k k') {H : Hp} : ∀ {ps : List Addr} {dss : List (List Dt)}, dss.all noXL = true → Kids k D H ps dss → Kids k' D H ps dss
  | [], [], _, _ => trivial
  | p :: ps, ds :: dss, n, ⟨⟨vs, e, r⟩, t⟩ => by
    have n' : noXL ds = true ∧ dss.all noXL = true := by simpa using n
    exact ⟨⟨vs, e, r.nox h n'.1⟩, Kids.nox h n'.2 t⟩
  | [], _ :: _, _, h => h.elim
  | _ :: _, [], _, h => h.elim
theorem FldsOk.nox {k k' : Kp} {D : Hp} (h : KpX k k') {H : Hp} : ∀ {vs : List (Str × V)} {fs : List (Str × Fv)} {fp : List Addr}, (fs.all fun x => noX x.2.dt) = true → FldsOk k D H vs fs fp → FldsOk k' D H vs fs fp
  | [], [], _, _, z => z
  | (n, v) :: vs, (m, .d x) :: fs, fp, nn, ⟨e, r, t⟩ => by
    have n' : noX x = true ∧ (fs.all fun x => noX x.2.dt) = true := by simpa [Fv.dt] using nn
    exact ⟨e, r.nox h n'.1, FldsOk.nox h n'.2 t⟩
  | (n, v) :: vs, (m, .l ds) :: fs, fp, nn, ⟨e, q, r, us, e1, e2, hq, rr, t⟩ => by
    have n' : noXL ds = true ∧ (fs.all fun x => noX x.2.dt) = true := by simpa [Fv.dt, noX] using nn
    exact ⟨e, q, r, us, e1, e2, hq, rr.nox h n'.1, FldsOk.nox h n'.2 t⟩
  | [], (_, .d _) :: _, _, _, h => h.elim
  | [], (_, .l _) :: _, _, _, h => h.elim
  | _ :: _, [], _, _, h => h.elim
theorem InsAt.nox {k k' : Kp} {D : Hp} (h : KpX k k') {H : Hp} {p : Addr} {c : Str} {fs : List (Str × Fv)} {fp : List Addr} (n : (fs.all fun x => noX x.2.dt) = true) : InsAt k D H p c fs fp → InsAt k' D H p c fs fp
  | ⟨Ca, dx, vs, r, e, h1, h2, h3, t⟩ => ⟨Ca, dx, vs, r, e, h1, h2, h.cls ▸ h3, t.nox h n⟩
theorem OwnAt.nox {C C' : Ct} {D H : Hp} {p : Addr} (h : KpX C.k C'.k) : ∀ {o : Ow} {fp : List Addr}, noXO o = true → OwnAt C D H p o fp → OwnAt C' D H p o fp
  | .lst _, _, n, ⟨e, vs, hp, r⟩ => ⟨e, vs, hp, r.nox h n⟩
  | .dK _, _, n, ⟨e, vs, hp, q, r⟩ => ⟨e, vs, hp, q, r.nox h (by rw [← noXK_eq]; exact n)⟩
  | .dT _, _, n, ⟨e, vs, hp, q, r⟩ => ⟨e, vs, hp, q, r.nox h (by rw [← noXT_eq]; exact n)⟩
  | .ins _ _, _, n, o => InsAt.nox h n o
  | .slf _ _, _, n, ⟨z, o⟩ => ⟨h.sf ▸ z, o.nox h n⟩
  | .ll _, _, n, ⟨ps, e, hp, t⟩ => ⟨ps, e, hp, t.nox h n⟩
  | .dL kvs, _, n, ⟨ps, ks, e, hp, q1, q2, t⟩ => ⟨ps, ks, e, hp, q1, q2, t.nox h (by rw [List.all_map]; exact n)⟩
theorem SlotsOk.nox {C C' : Ct} {D H : Hp} (h : KpX C.k C'.k) : ∀ {ss : List Sl} {σ : L2.St} {fp : List Addr}, ss.all noXS = true → SlotsOk C D H ss σ fp → SlotsOk C' D H ss σ fp
  | [], [], _, _, s => s
  | .un :: ss, x :: xs, fp, n, ⟨f1, f2, e, a, r⟩ => ⟨f1, f2, e, a, r.nox h (by simpa [noXS] using n)⟩
  | .dat d :: ss, x :: xs, fp, n, ⟨f1, f2, e, ⟨a, v, hv, q⟩, r⟩ => by
    have n' : noX d = true ∧ ss.all noXS = true := by simpa [noXS] using n
    exact ⟨f1, f2, e, ⟨a, v, hv, q.nox h n'.1⟩, r.nox h n'.2⟩
  | .own o :: ss, x :: xs, fp, n, ⟨f1, f2, e, ⟨p, hp, q⟩, r⟩ => by
    have n' : noXO o = true ∧ ss.all noXS = true := by simpa [noXS] using n
    exact ⟨f1, f2, e, ⟨p, hp, q.nox h n'.1⟩, r.nox h n'.2⟩
  | [], _ :: _, _, _, s => s.elim
  | _ :: _, [], _, _, s => s.elim
/-- a run that holds the exception p -/
def Ct.hold (C : Ct) (p : Addr × Addr × Addr) : Ct := ⟨{ C.k with xa := some p }, C.H0, C.D0⟩
theorem Sta.hold {C : Ct} {env : Env} {w : Ds} {σ : L2.St} {D H : Hp} (S : Sta C env w σ D H []) (hx : C.k.xa = none) (p : Addr × Addr × Addr) : Sta (C.hold p) env w σ D H [] := by
  obtain ⟨fp, h1, h2, h3⟩ := S.sl
  exact ⟨S.up, S.d0, S.kp, S.nw, ⟨S.wd.dr, S.wd.tb, S.wd.tp⟩, fp, SlotsOk.kp (C := C) (C' := C.hold p) ⟨rfl, rfl, fun _ e => e, fun q e => (by rw [hx] at e; cases e)⟩ (fun _ e => e) h1, h2, h3⟩
theorem Sta.unhold {C : Ct} {env : Env} {w : Ds} {σ : L2.St} {D H : Hp} {fx : List Addr} {p : Addr × Addr × Addr} (S : Sta (C.hold p) env w σ D H fx) (n : env.all noXS = true) : Sta C env w σ D H fx := by
  obtain ⟨fp, h1, h2, h3⟩ := S.sl
  exact ⟨S.up, S.d0, S.kp, S.nw, ⟨S.wd.dr, S.wd.tb, S.wd.tp⟩, fp, SlotsOk.nox (C := C.hold p) (C' := C) ⟨rfl, rfl, rfl, rfl⟩ n h1, h2, h3⟩
/-- .. where what is in the slots no more matters -/
theorem SlotsOk.gone {C C' : Ct} {D H : Hp} : ∀ {ss : List Sl} {σ : L2.St} {fp : List Addr}, SlotsOk C D H ss σ fp → SlotsOk C' D H (List.replicate ss.length .un) σ []
  | [], [], _, _ => rfl
  | _ :: ss, _ :: xs, _, ⟨_, _, _, _, r⟩ => ⟨[], [], rfl, rfl, r.gone⟩
  | [], _ :: _, _, s => s.elim
  | _ :: _, [], _, s => s.elim
theorem Sta.gone {C : Ct} {env : Env} {w : Ds} {σ : L2.St} {D H : Hp} {fx : List Addr} {p : Addr × Addr × Addr} (S : Sta (C.hold p) env w σ D H fx) : Sta C (List.replicate env.length .un) w σ D H [] := by
  obtain ⟨fp, h1, h2, h3⟩ := S.sl
  exact ⟨S.up, S.d0, S.kp, S.nw, ⟨S.wd.dr, S.wd.tb, S.wd.tp⟩, [], h1.gone, List.nodup_nil, fun q hq => nomatch hq⟩
/-! ### the clauses -/
abbrev Cl : Type := (Str → Option Bool) × Nat × GS
/-- a suite's end: its name goes -/
def gEnd (i : Nat) : OutS → OutS
  | .nx e w => if (e.set i .un).all noXS = true then .nx (e.set i .un) w else .bad
  | .bk e w => if (e.set i .un).all noXS = true then .bk (e.set i .un) w else .bad
  | .ct e w => if (e.set i .un).all noXS = true then .ct (e.set i .un) w else .bad
  | .ret d w => if noX d = true then .ret d w else .bad
  | _ => .bad
def gCls : List Cl → Str → List (Str × Dt) → GS
  | [], c, fs => fun env w => .exc c fs env w
  | x :: r, c, fs => fun env w => match x.1 c with
    | some true => if x.2.1 < env.length then gEnd x.2.1 (x.2.2 (env.set x.2.1 (.dat (.exn c fs))) w) else .bad
    | some false => gCls r c fs env w
    | none => .bad
def Fc.suite (F : Fc) (p : Addr × Addr × Addr) : Fc := { F with calm := false, xa := some p, gd := false }
inductive DCl (F : Fc) : List ExceptHandler → List Cl → Prop
  | nil : DCl F [] []
  | cons {x n : Str} {Cx : Addr} {i : Nat} {sub : Str → Option Bool} {b₀ : Stmt} {suite : List Stmt} {np pos' : Pos} {hds : List ExceptHandler} {cl : List Cl} {gs : GS} (hi : F.N[i]? = some n) (hln : F.sc.names.lookup n = some .local) (hg : F.sc.names.lookup x = some .globalImplicit)
      (hdb : (x == ("__debug__" : Str)) = false) (hm : F.mg x = some (.ref Cx)) (hs : ∀ c Ca b, F.cls c = some Ca → sub c = some b → PySem.W.exmOne F.K (.ref Ca) (.ref Cx) = some b) (h : ∀ p, DB (F.suite p) (b₀ :: suite) gs) (r : DCl F hds cl) :
      DCl F (.ExceptHandler (some (.Name x np)) (some n) (b₀ :: suite) pos' :: hds) ((sub, i, gs) :: cl)
section
variable {F : Fc}
theorem On.suite {X : Cx} (O : On F X) {a Ca dd : Addr} {oe : Obj} {pn : List (Addr × Obj)} (hz : Zc (.ref Ca) (some dd) oe) (hf : ∃ vs, oe.data = .fields vs) : On (F.suite (a, Ca, dd)) (X.suite a ((a, oe) :: pn)) :=
  ⟨O.prog, O.w, O.K, O.mg, O.base, O.N, O.sc, ⟨O.room.dp, O.room.un⟩, fun h => Bool.noConfusion h, fun h => Bool.noConfusion h, O.fn, O.cd, O.stk, fun _ p h => by (cases h; exact ⟨X, oe, pn, rfl, hz, hf⟩), O.fnb, fun h => Bool.noConfusion h⟩
theorem end_post {C : Ct} {p : Addr × Addr × Addr} {i : Nat} {W : WX} {D : Ends} {o : OutS} (h : PostS C W (gEnd i o) D) :
    PostS (C.hold p) W0 o { nx := fun σ' H' => D.nx (σ'.set i none) H', rt := D.rt, bk := fun σ' H' => D.bk (σ'.set i none) H', ct := fun σ' H' => D.ct (σ'.set i none) H' } := by
  have wipeS : ∀ {e : Env} {w : Ds} {σ : L2.St} {D' H' : Hp}, Sta (C.hold p) e w σ D' H' [] → Sta (C.hold p) (e.set i .un) w (σ.set i none) D' H' [] := fun {e w σ D' H'} S => by
    by_cases hi : i < e.length
    · exact S.set (s := .un) rfl hi
    · rw [List.set_eq_of_length_le (by omega), List.set_eq_of_length_le (by rw [← S.len]; omega)]
      exact S
  cases o with
  | nx e w =>
    have h' : PostS C W (if (e.set i .un).all noXS = true then .nx (e.set i .un) w else .bad) D := h
    by_cases n : (e.set i .un).all noXS = true
    · rw [if_pos n] at h'; exact fun σ D' H' S => h' _ D' H' ((wipeS S).unhold n)
    · rw [if_neg n] at h'; exact h'.elim
  | bk e w =>
    have h' : PostS C W (if (e.set i .un).all noXS = true then .bk (e.set i .un) w else .bad) D := h
    by_cases n : (e.set i .un).all noXS = true
    · rw [if_pos n] at h'; exact fun σ D' H' S => h' _ D' H' ((wipeS S).unhold n)
    · rw [if_neg n] at h'; exact h'.elim
  | ct e w =>
    have h' : PostS C W (if (e.set i .un).all noXS = true then .ct (e.set i .un) w else .bad) D := h
    by_cases n : (e.set i .un).all noXS = true
    · rw [if_pos n] at h'; exact fun σ D' H' S => h' _ D' H' ((wipeS S).unhold n)
    · rw [if_neg n] at h'; exact h'.elim
  | ret d w =>
    have h' : PostS C W (if noX d = true then .ret d w else .bad) D := h
    by_cases n : noX d = true
    · rw [if_pos n] at h'; exact fun e σ v D' H' S r => h' _ σ v D' H' S.gone (Rp.nox (k := (C.hold p).k) (k' := C.k) ⟨rfl, rfl, rfl, rfl⟩ n r)
    · rw [if_neg n] at h'; exact h'.elim
  | rtf o w => exact h.elim
  | exc c fs e w => exact h.elim
  | bad => exact h.elim
theorem DCl.ok {hds : List ExceptHandler} {cl : List Cl} (h : DCl F hds cl) : ∃ l, (∀ X, On F X → Clauses X hds l) ∧ ∀ C W D c fs e w Ca d σ D' H', Kin F C → F.xa = none → Sta C e w σ D' H' [] → ExcAt C D' H' c fs Ca d →
    PostS C W (gCls cl c fs e w) D → wClauses F.K W D l (.ref Ca) (some d) σ H' := by
  induction h with
  | nil => exact ⟨[], fun X O => .nil, fun C W D c fs e w Ca d σ D' H' K hx S x p => p σ Ca d D' H' S x⟩
  | @cons x n Cx i sub b₀ suite np pos' hds cl gs hi hln hg hdb hm hs h r ih =>
    obtain ⟨l, l1, l2⟩ := ih
    refine ⟨(.ref Cx, i, fun a cls d => match cls, d with
      | .ref Ca, some dd => (h (a, Ca, dd)).ex.choose W0
      | _, _ => fun _ _ _ => False) :: l, fun X O => .cons (by rw [O.N]; exact hi) (by show X.env.scope.names.lookup n = _; rw [O.sc]; exact hln) ⟨by show X.env.scope.names.lookup x = _; rw [O.sc]; exact hg, hdb, .inl (by rw [O.mg]; exact hm)⟩ (fun a oe cls d pn hz hf => ?_) (l1 X O), fun C W D c fs e w Ca d σ D' H' K hx S x p => ?_⟩
    · cases cls with
      | ref Ca =>
        cases d with
        | some dd => exact (h (a, Ca, dd)).ex.choose_spec.1 _ W0 (O.suite hz hf) ⟨takes0, PassesOwn.never⟩
        | none => exact ⟨fun _ _ _ _ _ _ z => z.elim⟩
      | _ => exact ⟨fun _ _ _ _ _ _ z => z.elim⟩
    · unfold gCls at p
      simp only at p
      have hc : F.cls c = some Ca := by rw [← K.cls]; exact x.1
      cases e1 : sub c with
      | none => rw [e1] at p; exact p.elim
      | some b =>
        refine ⟨b, hs c Ca b hc e1, fun hb a ha => ?_, fun hb => ?_⟩
        · subst hb
          rw [e1] at p
          simp only at p
          by_cases hl : i < e.length
          · rw [if_pos hl] at p
            have S1 := S.hold (K.xa.trans hx) (a, Ca, d)
            obtain ⟨cc, vs, hd, eq, rr⟩ := x
            have S2 : Sta (C.hold (a, Ca, d)) (e.set i (.dat (.exn c fs))) w (σ.set i (some (.ref a))) D' H' [] := S1.setD (.exn rfl cc hd eq (RpL.kp (k := C.k) (k' := (C.hold (a, Ca, d)).k) ⟨rfl, rfl, fun _ z => z, fun q z => by rw [K.xa.trans hx] at z; cases z⟩ rr)) hl
            exact (h (a, Ca, d)).ex.choose_spec.2 W0 (C.hold (a, Ca, d)) _ w _ D' H' _ ⟨K.K, K.cls, K.tb, rfl⟩ S2 (end_post p)
          · rw [if_neg hl] at p; exact p.elim
        · subst hb
          rw [e1] at p
          exact l2 C W D c fs e w Ca d σ D' H' K hx S x p
end
end Dn
end
section
/-! In an except suite: e.f, isinstance(e, C). -/
namespace Dn
open PySem L2 PySem.Spec
end Dn
end
section
/-! {"a": "b", ..}[x]; defs with defaults. -/
namespace Dn
open PySem L2 PySem.Spec
/-! ### a display of texts, looked up -/
/-! ### defs with defaults -/
/-! ### classes -/
def clsOf (K : PySem.W.Frag) (ns : List Str) : Str → Option Addr := fun c => if c ∈ ns then some (He.ga K c) else none
end Dn
end
section
/-! The names of exception classes. -/
namespace Dn
open PySem L2 PySem.Spec
/-! ### the head's look: what the names reach in n steps, and the interpreter's own statics -/
def asY (g : Addr → Option Obj) (n : Nat) : List Addr := He.asD g n ++ [cStatics]
def obsY (n : Nat) (fa : List He.Fa) (fn : List He.DefD) (ts : List He.Tab) (tf : List He.Defn) (ex : PySem.W.Frag → Bool) (g : Addr → Option Obj) : He.AlX := (He.obsT fa fn ts (He.frT g (asY g n)), ex (He.frT g (asY g n)) && He.tabsB g tf (He.frT g (asY g n)))
theorem saysY {as : List Addr} {fa : List He.Fa} {fn : List He.DefD} {ts : List He.Tab} {tf : List He.Defn} {ex : PySem.W.Frag → Bool} {w : World} {h : Heap} (e1 : He.obsT fa fn ts (He.frT h.get? as) = He.valT fn ts w)
    (e2 : (ex (He.frT h.get? as) && He.tabsB h.get? tf (He.frT h.get? as)) = true) : He.SaysX fa fn ts tf ex w h (He.frT h.get? as) := by
  obtain ⟨h1, h2⟩ := Bool.and_eq_true_iff.mp e2
  have key : ∀ p ∈ tf, PySem.W.codeHdIn (He.frT h.get? as) (He.cT (He.frT h.get? as) p).1 (He.cT (He.frT h.get? as) p).2 = true ∧ ∃ o, h.get? (He.cT (He.frT h.get? as) p).2 = some o ∧ He.emptyTab o = true := fun p hp => by
    obtain ⟨h3, h4⟩ := Bool.and_eq_true_iff.mp (List.all_eq_true.mp h2 p hp)
    refine ⟨h3, ?_⟩
    cases q : h.get? (He.cT (He.frT h.get? as) p).2 with
    | none => rw [q] at h4; cases h4
    | some o => rw [q] at h4; exact ⟨o, rfl, h4⟩
  refine ⟨e1, h1, fun p hp => (key p hp).1, fun p hp => ?_, fun p hp => ?_⟩
  · obtain ⟨_, o, q, z⟩ := key p hp; exact He.frT_none q z
  · obtain ⟨_, o, q, z⟩ := key p hp; rw [q, He.emptyTab_eq z]
/-! a world by the one row of its habits that the top's displays of dicts ask -/
end Dn
end
section
/-! Own objects: o.f, o.m(..), C(..), an __init__. -/
namespace Dn
open PySem L2 PySem.Spec PyProof.Rows
/-! ### o.f -/
def oFld (cs : List Str) (f : Str) : Dt → Option Dt
  | .obj c fs => if c ∈ cs then fs.lookup f else none
  | _ => none
/-! ### o.m(..) -/
/-! ### C(..) -/
def runI (n : Nat) (c : Str) (g : GS) : Mf := fun ds w => match g (.own (.slf c []) :: (ds.map Sl.dat ++ List.replicate (n - (ds.length + 1)) .un)) w with
  | .nx (.own (.slf c' fs) :: _) w => if c' = c then .own (.ins c fs) w else .bad
  | .exc c fs _ w => .exc c fs w
  | _ => .bad
theorem KpUp.self {k : Kp} {a : Addr} : KpUp k { k with sf := some a } := ⟨rfl, rfl, fun _ e => e, fun _ e => e⟩
/-! ### self.f = e -/
theorem FldsOk.names {k : Kp} {D H : Hp} : ∀ {vs : List (Str × V)} {fs : List (Str × Fv)} {fp : List Addr}, FldsOk k D H vs fs fp → vs.map (·.1) = fs.map (·.1)
  | [], [], _, _ => rfl
  | (n, v) :: vs, (m, .d x) :: fs, fp, ⟨e, r, t⟩ => by simp [e, t.names]
  | (n, v) :: vs, (m, .l ds) :: fs, fp, ⟨e, z, r, us, e1, e2, h, rr, t⟩ => by simp [e, t.names]
  | [], (_, .d _) :: _, _, h => h.elim
  | [], (_, .l _) :: _, _, h => h.elim
  | _ :: _, [], _, h => h.elim
end Dn
end
section
/-! len(o), bool(o), str(o), repr(o), ==, != of own objects. -/
namespace Dn
open PySem L2 PySem.Spec PyProof.Rows
/-! ### the rules -/
end Dn
end
section
/-! Own classes: what the head's facts give. -/
namespace Dn
open PySem L2 PySem.Spec PyProof.Rows
/-! ### () as a default -/
/-! ### isinstance(x, C), C an own class -/
end Dn
end
section
/-! Dicts with tuple keys, made within a def; chains of comparisons; str of a text. -/
namespace Dn
open PySem L2 PySem.Spec PyProof.Rows
section
variable {F : Fc}
/-! ### a < b < c -/
/-! ### str(a text) -/
/-! ### {} -/
def gDnew : GF := fun _ w => .ok (.dT []) w
end
/-! ### d.setdefault(k, v), tuple keys -/
def setdG (kvs : List (List Key × Dt)) (k : List Key) (d : Dt) : List (List Key × Dt) := if (getG kvs k).isSome then kvs else putG kvs k d
end Dn
end
section
/-! Lists of owned lists. -/
namespace Dn
open PySem L2 PySem.Spec PyProof.Rows
/-! ### the frame: an own thing stays while something else runs -/
def Ct.keep (C : Ct) (p : Addr) (o : HO) : Ct := ⟨C.k, fun b => if b = p then some o else C.H0 b, C.D0⟩
section
variable {C : Ct} {env : Env} {w : Ds} {σ : L2.St} {D H : Hp} {p : Addr} {o : HO} {fx : List Addr}
theorem Sta.keep (S : Sta C env w σ D H (p :: fx)) (hp : H p = some o) : Sta (C.keep p o) env w σ D H fx := by
  obtain ⟨fp, h1, h2, h3⟩ := S.sl
  have hpp := h3 p (by simp)
  have ne : ∀ q ∈ fx ++ fp, q ≠ p := fun q hq e => by
    rw [List.cons_append, List.nodup_cons] at h2
    exact h2.1 (e ▸ hq)
  refine ⟨S.up, S.d0, fun b u hb e => ?_, fun a e n => ?_, S.wd, fp, SlotsOk.ct (C := C) (C' := C.keep p o) rfl h1, ?_, fun q hq => ?_⟩
  · show H b = some u
    have e : (if b = p then some o else C.H0 b) = some u := e
    by_cases z : b = p
    · rw [if_pos z] at e; rw [z, hp]; exact e
    · rw [if_neg z] at e; exact S.kp b u hb e
  · show (if a = p then some o else C.H0 a) = none
    rw [if_neg fun z => n (by rw [z]; exact hpp.1)]
    exact S.nw a e n
  · rw [List.cons_append, List.nodup_cons] at h2; exact h2.2
  · have := h3 q (by rw [List.cons_append]; exact List.mem_cons_of_mem _ hq)
    refine ⟨this.1, ?_, this.2.2⟩
    show (if q = p then some o else C.H0 q) = none
    rw [if_neg (ne q hq)]
    exact this.2.1
end
/-! ### [f1, f2, ..], each a fresh list -/
/-! ### x[i].append(e) -/
theorem Kids.get {k : Kp} {D H : Hp} : ∀ {ps : List Addr} {dss : List (List Dt)} {i : Nat} {ds : List Dt}, Kids k D H ps dss → dss[i]? = some ds → ∃ p vs, ps[i]? = some p ∧ H p = some (.lst vs) ∧ RpL k D vs ds
  | [], [], i, _, _, e => by simp at e
  | p :: ps, d :: dss, 0, ds, ⟨⟨vs, h, r⟩, t⟩, e => by simp at e; subst e; exact ⟨p, vs, rfl, h, r⟩
  | p :: ps, d :: dss, i + 1, ds, ⟨_, t⟩, e => by
    simp at e
    obtain ⟨q, vs, h1, h2⟩ := t.get e
    exact ⟨q, vs, by simpa using h1, h2⟩
  | [], _ :: _, _, _, h, _ => h.elim
  | _ :: _, [], _, _, h, _ => h.elim
theorem Kids.set {k : Kp} {D H : Hp} {q : Addr} {us : List V} {es : List Dt} (r' : RpL k D us es) : ∀ {ps : List Addr} {dss : List (List Dt)} {i : Nat}, Kids k D H ps dss → ps.Nodup → ps[i]? = some q → Kids k D (upd H q (.lst us)) ps (dss.set i es)
  | [], [], i, _, _, e => by simp at e
  | p :: ps, d :: dss, 0, ⟨⟨vs, h, r⟩, t⟩, nd, e => by
    simp at e
    subst e
    exact ⟨⟨us, upd_same, r'⟩, t.mono (Sub.refl _) fun z hz u e => by rw [upd_ne fun y : z = p => (List.nodup_cons.mp nd).1 (by rw [← y]; exact hz)]; exact e⟩
  | p :: ps, d :: dss, i + 1, ⟨⟨vs, h, r⟩, t⟩, nd, e => by
    simp at e
    have hne : p ≠ q := fun z => (List.nodup_cons.mp nd).1 (z ▸ List.mem_of_getElem? e)
    exact ⟨⟨vs, by rw [upd_ne hne]; exact h, r⟩, t.set r' (List.nodup_cons.mp nd).2 e⟩
  | [], _ :: _, _, h, _, _ => h.elim
  | _ :: _, [], _, h, _, _ => h.elim
end Dn
end
section
/-! text * int, list * int, tuple * int. -/
namespace Dn
open PySem L2 PySem.Spec PyProof.Rows
theorem OpK.or {F : Fc} {op : Operator} {f g : Dt → Dt → Option Dt} (h1 : OpK F op f) (h2 : OpK F op g) : OpK F op (orO f g) := by
  obtain ⟨r, a1, a2⟩ := h1.ex
  obtain ⟨r', b1, b2⟩ := h2.ex
  refine ⟨⟨fun x y H Q => r x y H Q ∨ r' x y H Q, fun X O => (a1 X O).or (b1 X O), fun k hK hc D H x y a b z u ra rb e Q q => ?_⟩⟩
  unfold orO at e
  cases ef : f a b with
  | some z' => rw [ef] at e; cases e; exact .inl (a2 k hK hc D H x y a b _ u ra rb ef Q q)
  | none => rw [ef] at e; exact .inr (b2 k hK hc D H x y a b z u ra rb e Q q)
end Dn
end
section
/-! text[::-1] (and list[::-1]) as a value. -/
namespace Dn
open PySem L2 PySem.Spec PyProof.Rows PySem.Builtin PySem.Builtin.Str
end Dn
end
section
/-! text in (texts). -/
namespace Dn
open PySem L2 PySem.Spec PyProof.Rows
def oNotInT : Dt → Dt → Option Dt
  | .str x, .tup ds => (strsOf ds).map fun ys => .bl (!ys.any fun y => decide (y = x))
  | _, _ => none
end Dn
end
section
/-! x[a:c] = list, x an owned list; a fresh list by cases. -/
namespace L2
open PySem PySem.Spec PyProof.Rows
end L2
namespace Dn
open PySem L2 PySem.Spec PyProof.Rows
def sSlc (i : Nat) (gl gh : GO) (g : GE) : GS := fun env w => match env[i]? with
  | some (.own (.lst ds)) => (match g env w with
    | .ok (.lst zs) w1 => (match gl env w1 with
      | .ok (some a) w2 => (match gh env w2 with
        | .ok (some c) w3 => if 0 ≤ a ∧ a ≤ c ∧ c ≤ (ds.length : Int) ∧ ds.length + zs.length ≤ sizeLine then .nx (env.set i (.own (.lst (ds.take a.toNat ++ zs ++ ds.drop c.toNat)))) w3 else .bad
        | .exc c fs w1 => .exc c fs env w1
        | _ => .bad)
      | .exc c fs w1 => .exc c fs env w1
      | _ => .bad)
    | .exc c fs w1 => .exc c fs env w1
    | _ => .bad)
  | _ => .bad
section
variable {F : Fc}
/-- fresh things by cases -/
def gIfF (c : GT) (f g : GF) : GF := fun env w => (c env w).bind fun b w1 => if b then f env w1 else g env w1
end
end Dn
end
section
/-! list(x), x a list, a tuple or a text. -/
namespace Dn
open PySem L2 PySem.Spec PyProof.Rows
end Dn
end
section
/-! Calls that name parameters; parameters that must be named. -/
namespace Dn
open PySem L2 PySem.Spec PyProof.Rows
/-! ### what a call with words binds -/
end Dn
namespace Dn
open PySem L2 PySem.Spec PyProof.Rows
/-! ### values put in order: those by place, then words (given or not) -/
/-! ### a module's tuple of texts -/
end Dn
namespace Dn
open PySem L2 PySem.Spec PyProof.Rows
/-! ### x[i] = v, x an owned list -/
end Dn
namespace Dn
open PySem L2 PySem.Spec PyProof.Rows
/-! ### x += an int -/
def sAugI (i : Nat) (g : GE) : GS := fun env w => match env[i]? with
  | some (.dat (.int n)) => match g env w with
    | .ok (.int m) w1 => .nx (env.set i (.dat (.int (n + m)))) w1
    | .ok _ _ => .bad
    | .exc c fs w1 => .exc c fs env w1
    | .bad => .bad
  | _ => .bad
end Dn
namespace Dn
end Dn
namespace Dn
open PySem L2 PySem.Spec PyProof.Rows
end Dn
/-! {k: v for ..} with texts or ints for keys: made, then locked for good; read by key, walked by keys. -/
namespace Dn
open PySem L2 PySem.Spec PyProof.Rows
/-! ### locked when it stands -/
end Dn
end
section
/-! y = {k: v for ..} where a block captures y. -/
namespace Dn
open PySem L2 PySem.Spec PyProof.Rows
end Dn
end
section
/-! sorted(a text): its signs in order. -/
namespace Dn
open PySem PySem.Spec PyProof.Rows L2 Sk
open PySem.W (AllAlike Sortable dataLe alike EachIs)
end Dn
/-! int in (ints) -/
namespace Dn
open PySem L2 PySem.Spec PyProof.Rows
end Dn
end
section
/-! y = f(..) where f answers data (None) at times, an own thing at others. -/
namespace Dn
open PySem L2 PySem.Spec PyProof.Rows
end Dn
end
section
/-! Dicts with tuples for keys: d.get(k, v), d[k] = v, x = d.setdefault(k, v). -/
namespace Dn
open PySem PySem.Spec PyProof.Rows L2
/-! ### y[k] = v -/
/-! ### x = y.setdefault(k, v) -/
def sSetdV (j i : Nat) (gk gv : GE) : GS := fun env w => match env[i]? with
  | some (.own (.dT kvs)) => match gk env w with
    | .ok a w1 => match gv env w1 with
      | .ok d w2 => match keyT a with
        | some k => if kvs.length < sizeLine ∧ j < env.length then .nx ((env.set i (.own (.dT (setdG kvs k d)))).set j (.dat ((getG kvs k).getD d))) w2 else .bad
        | none => .bad
      | .exc c fs w1 => .exc c fs env w1
      | .bad => .bad
    | .exc c fs w1 => .exc c fs env w1
    | .bad => .bad
  | _ => .bad
end Dn
end
section
/-! Comprehensions of sets of texts, sorted. Printed by gencomp.py. -/
namespace Dn
open PySem PySem.Spec PyProof.Rows L2 Sk
/-! ### sorted({a text for ..}) -/
end Dn
end
section
/-! Dicts of owned lists: d.setdefault(k, []).append(v); locked dicts with tuples for keys. -/
namespace Dn
open PySem PySem.Spec PyProof.Rows L2
/-! ### x = y.setdefault(k, v) -/
/-! ### dicts of owned lists -/
/-! ### own things stay while something else runs -/
/-! ### y.setdefault(k, []).append(v) -/
end Dn
end
section
/-! Dicts with tuples for keys that are locked for good: walked, asked. -/
namespace Dn
open PySem PySem.Spec PyProof.Rows L2
/-! ### y's dict of lists is locked for good -/
/-! ### d[k], d.get(k, v), for k in d -/
end Dn
end
section
/-! tuple + tuple, the left one empty or not. -/
namespace Dn
open PySem PySem.Spec PyProof.Rows L2
def oAddT : Dt → Dt → Option Dt
  | .tup xs, .tup ys => if xs.length + ys.length ≤ sizeLine then some (.tup (xs ++ ys)) else none
  | _, _ => none
end Dn
end
section
/-! max(a list of ints). -/
namespace Dn
open PySem PySem.Spec PyProof.Rows L2
end Dn
end
section
/-! Comprehensions of three clauses: one turn of each clause. -/
namespace L2
open PySem PySem.Spec PyProof.Rows
end L2
end
section
/-! Comprehensions of three clauses: a later clause as a whole. -/
namespace L2
open PySem PySem.Spec PyProof.Rows
/-! ### the acts -/
end L2
end
section
/-! Comprehensions of three clauses: the whole. -/
namespace L2
open PySem PySem.Spec PyProof.Rows
end L2
end
section
/-! Comprehensions of three clauses, at the level of data. -/
namespace Dn
open PySem PySem.Spec PyProof.Rows L2
/-- the growing list at A, seen from where it was made -/
structure LAt (C : Ct) (D1 H1 : Hp) (A : Addr) (D H : Hp) (w : Ds) (accV : List V) (acc : List Dt) : Prop where
  ew : Ew C D1 H1 D H w
  hA : H A = some (.lst accV)
  dA : D A = none
  r : RpL C.k D accV acc
section
variable {C : Ct} {D1 H1 D H : Hp} {A : Addr} {w : Ds} {accV : List V} {acc : List Dt}
theorem LAt.keep (a : LAt C D1 H1 A D H w accV acc) (hm : ¬ C.k.mu A) {env3 : Env} {w3 : Ds} {σ3 : L2.St} {D3 H3 : Hp} (S3 : Sta ⟨C.k, H, D⟩ env3 w3 σ3 D3 H3 []) : LAt C D1 H1 A D3 H3 w3 accV acc := by
  refine ⟨⟨a.ew.sub.trans S3.d0, S3.up, fun b o hb e => S3.kp b o hb (a.ew.kp b o hb e), fun x e n => ?_, S3.wd⟩, S3.kp A _ hm a.hA, ?_, a.r.mono S3.d0⟩
  · cases z : D x with
    | none =>
      have q : H x = none := S3.nw x z n
      cases zz : H1 x with
      | none => rfl
      | some u =>
        by_cases hp : C.k.mu x
        · obtain ⟨_, e1, _⟩ := a.ew.wd.there hp
          rw [q] at e1; cases e1
        · have := a.ew.kp x u hp zz
          rw [q] at this; cases this
    | some u => exact a.ew.nw x e (by rw [z]; simp)
  · cases z : D3 A with
    | none => rfl
    | some u =>
      have q : H A = none := S3.nw A a.dA (by rw [z]; simp)
      rw [a.hA] at q; cases q
theorem LAt.put (a : LAt C D1 H1 A D H w accV acc) (hm : ¬ C.k.mu A) (hA1 : H1 A = none) {v : V} {z : Dt} (r : Rp C.k D v z) : LAt C D1 H1 A D (upd H A (.lst (accV ++ [v]))) w (accV ++ [v]) (acc ++ [z]) := by
  refine ⟨⟨a.ew.sub, fun x q e => ?_, fun b o hb e => ?_, a.ew.nw, a.ew.wd.put a.hA hm fun c q z => (by unfold LamX.CodeO at z; cases z)⟩, upd_same, a.dA, a.r.append (.cons r .nil)⟩
  · rw [upd_ne (ne_of_none e a.dA)]; exact a.ew.up x q e
  · rw [upd_ne (ne_of_none e hA1)]; exact a.ew.kp b o hb e
end
theorem LAt.ex {C : Ct} {D1 H1 D H D2 H2 : Hp} {A : Addr} {w : Ds} {accV : List V} {acc : List Dt} (a : LAt C D1 H1 A D H w accV acc) (x : Ex D H D2 H2) : LAt C D1 H1 A D2 H2 w accV acc := by
  refine ⟨⟨a.ew.sub.trans x.sub, x.up, fun b o hb e => x.kp b o (a.ew.kp b o hb e), fun y e n => ?_, (x.ew a.ew.wd).wd⟩, x.kp _ _ a.hA, ?_, a.r.mono x.sub⟩
  · cases z : D y with
    | none =>
      have q : H y = none := x.nw y z n
      cases zz : H1 y with
      | none => rfl
      | some u =>
        by_cases hp : C.k.mu y
        · obtain ⟨_, e1, _⟩ := a.ew.wd.there hp
          rw [q] at e1; cases e1
        · have := a.ew.kp y u hp zz
          rw [q] at this; cases this
    | some u => exact a.ew.nw y e (by rw [z]; simp)
  · cases z : D2 A with
    | none => rfl
    | some u =>
      have q : H A = none := x.nw A a.dA (by rw [z]; simp)
      rw [a.hA] at q; cases q
end Dn
end
section
/-! Comprehensions of two clauses. -/
namespace L2
open PySem PySem.Spec PyProof.Rows
abbrev C2 (elt t0 i0 t1 i1 : Expr) (scope : Scope) (pos : Pos) : Expr := .ListComp elt [⟨t0, i0, [], 0⟩, ⟨t1, i1, [], 0⟩] scope pos
end L2
end
section
/-! Comprehensions of two clauses, at the level of data. -/
namespace Dn
open PySem PySem.Spec PyProof.Rows L2
end Dn
end
section
/-! Own dicts with texts for keys: made, asked, written, locked. -/
namespace Dn
open PySem PySem.Spec PyProof.Rows L2
/-! ### {} -/
/-! ### y[k] = v -/
/-! ### y's dict is locked for good -/
end Dn
end
section
/-! zip(.., strict=True) while the pair that it gave before is still held. -/
namespace Zs
open PySem PySem.Spec PyProof.Rows
open PySem.W (kdx_alive)
end Zs
end
section
/-! zip(.., strict=True) as what dict() is made of. -/
namespace Zs
open PySem PySem.Spec PyProof.Rows L2
end Zs
end
section
/-! dict(zip(a, b, strict=True)). -/
namespace Zs
open PySem PySem.Spec PyProof.Rows L2
open Sem (wp)
end Zs
end
section
/-! first, *rest = a list. -/
namespace L2
open PySem PySem.Spec PyProof.Rows
open Sem (wp)
end L2
end
section
/-! first, *rest = a list: the statement. -/
namespace L2
open PySem PySem.Spec PyProof.Rows
end L2
namespace Dn
open PySem PySem.Spec PyProof.Rows L2
end Dn
end
section
/-! dict(zip(a, b, strict=True)), dict(d), d[k] and d.get(k, v). -/
namespace Dn
open PySem PySem.Spec PyProof.Rows L2 Zs
/-! ### pairs put one after another -/
/-! ### d[k] -/
/-! ### d.get(k, v), d locked, of lists -/
end Dn
end
section
/-! x.update(d). -/
namespace L2
open PySem PySem.Spec PyProof.Rows
end L2
namespace Dn
open PySem PySem.Spec PyProof.Rows L2
end Dn
end
section
/-! sum(a list of ints). -/
namespace Dn
open PySem PySem.Spec PyProof.Rows L2
end Dn
end
section
/-! repr of lists and tuples within the law's own def: a def that is called where no repr runs, its end, its rule. -/
namespace Dn
open PySem PySem.Spec PyProof.Rows L2
/-! ### the promise of a def that is called where no repr runs -/
structure FnG (P : Program) (w : World) (K : PySem.W.Frag) (mg : Str → Option Value) (base : Heap) (CX : CXT) (k : Nat) (f : Addr) (fd : FuncData) (ps : List Str) (sp : Sp) : Prop where
  go : ∀ (A : Around) (outer : List PySem.Env) (s : Shared) (H : Hp) (args : Args) (us : List Value) (vs : List V) (Q : VK) (E : XK), A.guards = some [] → Room k A → Env0 P w K mg base A outer s H →
    BindsTo s fd args (ps.zip us) → Vals vs us → sp vs H Q E → codeAny (model P w) A (.call (.ref f) args) (CR CX outer P w H s Q E) s
theorem fnG_of {CX : CXT} {P : Program} {w : World} {K : PySem.W.Frag} {mg : Str → Option Value} {base : Heap} {k : Nat} {f : Addr} {name qual : Str} {params : Arguments} {body : List Stmt} {scope : Scope} {dV kV doc pm cdv ct oc : Value} {an od : Option Addr}
    {osl : Array (Option Value)} {N ps : List Str} {sp : Sp} (there : K.lookup f = some ⟨oc, od, .func (PySem.W.fnOf name qual params body scope dV kV doc pm an cdv ct), osl⟩) (rec_ : PySem.W.codeIn K cdv qual = true) (S : FnScope N ps scope)
    (many : ∀ vs H Q E, sp vs H Q E → vs.length = ps.length)
    (text : ∀ (A : Around) (outer : List PySem.Env) (s : Shared) (H : Hp) (vs : List V) (Q : VK) (E : XK), A.guards = some [] → Room k (A.deeper (envOfC qual scope s.heap.objs.size f cdv)) → sp vs H Q E →
      ∃ t, PSs (cxOf CX P w K mg base N qual scope f cdv A outer s H E) body t ∧ t { nx := fun _ H' => Q .non H', rt := Q } (L2.start N vs) H) :
    FnG P w K mg base CX (k + 1) f (PySem.W.fnOf name qual params body scope dV kV doc pm an cdv ct) ps sp := by
  constructor
  intro A outer s H args us vs Q E gd room e0 binds rel pre
  have nv := many _ _ _ _ pre
  have inK : K.In s.heap := e0.mod.kin.keeps fun b o q => (e0.bs b o q).1
  have noLim : s.heap.NoLimit := e0.mod.nolimit.keeps fun b o q => (e0.bs b o q).1
  have kinds : ∀ z ∈ ps.zip us, scope.names.lookup z.1 = some .local ∨ (scope.names.lookup z.1 = some .cell ∧ ((cellsFrom (s.heap.objs.size + 1) scope.names []).lookup z.1).isSome = true) := by
    rintro ⟨n, v⟩ hz
    cases S.par n (List.of_mem_zip hz).1 with
    | inl q => exact Or.inl q
    | inr q => exact Or.inr ⟨q, PySem.W.cellsFrom_some _ _ _ (.inl q)⟩
  apply codeAny_call_function room.depth (inK _ _ there) rfl S.co S.gen rfl (PySem.W.codeRec_of inK rec_)
  apply binds
  apply wpAny_newFunctionEnv_cells S.kind kinds
  rintro env rfl s1 laid
  refine ⟨noLim.keeps laid.toInCall.keep, codeAny_func ?_⟩
  obtain ⟨t, pt, qt⟩ := text A outer s H vs Q E gd (room.deeper _) pre
  have I0 : Inv (cxOf CX P w K mg base N qual scope f cdv A outer s H E) [] (L2.start N vs) H s1 := inv_start S room.hd e0 nv rel laid
  have done : ∀ {σ' : L2.St} {H' : Hp} {v : V} {u : Value} {s' : Shared}, Inv (cxOf CX P w K mg base N qual scope f cdv A outer s H E) [] σ' H' s' → RelV v u → Q v H' → CE outer P w H s Q u s' := fun J rv q => ⟨_, _, J.os, J.bare, J.base, J.hok, rv, q⟩
  refine wpAny_mono (pt.run [] s1 (L2.start N vs) H _ I0 qt) ?_ fun _ _ q => q
  intro fl s' hs
  cases fl with
  | next => obtain ⟨σ', H', J, q⟩ := hs; exact done (v := V.non) (u := Value.none) J rfl q
  | ret u => obtain ⟨v, σ', H', J, rv, q⟩ := hs; exact done J rv q
  | brk => obtain ⟨_, _, _, q⟩ := hs; exact False.elim q
  | cont => obtain ⟨_, _, _, q⟩ := hs; exact False.elim q
/-! ### the law's call -/
theorem callG {P : Program} {w : World} {K : PySem.W.Frag} {mg mb : Str → Option Value} {CX : CXT} {k : Nat} {fa a : Addr} {fd : FuncData} {x : Str} {sp : Sp} {s1 : Shared} {vs : List Value} {ns : List Int} (inK : K.In s1.heap) (glob : s1.heap.Ns mainGlobals mg)
    (blt : s1.heap.Ns builtinsNs mb) (boot : ∀ x : Str, x ≠ "__name__" → mb x = bootBuiltins x) (noLim : s1.heap.NoLimit) (noGen : s1.gens = #[]) (script : s1.heap.get? a = some { cls := .type "list", data := .seq vs.toArray }) (whole : IntsAre vs ns) (few : ns.length ≤ sizeLine)
    (room : Room k callerA) (fn : ∀ base : Heap, K.In base → base.Ns mainGlobals mg → FnG P w K mg base CX k fa fd [x] sp) (one : ∀ (s : Shared) (u : Value), BindsTo s fd ⟨[u], []⟩ [(x, u)])
    (pre : ∀ H : Hp, SqL K H a (ns.map V.int) → sp [.ref a] H (fun v _ => v = .bl true) fun _ _ _ => False) (noExc : ∀ H e s', CX [] H s1 (fun _ _ _ => False) e s' → False) :
    codeAny (model P w) callerA (.call (.ref fa) ⟨[.ref a], []⟩) (fun r s' => r = .ok (.ret (.bool true)) ∧ OldK s1.heap s'.heap ∧ s'.os = s1.os ∧ AllBare s'.gens) s1 := by
  have rel := vals_ints whole
  have lenV := whole.length
  -- the script alone is told, and only where the program's own data do not hold it
  let ob : Obj := { cls := .type "list", data := .seq vs.toArray }
  obtain ⟨H, only, sq⟩ : ∃ H : Hp, (∀ b u, H b = some u → b = a ∧ u = .frz ob (.lst (ns.map V.int)) ∧ K.lookup a = none) ∧ SqL K H a (ns.map V.int) := by
    cases held : K.lookup a with
    | some o =>
      have same := inK a o held
      rw [script] at same
      cases same
      exact ⟨fun _ => none, fun b u z => (by cases z), .inr ⟨_, vs.toArray, _, held, rfl, rfl, rfl, by rw [List.size_toArray, lenV]; exact few, by simpa using rel⟩⟩
    | none =>
      refine ⟨fun b => if b = a then some (.frz ob (.lst (ns.map V.int))) else none, fun b u z => ?_, .inl (.inr ⟨ob, if_pos rfl⟩)⟩
      by_cases same : b = a
      · have z' := (if_pos same).symm.trans z
        exact ⟨same, (Option.some.inj z').symm, rfl⟩
      · have z' := (if_neg same).symm.trans z
        cases z'
  have hid : ∀ {b : Addr} {o : Obj}, s1.heap.get? b = some o → b ≠ a → (hidT s1.heap H).get? b = some o := fun {b o} q ne => hidT_get q (by
    cases z : H b with
    | none => rfl
    | some u => exact absurd (only b u z).1 ne)
  have names : ∀ {b : Addr} {m : Str → Option Value}, s1.heap.Ns b m → (hidT s1.heap H).Ns b m := by
    rintro b m ⟨o, es, ep, q, dict, rest⟩
    refine ⟨o, es, ep, hid q ?_, dict, rest⟩
    rintro rfl
    rw [script] at q
    cases q
    cases dict
  have inB : K.In (hidT s1.heap H) := fun b o q => by
    refine hidT_get (inK b o q) ?_
    cases z : H b with
    | none => rfl
    | some u =>
      obtain ⟨rfl, _, n⟩ := only b u z
      rw [n] at q
      cases q
  have ok : HOk P w H s1.heap := fun b u z => by
    obtain ⟨rfl, rfl, _⟩ := only b u z
    exact ⟨script, by rw [List.length_map]; exact few, vs, _, rel, script⟩
  have at0 : Env0 P w K mg (hidT s1.heap H) callerA [] s1 H :=
    { frames := rfl
      mod := ⟨inB, names glob, ⟨mb, names blt, boot⟩, let ⟨m, q1, q2⟩ := noLim; ⟨m, names q1, q2⟩⟩
      bs := fun b o q => of_hidT q
      bsz := Nat.le_of_eq (hidT_size _ _)
      funs := trivial
      frf := fun b hb => nomatch (show b ∈ ([] : List Addr) from hb)
      hok := ok
      bare := .of_eq noGen }
  refine codeAny_mono ((fn _ inB (names glob)).go callerA [] s1 H ⟨[.ref a], []⟩ [.ref a] [.ref a] _ _ rfl room at0 (one s1 (.ref a)) (.cons rfl .nil) (pre H sq)) ?_
  intro r s' fin
  match r, fin with
  | .error e, fin => exact (noExc H e s' fin).elim
  | .ok .next, fin => exact False.elim fin
  | .ok .brk, fin => exact False.elim fin
  | .ok .cont, fin => exact False.elim fin
  | .ok (.ret u), ⟨v, H', os, bare, un, ok', ru, q⟩ =>
    have q : v = .bl true := q
    subst q
    obtain rfl : u = Value.bool true := ru
    have keep : ∀ b o, s1.heap.get? b = some o → s'.heap.get? b = some o := fun b o q => by
      cases z : H b with
      | none => exact un.keep b o q z (fun y => nomatch (show b ∈ ([] : List Addr) from y)) (by simp)
      | some u =>
        obtain ⟨rfl, rfl, _⟩ := only b u z
        obtain ⟨q2, _⟩ := ok' _ _ (un.frzs _ _ _ z)
        rw [script] at q
        cases q
        exact q2
    exact ⟨rfl, ⟨fun b o q => .inl (keep b o q), fun b o q => ⟨o, keep b o q⟩⟩, os, bare⟩
/-- what is known of the law's promise at the head's heap -/
def LawG (l : PySem.W.OpenLaw) (w : World) (K : PySem.W.Frag) (CX : CXT) (k n : Nat) (x : Str) (mg : Str → Option Value) (fa : Addr) : Prop :=
  ∃ (fd : FuncData) (sp : Sp), (∀ (s : Shared) (u : Value), BindsTo s fd ⟨[u], []⟩ [(x, u)]) ∧
    (∀ (H : Hp) (a : Addr) (ns : List Int), ns.length ≤ n → (∀ z ∈ ns, Builtin.Int.intBits z ≤ 1048576) → SqL K H a (ns.map V.int) → sp [.ref a] H (fun v _ => v = .bl true) fun _ _ _ => False) ∧
    ∀ base : Heap, K.In base → base.Ns mainGlobals mg → FnG l.prog w K mg base CX k fa fd [x] sp
theorem walkG {l : PySem.W.OpenLaw} {n k : Nat} {q : Program} {loose : List Str} {XP : (Str → Option Value) → Heap → Prop} {YP : World → Heap → Prop} {d : DefRec} {CX : World → CXT} {x : Str} (most : l.most = some n) (line : n ≤ sizeLine) (plain : d.params.defaults = []) (room : Room k callerA)
    (law : ∀ (w : World) (mg : Str → Option Value) (fa : Addr) (h : Heap), YP w h → h.Ns mainGlobals mg → mg d.name = some (.ref fa) → ∃ K : PySem.W.Frag, K.In h ∧ LawG l w K (CX w) k n x mg fa)
    (noExc : ∀ (w : World) (H : Hp) (s : Shared) (e : Value) (s' : Shared), CX w [] H s (fun _ _ _ => False) e s' → False) : PySem.W.WalkO q loose XP YP l.row.toRowW d [] (fun f vs => PySem.call f vs) := by
  refine Att.attach_callB most plain ?_
  intro w s0 s1 mg mb fa o pm cd doc a vs ns G Y _ _ _ named script whole len bits noGen
  obtain ⟨K, inK, fd, sp, one, pre, fn⟩ := law w mg fa _ Y G.T.g named
  exact callG inK G.T.g G.T.b G.T.builtins G.T.nolimit noGen script whole (Nat.le_trans len line) room fn one (fun H hs => pre H a ns len bits hs) fun H e s' => noExc w H s1 e s'
/-! ### the law's own def -/
theorem law_fnG {B : Bs} {N : List Str} {x xn qual : Str} {params : Arguments} {s0 : Stmt} {rest : List Stmt} {scope : Scope} {dvs : List V} {kws : List (Str × V)} {f : Addr} {fd : FuncData} {g0 g1 : GS} {n : Nat} (lv : Nat) (cd : Option (Addr × Addr)) (j : Nat)
    (Fu : FunD B.K xn qual params (s0 :: rest) scope dvs kws f fd) (S : FnScope N [x] scope) (hcq : ∀ q, cd = some q → fd.code = .ref q.1)
    (h0 : DS { toBs := B, N := N, sc := scope, lv := lv, calm := true, top := true, cd := cd, qual := qual ++ ".<locals>.", gd := true } s0 g0) (h1 : DB { toBs := B, N := N, sc := scope, lv := lv, calm := true, top := true, cd := cd, qual := qual ++ ".<locals>.", gd := true } rest g1)
    (htb : B.tb = [])
    (hg0 : ∀ ns w, g0 (.dat (.scr ns) :: List.replicate (N.length - 1) .un) w = .nx ((.dat (.scr ns) :: List.replicate (N.length - 1) .un).set j (.own (.lst [.scr ns, .int 0, .int 0, .int 7]))) w) (hj : j < N.length) (hj0 : 0 < j)
    (math : ∀ ns : List Int, ns.length ≤ n → (∀ z ∈ ns, Builtin.Int.intBits z ≤ 1048576) → ∃ w', g1 ((.dat (.scr ns) :: List.replicate (N.length - 1) .un).set j (.dat .wd)) (w0 ns) = .ret (.bl true) w') :
    FnG B.P B.w B.K B.mg B.base (L2.CX B.P B.w) (lv + 1) f fd [x] (spLaw B.K n []) := by
  obtain ⟨oc, od, dV, kV, doc, pm, an, cdv, ct, osl, rfl, lk, hcd, _, _⟩ := Fu.ex
  refine fnG_of lk hcd S (fun vs H Q E h => by obtain ⟨a, ns, rfl, _⟩ := h; rfl) fun A outer s H vs Q E hg hr hsp => ?_
  obtain ⟨t0, a1, a2⟩ := h0.ex
  obtain ⟨t1, b1, b2⟩ := h1.ex
  have O : On { toBs := B, N := N, sc := scope, lv := lv, calm := true, top := true, cd := cd, qual := qual ++ ".<locals>.", gd := true } (cxOf (L2.CX B.P B.w) B.P B.w B.K B.mg B.base N qual scope f cdv A outer s H E) :=
    ⟨rfl, rfl, rfl, rfl, rfl, rfl, rfl, roomU_of hr, fun _ => hr.hd, fun _ => rfl, fun _ _ => rfl, fun _ q e => ⟨hcq q e, rfl⟩, fun _ => ⟨rfl, rfl⟩, fun _ _ h => (nomatch h), fun _ h => Bool.noConfusion h, fun _ => hg⟩
  have T : Tk (cxOf (L2.CX B.P B.w) B.P B.w B.K B.mg B.base N qual scope f cdv A outer s H E) (fun cls d _ H => E cls d H) := ⟨takes_of rfl rfl rfl rfl, passes_of rfl⟩
  refine ⟨tSeq (t0 fun cls d _ H => E cls d H) (t1 fun cls d _ H => E cls d H), pss_cons (a1 _ _ O T) (b1 _ _ O T), ?_⟩
  obtain ⟨a, ns, rfl, hl, hb, ht, hs, hQ⟩ := hsp
  -- the script as data
  have hD : ∃ D : Hp, Sub D H ∧ SqL B.K D a (ns.map V.int) ∧ (∀ P, H P = some (.tbl #[]) → D P = none) ∧ ∀ b xs, H b = some (.tup xs) → D b = some (.tup xs) := by
    suffices hD0 : ∃ D : Hp, Sub D H ∧ SqL B.K D a (ns.map V.int) ∧ ∀ P, H P = some (.tbl #[]) → D P = none by
      obtain ⟨D, h1, h2, h3⟩ := hD0
      refine ⟨fun b => match H b with
        | some (.tup xs) => some (.tup xs)
        | _ => D b, fun b u e => ?_, sqL_sub (fun b u e => ?_) h2, fun P hP => ?_, fun b xs e => ?_⟩
      · (try simp only at e)
        split at e
        · rename_i q; rw [q]; exact e
        · exact h1 b u e
      · have := h1 b u e
        (try simp only)
        split
        · rename_i q; rw [q] at this; exact this
        · exact e
      · (try simp only)
        rw [hP]
        exact h3 P hP
      · (try simp only)
        rw [e]
    rcases hs with (h | ⟨o, h⟩) | h
    · refine ⟨fun b => if b = a then H a else none, fun b u e => ?_, .inl (.inl (by simp [h])), fun P hP => ?_⟩
      · by_cases z : b = a
        · rw [z] at e ⊢; simpa using e
        · simp [z] at e
      · have : P ≠ a := fun z => by rw [z, h] at hP; cases hP
        simp [this]
    · refine ⟨fun b => if b = a then H a else none, fun b u e => ?_, .inl (.inr ⟨o, by simp [h]⟩), fun P hP => ?_⟩
      · by_cases z : b = a
        · rw [z] at e ⊢; simpa using e
        · simp [z] at e
      · have : P ≠ a := fun z => by rw [z, h] at hP; cases hP
        simp [this]
    · exact ⟨fun _ => none, fun b u e => (by cases e), Or.inr h, fun _ _ => rfl⟩
  obtain ⟨D, up, hsD, hPD, htp⟩ := hD
  have Sb : Sta ⟨⟨B.K, B.cls, none, a, ns, B.tb, none, none⟩, H, D⟩ (.dat (.scr ns) :: List.replicate (N.length - 1) .un) ⟨ns, 0, 0, 7⟩ (L2.start N [.ref a]) D H [] := by
    refine ⟨up, Sub.refl _, fun _ _ _ e => e, fun b e n => absurd e n, ⟨fun p hp => (by cases hp), fun p hp => ?_, htp⟩, [], ?_, List.nodup_nil, fun q hq => (by cases hq)⟩
    · have hp : p ∈ B.tb := hp
      rw [htb] at hp
      cases hp
    · exact ⟨[], [], rfl, ⟨rfl, _, rfl, .scr hsD⟩, slots_rep _⟩
  refine a2 _ ⟨⟨B.K, B.cls, none, a, ns, B.tb, none, none⟩, H, D⟩ _ ⟨ns, 0, 0, 7⟩ _ D H _ ⟨rfl, rfl, rfl, rfl⟩ Sb ?_
  rw [hg0]
  intro σ1 D1 H1 S1
  have hlen : (Sl.dat (.scr ns) :: List.replicate (N.length - 1) Sl.un).length = N.length := by simp; omega
  obtain ⟨k1, e1, e2, e3, e4, S2⟩ := S1.begin (j := j) (ns := ns) rfl rfl (by rw [List.getElem?_set_self (by rw [hlen]; exact hj)])
  have hh : hideO ((((Sl.dat (.scr ns) :: List.replicate (N.length - 1) Sl.un).set j (.own (.lst [.scr ns, .int 0, .int 0, .int 7]))).set j .un)) = (Sl.dat (.scr ns) :: List.replicate (N.length - 1) Sl.un).set j .un := by
    rw [List.set_set]
    have key : ∀ l : List Sl, (∀ s ∈ l, ∀ o, s ≠ .own o) → hideO l = l := by
      intro l
      induction l with
      | nil => intro _; rfl
      | cons s r ih =>
        intro h
        cases s with
        | un => unfold hideO; rw [ih fun s hs => h s (List.mem_cons_of_mem _ hs)]
        | dat d => unfold hideO; rw [ih fun s hs => h s (List.mem_cons_of_mem _ hs)]
        | own o => exact absurd rfl (h _ List.mem_cons_self o)
    refine key _ fun s hs o e => ?_
    rcases List.mem_or_eq_of_mem_set hs with z | z
    · rcases List.mem_cons.mp z with z | z
      · rw [z] at e; cases e
      · rw [List.eq_of_mem_replicate z] at e; cases e
    · rw [z] at e; cases e
  rw [hh, List.set_set] at S2
  obtain ⟨w', em⟩ := math ns hl hb
  refine b2 _ ⟨k1, H1, D1⟩ _ (w0 ns) σ1 D1 H1 _ ⟨e1, e2, e3, e4⟩ S2 ?_
  rw [em]
  intro e σ v D' H' _ rv
  cases rv
  exact hQ H'
/-! ### repr -/
/-- repr of a list or a tuple of data -/
def oRepr : List Dt → Option Dt
  | [.lst xs] => (toPys xs).bind fun ps => if PyData.showableAll ps = true ∧ PyData.hasDictAll ps = false ∧ (PyData.list ps).depth ≤ 40 ∧ (PyData.list ps).shown.length ≤ sizeLine then some (.str (PyData.list ps).shown) else none
  | [.tup xs] => (toPys xs).bind fun ps => if PyData.showableAll ps = true ∧ PyData.hasDictAll ps = false ∧ (PyData.tuple ps).depth ≤ 40 ∧ (PyData.tuple ps).shown.length ≤ sizeLine then some (.str (PyData.tuple ps).shown) else none
  | _ => none
def rRepr (K : PySem.W.Frag) : List V → Hp → VK → Prop := fun vs H Q => ∃ (a : Addr) (d : PyData), vs = [V.ref a] ∧ Dp K H (.ref a) d ∧ d.showable = true ∧ d.hasDict = false ∧ d.depth ≤ 40 ∧ d.shown.length ≤ sizeLine ∧ Q (.str d.shown) H
theorem cr_repr {X : Cx} (gd : X.A.guards = some []) (room : X.A.units + 64 < cLine) : CallR X (.builtin "repr") (rRepr X.K) := by
  intro pins s σ H vs us Q I r h
  obtain ⟨a, d, rfl, rd, sh, nd, dep, len, q⟩ := h
  rw [Vals.ref1 r]
  obtain ⟨as, rds⟩ := Dp.reads I d (.ref a) (.ref a) rd rfl
  exact PySem.repr_of_reads' rds sh (fun z => by rw [nd] at z; cases z) gd (by omega) (fun _ _ z => z) (fun h' u tk hk => ⟨.str d.shown, H, I.kept hk, ⟨_, rfl⟩, q⟩) len
theorem de_repr {F : Fc} {p pos : PySem.Pos} {e : Expr} {ga : GA} (hgd : F.gd = true) (hg : F.sc.names.lookup ("repr" : Str) = some .globalImplicit) (hm : F.mg "repr" = none) (h : DL F [e] ga) (hs : ∀ env, starEach [e] env = (false, eval e env) :: starEach [] env := by intro _; rfl) (hpl : ∀ env, (backTo pos (starEach [] env)).any (·.1) = false := by intro _; rfl) :
    DE F (.Call (.Name "repr" p) [e] [] pos) (gArgs oRepr ga) :=
  de_callB (r := rRepr F.K) (fun X O => by rw [← O.K]; exact cr_repr (O.gd hgd) O.room.units) (fun k hK _ => by
    rw [← hK]
    intro D H xs as z u r e Q q
    match as, r, e with
    | [.lst ds], .cons r0 .nil, e =>
      simp only [oRepr] at e
      cases eb : toPys ds with
      | none => rw [eb] at e; cases e
      | some ps =>
        rw [eb, Option.bind_some] at e
        split at e
        · rename_i hh
          cases e
          have ep : toPy (.lst ds) = some (.list ps) := by unfold toPy; rw [eb]; rfl
          cases r0 with
          | lst h1 r1 => exact ⟨_, .list ps, rfl, dp_of _ (rp_up u (.lst h1 r1)) ep, by simpa [PyData.showable] using hh.1, by simpa [PyData.hasDict] using hh.2.1, hh.2.2.1, hh.2.2.2, q _ D H (Ex.refl u) (.str _)⟩
        · cases e
    | [.tup ds], .cons r0 .nil, e =>
      simp only [oRepr] at e
      cases eb : toPys ds with
      | none => rw [eb] at e; cases e
      | some ps =>
        rw [eb, Option.bind_some] at e
        split at e
        · rename_i hh
          cases e
          have ep : toPy (.tup ds) = some (.tuple ps) := by unfold toPy; rw [eb]; rfl
          cases r0 with
          | tup h1 r1 => exact ⟨_, .tuple ps, rfl, dp_of _ (rp_up u (.tup h1 r1)) ep, by simpa [PyData.showable] using hh.1, by simpa [PyData.hasDict] using hh.2.1, hh.2.2.1, hh.2.2.2, q _ D H (Ex.refl u) (.str _)⟩
        · cases e) (by decide +kernel) hg hm h (by decide +kernel) (by decide +kernel) hs
/-- texts that are compared as they are -/
def oNeS : Dt → Dt → Option Dt
  | .str x, .str y => some (.bl (!decide (x = y)))
  | _, _ => none
theorem dec_str (x y : Str) : decide (V.str x = V.str y) = decide (x = y) := by
  by_cases z : x = y
  · subst z; simp
  · rw [decide_eq_false z, decide_eq_false fun q => z (V.str.inj q)]
theorem c_neS {F : Fc} : CmK F .NotEq oNeS := ⟨⟨rNe, fun X O => op_ne, fun k hK hc D H x y a b z u ra rb e Q q => by
  cases a <;> cases b <;> simp only [oNeS] at e <;> try (cases e; done)
  cases e; cases ra; cases rb
  exact ⟨rfl, by rw [dec_str]; exact q _ D H (Ex.refl u) (.bl _)⟩⟩⟩
end Dn
end
section
/-! f(..).append(x): a fresh list spoilt at once; a + b as an own list. -/
namespace Dn
open PySem L2
section
variable {F : Fc}
/-- a + b, an own list -/
def gCatF (ga gb : GE) : GF := fun env w => (ga env w).bind fun a w1 => (gb env w1).bind fun b w2 => match a, b with
  | .lst xs, .lst ys => if xs.length + ys.length ≤ sizeLine then .ok (.lst (xs ++ ys)) w2 else .bad
  | _, _ => .bad
theorem df_catL {a b : Expr} {pos : PySem.Pos} {ga gb : GE} (ha : DE F a ga) (hb : DE F b gb) : DF F (.BinOp a .Add b pos) (gCatF ga gb) := by
  obtain ⟨ta, a1, a2⟩ := ha.ex
  obtain ⟨tb, b1, b2⟩ := hb.ex
  refine ⟨⟨fun W => tOp rCat (ta W) (tb W), fun X W O T => pe_op op_cat (a1 X W O T) (b1 X W O T), fun W C env w σ D H Q K S p => ?_⟩⟩
  refine a2 W C env w σ D H _ K S ?_
  unfold gCatF at p
  cases ea : ga env w with
  | bad => rw [ea] at p; exact p.elim
  | exc c fs w1 => rw [ea] at p; exact p
  | ok da w1 =>
    rw [ea] at p
    intro x D1 H1 S1 s1 ra
    refine b2 W C env w1 σ D1 H1 _ K S1 ?_
    simp only [Out.bind] at p
    cases eb : gb env w1 with
    | bad => rw [eb] at p; exact p.elim
    | exc c fs w2 => rw [eb] at p; exact p
    | ok db w2 =>
      rw [eb] at p
      simp only [Out.bind] at p
      intro y D2 H2 S2 s2 rb
      split at p
      · rename_i xs ys
        split at p
        · rename_i hl
          have ra' := ra.mono s2
          cases ra' with
          | lst h1 r1 =>
            cases rb with
            | lst h2 r2 =>
              rename_i p1 vs p2 us
              refine ⟨_, _, _, _, rfl, rfl, S2.up _ _ h1, S2.up _ _ h2, by rw [r1.length, r2.length]; exact hl, fun q hq => ?_⟩
              have hd : D2 q = none := none_of S2.up hq
              exact p q [q] D2 _ (S2.fresh (Ex.hid S2.up hq) (by simp) (fun z hz => by rw [List.mem_singleton.mp hz]; exact ⟨hq, hd⟩)) (s1.trans s2) ⟨rfl, _, upd_same, r1.append r2⟩
        · exact p.elim
      · exact p.elim
end
end Dn
end
section
/-! C(e, .., k = v, ..): a class called with words. -/
namespace Dn
open PySem L2 PySem.Spec
end Dn
end
section
namespace Qk04
open PySem L2 Dn
def top (i : Nat) : Stmt := PySem.Challenge.pw_saidonce_k04_first_clash.main.body.getD i (.Pass ⟨0, 0, 0, 0⟩)
abbrev s__law_cells : Stmt := top 22
abbrev s__law_crossed : Stmt := top 25
abbrev s__law_clash : Stmt := top 26
abbrev s__law_draw : Stmt := top 16
abbrev s__law_letters : Stmt := top 17
abbrev s__law_head_of : Stmt := top 18
abbrev s__law_head : Stmt := top 19
abbrev s__law_heap : Stmt := top 23
abbrev s__law_rising : Stmt := top 24
abbrev s__law_side : Stmt := top 20
abbrev s__law_saying : Stmt := top 21
abbrev s__law_start : Stmt := top 15
abbrev s__law_truth : Stmt := top 14
abbrev s_cells_of : Stmt := top 6
abbrev s_ordered : Stmt := top 1
abbrev s_union : Stmt := top 2
abbrev s_wanted : Stmt := top 8
abbrev s_clash_of_parts : Stmt := top 10
abbrev s_clash_of_tells : Stmt := top 9
abbrev s_rising : Stmt := top 7
abbrev s_without : Stmt := top 3
abbrev s_clash : Stmt := top 11
abbrev s_keeps : Stmt := top 12
abbrev s_law : Stmt := top 27
/-! the head's facts -/
def dd__law_cells : He.DefD := ⟨("_law_cells", none), "_law_cells", "_law_cells", defArgs s__law_cells, defBody s__law_cells, defScope s__law_cells, [], []⟩
def dd__law_crossed : He.DefD := ⟨("_law_crossed", none), "_law_crossed", "_law_crossed", defArgs s__law_crossed, defBody s__law_crossed, defScope s__law_crossed, [], []⟩
def dd__law_clash : He.DefD := ⟨("_law_clash", none), "_law_clash", "_law_clash", defArgs s__law_clash, defBody s__law_clash, defScope s__law_clash, [], []⟩
def dd__law_draw : He.DefD := ⟨("_law_draw", none), "_law_draw", "_law_draw", defArgs s__law_draw, defBody s__law_draw, defScope s__law_draw, [], []⟩
def dd__law_letters : He.DefD := ⟨("_law_letters", none), "_law_letters", "_law_letters", defArgs s__law_letters, defBody s__law_letters, defScope s__law_letters, [], []⟩
def dd__law_head_of : He.DefD := ⟨("_law_head_of", none), "_law_head_of", "_law_head_of", defArgs s__law_head_of, defBody s__law_head_of, defScope s__law_head_of, [], []⟩
def dd__law_head : He.DefD := ⟨("_law_head", none), "_law_head", "_law_head", defArgs s__law_head, defBody s__law_head, defScope s__law_head, [], []⟩
def dd__law_heap : He.DefD := ⟨("_law_heap", none), "_law_heap", "_law_heap", defArgs s__law_heap, defBody s__law_heap, defScope s__law_heap, [], []⟩
def dd__law_rising : He.DefD := ⟨("_law_rising", none), "_law_rising", "_law_rising", defArgs s__law_rising, defBody s__law_rising, defScope s__law_rising, [], []⟩
def dd__law_side : He.DefD := ⟨("_law_side", none), "_law_side", "_law_side", defArgs s__law_side, defBody s__law_side, defScope s__law_side, [], []⟩
def dd__law_saying : He.DefD := ⟨("_law_saying", none), "_law_saying", "_law_saying", defArgs s__law_saying, defBody s__law_saying, defScope s__law_saying, [], []⟩
def dd__law_start : He.DefD := ⟨("_law_start", none), "_law_start", "_law_start", defArgs s__law_start, defBody s__law_start, defScope s__law_start, [], []⟩
def dd__law_truth : He.DefD := ⟨("_law_truth", none), "_law_truth", "_law_truth", defArgs s__law_truth, defBody s__law_truth, defScope s__law_truth, [], []⟩
def dd_cells_of : He.DefD := ⟨("cells_of", none), "cells_of", "cells_of", defArgs s_cells_of, defBody s_cells_of, defScope s_cells_of, [], []⟩
def dd_ordered : He.DefD := ⟨("ordered", none), "ordered", "ordered", defArgs s_ordered, defBody s_ordered, defScope s_ordered, [], []⟩
def dd_union : He.DefD := ⟨("union", none), "union", "union", defArgs s_union, defBody s_union, defScope s_union, [], []⟩
def dd_wanted : He.DefD := ⟨("wanted", none), "wanted", "wanted", defArgs s_wanted, defBody s_wanted, defScope s_wanted, [], []⟩
def dd_clash_of_parts : He.DefD := ⟨("clash_of_parts", none), "clash_of_parts", "clash_of_parts", defArgs s_clash_of_parts, defBody s_clash_of_parts, defScope s_clash_of_parts, [], []⟩
def dd_clash_of_tells : He.DefD := ⟨("clash_of_tells", none), "clash_of_tells", "clash_of_tells", defArgs s_clash_of_tells, defBody s_clash_of_tells, defScope s_clash_of_tells, [], []⟩
def dd_rising : He.DefD := ⟨("rising", none), "rising", "rising", defArgs s_rising, defBody s_rising, defScope s_rising, [], []⟩
def dd_without : He.DefD := ⟨("without", none), "without", "without", defArgs s_without, defBody s_without, defScope s_without, [], []⟩
def dd_clash : He.DefD := ⟨("clash", none), "clash", "clash", defArgs s_clash, defBody s_clash, defScope s_clash, [], []⟩
def dd_keeps : He.DefD := ⟨("keeps", none), "keeps", "keeps", defArgs s_keeps, defBody s_keeps, defScope s_keeps, [], []⟩
def dd_law : He.DefD := ⟨("law", none), "law", "law", defArgs s_law, defBody s_law, defScope s_law, [], []⟩
def fn : List He.DefD := [dd__law_cells, dd__law_crossed, dd__law_clash, dd__law_draw, dd__law_letters, dd__law_head_of, dd__law_head, dd__law_heap, dd__law_rising, dd__law_side, dd__law_saying, dd__law_start, dd__law_truth, dd_cells_of, dd_ordered, dd_union, dd_wanted, dd_clash_of_parts, dd_clash_of_tells, dd_rising, dd_without, dd_clash, dd_keeps, dd_law]
def excs : List Str := []
def ts : List He.Tab := []
def fa : List He.Fa := [.glo "_law_cells", .glo "_law_crossed", .glo "_law_clash", .glo "_law_draw", .glo "_law_letters", .glo "_law_head_of", .glo "_law_head", .glo "_law_heap", .glo "_law_rising", .glo "_law_side", .glo "_law_saying", .glo "_law_start", .glo "_law_truth", .glo "cells_of", .glo "ordered", .glo "union", .glo "wanted", .glo "clash_of_parts", .glo "clash_of_tells", .glo "rising", .glo "without", .glo "clash", .glo "keeps", .glo "law", .free "abs", .free "bool", .free "enumerate", .free "isinstance", .free "len", .free "list", .free "min", .free "range", .free "repr", .free "set", .free "sorted", .free "tuple", .free "zip", .str "TELLS" "tells"]
def tf : List He.Defn := []
def tbs (K : PySem.W.Frag) : List (Addr × Str) := []
def chk (K : PySem.W.Frag) : List Bool := [decide ((tbs K).map (·.1)).Nodup]
def ex (K : PySem.W.Frag) : Bool := (chk K).all id
abbrev R : PySem.W.OpenRow := PySem.W.OpenLaw.row PySem.Challenge.rw_saidonce_k04_first_clash
def ob (s : PySem.W.SharedT) : He.AlX := obsY 4 fa fn ts tf ex (HandSHeadRun.getT s)
end Qk04
end
section
/-! Plain reckoning with mirrors: texts as rows of codes, comprehensions, loops. -/
namespace Dn
open PySem L2
/-! ### texts -/
abbrev Tx := List Nat
def sx (l : Tx) : Str := ⟨l.toArray⟩
abbrev T (l : Tx) : Dt := .str (sx l)
@[simp] theorem sx_toList (l : Tx) : (sx l).cps.toList = l := by simp [sx]
@[simp] theorem sx_length (l : Tx) : (sx l).length = l.length := by simp [sx, Str.length]
@[simp] theorem sx_size (l : Tx) : (sx l).cps.size = l.length := by simp [sx]
theorem sx_of (x : Str) : sx x.cps.toList = x := by cases x; simp [sx]
@[simp] theorem sx_append (a b : Tx) : sx a ++ sx b = sx (a ++ b) := by
  show Str.mk _ = _
  simp [sx]
theorem sx_inj {a b : Tx} (h : sx a = sx b) : a = b := by
  have := congrArg (fun z : Str => z.cps.toList) h
  simpa using this
@[simp] theorem sx_eq {a b : Tx} : sx a = sx b ↔ a = b := ⟨sx_inj, fun h => h ▸ rfl⟩
@[simp] theorem signD_sx (l : Tx) : signD (sx l) = l.map fun c => T [c] := by simp [signD, sx]
theorem strsOf_map (l : List Tx) : strsOf (l.map T) = some (l.map sx) := by
  induction l with
  | nil => rfl
  | cons a l ih => simp [strsOf, ih, T]
/-! ### comprehensions -/
/-- over items that are the values of xs, all pure: kept by p, made by f -/
theorem gLc_map {α : Type} {vs : List Nat} {gi : GA} {b : Bd} {gt : GT} {ge : GE} {env : Env} {w w1 : Ds} (xs : List α) (v : α → Dt) (p : α → Bool) (f : α → Dt) (hi : gi env w = .ok (xs.map v) w1)
    (h : ∀ x ∈ xs, ∃ e1, b (v x) (hide vs env) = some e1 ∧ gt e1 w1 = .ok (p x) w1 ∧ (p x = true → ge e1 w1 = .ok (f x) w1)) (hl : xs.length ≤ sizeLine) :
    gLc vs gi b gt ge env w = .ok (.lst ((xs.filter p).map f)) w1 := by
  unfold gLc
  rw [hi]
  simp only [Out.bind]
  have key : ∀ (ys : List α) (acc : List Dt), (∀ y ∈ ys, y ∈ xs) → acc.length + ys.length ≤ sizeLine → lcG b gt ge (hide vs env) (ys.map v) acc w1 = .ok (acc ++ (ys.filter p).map f) w1 := by
    intro ys
    induction ys with
    | nil => intro acc _ _; simp [lcG]
    | cons y ys ih =>
      intro acc hy hacc
      obtain ⟨e1, h1, h2, h3⟩ := h y (hy y List.mem_cons_self)
      rw [List.length_cons] at hacc
      rw [List.map_cons]
      unfold lcG
      rw [h1]
      simp only
      rw [h2]
      cases hp : p y with
      | false =>
        simp only
        rw [ih acc (fun z hz => hy z (List.mem_cons_of_mem _ hz)) (by omega)]
        simp [List.filter_cons, hp]
      | true =>
        simp only
        rw [h3 hp]
        simp only
        rw [if_pos (by omega), ih _ (fun z hz => hy z (List.mem_cons_of_mem _ hz)) (by simp; omega)]
        simp [List.filter_cons, hp]
  rw [key xs [] (fun _ h => h) (by simpa using hl)]
  rfl
/-- one that may turn the state: what it keeps -/
theorem gLc_inv {α : Type} {vs : List Nat} {gi : GA} {b : Bd} {gt : GT} {ge : GE} {env : Env} {w w1 : Ds} (P : Ds → Prop) (R : List Dt → Prop) (xs : List α) (v : α → Dt) (f : α → Dt → Prop) (hi : gi env w = .ok (xs.map v) w1) (h0 : P w1)
    (h : ∀ x ∈ xs, ∃ e1, b (v x) (hide vs env) = some e1 ∧ ∀ w, P w → ∃ t w2, gt e1 w = .ok t w2 ∧ P w2 ∧ (t = true → ∃ y w3, ge e1 w2 = .ok y w3 ∧ P w3 ∧ f x y)) (hl : xs.length ≤ sizeLine)
    (hR : ∀ zs : List (α × Dt), (zs.map (·.1)).Sublist xs → (∀ z ∈ zs, f z.1 z.2) → R (zs.map (·.2))) :
    ∃ ys w2, gLc vs gi b gt ge env w = .ok (.lst ys) w2 ∧ P w2 ∧ R ys := by
  unfold gLc
  rw [hi]
  simp only [Out.bind]
  have key : ∀ (ys : List α) (acc : List Dt) (w : Ds), (∀ y ∈ ys, y ∈ xs) → acc.length + ys.length ≤ sizeLine → P w → ∃ rs w2, lcG b gt ge (hide vs env) (ys.map v) acc w = .ok (acc ++ rs) w2 ∧ P w2 ∧ ∃ zs : List (α × Dt), (zs.map (·.1)).Sublist ys ∧ (∀ z ∈ zs, f z.1 z.2) ∧ rs = zs.map (·.2) := by
    intro ys
    induction ys with
    | nil => intro acc w _ _ hP; exact ⟨[], w, by simp [lcG], hP, [], List.Sublist.refl _, fun _ h => (nomatch h), rfl⟩
    | cons y ys ih =>
      intro acc w hy hacc hP
      obtain ⟨e1, h1, h2⟩ := h y (hy y List.mem_cons_self)
      obtain ⟨t, w2, h3, hP2, h4⟩ := h2 w hP
      rw [List.length_cons] at hacc
      rw [List.map_cons]
      unfold lcG
      rw [h1]
      simp only
      rw [h3]
      cases t with
      | false =>
        simp only
        obtain ⟨rs, w3, e, p3, zs, s1, s2⟩ := ih acc w2 (fun z hz => hy z (List.mem_cons_of_mem _ hz)) (by omega) hP2
        exact ⟨rs, w3, e, p3, zs, s1.cons _, s2⟩
      | true =>
        obtain ⟨d, w3, h5, hP3, h6⟩ := h4 rfl
        simp only
        rw [h5]
        simp only
        rw [if_pos (by omega)]
        obtain ⟨rs, w4, e, p4, zs, s1, s2⟩ := ih (acc ++ [d]) w3 (fun z hz => hy z (List.mem_cons_of_mem _ hz)) (by simp; omega) hP3
        exact ⟨d :: rs, w4, by rw [e]; simp, p4, (y, d) :: zs, s1.cons₂ _, fun z hz => (List.mem_cons.mp hz).elim (fun q => q ▸ h6) (s2.1 z), by rw [s2.2]; rfl⟩
  obtain ⟨rs, w2, e, p2, zs, z1, z2, z3⟩ := key xs [] w1 (fun _ h => h) (by simpa using hl) h0
  rw [e]
  exact ⟨rs, w2, by simp, p2, z3 ▸ hR _ z1 z2⟩
/-! ### loops -/
theorem forG_inv {α : Type} {b : Bd} {body : GS} (I : List α → List α → Env → Ds → Prop) (v : α → Dt) (xs : List α)
    (h : ∀ pre x post env w, xs = pre ++ x :: post → I pre (x :: post) env w → ∃ e1, b (v x) env = some e1 ∧ ((∃ e2 w2, body e1 w = .nx e2 w2 ∧ I (pre ++ [x]) post e2 w2) ∨ ∃ e2 w2, body e1 w = .ct e2 w2 ∧ I (pre ++ [x]) post e2 w2)) :
    ∀ {env : Env} {w : Ds}, I [] xs env w → ∃ e2 w2, forG b body (xs.map v) env w = .nx e2 w2 ∧ I xs [] e2 w2 := by
  have key : ∀ (post pre : List α) (env : Env) (w : Ds), xs = pre ++ post → I pre post env w → ∃ e2 w2, forG b body (post.map v) env w = .nx e2 w2 ∧ I xs [] e2 w2 := by
    intro post
    induction post with
    | nil => intro pre env w e hI; exact ⟨env, w, rfl, by rw [e, List.append_nil]; exact hI⟩
    | cons x post ih =>
      intro pre env w e hI
      obtain ⟨e1, h1, h2⟩ := h pre x post env w e hI
      rw [List.map_cons]
      unfold forG
      rw [h1]
      rcases h2 with ⟨e2, w2, h3, h4⟩ | ⟨e2, w2, h3, h4⟩
      · simp only
        rw [h3]
        exact ih (pre ++ [x]) e2 w2 (by rw [e]; simp) h4
      · simp only
        rw [h3]
        exact ih (pre ++ [x]) e2 w2 (by rw [e]; simp) h4
  exact fun {env w} hI => key xs [] env w rfl hI
/-! ### evaluation, for simp -/
section
variable {α β : Type} {env : Env} {w : Ds}
@[simp] theorem bind_ok (a : α) (w : Ds) (f : α → Ds → Out β) : (Out.ok a w).bind f = f a w := rfl
@[simp] theorem bind_exc (c : Str) (fs : List (Str × Dt)) (w : Ds) (f : α → Ds → Out β) : (Out.exc c fs w).bind f = .exc c fs w := rfl
@[simp] theorem gOk_app (r : Dt) : gOk r env w = .ok r w := rfl
@[simp] theorem gVar_app (i : Nat) : gVar i env w = (match env[i]? with
  | some (.dat d) => .ok d w
  | _ => .bad) := rfl
@[simp] theorem gBin_app (f : Dt → Dt → Option Dt) (ga gb : GE) : gBin f ga gb env w = (ga env w).bind fun a w1 => (gb env w1).bind fun b w2 => match f a b with
  | some r => .ok r w2
  | none => .bad := rfl
@[simp] theorem gNil_app : gNil env w = .ok [] w := rfl
@[simp] theorem gCons_app (ga : GE) (gr : GA) : gCons ga gr env w = (ga env w).bind fun a w1 => (gr env w1).bind fun r w2 => .ok (a :: r) w2 := rfl
@[simp] theorem gArgs_app (f : List Dt → Option Dt) (ga : GA) : gArgs f ga env w = (ga env w).bind fun a w1 => match f a with
  | some r => .ok r w1
  | none => .bad := rfl
@[simp] theorem gArgsF_app (f : List Dt → Option Ow) (ga : GA) : gArgsF f ga env w = (ga env w).bind fun a w1 => match f a with
  | some r => .ok r w1
  | none => .bad := rfl
@[simp] theorem gFrz_app (g : GF) : gFrz g env w = (g env w).bind fun o w1 => .ok o.dt w1 := rfl
@[simp] theorem gTst_app (g : GE) : gTst g env w = (g env w).bind fun a w1 => match a with
  | .bl b => .ok b w1
  | _ => .bad := rfl
@[simp] theorem gNot_app (g : GT) : gNot g env w = (g env w).bind fun b w1 => .ok (!b) w1 := rfl
@[simp] theorem gAnd_app (g h : GT) : gAnd g h env w = (g env w).bind fun b w1 => if b then h env w1 else .ok false w1 := rfl
@[simp] theorem gOr_app (g h : GT) : gOr g h env w = (g env w).bind fun b w1 => if b then .ok true w1 else h env w1 := rfl
@[simp] theorem gIfE_app (c : GT) (g h : GE) : gIfE c g h env w = (c env w).bind fun b w1 => if b then g env w1 else h env w1 := rfl
@[simp] theorem gTup_app (ga : GA) : gTup ga env w = (ga env w).bind fun a w1 => if a.length ≤ sizeLine then .ok (.tup a) w1 else .bad := by
  unfold gTup gArgs
  congr
  funext a w1
  by_cases h : a.length ≤ sizeLine <;> simp [h]
@[simp] theorem gLst_app (ga : GA) : gLst ga env w = (ga env w).bind fun a w1 => if a.length ≤ sizeLine then .ok (.lst a) w1 else .bad := by
  unfold gLst gArgsF
  congr
  funext a w1
  by_cases h : a.length ≤ sizeLine <;> simp [h]
@[simp] theorem gM1_app (f : Str → Dt → Option Dt) (go ge : GE) : gM1 f go ge env w = (go env w).bind fun a w1 => match a with
  | .str x => (ge env w1).bind fun d w2 => match f x d with
    | some r => .ok r w2
    | none => .bad
  | _ => .bad := rfl
@[simp] theorem gIx_app (ga gb : GE) : gIx ga gb env w = (ga env w).bind fun a w1 => (gb env w1).bind fun b w2 => match oIx w2 a b with
  | some r => .ok r w2
  | none => .bad := rfl
@[simp] theorem gNeg_app (g : GE) : gNeg g env w = (g env w).bind fun a w1 => match a with
  | .int i => .ok (.int (-i)) w1
  | _ => .bad := rfl
@[simp] theorem gIsi_app (T : String) (g : GE) : gIsi T g env w = (g env w).bind fun d w1 => match (tyD d).bind fun t => kitB t T with
  | some b => .ok (.bl b) w1
  | none => .bad := rfl
@[simp] theorem gAndV_app (g h : GE) : gAndV g h env w = (g env w).bind fun a w1 => match a with
  | .bl true => h env w1
  | .bl false => .ok (.bl false) w1
  | _ => .bad := rfl
@[simp] theorem gOrV_app (g h : GE) : gOrV g h env w = (g env w).bind fun a w1 => match a with
  | .bl true => .ok (.bl true) w1
  | .bl false => h env w1
  | _ => .bad := rfl
@[simp] theorem gNotV_app (g : GE) : gNotV g env w = (g env w).bind fun a w1 => match a with
  | .bl b => .ok (.bl (!b)) w1
  | _ => .bad := rfl
@[simp] theorem gLend_app (g : GE) : gLend g env w = (match g (lendA env) w with
  | .ok r w1 => if flat r then .ok r w1 else .bad
  | .exc c fs w1 => if flats (fs.map (·.2)) then .exc c fs w1 else .bad
  | .bad => .bad) := rfl
@[simp] theorem gLendT_app (g : GT) : gLendT g env w = (match g (lendA env) w with
  | .ok r w1 => .ok r w1
  | .exc c fs w1 => if flats (fs.map (·.2)) then .exc c fs w1 else .bad
  | .bad => .bad) := by unfold gLendT; rfl
@[simp] theorem lendA_nil : lendA [] = [] := rfl
@[simp] theorem lendA_cons (s : Sl) (r : Env) : lendA (s :: r) = lendS s :: lendA r := rfl
@[simp] theorem lendS_dat (d : Dt) : lendS (.dat d) = .dat d := rfl
@[simp] theorem lendS_un : lendS .un = .un := rfl
@[simp] theorem lendS_lst (ds : List Dt) : lendS (.own (.lst ds)) = .dat (.lst ds) := rfl
@[simp] theorem sAugL_app (i : Nat) (g : GE) : sAugL i g env w = (match env[i]? with
  | some (.own (.lst ds)) => match g env w with
    | .ok (.lst zs) w1 => if ds.length + zs.length ≤ sizeLine then .nx (env.set i (.own (.lst (ds ++ zs)))) w1 else .bad
    | .ok _ _ => .bad
    | .exc c fs w1 => .exc c fs env w1
    | .bad => .bad
  | _ => .bad) := rfl
@[simp] theorem sLm_app (i : Nat) (f : List Dt → List Dt → Option (List Dt)) (ga : GA) : sLm i f ga env w = (match env[i]? with
  | some (.own (.lst ds)) => match ga env w with
    | .ok es w1 => match f ds es with
      | some ds' => .nx (env.set i (.own (.lst ds'))) w1
      | none => .bad
    | .exc c fs w1 => .exc c fs env w1
    | .bad => .bad
  | _ => .bad) := rfl
@[simp] theorem sRetV_app (i : Nat) : sRetV i env w = (match env[i]? with
  | some (.own o) => .rtf o w
  | some (.dat d) => .ret d w
  | _ => .bad) := rfl
@[simp] theorem gIt_app (f : Dt → Option (List Dt)) (g : GE) : gIt f g env w = (g env w).bind fun d w1 => match f d with
  | some r => .ok r w1
  | none => .bad := rfl
@[simp] theorem gIts_app (f : List Dt → Option (List Dt)) (g : GA) : gIts f g env w = (g env w).bind fun d w1 => match f d with
  | some r => .ok r w1
  | none => .bad := rfl
@[simp] theorem gNoPart_app : gNoPart env w = .ok none w := rfl
@[simp] theorem gPart_app (g : GE) : gPart g env w = (g env w).bind fun a w1 => match a with
  | .int i => .ok (some i) w1
  | _ => .bad := rfl
@[simp] theorem gSl_app (ga : GE) (gl gh : GO) : gSl ga gl gh env w = (ga env w).bind fun a w1 => (gl env w1).bind fun lo w2 => (gh env w2).bind fun hi w3 => match oSl a lo hi with
  | some r => .ok r w3
  | none => .bad := rfl
@[simp] theorem sSet_app (i : Nat) (g : GE) : sSet i g env w = (match g env w with
  | .ok d w1 => if i < env.length then .nx (env.set i (.dat d)) w1 else .bad
  | .exc c fs w1 => .exc c fs env w1
  | .bad => .bad) := rfl
@[simp] theorem sSetF_app (i : Nat) (g : GF) : sSetF i g env w = (match g env w with
  | .ok o w1 => if i < env.length then .nx (env.set i (.own o)) w1 else .bad
  | .exc c fs w1 => .exc c fs env w1
  | .bad => .bad) := rfl
@[simp] theorem sAsg_app (b : Bd) (g : GE) : sAsg b g env w = (match g env w with
  | .ok d w1 => match b d env with
    | some env' => .nx env' w1
    | none => .bad
  | .exc c fs w1 => .exc c fs env w1
  | .bad => .bad) := rfl
@[simp] theorem sDrop_app (g : GE) : sDrop g env w = (match g env w with
  | .ok _ w1 => .nx env w1
  | .exc c fs w1 => .exc c fs env w1
  | .bad => .bad) := rfl
@[simp] theorem sRet_app (g : GE) : sRet g env w = (match g env w with
  | .ok d w1 => .ret d w1
  | .exc c fs w1 => .exc c fs env w1
  | .bad => .bad) := rfl
@[simp] theorem sRetF_app (g : GF) : sRetF g env w = (match g env w with
  | .ok o w1 => .rtf o w1
  | .exc c fs w1 => .exc c fs env w1
  | .bad => .bad) := rfl
@[simp] theorem sSkip_app : sSkip env w = .nx env w := rfl
@[simp] theorem sIf_app (c : GT) (a b : GS) : sIf c a b env w = (match c env w with
  | .ok true w1 => a env w1
  | .ok false w1 => b env w1
  | .exc c fs w1 => .exc c fs env w1
  | .bad => .bad) := rfl
@[simp] theorem sSeq_app (a b : GS) : sSeq a b env w = (match a env w with
  | .nx e1 w1 => b e1 w1
  | o => o) := rfl
@[simp] theorem sFor_app (gi : GA) (b : Bd) (body : GS) : sFor gi b body env w = (match gi env w with
  | .ok items w1 => forG b body items env w1
  | .exc c fs w1 => .exc c fs env w1
  | .bad => .bad) := rfl
@[simp] theorem bName_app (i : Nat) (d : Dt) : bName i d env = if i < env.length then some (env.set i (.dat d)) else none := rfl
@[simp] theorem sWd_app (n : Nat) (i : Int) (g : GE) : sWd n i g env w = (match g env w with
  | .ok (.int v) w1 => match env[n]? with
    | some (.dat .wd) => match wdPut w1 i v with
      | some w2 => .nx env w2
      | none => .bad
    | _ => .bad
  | .ok _ _ => .bad
  | .exc c fs w1 => .exc c fs env w1
  | .bad => .bad) := rfl
@[simp] theorem gCall_app (na : Nat) (dds : List Dt) (m : Mf) (ga : GA) : gCall na dds m ga env w = (ga env w).bind fun ds w1 => if ds.length = na then (match m (ds ++ dds) w1 with
  | .dat r w2 => .ok r w2
  | .own o w2 => .ok o.dt w2
  | .exc c fs w2 => .exc c fs w2
  | .bad => .bad) else .bad := rfl
@[simp] theorem gCallF_app (na : Nat) (dds : List Dt) (m : Mf) (ga : GA) : gCallF na dds m ga env w = (ga env w).bind fun ds w1 => if ds.length = na then (match m (ds ++ dds) w1 with
  | .own o w2 => .ok o w2
  | .exc c fs w2 => .exc c fs w2
  | _ => .bad) else .bad := rfl
@[simp] theorem gCall0_app (dds : List Dt) (m : Mf) : gCall0 dds m env w = (match m dds w with
  | .dat r w2 => .ok r w2
  | _ => .bad) := rfl
@[simp] theorem sRetC_app (na : Nat) (dds : List Dt) (m : Mf) (ga : GA) : sRetC na dds m ga env w = (match ga env w with
  | .ok ds w1 => if ds.length = na then (match m (ds ++ dds) w1 with
    | .dat r w2 => .ret r w2
    | .own o w2 => .rtf o w2
    | .exc c fs w2 => .exc c fs env w2
    | .bad => .bad) else .bad
  | .exc c fs w1 => .exc c fs env w1
  | .bad => .bad) := rfl
@[simp] theorem sPar_app (is : List Nat) (ga : GA) : sPar is ga env w = (match ga env w with
  | .ok ds w1 => if ds.length = is.length ∧ is.all (fun i => decide (i < env.length)) then .nx ((is.zip ds).foldl (fun e p => e.set p.1 (.dat p.2)) env) w1 else .bad
  | .exc c fs w1 => .exc c fs env w1
  | .bad => .bad) := rfl
@[simp] theorem hideO_nil : hideO [] = [] := rfl
def hideS : Sl → Sl
  | .own _ => .un
  | s => s
@[simp] theorem hideS_dat (d : Dt) : hideS (.dat d) = .dat d := rfl
@[simp] theorem hideS_un : hideS .un = .un := rfl
@[simp] theorem hideS_own (o : Ow) : hideS (.own o) = .un := rfl
@[simp] theorem hideO_cons (s : Sl) (r : Env) : hideO (s :: r) = hideS s :: hideO r := by cases s <;> rfl
@[simp] theorem wipeE_nil (env : Env) : wipeE env [] = env := rfl
@[simp] theorem wipeE_cons (env : Env) (v : Nat) (vs : List Nat) : wipeE env (v :: vs) = (wipeE env vs).set v .un := rfl
@[simp] theorem hide_app (vs : List Nat) (env : Env) : hide vs env = wipeE (hideO env) vs := rfl
@[simp] theorem runM_app (n : Nat) (g : GS) (ds : List Dt) (w : Ds) : runM n g ds w = (match g (ds.map Sl.dat ++ List.replicate (n - ds.length) .un) w with
  | .nx _ w => .dat .non w
  | .ret d w => .dat d w
  | .rtf o w => .own o w
  | .exc c fs _ w => .exc c fs w
  | _ => .bad) := rfl
@[simp] theorem rep_zero {α : Type} (a : α) : List.replicate 0 a = [] := rfl
end
/-! ### comprehensions over a text -/
@[simp] theorem srcD_T (l : Tx) : srcD (T l) = some (l.map fun c => T [c]) := by simp [srcD]
theorem join_nil : ∀ (parts : List Str), (Str.join (Str.ofString "") parts).cps.toList = (parts.map fun p => p.cps.toList).flatten
  | [] => rfl
  | [x] => by simp [Str.join]
  | x :: y :: r => by
    have h : ∀ a b : Str, (a ++ b).cps.toList = a.cps.toList ++ b.cps.toList := fun a b => by show (a.cps ++ b.cps).toList = _; simp
    rw [Str.join, h, h, join_nil (y :: r)]
    · have e : (Str.ofString "").cps.toList = [] := rfl
      rw [e]; simp
    · intro z; cases z
theorem oJoin_nil (ls : List Tx) (h : (ls.map (·.length)).sum ≤ 16777216) : oJoin (Str.ofString "") (.lst (ls.map T)) = some (T ls.flatten) := by
  show ((strsOf (ls.map T)).bind fun ys => if (ys.map (·.length)).sum + ys.length * (Str.ofString "").length ≤ 16777216 then some (Dt.str (Txt.join (Str.ofString "") ys)) else none) = _
  rw [strsOf_map]
  have h2 : (Str.ofString "").length = 0 := rfl
  simp only [Option.bind, List.map_map, Function.comp_def, h2, sx_length, Nat.mul_zero, Nat.add_zero]
  rw [if_pos h, TL.join_eq]
  congr 2
  rw [← sx_of (Str.join _ _), join_nil]
  congr 1
  simp [List.map_map, Function.comp_def]
theorem join_signs (l : Tx) (h : l.length ≤ 16777216) : oJoin (Str.ofString "") (.lst (l.map fun c => T [c])) = some (T l) := by
  have := oJoin_nil (l.map fun c => [c]) (by
    have : ((l.map fun c => [c]).map (·.length)).sum = l.length := by
      induction l with
      | nil => rfl
      | cons a l ih => simp at h ih ⊢; rw [ih (by omega)]; omega
    rw [this]; exact h)
  rw [List.map_map] at this
  rw [show (l.map fun c => T [c]) = l.map (T ∘ fun c => [c]) from rfl, this]
  have e : ∀ l : Tx, (l.map fun c => [c]).flatten = l := fun l => by
    induction l with
    | nil => rfl
    | cons a l ih => simp only [List.map_cons, List.flatten_cons, ih]; rfl
  rw [e]
/-! ### texts of a comprehension -/
theorem gLc_text {vs : List Nat} {i : Nat} {gi : GE} {gt : GT} {ge : GE} {env : Env} {w w1 : Ds} (a : Tx) (p : Nat → Bool) (f : Nat → Dt) (hi : gi env w = .ok (T a) w1) (hs : i < (hide vs env).length)
    (ht : ∀ c ∈ a, gt ((hide vs env).set i (.dat (T [c]))) w1 = .ok (p c) w1) (he : ∀ c ∈ a, p c = true → ge ((hide vs env).set i (.dat (T [c]))) w1 = .ok (f c) w1) (hl : a.length ≤ sizeLine) :
    gLc vs (gIt srcD gi) (bName i) gt ge env w = .ok (.lst ((a.filter p).map f)) w1 :=
  gLc_map a (fun c => T [c]) p f (by rw [gIt_app, hi]; simp) (fun c hc => ⟨_, by rw [bName_app, if_pos hs], ht c hc, he c hc⟩) hl
@[simp] theorem gYes_app {env : Env} {w : Ds} : gYes env w = .ok true w := rfl
/-! ### comparisons -/
@[simp] theorem inD_T (c : Nat) (b : Tx) : inD (T [c]) (T b) = some (decide (c ∈ b)) := by
  simp only [inD, sx_toList]
@[simp] theorem oIn_T (c : Nat) (b : Tx) : oIn (T [c]) (T b) = some (.bl (decide (c ∈ b))) := by unfold oIn; rw [inD_T]; rfl
@[simp] theorem oNotIn_T (c : Nat) (b : Tx) : oNotIn (T [c]) (T b) = some (.bl (!decide (c ∈ b))) := by unfold oNotIn; rw [inD_T]; rfl
/-- a text as the laws make them -/
def Asc (l : Tx) : Prop := ∀ c ∈ l, c < 128
/-- plain data: no bools, texts of plain signs -/
inductive Pl : Nat → Dt → Prop
  | non {n : Nat} : Pl n .non
  | int {n : Nat} (i : Int) : Pl n (.int i)
  | str {n : Nat} {a : Tx} : Asc a → Pl n (T a)
  | tup {n : Nat} {xs : List Dt} : (∀ x ∈ xs, Pl n x) → Pl (n + 1) (.tup xs)
  | lst {n : Nat} {xs : List Dt} : (∀ x ∈ xs, Pl n x) → Pl (n + 1) (.lst xs)
theorem asc_ok {a : Tx} (h : Asc a) : PyData.strOk (sx a) = true := by
  unfold PyData.strOk
  simp [sx]
  intro c hc
  have := h c hc
  omega
mutual
theorem Pl.py : ∀ {n : Nat} {d : Dt}, Pl n d → ∃ p, toPy d = some p ∧ p.canLay0 = true ∧ p.depth ≤ n
  | _, _, .non => ⟨_, rfl, rfl, Nat.zero_le _⟩
  | _, _, .int i => ⟨_, rfl, rfl, Nat.zero_le _⟩
  | _, _, .str h => ⟨_, rfl, by simp only [PyData.canLay0]; exact asc_ok h, Nat.zero_le _⟩
  | n + 1, .tup xs, .tup h => by
    obtain ⟨ps, e, c, d⟩ := pl_pys xs h
    exact ⟨.tuple ps, by simp [toPy, e], by simpa [PyData.canLay0] using c, by simp only [PyData.depth]; omega⟩
  | n + 1, .lst xs, .lst h => by
    obtain ⟨ps, e, c, d⟩ := pl_pys xs h
    exact ⟨.list ps, by simp [toPy, e], by simpa [PyData.canLay0] using c, by simp only [PyData.depth]; omega⟩
theorem pl_pys {n : Nat} : ∀ xs : List Dt, (∀ x ∈ xs, Pl n x) → ∃ ps, toPys xs = some ps ∧ PyData.canLayAll0 ps = true ∧ PyData.depthAll ps ≤ n
  | [], _ => ⟨[], rfl, rfl, Nat.zero_le _⟩
  | x :: xs, h => by
    obtain ⟨p, e1, c1, d1⟩ := Pl.py (h x List.mem_cons_self)
    obtain ⟨ps, e2, c2, d2⟩ := pl_pys xs fun y hy => h y (List.mem_cons_of_mem _ hy)
    exact ⟨p :: ps, by simp [toPys, e1, e2], by simp [PyData.canLayAll0, c1, c2], by simp only [PyData.depthAll]; omega⟩
end
theorem toPys_len : ∀ {xs : List Dt} {ps : List PyData}, toPys xs = some ps → ps.length = xs.length
  | [], ps, h => by simp [toPys] at h; rw [h]; rfl
  | x :: xs, ps, h => by
    unfold toPys at h
    cases e1 : toPy x with
    | none => rw [e1] at h; cases h
    | some p =>
      cases e2 : toPys xs with
      | none => rw [e1, e2] at h; cases h
      | some q => rw [e1, e2] at h; cases h; simp [toPys_len e2]
mutual
theorem Pl.eqv : ∀ {n m : Nat} {a b : Dt} {p q : PyData}, Pl n a → Pl m b → toPy a = some p → toPy b = some q → (PyData.eqv p q = true ↔ a = b)
  | _, _, _, _, _, _, .non, hb, ea, eb => by
    cases ea
    cases hb with
    | non => cases eb; simp [PyData.eqv]
    | int j => cases eb; simp [PyData.eqv]
    | str h => cases eb; simp [PyData.eqv]
    | tup h => obtain ⟨ps, e, _⟩ := pl_pys _ h; simp [toPy, e] at eb; rw [← eb]; simp [PyData.eqv]
    | lst h => obtain ⟨ps, e, _⟩ := pl_pys _ h; simp [toPy, e] at eb; rw [← eb]; simp [PyData.eqv]
  | _, _, _, _, _, _, .int i, hb, ea, eb => by
    cases ea
    cases hb with
    | non => cases eb; simp [PyData.eqv]
    | int j => cases eb; simp [PyData.eqv]
    | str h => cases eb; simp [PyData.eqv]
    | tup h => obtain ⟨ps, e, _⟩ := pl_pys _ h; simp [toPy, e] at eb; rw [← eb]; simp [PyData.eqv]
    | lst h => obtain ⟨ps, e, _⟩ := pl_pys _ h; simp [toPy, e] at eb; rw [← eb]; simp [PyData.eqv]
  | _, _, _, _, _, _, .str h0, hb, ea, eb => by
    cases ea
    cases hb with
    | non => cases eb; simp [PyData.eqv]
    | int j => cases eb; simp [PyData.eqv]
    | str h => cases eb; simp [PyData.eqv]
    | tup h => obtain ⟨ps, e, _⟩ := pl_pys _ h; simp [toPy, e] at eb; rw [← eb]; simp [PyData.eqv]
    | lst h => obtain ⟨ps, e, _⟩ := pl_pys _ h; simp [toPy, e] at eb; rw [← eb]; simp [PyData.eqv]
  | _, _, .tup xs, b, p, q, .tup h0, hb, ea, eb => by
    obtain ⟨us, e0, _⟩ := pl_pys _ h0
    simp [toPy, e0] at ea
    rw [← ea]
    cases hb with
    | non => cases eb; simp [PyData.eqv]
    | int j => cases eb; simp [PyData.eqv]
    | str h => cases eb; simp [PyData.eqv]
    | @tup m ys h =>
      obtain ⟨ps, e, _⟩ := pl_pys _ h; simp [toPy, e] at eb; rw [← eb]
      simp only [PyData.eqv, Dt.tup.injEq]
      exact pl_eqvs xs ys h0 h e0 e
    | lst h => obtain ⟨ps, e, _⟩ := pl_pys _ h; simp [toPy, e] at eb; rw [← eb]; simp [PyData.eqv]
  | _, _, .lst xs, b, p, q, .lst h0, hb, ea, eb => by
    obtain ⟨us, e0, _⟩ := pl_pys _ h0
    simp [toPy, e0] at ea
    rw [← ea]
    cases hb with
    | non => cases eb; simp [PyData.eqv]
    | int j => cases eb; simp [PyData.eqv]
    | str h => cases eb; simp [PyData.eqv]
    | tup h => obtain ⟨ps, e, _⟩ := pl_pys _ h; simp [toPy, e] at eb; rw [← eb]; simp [PyData.eqv]
    | @lst m ys h =>
      obtain ⟨ps, e, _⟩ := pl_pys _ h; simp [toPy, e] at eb; rw [← eb]
      simp only [PyData.eqv, Dt.lst.injEq]
      exact pl_eqvs xs ys h0 h e0 e
theorem pl_eqvs {n m : Nat} : ∀ (xs ys : List Dt) {ps qs : List PyData}, (∀ x ∈ xs, Pl n x) → (∀ y ∈ ys, Pl m y) → toPys xs = some ps → toPys ys = some qs → (PyData.eqvAll ps qs = true ↔ xs = ys)
  | [], [], ps, qs, _, _, e1, e2 => by simp [toPys] at e1 e2; rw [e1, e2]; simp [PyData.eqvAll]
  | [], y :: ys, ps, qs, _, _, e1, e2 => by
    have := toPys_len e2
    simp [toPys] at e1; rw [e1]
    cases qs with
    | nil => simp at this
    | cons q qs => simp [PyData.eqvAll]
  | x :: xs, [], ps, qs, _, _, e1, e2 => by
    have := toPys_len e1
    simp [toPys] at e2; rw [e2]
    cases ps with
    | nil => simp at this
    | cons q qs => simp [PyData.eqvAll]
  | x :: xs, y :: ys, ps, qs, h1, h2, e1, e2 => by
    obtain ⟨p, ep, _⟩ := Pl.py (h1 x List.mem_cons_self)
    obtain ⟨us, eu, _⟩ := pl_pys xs fun z hz => h1 z (List.mem_cons_of_mem _ hz)
    obtain ⟨q, eq, _⟩ := Pl.py (h2 y List.mem_cons_self)
    obtain ⟨vs, ev, _⟩ := pl_pys ys fun z hz => h2 z (List.mem_cons_of_mem _ hz)
    simp [toPys, ep, eu] at e1
    simp [toPys, eq, ev] at e2
    rw [← e1, ← e2]
    simp only [PyData.eqvAll, Bool.and_eq_true, List.cons.injEq]
    exact and_congr (Pl.eqv (h1 x List.mem_cons_self) (h2 y List.mem_cons_self) ep eq) (pl_eqvs xs ys (fun z hz => h1 z (List.mem_cons_of_mem _ hz)) (fun z hz => h2 z (List.mem_cons_of_mem _ hz)) eu ev)
end
theorem eqD_pl {n m : Nat} {a b : Dt} (ha : Pl n a) (hb : Pl m b) (hn : n ≤ 64 := by decide) (hm : m ≤ 64 := by decide) : ∃ r, eqD a b = some r ∧ (r = true ↔ a = b) := by
  obtain ⟨p, e1, c1, d1⟩ := ha.py
  obtain ⟨q, e2, c2, d2⟩ := hb.py
  refine ⟨PyData.eqv p q, ?_, Pl.eqv ha hb e1 e2⟩
  unfold eqD
  rw [e1, e2]
  simp only [Option.bind]
  rw [if_pos ⟨by simp [SeqAt.shaped, c1]; omega, by simp [SeqAt.shaped, c2]; omega⟩]
/-- == where both are plain and alike -/
theorem oEq_same {n : Nat} {a : Dt} (ha : Pl n a) (hn : n ≤ 64 := by decide) : oEq a a = some (.bl true) := by
  obtain ⟨r, e, h⟩ := eqD_pl ha ha hn hn
  unfold oEq; rw [e, h.mpr rfl]; rfl
theorem oNe_same {n : Nat} {a : Dt} (ha : Pl n a) (hn : n ≤ 64 := by decide) : oNe a a = some (.bl false) := by
  obtain ⟨r, e, h⟩ := eqD_pl ha ha hn hn
  unfold oNe; rw [e, h.mpr rfl]; rfl
theorem eqD_inj {α : Type} [DecidableEq α] {n m : Nat} {f : α → Dt} (hf : ∀ x y, f x = f y → x = y) {a b : α} (ha : Pl n (f a)) (hb : Pl m (f b)) (hn : n ≤ 64 := by decide) (hm : m ≤ 64 := by decide) : eqD (f a) (f b) = some (decide (a = b)) := by
  obtain ⟨r, e, h⟩ := eqD_pl ha hb hn hm
  rw [e]
  congr 1
  by_cases z : a = b
  · rw [h.mpr (by rw [z])]; simp [z]
  · cases r with
    | false => simp [z]
    | true => exact absurd (hf _ _ (h.mp rfl)) z
@[simp] theorem eqD_int (i j : Int) : eqD (.int i) (.int j) = some (decide (i = j)) := eqD_inj (f := Dt.int) (fun _ _ h => by cases h; rfl) (n := 0) (m := 0) (.int i) (.int j)
@[simp] theorem oEq_int (i j : Int) : oEq (.int i) (.int j) = some (.bl (decide (i = j))) := by unfold oEq; rw [eqD_int]; rfl
@[simp] theorem oNe_int (i j : Int) : oNe (.int i) (.int j) = some (.bl (!decide (i = j))) := by unfold oNe; rw [eqD_int]; rfl
theorem eqD_T {a b : Tx} (ha : Asc a) (hb : Asc b) : eqD (T a) (T b) = some (decide (a = b)) := eqD_inj (f := T) (fun _ _ h => by simpa [T] using h) (n := 0) (m := 0) (.str ha) (.str hb)
theorem oEq_T {a b : Tx} (ha : Asc a) (hb : Asc b) : oEq (T a) (T b) = some (.bl (decide (a = b))) := by unfold oEq; rw [eqD_T ha hb]; rfl
theorem oNe_T {a b : Tx} (ha : Asc a) (hb : Asc b) : oNe (T a) (T b) = some (.bl (!decide (a = b))) := by unfold oNe; rw [eqD_T ha hb]; rfl
@[simp] theorem eqD_bl (i j : Bool) : eqD (.bl i) (.bl j) = some (i == j) := by cases i <;> cases j <;> rfl
@[simp] theorem oEq_bl (i j : Bool) : oEq (.bl i) (.bl j) = some (.bl (i == j)) := by unfold oEq; rw [eqD_bl]; rfl
@[simp] theorem oNe_bl (i j : Bool) : oNe (.bl i) (.bl j) = some (.bl (!(i == j))) := by unfold oNe; rw [eqD_bl]; rfl
theorem blsOf_map {α : Type} (xs : List α) (p : α → Bool) : blsOf (xs.map fun c => .bl (p c)) = some (xs.map p) := by
  induction xs with
  | nil => rfl
  | cons a xs ih => simp [blsOf, ih]
@[simp] theorem oAny_map {α : Type} (xs : List α) (p : α → Bool) : oAny [.lst (xs.map fun c => .bl (p c))] = some (.bl (xs.any p)) := by
  unfold oAny; simp only [blsOf_map]; simp [Function.comp_def]
@[simp] theorem filter_tt {α : Type} (xs : List α) : (xs.filter fun _ => true) = xs := by simp
/-! ### loops that may leave -/
theorem forG_ret {α : Type} {b : Bd} {body : GS} (I : List α → List α → Env → Ds → Prop) (R : Dt → Ds → Prop) (v : α → Dt) (xs : List α)
    (h : ∀ pre x post env w, xs = pre ++ x :: post → I pre (x :: post) env w → ∃ e1, b (v x) env = some e1 ∧ ((∃ e2 w2, body e1 w = .nx e2 w2 ∧ I (pre ++ [x]) post e2 w2) ∨ ∃ d w2, body e1 w = .ret d w2 ∧ R d w2)) :
    ∀ {env : Env} {w : Ds}, I [] xs env w → (∃ e2 w2, forG b body (xs.map v) env w = .nx e2 w2 ∧ I xs [] e2 w2) ∨ ∃ d w2, forG b body (xs.map v) env w = .ret d w2 ∧ R d w2 := by
  have key : ∀ (post pre : List α) (env : Env) (w : Ds), xs = pre ++ post → I pre post env w → (∃ e2 w2, forG b body (post.map v) env w = .nx e2 w2 ∧ I xs [] e2 w2) ∨ ∃ d w2, forG b body (post.map v) env w = .ret d w2 ∧ R d w2 := by
    intro post
    induction post with
    | nil => intro pre env w e hI; exact .inl ⟨env, w, rfl, by rw [e, List.append_nil]; exact hI⟩
    | cons x post ih =>
      intro pre env w e hI
      obtain ⟨e1, h1, h2⟩ := h pre x post env w e hI
      rw [List.map_cons]
      unfold forG
      rw [h1]
      rcases h2 with ⟨e2, w2, h3, h4⟩ | ⟨d, w2, h3, h4⟩
      · simp only
        rw [h3]
        exact ih (pre ++ [x]) e2 w2 (by rw [e]; simp) h4
      · simp only
        rw [h3]
        exact .inr ⟨d, w2, rfl, h4⟩
  exact fun {env w} hI => key xs [] env w rfl hI
@[simp] theorem sx_lt {a b : Tx} : (sx a).cps < (sx b).cps ↔ a < b := by
  show (sx a).cps.toList < (sx b).cps.toList ↔ _
  rw [sx_toList, sx_toList]
@[simp] theorem one_lt {c d : Nat} : ([c] : Tx) < [d] ↔ c < d := by
  rw [List.cons_lt_cons_iff]
  simp
/-! ### the draws' list -/
@[simp] theorem oIx_wd0 (w : Ds) : oIx w .wd (.int 0) = some (.scr w.ns) := rfl
@[simp] theorem oIx_wd1 (w : Ds) : oIx w .wd (.int 1) = some (.int w.pl) := rfl
@[simp] theorem oIx_wd2 (w : Ds) : oIx w .wd (.int 2) = some (.int w.rem) := rfl
@[simp] theorem oIx_wd3 (w : Ds) : oIx w .wd (.int 3) = some (.int w.seed) := rfl
@[simp] theorem oIx_scr (w : Ds) (ns : List Int) (i : Int) : oIx w (.scr ns) (.int i) = (atI ns i).map .int := rfl
@[simp] theorem oGt_int (i j : Int) : oGt (.int i) (.int j) = some (.bl (decide (j < i))) := rfl
@[simp] theorem oGe_int (i j : Int) : oGe (.int i) (.int j) = some (.bl (decide (j ≤ i))) := rfl
@[simp] theorem oLt_int (i j : Int) : oLt (.int i) (.int j) = some (.bl (decide (i < j))) := rfl
@[simp] theorem oAdd_int (i j : Int) : oAdd (.int i) (.int j) = some (.int (i + j)) := rfl
@[simp] theorem oSub_int (i j : Int) : oSub (.int i) (.int j) = some (.int (i - j)) := rfl
@[simp] theorem oMod_int (i j : Int) (h : 0 < j) : oMod (.int i) (.int j) = some (.int (i % j)) := if_pos h
@[simp] theorem oDiv_int (i j : Int) (h : 0 < j) (h2 : j < 1073741824) : oDiv (.int i) (.int j) = some (.int (i / j)) := if_pos ⟨h, h2⟩
def absI (i : Int) : Int := if i < 0 then -i else i
@[simp] theorem oAbs_int (i : Int) : oAbs [.int i] = some (.int (absI i)) := rfl
@[simp] theorem wdPut1 (w : Ds) (v : Int) : wdPut w 1 v = some { w with pl := v } := rfl
@[simp] theorem wdPut2 (w : Ds) (v : Int) : wdPut w 2 v = some { w with rem := v } := rfl
@[simp] theorem wdPut3 (w : Ds) (v : Int) : wdPut w 3 v = some { w with seed := v } := rfl
theorem oMul_int {i j : Int} (h : -(2 ^ 64) < j ∧ j < 2 ^ 64) : oMul (.int i) (.int j) = some (.int (i * j)) := if_pos (.inr h)
/-! ### one step at a time -/
section
variable {env e1 : Env} {w w1 w2 : Ds}
theorem sSeq_nx {a b : GS} {o : OutS} (h : a env w = .nx e1 w1) (g : b e1 w1 = o) : sSeq a b env w = o := by simp only [sSeq_app, h]; exact g
theorem sSeq_ret {a b : GS} {d : Dt} (h : a env w = .ret d w1) : sSeq a b env w = .ret d w1 := by simp only [sSeq_app, h]
theorem sSet_ok {i : Nat} {g : GE} {d : Dt} (h : g env w = .ok d w1) (hi : i < env.length := by simp) : sSet i g env w = .nx (env.set i (.dat d)) w1 := by simp only [sSet_app, h, if_pos hi]
theorem sSetF_ok {i : Nat} {g : GF} {d : Ow} (h : g env w = .ok d w1) (hi : i < env.length := by simp) : sSetF i g env w = .nx (env.set i (.own d)) w1 := by simp only [sSetF_app, h, if_pos hi]
theorem sIf_t {c : GT} {a b : GS} {o : OutS} (h : c env w = .ok true w1) (g : a env w1 = o) : sIf c a b env w = o := by simp only [sIf_app, h]; exact g
theorem sIf_f {c : GT} {a b : GS} {o : OutS} (h : c env w = .ok false w1) (g : b env w1 = o) : sIf c a b env w = o := by simp only [sIf_app, h]; exact g
theorem sRet_ok {g : GE} {d : Dt} (h : g env w = .ok d w1) : sRet g env w = .ret d w1 := by simp only [sRet_app, h]
theorem sRetF_ok {g : GF} {d : Ow} (h : g env w = .ok d w1) : sRetF g env w = .rtf d w1 := by simp only [sRetF_app, h]
theorem gCall_dat {na : Nat} {m : Mf} {ga : GA} {ds : List Dt} {r : Dt} (h : ga env w = .ok ds w1) (hm : m ds w1 = .dat r w2) (hn : ds.length = na := by rfl) : gCall na [] m ga env w = .ok r w2 := by
  simp only [gCall_app, h, bind_ok, List.append_nil, if_pos hn, hm]
theorem gCall_own {na : Nat} {m : Mf} {ga : GA} {ds : List Dt} {xs : List Dt} (h : ga env w = .ok ds w1) (hm : m ds w1 = .own (.lst xs) w2) (hn : ds.length = na := by rfl) : gCall na [] m ga env w = .ok (.lst xs) w2 := by
  simp only [gCall_app, h, bind_ok, List.append_nil, if_pos hn, hm]; rfl
theorem gCallF_own {na : Nat} {m : Mf} {ga : GA} {ds : List Dt} {o : Ow} (h : ga env w = .ok ds w1) (hm : m ds w1 = .own o w2) (hn : ds.length = na := by rfl) : gCallF na [] m ga env w = .ok o w2 := by
  simp only [gCallF_app, h, bind_ok, List.append_nil, if_pos hn, hm]
theorem sRetC_dat {na : Nat} {m : Mf} {ga : GA} {ds : List Dt} {r : Dt} (h : ga env w = .ok ds w1) (hm : m ds w1 = .dat r w2) (hn : ds.length = na := by rfl) : sRetC na [] m ga env w = .ret r w2 := by
  simp only [sRetC_app, h, List.append_nil, if_pos hn, hm]
theorem sRetC_own {na : Nat} {m : Mf} {ga : GA} {ds : List Dt} {o : Ow} (h : ga env w = .ok ds w1) (hm : m ds w1 = .own o w2) (hn : ds.length = na := by rfl) : sRetC na [] m ga env w = .rtf o w2 := by
  simp only [sRetC_app, h, List.append_nil, if_pos hn, hm]
theorem sFor_ok {gi : GA} {b : Bd} {body : GS} {items : List Dt} {o : OutS} (h : gi env w = .ok items w1) (g : forG b body items env w1 = o) : sFor gi b body env w = o := by simp only [sFor_app, h]; exact g
theorem gIts_ok {f : List Dt → Option (List Dt)} {g : GA} {d r : List Dt} (h : g env w = .ok d w1) (hf : f d = some r) : gIts f g env w = .ok r w1 := by simp only [gIts_app, h, bind_ok, hf]
theorem gIt_ok {f : Dt → Option (List Dt)} {g : GE} {d : Dt} {r : List Dt} (h : g env w = .ok d w1) (hf : f d = some r) : gIt f g env w = .ok r w1 := by simp only [gIt_app, h, bind_ok, hf]
theorem gArgs_ok {f : List Dt → Option Dt} {g : GA} {d : List Dt} {r : Dt} (h : g env w = .ok d w1) (hf : f d = some r) : gArgs f g env w = .ok r w1 := by simp only [gArgs_app, h, bind_ok, hf]
theorem gArgsF_ok {f : List Dt → Option Ow} {g : GA} {d : List Dt} {r : Ow} (h : g env w = .ok d w1) (hf : f d = some r) : gArgsF f g env w = .ok r w1 := by simp only [gArgsF_app, h, bind_ok, hf]
theorem gAnd_ok {g h : GT} {a b : Bool} (e : g env w = .ok a w1) (e' : h env w1 = .ok b w1) : gAnd g h env w = .ok (a && b) w1 := by rw [gAnd_app, e, bind_ok]; cases a <;> simp [e']
theorem gOr_ok {g h : GT} {a b : Bool} (e : g env w = .ok a w1) (e' : h env w1 = .ok b w1) : gOr g h env w = .ok (a || b) w1 := by rw [gOr_app, e, bind_ok]; cases a <;> simp [e']
theorem gNot_ok {g : GT} {a : Bool} (e : g env w = .ok a w1) : gNot g env w = .ok (!a) w1 := by rw [gNot_app, e]; rfl
theorem gLendT_ok {g : GT} {a : Bool} (e : g (lendA env) w = .ok a w1) : gLendT g env w = .ok a w1 := by rw [gLendT_app, e]
theorem ga1 {g : GE} {d : Dt} (h : g env w = .ok d w1) : gCons g gNil env w = .ok [d] w1 := by simp [h]
theorem ga2 {g g' : GE} {d d' : Dt} (h : g env w = .ok d w1) (h' : g' env w1 = .ok d' w2) : gCons g (gCons g' gNil) env w = .ok [d, d'] w2 := by simp [h, h']
theorem ga3 {g g' g'' : GE} {d d' d'' : Dt} {w3 : Ds} (h : g env w = .ok d w1) (h' : g' env w1 = .ok d' w2) (h'' : g'' env w2 = .ok d'' w3) : gCons g (gCons g' (gCons g'' gNil)) env w = .ok [d, d', d''] w3 := by simp [h, h', h'']
theorem gBin_ok {f : Dt → Dt → Option Dt} {ga gb : GE} {a b r : Dt} (h : ga env w = .ok a w1) (h' : gb env w1 = .ok b w2) (hf : f a b = some r) : gBin f ga gb env w = .ok r w2 := by simp [h, h', hf]
theorem gIx_ok {ga gb : GE} {a b r : Dt} (h : ga env w = .ok a w1) (h' : gb env w1 = .ok b w2) (hf : oIx w2 a b = some r) : gIx ga gb env w = .ok r w2 := by simp [h, h', hf]
theorem gFrz_lst {g : GF} {xs : List Dt} (h : g env w = .ok (.lst xs) w1) : gFrz g env w = .ok (.lst xs) w1 := by simp [h, Ow.dt]
theorem gM1_ok {f : Str → Dt → Option Dt} {go ge : GE} {x : Str} {d r : Dt} (h : go env w = .ok (.str x) w1) (h' : ge env w1 = .ok d w2) (hf : f x d = some r) : gM1 f go ge env w = .ok r w2 := by simp [h, h', hf]
theorem gTst_ok {g : GE} {b : Bool} (h : g env w = .ok (.bl b) w1) : gTst g env w = .ok b w1 := by simp [h]
theorem runM_ret {n : Nat} {g : GS} {ds : List Dt} {d : Dt} (h : g (ds.map Sl.dat ++ List.replicate (n - ds.length) .un) w = .ret d w1) : runM n g ds w = .dat d w1 := by simp only [runM_app, h]
theorem runM_rtf {n : Nat} {g : GS} {ds : List Dt} {d : Ow} (h : g (ds.map Sl.dat ++ List.replicate (n - ds.length) .un) w = .rtf d w1) : runM n g ds w = .own d w1 := by simp only [runM_app, h]
end
@[simp] theorem rngD_zero (n : Nat) : rngD 0 n = (List.range n).map fun k : Nat => Dt.int (k : Int) := by simp [rngD]
theorem oRng1_nat (n : Nat) (h : n < 1000000) : oRng1 [.int (n : Int)] = some ((List.range n).map fun k : Nat => Dt.int (k : Int)) := by
  have h1 : -(2 ^ 62) ≤ (n : Int) ∧ (n : Int) < 2 ^ 62 := by omega
  simp only [oRng1]
  rw [if_pos h1, rngD_zero, Int.toNat_natCast]
end Dn
end
section
noncomputable section
namespace Mi
open PySem L2 Dn
/-! _law_draw -/
def g__law_draw : GS := (sSeq (sIf (gTst (gBin oGt (gIx (gVar 0) (gOk (.int 2))) (gOk (.int 0)))) (sSeq (sSet 3 (gBin oMod (gIx (gVar 0) (gOk (.int 2))) (gVar 1))) (sSeq (sWd 0 2 (gBin oDiv (gIx (gVar 0) (gOk (.int 2))) (gVar 1))) (sRet (gVar 3)))) sSkip) (sSeq (sSet 2 (gIfE (gTst (gBin oGt (gArgs oLen (gCons (gIx (gVar 0) (gOk (.int 0))) gNil)) (gOk (.int 0)))) (gIx (gIx (gVar 0) (gOk (.int 0))) (gBin oMod (gIx (gVar 0) (gOk (.int 1))) (gArgs oLen (gCons (gIx (gVar 0) (gOk (.int 0))) gNil)))) (gOk (.int 0)))) (sSeq (sWd 0 1 (gBin oAdd (gIx (gVar 0) (gOk (.int 1))) (gOk (.int 1)))) (sSeq (sIf (gTst (gBin oGe (gArgs oAbs (gCons (gVar 2) gNil)) (gBin oPow (gOk (.int 10)) (gOk (.int 18))))) (sSeq (sWd 0 2 (gBin oDiv (gArgs oAbs (gCons (gVar 2) gNil)) (gVar 1))) (sRet (gBin oMod (gArgs oAbs (gCons (gVar 2) gNil)) (gVar 1)))) sSkip) (sSeq (sWd 0 3 (gBin oMod (gBin oAdd (gBin oAdd (gBin oMul (gIx (gVar 0) (gOk (.int 3))) (gOk (.int 69621))) (gBin oMod (gVar 2) (gOk (.int 2147483647)))) (gIx (gVar 0) (gOk (.int 1)))) (gOk (.int 2147483647)))) (sRet (gBin oMod (gBin oDiv (gIx (gVar 0) (gOk (.int 3))) (gOk (.int 64))) (gVar 1))))))))
def m__law_draw : Mf := runM 4 g__law_draw
/-! _law_letters -/
def g__law_letters : GS := (sRet (gOk (.str "abcdefghijklmnopqrstuvwxyz")))
def m__law_letters : Mf := runM 0 g__law_letters
/-! _law_head_of -/
def b__law_head_of_0 : GS := (sSeq (sSet 6 (gCall 2 [] m__law_draw (gCons (gVar 0) (gCons (gBin oAdd (gIfE (gTst (gBin oEq (gVar 5) (gOk (.int 0)))) (gVar 4) (gArgs oMin2 (gCons (gVar 4) (gCons (gOk (.int 5)) gNil)))) (gOk (.int 1))) gNil)))) (sSeq (sSet 4 (gBin oSub (gVar 4) (gVar 6))) (sSeq (sSet 2 (gBin oAdd (gVar 2) (gIx (gCall0 [] m__law_letters) (gBin oAdd (gVar 3) (gVar 6))))) (sSet 3 (gBin oAdd (gBin oAdd (gVar 3) (gVar 6)) (gOk (.int 1)))))))
def g__law_head_of : GS := (sSeq (sPar [2, 3, 4] (gCons (gOk (.str "")) (gCons (gOk (.int 0)) (gCons (gBin oSub (gOk (.int 26)) (gVar 1)) gNil)))) (sSeq (sFor (gIts oRng1 (gCons (gVar 1) gNil)) (bName 5) b__law_head_of_0) (sRet (gVar 2))))
def m__law_head_of : Mf := runM 7 g__law_head_of
/-! _law_head -/
def g__law_head : GS := (sRetC 2 [] m__law_head_of (gCons (gVar 0) (gCons (gBin oAdd (gOk (.int 2)) (gCall 2 [] m__law_draw (gCons (gVar 0) (gCons (gIx (gFrz (gLst (gCons (gOk (.int 3)) (gCons (gOk (.int 3)) (gCons (gOk (.int 5)) gNil))))) (gCall 2 [] m__law_draw (gCons (gVar 0) (gCons (gOk (.int 3)) gNil)))) gNil)))) gNil)))
def m__law_head : Mf := runM 1 g__law_head
/-! _law_in -/
/-! _law_is_set -/
/-! _law_of -/
/-! _law_off -/
/-! _law_sets -/
/-! _law_side -/
def g__law_side : GS := (sSeq (sSet 2 (gIx (gFrz (gLst (gCons (gOk (.int 2)) (gCons (gOk (.int 3)) (gCons (gOk (.int 4)) gNil))))) (gCall 2 [] m__law_draw (gCons (gVar 0) (gCons (gOk (.int 3)) gNil))))) (sRet (gM1 oJoin (gOk (.str "")) (gFrz (gLc [3] (gIt srcD (gVar 1)) (bName 3) (gTst (gBin oEq (gCall 2 [] m__law_draw (gCons (gVar 0) (gCons (gVar 2) gNil))) (gOk (.int 0)))) (gVar 3))))))
def m__law_side : Mf := runM 4 g__law_side
/-! _law_start -/
def g__law_start : GS := (sRetF (gLst (gCons (gVar 0) (gCons (gOk (.int 0)) (gCons (gOk (.int 0)) (gCons (gOk (.int 7)) gNil))))))
def m__law_start : Mf := runM 1 g__law_start
/-! _law_text -/
/-! _law_texts -/
/-! _law_truth -/
def g__law_truth : GS := (sRet (gAndV (gIsi "bool" (gVar 0)) (gBin oEq (gVar 0) (gVar 1))))
def m__law_truth : Mf := runM 2 g__law_truth
/-! common -/
def g_common : GS := (sRet (gM1 oJoin (gOk (.str "")) (gFrz (gLc [2] (gIt srcD (gVar 0)) (bName 2) (gTst (gBin oIn (gVar 2) (gVar 1))) (gVar 2)))))
def m_common : Mf := runM 3 g_common
/-! is_set -/
/-! subsets -/
/-! ordered -/
def g_ordered : GS := (sRet (gM1 oJoin (gOk (.str "")) (gFrz (gArgsF oSrtX (gCons (gVar 0) gNil)))))
def m_ordered : Mf := runM 1 g_ordered
/-! union -/
def g_union : GS := (sRetC 1 [] m_ordered (gCons (gBin oAdd (gVar 0) (gVar 1)) gNil))
def m_union : Mf := runM 2 g_union
/-! within -/
/-! without -/
def g_without : GS := (sRet (gM1 oJoin (gOk (.str "")) (gFrz (gLc [2] (gIt srcD (gVar 0)) (bName 2) (gTst (gBin oNotIn (gVar 2) (gVar 1))) (gVar 2)))))
def m_without : Mf := runM 3 g_without
/-! law_k01 -/
/-! is_saying -/
/-! looked -/
/-! side_in -/
/-! read_saying -/
/-! _law_asked -/
/-! _law_side_of -/
/-! _law_read -/
/-! _law_saying -/
def g__law_saying : GS := (sSeq (sSet 2 (gIx (gFrz (gLst (gCons (gOk (.str "tells")) (gCons (gOk (.str "tells")) (gCons (gOk (.str "parts")) gNil))))) (gCall 2 [] m__law_draw (gCons (gVar 0) (gCons (gOk (.int 3)) gNil))))) (sSeq (sSet 3 (gCall 2 [] m__law_side (gCons (gVar 0) (gCons (gVar 1) gNil)))) (sSeq (sSet 4 (gCall 2 [] m__law_side (gCons (gVar 0) (gCons (gVar 1) gNil)))) (sSeq (sIf (gAnd (gTst (gBin oEq (gVar 4) (gOk (.str "")))) (gTst (gBin oEq (gCall 2 [] m__law_draw (gCons (gVar 0) (gCons (gOk (.int 2)) gNil))) (gOk (.int 0))))) (sSet 4 (gIx (gVar 1) (gCall 2 [] m__law_draw (gCons (gVar 0) (gCons (gArgs oLen (gCons (gVar 1) gNil)) gNil))))) sSkip) (sRet (gTup (gCons (gVar 2) (gCons (gVar 3) (gCons (gVar 4) gNil)))))))))
def m__law_saying : Mf := runM 5 g__law_saying
/-! _law_spoilt -/
/-! _law_written -/
/-! side_text -/
/-! spelled -/
/-! law_k02 -/
/-! _law_heap -/
def g__law_heap : GS := (sSeq (sSet 3 (gIx (gFrz (gLst (gCons (gOk (.int 2)) (gCons (gOk (.int 2)) (gCons (gOk (.int 3)) (gCons (gOk (.int 4)) (gCons (gOk (.int 1000)) gNil))))))) (gCall 2 [] m__law_draw (gCons (gVar 0) (gCons (gOk (.int 5)) gNil))))) (sRetF (gLc [4] (gIts oRng1 (gCons (gCall 2 [] m__law_draw (gCons (gVar 0) (gCons (gBin oAdd (gVar 2) (gOk (.int 1))) gNil))) gNil)) (bName 4) gYes (gArgs oTuple (gCons (gFrz (gLc [5] (gIt srcD (gVar 1)) (bName 5) gYes (gCall 2 [] m__law_draw (gCons (gVar 0) (gCons (gVar 3) gNil))))) gNil)))))
def m__law_heap : Mf := runM 6 g__law_heap
/-! idle -/
/-! cells_of -/
def g_cells_of : GS := (sRet (gArgs oTuple (gCons (gFrz (gLc [3, 4] (gIts oZip2 (gCons (gVar 0) (gCons (gVar 1) gNil))) (bTup (bCons (bName 3) (bCons (bName 4) bNil))) (gTst (gBin oIn (gVar 4) (gVar 2))) (gVar 3))) gNil)))
def m_cells_of : Mf := runM 5 g_cells_of
/-! wanted -/
def g_wanted : GS := (sRet (gArgs oTuple (gCons (gFrz (gLc [4, 5, 6] (gIts oZip3 (gCons (gVar 0) (gCons (gVar 1) (gCons (gVar 2) gNil)))) (bTup (bCons (bName 4) (bCons (bName 5) (bCons (bName 6) bNil)))) gYes (gIfE (gTst (gBin oIn (gVar 6) (gVar 3))) (gVar 4) (gVar 5)))) gNil)))
def m_wanted : Mf := runM 7 g_wanted
/-! clash_of_parts -/
def b_clash_of_parts_0 : GS := (sIf (gTst (gBin oEq (gCall 3 [] m_cells_of (gCons (gVar 6) (gCons (gVar 1) (gCons (gVar 2) gNil)))) (gCall 3 [] m_cells_of (gCons (gVar 7) (gCons (gVar 1) (gCons (gVar 2) gNil)))))) (sSeq (sSet 8 (gCall 4 [] m_wanted (gCons (gVar 6) (gCons (gVar 7) (gCons (gVar 1) (gCons (gVar 5) gNil)))))) (sIf (gLendT (gTst (gBin oNotInK (gVar 8) (gVar 4)))) (sRet (gTup (gCons (gVar 6) (gCons (gVar 7) (gCons (gVar 8) gNil))))) sSkip)) sSkip)
def b_clash_of_parts_1 : GS := (sFor (gIt srcD (gVar 0)) (bName 7) b_clash_of_parts_0)
def g_clash_of_parts : GS := (sSeq (sSetF 4 (gDc [9] (gIt srcD (gVar 0)) (bName 9) gYes (gVar 9) (gOk (.bl true)))) (sSeq (sSet 5 (gCall 2 [] m_union (gCons (gVar 2) (gCons (gVar 3) gNil)))) (sSeq (sFor (gIt srcD (gVar 0)) (bName 6) b_clash_of_parts_1) (sRet (gOk .non)))))
def m_clash_of_parts : Mf := runM 10 g_clash_of_parts
/-! clash_of_tells -/
def b_clash_of_tells_0 : GS := (sIf (gTst (gBin oEq (gCall 3 [] m_cells_of (gCons (gVar 5) (gCons (gVar 1) (gCons (gVar 2) gNil)))) (gCall 3 [] m_cells_of (gCons (gVar 6) (gCons (gVar 1) (gCons (gVar 2) gNil)))))) (sIf (gTst (gBin oNe (gCall 3 [] m_cells_of (gCons (gVar 5) (gCons (gVar 1) (gCons (gVar 3) gNil)))) (gCall 3 [] m_cells_of (gCons (gVar 6) (gCons (gVar 1) (gCons (gVar 3) gNil)))))) (sRet (gTup (gCons (gVar 5) (gCons (gVar 6) gNil)))) sSkip) sSkip)
def b_clash_of_tells_1 : GS := (sFor (gIt srcD (gSl (gVar 0) (gPart (gBin oAdd (gVar 4) (gOk (.int 1)))) gNoPart)) (bName 6) b_clash_of_tells_0)
def g_clash_of_tells : GS := (sSeq (sFor (gIts (oEnum 0) (gCons (gVar 0) gNil)) (bTup (bCons (bName 4) (bCons (bName 5) bNil))) b_clash_of_tells_1) (sRet (gOk .non)))
def m_clash_of_tells : Mf := runM 7 g_clash_of_tells
/-! rising -/
def g_rising : GS := (sRetF (gSrtSc [1] (gIt srcD (gVar 0)) (bName 1) gYes (gArgs oTuple (gCons (gVar 1) gNil))))
def m_rising : Mf := runM 2 g_rising
/-! clash -/
def g_clash : GS := (sSeq (sAsg (bTup (bCons (bName 3) (bCons (bName 4) (bCons (bName 5) bNil)))) (gVar 2)) (sSeq (sIf (gTst (gBin oEq (gVar 3) (gOk (.str "tells")))) (sRetC 4 [] m_clash_of_tells (gCons (gCall 1 [] m_rising (gCons (gVar 0) gNil)) (gCons (gVar 1) (gCons (gVar 4) (gCons (gCall 2 [] m_without (gCons (gVar 5) (gCons (gVar 4) gNil))) gNil))))) sSkip) (sRetC 4 [] m_clash_of_parts (gCons (gCall 1 [] m_rising (gCons (gVar 0) gNil)) (gCons (gVar 1) (gCons (gVar 4) (gCons (gVar 5) gNil)))))))
def m_clash : Mf := runM 6 g_clash
/-! keeps -/
def g_keeps : GS := (sRet (gBin oIs (gCall 3 [] m_clash (gCons (gVar 0) (gCons (gVar 1) (gCons (gVar 2) gNil)))) (gOk .non)))
def m_keeps : Mf := runM 3 g_keeps
/-! law_k03 -/
/-! Book___eq__ -/
/-! Book___init__ -/
/-! Book___len__ -/
/-! Book_has -/
/-! Book_sayings -/
/-! Book___repr__ -/
/-! Book_page_rows -/
/-! Book___str__ -/
/-! Book_alone -/
/-! Book_columns -/
/-! _law_page_rows -/
/-! _law_is_book -/
/-! _law_unlike -/
/-! _law_said -/
/-! law_k07 -/
/-! _law_columns -/
/-! _law_made -/
/-! _law_many -/
/-! _law_odd -/
/-! law_k08 -/
/-! _law_cut_pair -/
/-! _law_blocks -/
/-! _law_tells -/
/-! _law_follows -/
/-! cut_once -/
def b_cut_once_0 : GS := (sSeq (sSet 6 (gCall 2 [] m_common (gCons (gVar 5) (gCons (gVar 3) gNil)))) (sIf (gAnd (gTst (gBin oEq (gCall 2 [] m_common (gCons (gVar 5) (gCons (gVar 2) gNil))) (gOk (.str "")))) (gTst (gBin oNotInT (gVar 6) (gTup (gCons (gOk (.str "")) (gCons (gVar 5) gNil)))))) (sRet (gTup (gCons (gVar 4) (gCons (gVar 2) (gCons (gVar 3) gNil))))) sSkip))
def b_cut_once_1 : GS := (sFor (gIts (oEnum 0) (gCons (gVar 0) gNil)) (bTup (bCons (bName 4) (bCons (bName 5) bNil))) b_cut_once_0)
def g_cut_once : GS := (sSeq (sFor (gIt srcD (gVar 1)) (bTup (bCons (bName 2) (bCons (bName 3) bNil))) b_cut_once_1) (sRet (gOk .non)))
def m_cut_once : Mf := runM 7 g_cut_once
/-! cutters -/
def b_cutters_0 : GS := (sIf (gTst (gBin oEq (gVar 2) (gOk (.str "tells")))) (sLm 1 fExt (gCons (gFrz (gLc [5] (gIt srcD (gVar 4)) (bName 5) gYes (gTup (gCons (gVar 3) (gCons (gVar 5) gNil))))) gNil)) (sLm 1 fApp (gCons (gTup (gCons (gVar 3) (gCons (gVar 4) gNil))) gNil)))
def g_cutters : GS := (sSeq (sSetF 1 (gLst gNil)) (sSeq (sFor (gIt srcD (gBind1 (oFld ["Book"] "said") (gVar 0))) (bTup (bCons (bName 2) (bCons (bName 3) (bCons (bName 4) bNil)))) b_cutters_0) (sRetV 1)))
def m_cutters : Mf := runM 6 g_cutters
/-! blocks_of -/
def b_blocks_of_0 : GS := (sSeq (sAsg (bTup (bCons (bName 6) (bCons (bName 7) (bCons (bName 8) bNil)))) (gVar 5)) (sSeq (sSet 9 (gLend (gIx (gVar 3) (gVar 6)))) (sSeq (sSlc 3 (gPart (gVar 6)) (gPart (gBin oAdd (gVar 6) (gOk (.int 1)))) (gFrz (gLst (gCons (gCall 2 [] m_common (gCons (gVar 9) (gCons (gVar 8) gNil))) (gCons (gCall 2 [] m_without (gCons (gVar 9) (gCons (gVar 8) gNil))) gNil))))) (sSet 5 (gLend (gCall 2 [] m_cut_once (gCons (gVar 3) (gCons (gVar 4) gNil))))))))
def g_blocks_of : GS := (sSeq (sSet 2 (gCall 2 [] m_without (gCons (gBind1 (oFld ["Book"] "letters") (gVar 0)) (gCons (gVar 1) gNil)))) (sSeq (sSetF 3 (gIfF (gTst (gBin oNe (gVar 2) (gOk (.str "")))) (gLst (gCons (gVar 2) gNil)) (gLst gNil))) (sSeq (sSet 4 (gCall 1 [] m_cutters (gCons (gVar 0) gNil))) (sSeq (sSet 5 (gLend (gCall 2 [] m_cut_once (gCons (gVar 3) (gCons (gVar 4) gNil))))) (sSeq (sWhile (gTst (gBin oIsNot (gVar 5) (gOk .non))) b_blocks_of_0) (sRetV 3))))))
def m_blocks_of : Mf := runM 10 g_blocks_of
/-! made_of -/
/-! need_columns -/
/-! teller_of -/
/-! told -/
/-! follows -/
/-! parted -/
/-! _law_right -/
/-! law_k10 -/
/-! against -/
/-! chain -/
/-! _law_asked_k11 -/
/-! _law_odd_k11 -/
/-! law_k11 -/
/-! Book_more -/
/-! law_k13 -/
/-! _law_cells -/
def g__law_cells : GS := (sRet (gArgs oTuple (gCons (gFrz (gLc [3] (gIts oRng1 (gCons (gArgs oLen (gCons (gVar 1) gNil)) gNil)) (bName 3) (gTst (gBin oIn (gIx (gVar 1) (gVar 3)) (gVar 2))) (gIx (gVar 0) (gVar 3)))) gNil)))
def m__law_cells : Mf := runM 4 g__law_cells
/-! _law_crossed -/
def g__law_crossed : GS := (sRet (gArgs oTuple (gCons (gFrz (gLc [4] (gIts oRng1 (gCons (gArgs oLen (gCons (gVar 2) gNil)) gNil)) (bName 4) gYes (gIfE (gTst (gBin oIn (gIx (gVar 2) (gVar 4)) (gVar 3))) (gIx (gVar 0) (gVar 4)) (gIx (gVar 1) (gVar 4))))) gNil)))
def m__law_crossed : Mf := runM 5 g__law_crossed
/-! _law_clash -/
def b__law_clash_0 : GS := (sSeq (sSet 8 (gIx (gVar 0) (gVar 6))) (sSeq (sSet 9 (gIx (gVar 0) (gVar 7))) (sIf (gTst (gBin oEq (gCall 3 [] m__law_cells (gCons (gVar 8) (gCons (gVar 1) (gCons (gVar 4) gNil)))) (gCall 3 [] m__law_cells (gCons (gVar 9) (gCons (gVar 1) (gCons (gVar 4) gNil)))))) (sSeq (sSet 10 (gBin oNe (gCall 3 [] m__law_cells (gCons (gVar 8) (gCons (gVar 1) (gCons (gVar 5) gNil)))) (gCall 3 [] m__law_cells (gCons (gVar 9) (gCons (gVar 1) (gCons (gVar 5) gNil)))))) (sSeq (sIf (gAnd (gTst (gBin oEq (gVar 3) (gOk (.str "tells")))) (gAnd (gTst (gBin oGt (gVar 7) (gVar 6))) (gTst (gVar 10)))) (sRet (gTup (gCons (gVar 8) (gCons (gVar 9) gNil)))) sSkip) (sSeq (sSet 11 (gCall 4 [] m__law_crossed (gCons (gVar 8) (gCons (gVar 9) (gCons (gVar 1) (gCons (gBin oAdd (gVar 4) (gVar 5)) gNil)))))) (sIf (gAnd (gTst (gBin oEq (gVar 3) (gOk (.str "parts")))) (gTst (gBin oNotIn (gVar 11) (gVar 0)))) (sRet (gTup (gCons (gVar 8) (gCons (gVar 9) (gCons (gVar 11) gNil))))) sSkip)))) sSkip)))
def b__law_clash_1 : GS := (sFor (gIts oRng1 (gCons (gArgs oLen (gCons (gVar 0) gNil)) gNil)) (bName 7) b__law_clash_0)
def g__law_clash : GS := (sSeq (sAsg (bTup (bCons (bName 3) (bCons (bName 4) (bCons (bName 5) bNil)))) (gVar 2)) (sSeq (sFor (gIts oRng1 (gCons (gArgs oLen (gCons (gVar 0) gNil)) gNil)) (bName 6) b__law_clash_1) (sRet (gOk .non))))
def m__law_clash : Mf := runM 12 g__law_clash
/-! _law_rising -/
def g__law_rising : GS := (sRetF (gArgsF oSrtT (gCons (gFrz (gLc [1] (gIt srcD (gVar 0)) (bName 1) gYes (gArgs oTuple (gCons (gVar 1) gNil)))) gNil)))
def m__law_rising : Mf := runM 2 g__law_rising
/-! _law_whole -/
/-! _law_is_table -/
/-! _law_keeps_all -/
/-! against_k17 -/
/-! law_k17 -/
/-! _law_least -/
/-! _law_all_keys -/
/-! _law_all_lean -/
/-! least_of -/
/-! keys -/
/-! lean_sayings -/
/-! law_k19 -/
/-! stronger -/
/-! alike -/
/-! _law_compared -/
/-! _law_others -/
/-! _law_left -/
/-! _law_more -/
/-! others_of -/
/-! lean -/
/-! spare -/
/-! law_k20 -/
/-! blocks_within -/
/-! part_keys -/
/-! first_fault -/
/-! fault -/
/-! _law_asked_k23 -/
/-! _law_due -/
/-! law_k23 -/
/-! _law_asked_k24 -/
/-! greatest -/
/-! split_off -/
/-! _law_off_by -/
/-! law_k24 -/
/-! _law_good_fault -/
/-! law_k25 -/
/-! looked_parts -/
/-! told_by_parts -/
/-! tells_lost -/
/-! _law_asked_k32 -/
/-! _law_bad_place -/
/-! _law_bent_split -/
/-! _law_grown_k32 -/
/-! _law_split -/
/-! law_k32 -/
/-! _law_lean -/
/-! read_lean -/
/-! _law_six_right -/
/-! read_parted -/
/-! law_k36 -/
/-! is_column -/
/-! Book_wider -/
/-! _law_right_k72 -/
/-! law_k72 -/
end Mi
end
end
section
/-! Sets of columns. -/
namespace Mi
open PySem L2 Dn
theorem sz_line : sizeLine = 16777216 := by decide
def commonL (a b : Tx) : Tx := a.filter fun c => decide (c ∈ b)
def withoutL (a b : Tx) : Tx := a.filter fun c => !decide (c ∈ b)
def withinL (a b : Tx) : Bool := a.all fun c => decide (c ∈ b)
/-! ### strictly rising rows of codes -/
abbrev Ris (l : Tx) : Prop := l.Pairwise (· < ·)
theorem Ris.nodup {l : Tx} (h : Ris l) : l.Nodup := h.imp fun h => Nat.ne_of_lt h
theorem ris_ext {a b : Tx} (ha : Ris a) (hb : Ris b) (h : ∀ c, c ∈ a ↔ c ∈ b) : a = b :=
  List.Perm.eq_of_pairwise (le := (· < ·)) (fun x y _ _ h1 h2 => absurd h1 (Nat.lt_asymm h2)) ha hb ((List.perm_ext_iff_of_nodup ha.nodup hb.nodup).mpr h)
def ins (c : Nat) : Tx → Tx
  | [] => [c]
  | d :: l => if c < d then c :: d :: l else if c = d then d :: l else d :: ins c l
def ordL (x : Tx) : Tx := x.foldr ins []
theorem mem_ins {c e : Nat} : ∀ {l : Tx}, e ∈ ins c l ↔ e = c ∨ e ∈ l
  | [] => by simp [ins]
  | d :: l => by
    unfold ins
    split
    · simp
    · split
      · rename_i h; subst h; simp
      · rw [List.mem_cons, mem_ins (l := l), List.mem_cons]
        exact ⟨fun h => by rcases h with h | h | h <;> simp [h], fun h => by rcases h with h | h | h <;> simp [h]⟩
theorem ris_ins {c : Nat} : ∀ {l : Tx}, Ris l → Ris (ins c l)
  | [], _ => by simp [ins]
  | d :: l, h => by
    obtain ⟨h1, h2⟩ := List.pairwise_cons.mp h
    unfold ins
    split
    · rename_i hc
      exact List.pairwise_cons.mpr ⟨fun a ha => (List.mem_cons.mp ha).elim (fun e => e ▸ hc) fun ha => Nat.lt_trans hc (h1 a ha), h⟩
    · split
      · exact h
      · rename_i n1 n2
        refine List.pairwise_cons.mpr ⟨fun a ha => ?_, ris_ins h2⟩
        rcases mem_ins.mp ha with e | e
        · rw [e]; omega
        · exact h1 a e
theorem ins_len {c : Nat} : ∀ {l : Tx}, (ins c l).length ≤ l.length + 1
  | [] => Nat.le_refl _
  | d :: l => by
    unfold ins
    split
    · simp
    · split
      · simp
      · have := ins_len (c := c) (l := l); simp; omega
theorem ris_ordL : ∀ x : Tx, Ris (ordL x)
  | [] => List.Pairwise.nil
  | c :: x => ris_ins (ris_ordL x)
@[simp] theorem mem_ordL {e : Nat} : ∀ {x : Tx}, e ∈ ordL x ↔ e ∈ x
  | [] => Iff.rfl
  | c :: x => by
    show e ∈ ins c (ordL x) ↔ _
    rw [mem_ins, mem_ordL, List.mem_cons]
theorem ordL_len : ∀ x : Tx, (ordL x).length ≤ x.length
  | [] => Nat.le_refl _
  | c :: x => by
    have h1 := ins_len (c := c) (l := ordL x)
    have h2 := ordL_len x
    show (ins c (ordL x)).length ≤ x.length + 1
    omega
def unionL (a b : Tx) : Tx := ordL (a ++ b)
theorem addK_nodup {κ : Type} [DecidableEq κ] {k : κ} {ks : List κ} (h : ks.Nodup) : (Sk.addK k ks).Nodup := by
  unfold Sk.addK
  split
  · exact h
  · rename_i n; exact List.nodup_cons.mpr ⟨n, h⟩
theorem addAll_nodup {κ : Type} [DecidableEq κ] : ∀ {r ks : List κ}, ks.Nodup → (Sk.addAll ks r).Nodup
  | [], _, h => h
  | k :: r, ks, h => addAll_nodup (r := r) (addK_nodup (k := k) h)
abbrev sg (c : Nat) : Str := sx [c]
theorem sg_inj {c d : Nat} (h : sg c = sg d) : c = d := by have := sx_inj h; simpa using this
theorem srt_signs (x : Tx) : srtS (Sk.addAll [] (Sk.signs (sx x))) = (ordL x).map sg := by
  have hs : Sk.signs (sx x) = x.map sg := by simp [Sk.signs, sx]
  rw [hs]
  have hp : (Sk.addAll [] (x.map sg)).Perm ((ordL x).map sg) := by
    refine (List.perm_ext_iff_of_nodup (addAll_nodup List.nodup_nil) ?_).mpr fun a => ?_
    · exact List.pairwise_map.mpr ((ris_ordL x).nodup.imp fun {a b} h e => h (sg_inj e))
    · rw [Sk.mem_addAll]
      simp
  rw [srtS_perm hp]
  unfold srtS
  refine List.mergeSort_of_pairwise (List.pairwise_map.mpr ((ris_ordL x).imp fun {a b} h => ?_))
  simp only [leS, sg, sx_toList, decide_eq_true_eq]
  exact List.le_of_lt (List.Lex.rel h)
theorem oSrtX_eq {x : Tx} (h : x.length + 1 < 4096) : oSrtX [T x] = some (.lst ((ordL x).map fun c => T [c])) := by
  show (if (sx x).cps.size + 1 < scanBound then some (Ow.lst ((srtS (Sk.addAll [] (Sk.signs (sx x)))).map Dt.str)) else none) = _
  rw [sx_size, if_pos (by simpa [scanBound] using h), srt_signs, List.map_map]
  rfl
theorem m_ordered_eq {x : Tx} {w : Ds} (h : x.length + 1 < 4096) : m_ordered [T x] w = .dat (T (ordL x)) w := by
  have hl := ordL_len x
  simp [m_ordered, g_ordered, oSrtX_eq h, Ow.dt, join_signs (ordL x) (by omega)]
theorem m_union_eq {a b : Tx} {w : Ds} (h : a.length + b.length + 1 < 4096) : m_union [T a, T b] w = .dat (T (unionL a b)) w := by
  have e : m_ordered [T (a ++ b)] w = .dat (T (unionL a b)) w := m_ordered_eq (by simp; omega)
  simp [m_union, g_union, oAdd, sz_line, show a.length + b.length ≤ 16777216 by omega, e]
theorem m_common_eq {a b : Tx} {w : Ds} (ha : a.length ≤ 16777216) : m_common [T a, T b] w = .dat (T (commonL a b)) w := by
  have h := gLc_text (vs := [2]) (i := 2) (gi := gVar 0) (gt := gTst (gBin oIn (gVar 2) (gVar 1))) (ge := gVar 2) (env := [.dat (T a), .dat (T b), .un]) (w := w) (w1 := w) a (fun c => decide (c ∈ b)) (fun c => T [c]) (by simp) (by simp) (by intro c hc; simp) (by intro c hc _; simp) (by rw [sz_line]; exact ha)
  have hl : (a.filter fun c => decide (c ∈ b)).length ≤ 16777216 := Nat.le_trans (List.length_filter_le _ _) ha
  simp [m_common, g_common, h, Ow.dt, join_signs _ hl, commonL]
theorem m_without_eq {a b : Tx} {w : Ds} (ha : a.length ≤ 16777216) : m_without [T a, T b] w = .dat (T (withoutL a b)) w := by
  have h := gLc_text (vs := [2]) (i := 2) (gi := gVar 0) (gt := gTst (gBin oNotIn (gVar 2) (gVar 1))) (ge := gVar 2) (env := [.dat (T a), .dat (T b), .un]) (w := w) (w1 := w) a (fun c => !decide (c ∈ b)) (fun c => T [c]) (by simp) (by simp) (by intro c hc; simp) (by intro c hc _; simp) (by rw [sz_line]; exact ha)
  have hl : (a.filter fun c => !decide (c ∈ b)).length ≤ 16777216 := Nat.le_trans (List.length_filter_le _ _) ha
  simp only [m_without, g_without, runM_app, List.map, List.length, List.replicate, List.cons_append, List.nil_append, Nat.reduceAdd, Nat.reduceSub, sRet_app, gM1_app, gOk_app, bind_ok, gFrz_app, h, Ow.dt, join_signs _ hl, withoutL]
/-! ### is_set -/
def letters : Tx := [97, 98, 99, 100, 101, 102, 103, 104, 105, 106, 107, 108, 109, 110, 111, 112, 113, 114, 115, 116, 117, 118, 119, 120, 121, 122]
theorem letters_eq : (Str.ofString "abcdefghijklmnopqrstuvwxyz") = sx letters := by decide +kernel
def adjL : Tx → Bool
  | c :: d :: l => decide (c < d) && adjL (d :: l)
  | _ => true
def isSetL (l : Tx) : Bool := l.all (fun c => decide (c ∈ letters)) && adjL l
theorem adj_ris : ∀ {l : Tx}, adjL l = true ↔ Ris l
  | [] => by simp [adjL]
  | [c] => by simp [adjL]
  | c :: d :: l => by
    rw [adjL, Bool.and_eq_true, adj_ris, decide_eq_true_eq]
    refine ⟨fun ⟨h1, h2⟩ => List.pairwise_cons.mpr ⟨fun a ha => ?_, h2⟩, fun h => ⟨(List.pairwise_cons.mp h).1 d List.mem_cons_self, (List.pairwise_cons.mp h).2⟩⟩
    rcases List.mem_cons.mp ha with e | e
    · rw [e]; exact h1
    · exact Nat.lt_trans h1 ((List.pairwise_cons.mp h2).1 a e)
/-! ### the law's own -/
theorem m__law_letters_eq {w : Ds} : m__law_letters [] w = .dat (T letters) w := by
  simp [m__law_letters, g__law_letters, letters_eq]
theorem m__law_truth_eq {a b : Bool} {w : Ds} : m__law_truth [.bl a, .bl b] w = .dat (.bl (a == b)) w := by
  have e : (tyD (.bl a)).bind (fun t => kitB t "bool") = some true := by rfl
  simp [m__law_truth, g__law_truth, e]
/-! ### draws -/
structure Wk (w : Ds) : Prop where
  len : w.ns.length ≤ 63
theorem ixN_mod {n : Nat} {i : Int} (h : 0 < n) : ixN n (i % n) = some (i % n).toNat := by
  have h1 := Int.emod_nonneg i (show (n : Int) ≠ 0 by omega)
  have h2 := Int.emod_lt_of_pos i (show (0 : Int) < n by omega)
  unfold ixN
  rw [if_pos h1, if_pos h2]
theorem m__law_draw_eq {w : Ds} {many : Int} (hw : Wk w) (h0 : 0 < many) (h1 : many < 1073741824) : ∃ r w', m__law_draw [.wd, .int many] w = .dat (.int r) w' ∧ 0 ≤ r ∧ r < many ∧ Wk w' := by
  have md : ∀ x : Int, 0 ≤ x % many ∧ x % many < many := fun x => ⟨Int.emod_nonneg _ (by omega), Int.emod_lt_of_pos _ h0⟩
  by_cases hr : 0 < w.rem
  · exact ⟨w.rem % many, { w with rem := w.rem / many }, by simp [m__law_draw, g__law_draw, hr, h0, h1], (md _).1, (md _).2, ⟨hw.len⟩⟩
  · have hl : w.ns.length ≤ 16777216 := Nat.le_trans hw.len (by decide)
    have cell : ∃ c : Int, (gIfE (gTst (gBin oGt (gArgs oLen (gCons (gIx (gVar 0) (gOk (.int 0))) gNil)) (gOk (.int 0)))) (gIx (gIx (gVar 0) (gOk (.int 0))) (gBin oMod (gIx (gVar 0) (gOk (.int 1))) (gArgs oLen (gCons (gIx (gVar 0) (gOk (.int 0))) gNil)))) (gOk (.int 0))) [.dat .wd, .dat (.int many), .un, .un] w = .ok (.int c) w := by
      by_cases hn : w.ns = []
      · exact ⟨0, by simp [oLen, hn]⟩
      · have hp : 0 < w.ns.length := List.length_pos_iff.mpr hn
        have hz := @ixN_mod w.ns.length w.pl hp
        have hlt : (w.pl % (w.ns.length : Int)).toNat < w.ns.length := by
          have h1 := Int.emod_nonneg w.pl (show (w.ns.length : Int) ≠ 0 by omega)
          have h2 := Int.emod_lt_of_pos w.pl (show (0 : Int) < w.ns.length by omega)
          omega
        have ha : atI w.ns (w.pl % (w.ns.length : Int)) = some (w.ns[(w.pl % (w.ns.length : Int)).toNat]) := by
          unfold atI
          rw [hz]
          exact List.getElem?_eq_getElem hlt
        exact ⟨w.ns[(w.pl % (w.ns.length : Int)).toNat], by simp [oLen, hp, ha, show (0 : Int) < w.ns.length by omega]⟩
    obtain ⟨c, hc⟩ := cell
    have hp : oPow (.int 10) (.int 18) = some (.int 1000000000000000000) := rfl
    by_cases hb : 1000000000000000000 ≤ absI c
    · exact ⟨absI c % many, { w with pl := w.pl + 1, rem := absI c / many }, by
        simp [-gIfE_app, m__law_draw, g__law_draw, hr, h0, h1, hc, hp, hb], (md _).1, (md _).2, ⟨hw.len⟩⟩
    · exact ⟨(((w.seed * 69621 + c % 2147483647 + (w.pl + 1)) % 2147483647) / 64) % many, { w with pl := w.pl + 1, seed := (w.seed * 69621 + c % 2147483647 + (w.pl + 1)) % 2147483647 }, by
        simp [-gIfE_app, m__law_draw, g__law_draw, hr, h0, h1, hc, hp, hb, oMul_int], (md _).1, (md _).2, ⟨hw.len⟩⟩
/-! ### heads, sides, texts -/
/-- the laws' heads: rising letters -/
structure Hd (h : Tx) : Prop where
  ris : Ris h
  let_ : ∀ c ∈ h, c ∈ letters
  lo : 2 ≤ h.length
  hi : h.length ≤ 6
theorem let_range {c : Nat} : c ∈ letters ↔ 97 ≤ c ∧ c ≤ 122 := by
  refine ⟨fun h => ?_, fun ⟨h1, h2⟩ => ?_⟩
  · have : letters.all (fun c => decide (97 ≤ c) && decide (c ≤ 122)) = true := by decide
    have := List.all_eq_true.mp this c h
    simpa using this
  · have : ∀ k : Fin 26, (97 + k.val) ∈ letters := by decide
    have := this ⟨c - 97, by omega⟩
    rwa [show 97 + (c - 97) = c by omega] at this
theorem atI_letters {i : Nat} (h : i < 26) : atI letters (i : Int) = some (97 + i) := by
  have : ∀ k : Fin 26, atI letters ((k.val : Nat) : Int) = some (97 + k.val) := by decide
  exact this ⟨i, h⟩
theorem oMin2_int (i j : Int) : oMin2 [.int i, .int j] = some (.int (if j < i then j else i)) := rfl
def headI (many : Nat) (pre _post : List Nat) (env : Dn.Env) (w : Ds) : Prop :=
  ∃ (hd : Tx) (at_ sp : Nat) (k1 k2 : Sl), env = [.dat .wd, .dat (.int many), .dat (T hd), .dat (.int at_), .dat (.int sp), k1, k2] ∧ Wk w ∧ hd.length = pre.length ∧ at_ + sp + (many - pre.length) = 26 ∧ Ris hd ∧ ∀ c ∈ hd, 97 ≤ c ∧ c < 97 + at_
theorem range_at {n : Nat} {pre post : List Nat} {x : Nat} (h : List.range n = pre ++ x :: post) : x = pre.length ∧ pre.length < n := by
  have h1 : (List.range n).length = (pre ++ x :: post).length := by rw [h]
  have h2 : (List.range n)[pre.length]? = some x := by rw [h]; simp
  simp at h1
  rw [List.getElem?_range (by omega)] at h2
  exact ⟨(Option.some.inj h2).symm, by omega⟩
theorem ris_snoc {l : Tx} {c : Nat} (h : Ris l) (hc : ∀ d ∈ l, d < c) : Ris (l ++ [c]) :=
  List.pairwise_append.mpr ⟨h, List.pairwise_singleton _ _, fun a ha b hb => by rw [List.mem_singleton.mp hb]; exact hc a ha⟩
theorem head_turn {many : Nat} (h1 : many ≤ 6) {pre post : List Nat} {x : Nat} {env : Dn.Env} {w : Ds} (hx : List.range many = pre ++ x :: post) (hI : headI many pre (x :: post) env w) :
    ∃ e1, bName 5 (.int (x : Int)) env = some e1 ∧ ∃ e2 w2, b__law_head_of_0 e1 w = .nx e2 w2 ∧ headI many (pre ++ [x]) post e2 w2 := by
  obtain ⟨hd, at_, sp, k1, k2, rfl, hw, hl, hs, hr, hc⟩ := hI
  obtain ⟨hx1, hx2⟩ := range_at hx
  refine ⟨[.dat .wd, .dat (.int many), .dat (T hd), .dat (.int at_), .dat (.int sp), .dat (.int (x : Int)), k2], by simp, ?_⟩
  have arg : ∃ m : Int, (gBin oAdd (gIfE (gTst (gBin oEq (gVar 5) (gOk (.int 0)))) (gVar 4) (gArgs oMin2 (gCons (gVar 4) (gCons (gOk (.int 5)) gNil)))) (gOk (.int 1))) [.dat .wd, .dat (.int many), .dat (T hd), .dat (.int at_), .dat (.int sp), .dat (.int (x : Int)), k2] w = .ok (.int m) w ∧ 0 < m ∧ m ≤ sp + 1 := by
    by_cases hz : x = 0
    · exact ⟨sp + 1, by simp [hz], by omega, by omega⟩
    · refine ⟨(if (5 : Int) < sp then 5 else (sp : Int)) + 1, by simp [oMin2_int, hz], ?_, ?_⟩
      · split <;> omega
      · split <;> omega
  obtain ⟨m, e0, m0, m1⟩ := arg
  obtain ⟨r, w1, e1, r0, r1, hw1⟩ := m__law_draw_eq hw m0 (by omega)
  obtain ⟨k, rfl⟩ : ∃ k : Nat, r = k := ⟨r.toNat, by omega⟩
  have hat : atI letters ((at_ : Int) + (k : Int)) = some (97 + (at_ + k)) := by
    have := atI_letters (i := at_ + k) (by omega)
    rwa [Int.natCast_add] at this
  refine ⟨[.dat .wd, .dat (.int many), .dat (T (hd ++ [97 + (at_ + k)])), .dat (.int ((at_ + k + 1 : Nat) : Int)), .dat (.int ((sp - k : Nat) : Int)), .dat (.int (x : Int)), .dat (.int k)], w1, ?_, ?_⟩
  · have es : (Dt.int ((sp : Int) - (k : Int))) = .int ((sp - k : Nat) : Int) := by congr 1; omega
    refine sSeq_nx (sSet_ok (gCall_dat (ga2 rfl e0) e1)) (sSeq_nx (sSet_ok (d := .int ((sp - k : Nat) : Int)) (by rw [← es]; rfl)) (sSeq_nx (sSet_ok (d := T (hd ++ [97 + (at_ + k)])) (gBin_ok (a := T hd) rfl (gIx_ok (a := T letters) (w1 := w1) (b := .int ((at_ : Int) + (k : Int))) (r := T [97 + (at_ + k)]) (by simp [m__law_letters_eq]) rfl ?_) ?_)) (sSet_ok (d := .int ((at_ + k + 1 : Nat) : Int)) rfl)))
    · show (if (sx letters).length ≤ sizeLine then (atI (sx letters).cps.toList ((at_ : Int) + (k : Int))).map fun c => Dt.str ⟨#[c]⟩ else none) = _
      rw [sx_toList, hat]; rfl
    · show (if (sx hd).length + (sx [97 + (at_ + k)]).length ≤ sizeLine then some (Dt.str (sx hd ++ sx [97 + (at_ + k)])) else none) = _
      rw [sx_append, if_pos (by rw [sz_line]; simp; omega)]
  · exact ⟨_, _, _, _, _, rfl, hw1, by simp [hl], by simp; omega, ris_snoc hr fun d hd => by have := hc d hd; omega, fun c hm => by
      rcases List.mem_append.mp hm with z | z
      · have := hc c z; omega
      · rw [List.mem_singleton.mp z]; omega⟩
theorem m__law_head_of_eq {w : Ds} {many : Nat} (hw : Wk w) (h0 : 2 ≤ many) (h1 : many ≤ 6) : ∃ h w', m__law_head_of [.wd, .int many] w = .dat (T h) w' ∧ Hd h ∧ h.length = many ∧ Wk w' := by
  have hloop := forG_inv (b := bName 5) (body := b__law_head_of_0) (headI many) (fun k : Nat => Dt.int (k : Int)) (List.range many) (fun pre x post env w hx hI => by
    obtain ⟨e1, h2, e2, w2, h3, h4⟩ := head_turn h1 hx hI
    exact ⟨e1, h2, .inl ⟨e2, w2, h3, h4⟩⟩) (env := [.dat .wd, .dat (.int many), .dat (T []), .dat (.int (0 : Nat)), .dat (.int ((26 - many : Nat) : Int)), .un, .un]) (w := w)
    ⟨[], 0, 26 - many, .un, .un, rfl, hw, rfl, by simp; omega, List.Pairwise.nil, fun _ h => nomatch h⟩
  obtain ⟨e2, w2, h3, hd, at_, sp, k1, k2, rfl, hw2, hl, hs, hr, hc⟩ := hloop
  refine ⟨hd, w2, ?_, ⟨hr, fun c hm => let_range.mpr (by have := hc c hm; simp at hs; omega), by simp at hl; omega, by simp at hl; omega⟩, by simpa using hl, hw2⟩
  have e26 : (26 : Int) - (many : Int) = ((26 - many : Nat) : Int) := by omega
  have ee : Str.ofString "" = sx [] := rfl
  refine runM_ret (sSeq_nx (e1 := [.dat .wd, .dat (.int many), .dat (T []), .dat (.int (0 : Nat)), .dat (.int ((26 - many : Nat) : Int)), .un, .un]) (w1 := w) ?_ (sSeq_nx (sFor_ok (items := (List.range many).map fun k : Nat => Dt.int (k : Int)) (w1 := w) ?_ h3) (sRet_ok (by simp))))
  · simp [e26, ee]
  · exact gIts_ok (ga1 rfl) (oRng1_nat many (by omega))
theorem m__law_head_eq {w : Ds} (hw : Wk w) : ∃ h w', m__law_head [.wd] w = .dat (T h) w' ∧ Hd h ∧ Wk w' := by
  obtain ⟨r, w1, e1, r0, r1, hw1⟩ := m__law_draw_eq hw (many := 3) (by decide) (by decide)
  have hm : ∃ m : Nat, atI [Dt.int 3, Dt.int 3, Dt.int 5] r = some (.int m) ∧ 0 < m ∧ m ≤ 5 := by
    have : r = 0 ∨ r = 1 ∨ r = 2 := by omega
    rcases this with rfl | rfl | rfl
    · exact ⟨3, rfl, by decide, by decide⟩
    · exact ⟨3, rfl, by decide, by decide⟩
    · exact ⟨5, rfl, by decide, by decide⟩
  obtain ⟨m, em, m0, m1⟩ := hm
  obtain ⟨q, w2, e2, q0, q1, hw2⟩ := m__law_draw_eq hw1 (many := (m : Int)) (by omega) (by omega)
  obtain ⟨k, rfl⟩ : ∃ k : Nat, q = k := ⟨q.toNat, by omega⟩
  obtain ⟨h, w3, e3, hh, _, hw3⟩ := m__law_head_of_eq (many := 2 + k) hw2 (by omega) (by omega)
  refine ⟨h, w3, runM_ret (sRetC_dat (ga2 (d' := .int ((2 + k : Nat) : Int)) rfl (gBin_ok rfl (gCall_dat (ga2 rfl (gIx_ok (a := .lst [.int 3, .int 3, .int 5]) (w1 := w) (gFrz_lst (by simp [sz_line])) (gCall_dat (ga2 rfl rfl) e1) em)) e2) (by simp))) e3), hh, hw3⟩
theorem Hd.asc {h : Tx} (H : Hd h) : Asc h := fun c hc => by have := let_range.mp (H.let_ c hc); omega
theorem asc_sub {a b : Tx} (h : Asc b) (s : a.Sublist b) : Asc a := fun c hc => h c (s.subset hc)
theorem m__law_side_eq {w : Ds} {h : Tx} (hw : Wk w) (hh : h.length ≤ 4000) : ∃ s w', m__law_side [.wd, T h] w = .dat (T s) w' ∧ s.Sublist h ∧ Wk w' := by
  obtain ⟨r, w1, e1, r0, r1, hw1⟩ := m__law_draw_eq hw (many := 3) (by decide) (by decide)
  have hm : ∃ m : Int, atI [Dt.int 2, Dt.int 3, Dt.int 4] r = some (.int m) ∧ 0 < m ∧ m ≤ 5 := by
    have : r = 0 ∨ r = 1 ∨ r = 2 := by omega
    rcases this with rfl | rfl | rfl
    · exact ⟨2, rfl, by decide, by decide⟩
    · exact ⟨3, rfl, by decide, by decide⟩
    · exact ⟨4, rfl, by decide, by decide⟩
  obtain ⟨m, em, m0, m1⟩ := hm
  obtain ⟨ys, w2, e2, hw2, s, hs, rfl⟩ := gLc_inv (vs := [3]) (gi := gIt srcD (gVar 1)) (b := bName 3) (gt := gTst (gBin oEq (gCall 2 [] m__law_draw (gCons (gVar 0) (gCons (gVar 2) gNil))) (gOk (.int 0)))) (ge := gVar 3) (env := [.dat .wd, .dat (T h), .dat (.int m), .un]) (w := w1) (w1 := w1) Wk
    (fun ys => ∃ s : Tx, s.Sublist h ∧ ys = s.map fun c => T [c]) h (fun c => T [c]) (fun c d => d = T [c]) (gIt_ok rfl (srcD_T h)) hw1
    (fun c hc => ⟨[.dat .wd, .dat (T h), .dat (.int m), .dat (T [c])], by simp, fun w hw => by
      obtain ⟨q, w2, e2, q0, q1, hw2⟩ := m__law_draw_eq hw (many := m) m0 (by omega)
      exact ⟨decide (q = 0), w2, gTst_ok (gBin_ok (gCall_dat (ga2 rfl rfl) e2) rfl (oEq_int q 0)), hw2, fun _ => ⟨T [c], w2, rfl, hw2, rfl⟩⟩⟩) (by rw [sz_line]; omega)
    (fun zs h1 h2 => ⟨zs.map (·.1), h1, by
      rw [List.map_map]
      exact List.map_congr_left fun z hz => h2 z hz⟩)
  exact ⟨s, w2, runM_ret (sSeq_nx (sSet_ok (gIx_ok (a := .lst [.int 2, .int 3, .int 4]) (w1 := w) (gFrz_lst (by simp [sz_line])) (gCall_dat (ga2 rfl rfl) e1) em)) (sRet_ok (gM1_ok rfl (gFrz_lst e2) (join_signs s (by have := hs.length_le; omega))))), hs, hw2⟩
/-! ### texts -/
/-! ### the law's own is_set -/
theorem atI_nat {α : Type} {l : List α} {i : Nat} (h : i < l.length) : atI l (i : Int) = some l[i] := by
  unfold atI ixN
  rw [if_pos (by omega), if_pos (by omega)]
  simp [List.getElem?_eq_getElem h]
theorem oIx_T {l : Tx} {i : Nat} {w : Ds} (h : i < l.length) (hl : l.length ≤ 16777216) : oIx w (T l) (.int (i : Int)) = some (T [l[i]]) := by
  show (if (sx l).length ≤ sizeLine then (atI (sx l).cps.toList (i : Int)).map fun c => Dt.str ⟨#[c]⟩ else none) = _
  rw [sx_toList, if_pos (by rw [sz_line]; simpa using hl), atI_nat h]
  rfl
/-! ### all sets of columns -/
def subsL (a : Tx) : List Tx := a.foldl (fun ss c => ss ++ ss.map (· ++ [c])) [[]]
theorem subsL_snoc (a : Tx) (c : Nat) : subsL (a ++ [c]) = subsL a ++ (subsL a).map (· ++ [c]) := by simp [subsL, List.foldl_append]
theorem snoc_ind {P : Tx → Prop} (h0 : P []) (h1 : ∀ a c, P a → P (a ++ [c])) : ∀ a, P a := by
  have key : ∀ n (a : Tx), a.length = n → P a := by
    intro n
    induction n with
    | zero => intro a ha; rw [List.length_eq_zero_iff.mp ha]; exact h0
    | succ n ih =>
      intro a ha
      have hne : a ≠ [] := by intro e; rw [e] at ha; cases ha
      rw [← List.dropLast_concat_getLast hne]
      exact h1 _ _ (ih _ (by simp [ha]))
  exact fun a => key _ a rfl
theorem mem_subsL : ∀ (a : Tx) (s : Tx), s ∈ subsL a ↔ s.Sublist a := snoc_ind (fun s => by simp [subsL]) fun a c ih s => by
  rw [subsL_snoc, List.mem_append, List.mem_map, ih, List.sublist_append_iff]
  constructor
  · rintro (h | ⟨t, ht, rfl⟩)
    · exact ⟨s, [], by simp, h, List.nil_sublist _⟩
    · exact ⟨t, [c], rfl, (ih t).mp ht, List.Sublist.refl _⟩
  · rintro ⟨l1, l2, rfl, h1, h2⟩
    match l2, h2 with
    | [], _ => exact .inl (by simpa using h1)
    | [d], h2 =>
      have : d = c := by have := h2.subset (List.mem_singleton.mpr rfl); simpa using this
      subst this
      exact .inr ⟨l1, (ih l1).mpr h1, rfl⟩
    | _ :: _ :: _, h2 => have := h2.length_le; simp at this
def keySort (kf : Str → PyData) (ss : List Tx) : List Tx := ((ss.map sx).mergeSort (PySem.W.dataLe false kf)).map fun x => x.cps.toList
theorem mem_keySort {kf : Str → PyData} {ss : List Tx} {s : Tx} : s ∈ keySort kf ss ↔ s ∈ ss := by
  unfold keySort
  simp only [List.mem_map, List.mem_mergeSort]
  constructor
  · rintro ⟨x, ⟨y, hy, rfl⟩, rfl⟩; simpa using hy
  · intro h; exact ⟨sx s, ⟨s, h, rfl⟩, by simp⟩
theorem gLendF_lst {g : GF} {env : Dn.Env} {w w1 : Ds} {ds : List Dt} (h : g (lendA env) w = .ok (.lst ds) w1) (hf : flats ds = true) : gLendF g env w = .ok (.lst ds) w1 := by
  unfold gLendF
  rw [h]
  simp [hf]
def subsetsL (a : Tx) : List Tx := keySort keyPair (subsL a)
theorem oAdd_T {a b : Tx} (h : a.length + b.length ≤ 16777216) : oAdd (T a) (T b) = some (T (a ++ b)) := by
  show (if (sx a).length + (sx b).length ≤ sizeLine then some (Dt.str (sx a ++ sx b)) else none) = _
  rw [sx_append, if_pos (by rw [sz_line]; simpa using h)]
/-! ### the law -/
theorem mem_commonL {a b : Tx} {c : Nat} : c ∈ commonL a b ↔ c ∈ a ∧ c ∈ b := by simp [commonL]
end Mi
end
section
/-! Rows, sayings, clashes. -/
namespace Mi
open PySem L2 Dn
/-! ### rows -/
theorem intsOf_map (r : List Int) : intsOf (r.map .int) = some r := by
  induction r with
  | nil => rfl
  | cons a r ih => simp [intsOf, ih]
theorem tupI_row (r : List Int) : tupI (rowD r) = some r := intsOf_map r
theorem tupIs_rows (rs : List (List Int)) : tupIs (rs.map rowD) = some rs := by
  induction rs with
  | nil => rfl
  | cons a r ih => simp [tupIs, tupI_row, ih]
theorem rowD_inj {a b : List Int} (h : rowD a = rowD b) : a = b := by
  have := tupI_row a
  rw [h, tupI_row] at this
  exact (Option.some.inj this).symm
theorem pl_row (r : List Int) {n : Nat} : Pl (n + 1) (rowD r) := .tup fun x hx => by
  obtain ⟨i, _, rfl⟩ := List.mem_map.mp hx
  exact .int i
theorem oEq_row (a b : List Int) : oEq (rowD a) (rowD b) = some (.bl (decide (a = b))) := by
  unfold oEq
  rw [eqD_inj (f := rowD) (fun _ _ => rowD_inj) (n := 1) (m := 1) (pl_row a) (pl_row b)]
  rfl
theorem oNe_row (a b : List Int) : oNe (rowD a) (rowD b) = some (.bl (!decide (a = b))) := by
  unfold oNe
  rw [eqD_inj (f := rowD) (fun _ _ => rowD_inj) (n := 1) (m := 1) (pl_row a) (pl_row b)]
  rfl
theorem zip2D_row : ∀ (r : List Int) (h : Tx), zip2D (r.map Dt.int) (h.map fun c => T [c]) = (r.zip h).map fun p => .tup [.int p.1, T [p.2]]
  | [], _ => by cases ‹Tx› <;> rfl
  | _ :: _, [] => rfl
  | a :: as, b :: bs => by simp [zip2D, zip2D_row as bs]
theorem zip3D_row : ∀ (r s : List Int) (h : Tx), zip3D (r.map Dt.int) (s.map Dt.int) (h.map fun c => T [c]) = (r.zip (s.zip h)).map fun p => .tup [.int p.1, .int p.2.1, T [p.2.2]]
  | [], _, _ => by cases ‹List Int› <;> cases ‹Tx› <;> rfl
  | _ :: _, [], _ => by cases ‹Tx› <;> rfl
  | _ :: _, _ :: _, [] => rfl
  | a :: as, b :: bs, c :: cs => by simp [zip3D, zip3D_row as bs cs]
theorem oTuple_lst (ds : List Dt) : oTuple [.lst ds] = some (.tup ds) := by
  unfold oTuple; rfl
def cellsL (r : List Int) (h p : Tx) : List Int := ((r.zip h).filter fun q => decide (q.2 ∈ p)).map (·.1)
theorem m_cells_of_eq {r : List Int} {h p : Tx} {w : Ds} (hl : r.length = h.length) (hb : h.length ≤ 4000) : m_cells_of [rowD r, T h, T p] w = .dat (rowD (cellsL r h p)) w := by
  have e := gLc_map (vs := [3, 4]) (gi := gIts oZip2 (gCons (gVar 0) (gCons (gVar 1) gNil))) (b := bTup (bCons (bName 3) (bCons (bName 4) bNil))) (gt := gTst (gBin oIn (gVar 4) (gVar 2))) (ge := gVar 3) (env := [.dat (rowD r), .dat (T h), .dat (T p), .un, .un]) (w := w) (w1 := w) (r.zip h) (fun q => .tup [.int q.1, T [q.2]]) (fun q => decide (q.2 ∈ p)) (fun q => .int q.1)
    (gIts_ok (ga2 rfl rfl) (by
      show (match srcD (rowD r), srcD (T h) with
        | some x, some y => if x.length = y.length then some (zip2D x y) else none
        | _, _ => none) = _
      rw [srcD_T, show srcD (rowD r) = some (r.map .int) from rfl]
      simp only
      rw [if_pos (by simpa using hl), zip2D_row]))
    (fun q hq => ⟨[.dat (rowD r), .dat (T h), .dat (T p), .dat (.int q.1), .dat (T [q.2])], rfl, gTst_ok (gBin_ok rfl rfl (oIn_T q.2 p)), fun _ => rfl⟩) (by rw [sz_line]; simp; omega)
  refine runM_ret (sRet_ok (gArgs_ok (ga1 (gFrz_lst e)) ?_))
  rw [oTuple_lst]
  simp [rowD, cellsL, List.map_map, Function.comp_def]
def wantedL (a b : List Int) (h t : Tx) : List Int := (a.zip (b.zip h)).map fun q => if q.2.2 ∈ t then q.1 else q.2.1
theorem m_wanted_eq {a b : List Int} {h t : Tx} {w : Ds} (ha : a.length = h.length) (hb : b.length = h.length) (hl : h.length ≤ 4000) : m_wanted [rowD a, rowD b, T h, T t] w = .dat (rowD (wantedL a b h t)) w := by
  have e := gLc_map (vs := [4, 5, 6]) (gi := gIts oZip3 (gCons (gVar 0) (gCons (gVar 1) (gCons (gVar 2) gNil)))) (b := bTup (bCons (bName 4) (bCons (bName 5) (bCons (bName 6) bNil)))) (gt := gYes) (ge := gIfE (gTst (gBin oIn (gVar 6) (gVar 3))) (gVar 4) (gVar 5)) (env := [.dat (rowD a), .dat (rowD b), .dat (T h), .dat (T t), .un, .un, .un]) (w := w) (w1 := w) (a.zip (b.zip h)) (fun q => .tup [.int q.1, .int q.2.1, T [q.2.2]]) (fun _ => true) (fun q => .int (if q.2.2 ∈ t then q.1 else q.2.1))
    (gIts_ok (ga3 rfl rfl rfl) (by
      show (match srcD (rowD a), srcD (rowD b), srcD (T h) with
        | some x, some y, some z => if x.length = y.length ∧ x.length = z.length then some (zip3D x y z) else none
        | _, _, _ => none) = _
      rw [srcD_T, show srcD (rowD a) = some (a.map .int) from rfl, show srcD (rowD b) = some (b.map .int) from rfl]
      simp only
      rw [if_pos (by simp; omega), zip3D_row]))
    (fun q hq => ⟨[.dat (rowD a), .dat (rowD b), .dat (T h), .dat (T t), .dat (.int q.1), .dat (.int q.2.1), .dat (T [q.2.2])], rfl, rfl, fun _ => by
      by_cases hm : q.2.2 ∈ t <;> simp [hm]⟩) (by rw [sz_line]; simp; omega)
  rw [filter_tt] at e
  refine runM_ret (sRet_ok (gArgs_ok (ga1 (gFrz_lst e)) ?_))
  rw [oTuple_lst]
  simp [rowD, wantedL, List.map_map, Function.comp_def]
/-! ### rising -/
theorem oSrtT_rows {rs : List (List Int)} (ok : okRows rs = true) : oSrtT [.lst (rs.map rowD)] = some (.lst ((sortRows rs).map rowD)) := by
  simp only [oSrtT]
  rw [tupIs_rows]
  simp only [Option.bind]
  rw [if_pos ok]
theorem gSrtSc_rows {α : Type} {vs : List Nat} {gi : GA} {b : Bd} {gt : GT} {ge : GE} {env : Dn.Env} {w w1 : Ds} (xs : List α) (v : α → Dt) (p : α → Bool) (f : α → List Int) (hi : gi env w = .ok (xs.map v) w1)
    (h : ∀ x ∈ xs, ∃ e1, b (v x) (hide vs env) = some e1 ∧ gt e1 w1 = .ok (p x) w1 ∧ (p x = true → ge e1 w1 = .ok (rowD (f x)) w1)) (ok : okRows ((xs.filter p).map f) = true) (hl : xs.length ≤ sizeLine) :
    gSrtSc vs gi b gt ge env w = .ok (.lst ((sortRows ((xs.filter p).map f)).map rowD)) w1 := by
  have e := gLc_map xs v p (fun x => rowD (f x)) hi h hl
  unfold gLc at e
  unfold gSrtSc
  rw [hi] at e ⊢
  simp only [bind_ok] at e ⊢
  cases el : lcG b gt ge (hide vs env) (xs.map v) [] w1 with
  | ok acc w2 =>
    rw [el] at e
    simp only at e ⊢
    injection e with e1 e2
    injection e1 with e1
    rw [e1, e2, show ((xs.filter p).map fun x => rowD (f x)) = ((xs.filter p).map f).map rowD by rw [List.map_map]; rfl, oSrtT_rows ok]
  | exc c fs w2 => rw [el] at e; cases e
  | bad => rw [el] at e; cases e
theorem oTuple_row (r : List Int) : oTuple [rowD r] = some (rowD r) := by unfold oTuple; rfl
theorem m_rising_eq {rs : List (List Int)} {w : Ds} (ok : okRows rs = true) : m_rising [.lst (rs.map rowD)] w = .own (.lst ((sortRows rs).map rowD)) w := by
  have hl : rs.length ≤ sizeLine := by unfold okRows at ok; simp only [Bool.and_eq_true, decide_eq_true_eq] at ok; exact ok.2
  have e := gSrtSc_rows (vs := [1]) (gi := gIt srcD (gVar 0)) (b := bName 1) (gt := gYes) (ge := gArgs oTuple (gCons (gVar 1) gNil)) (env := [.dat (.lst (rs.map rowD)), .un]) (w := w) (w1 := w) rs rowD (fun _ => true) (fun r => r) (gIt_ok rfl rfl)
    (fun r hr => ⟨[.dat (.lst (rs.map rowD)), .dat (rowD r)], rfl, rfl, fun _ => gArgs_ok (ga1 rfl) (oTuple_row r)⟩) (by rw [filter_tt, List.map_id']; exact ok) hl
  rw [filter_tt, List.map_id'] at e
  exact runM_rtf (sRetF_ok e)
theorem mem_sortRows {rs : List (List Int)} {r : List Int} : r ∈ sortRows rs ↔ r ∈ rs := by
  unfold sortRows srtR
  rw [List.mem_mergeSort, Sk.mem_addAll]
  simp
theorem addAll_len : ∀ (rs ks : List (List Int)), (Sk.addAll ks rs).length ≤ ks.length + rs.length
  | [], ks => Nat.le_refl _
  | r :: rs, ks => by
    have h1 := addAll_len rs (Sk.addK r ks)
    have h2 := Sk.addK_len r ks
    show (Sk.addAll (Sk.addK r ks) rs).length ≤ _
    simp only [List.length_cons]
    omega
theorem sortRows_len (rs : List (List Int)) : (sortRows rs).length ≤ rs.length := by
  have := addAll_len rs []
  unfold sortRows srtR
  rw [List.length_mergeSort]
  simpa using this
/-! ### clashes -/
def badT (h l r : Tx) (a b : List Int) : Bool := decide (cellsL a h l = cellsL b h l) && !decide (cellsL a h r = cellsL b h r)
def clashT (h l r : Tx) : List (List Int) → Option (List Int × List Int)
  | [] => none
  | a :: rest => match rest.find? (badT h l r a) with
    | some b => some (a, b)
    | none => clashT h l r rest
theorem tells_in {R : Dt} {h l r : Tx} {a : List Int} {at_ : Int} {w : Ds} (ha : a.length = h.length) (hh : h.length ≤ 4000) : ∀ {rest : List (List Int)} {k6 : Sl}, (∀ x ∈ rest, x.length = h.length) →
    (∃ b, rest.find? (badT h l r a) = some b ∧ forG (bName 6) b_clash_of_tells_0 (rest.map rowD) [.dat R, .dat (T h), .dat (T l), .dat (T r), .dat (.int at_), .dat (rowD a), k6] w = .ret (.tup [rowD a, rowD b]) w) ∨
    (rest.find? (badT h l r a) = none ∧ ∃ k6', forG (bName 6) b_clash_of_tells_0 (rest.map rowD) [.dat R, .dat (T h), .dat (T l), .dat (T r), .dat (.int at_), .dat (rowD a), k6] w = .nx [.dat R, .dat (T h), .dat (T l), .dat (T r), .dat (.int at_), .dat (rowD a), k6'] w)
  | [], k6, _ => .inr ⟨rfl, k6, rfl⟩
  | b :: rest, k6, hr => by
    have hb := hr b List.mem_cons_self
    have t1 : (gTst (gBin oEq (gCall 3 [] m_cells_of (gCons (gVar 5) (gCons (gVar 1) (gCons (gVar 2) gNil)))) (gCall 3 [] m_cells_of (gCons (gVar 6) (gCons (gVar 1) (gCons (gVar 2) gNil)))))) [.dat R, .dat (T h), .dat (T l), .dat (T r), .dat (.int at_), .dat (rowD a), .dat (rowD b)] w = .ok (decide (cellsL a h l = cellsL b h l)) w :=
      gTst_ok (gBin_ok (gCall_dat (ga3 rfl rfl rfl) (m_cells_of_eq ha hh)) (gCall_dat (ga3 rfl rfl rfl) (m_cells_of_eq hb hh)) (oEq_row _ _))
    have t2 : (gTst (gBin oNe (gCall 3 [] m_cells_of (gCons (gVar 5) (gCons (gVar 1) (gCons (gVar 3) gNil)))) (gCall 3 [] m_cells_of (gCons (gVar 6) (gCons (gVar 1) (gCons (gVar 3) gNil)))))) [.dat R, .dat (T h), .dat (T l), .dat (T r), .dat (.int at_), .dat (rowD a), .dat (rowD b)] w = .ok (!decide (cellsL a h r = cellsL b h r)) w :=
      gTst_ok (gBin_ok (gCall_dat (ga3 rfl rfl rfl) (m_cells_of_eq ha hh)) (gCall_dat (ga3 rfl rfl rfl) (m_cells_of_eq hb hh)) (oNe_row _ _))
    have body : b_clash_of_tells_0 [.dat R, .dat (T h), .dat (T l), .dat (T r), .dat (.int at_), .dat (rowD a), .dat (rowD b)] w = if badT h l r a b then .ret (.tup [rowD a, rowD b]) w else .nx [.dat R, .dat (T h), .dat (T l), .dat (T r), .dat (.int at_), .dat (rowD a), .dat (rowD b)] w := by
      by_cases c1 : cellsL a h l = cellsL b h l
      · by_cases c2 : cellsL a h r = cellsL b h r
        · rw [if_neg (by simp [badT, c1, c2])]
          exact sIf_t (w1 := w) (by rw [t1]; simp [c1]) (sIf_f (w1 := w) (by rw [t2]; simp [c2]) rfl)
        · rw [if_pos (by simp [badT, c1, c2])]
          exact sIf_t (w1 := w) (by rw [t1]; simp [c1]) (sIf_t (w1 := w) (by rw [t2]; simp [c2]) (sRet_ok (d := .tup [rowD a, rowD b]) (w1 := w) (by simp [sz_line])))
      · rw [if_neg (by simp [badT, c1])]
        exact sIf_f (w1 := w) (by rw [t1]; simp [c1]) rfl
    rw [List.map_cons]
    unfold forG
    rw [show bName 6 (rowD b) [.dat R, .dat (T h), .dat (T l), .dat (T r), .dat (.int at_), .dat (rowD a), k6] = some [.dat R, .dat (T h), .dat (T l), .dat (T r), .dat (.int at_), .dat (rowD a), .dat (rowD b)] from rfl]
    simp only
    rw [body, List.find?_cons]
    cases hbad : badT h l r a b with
    | true => exact .inl ⟨b, rfl, by simp⟩
    | false => simpa using tells_in ha hh (fun x hx => hr x (List.mem_cons_of_mem _ hx))
theorem slice_from {α : Type} (pre : List α) (a : α) (post : List α) : cutG (pre ++ a :: post) (some ((pre.length : Int) + 1)) none = post := by
  unfold cutG
  have h1 : HT.sIx (pre ++ a :: post).length 0 (some ((pre.length : Int) + 1)) = pre.length + 1 := by
    unfold HT.sIx
    simp only [List.length_append, List.length_cons]
    rw [if_neg (by omega)]
    omega
  have h2 : HT.sIx (pre ++ a :: post).length (pre ++ a :: post).length none = (pre ++ a :: post).length := rfl
  rw [h1, h2]
  have : (pre ++ a :: post).drop (pre.length + 1) = post := by
    rw [show pre ++ a :: post = (pre ++ [a]) ++ post by simp, List.drop_append]
    simp
  rw [this]
  apply List.take_of_length_le
  simp only [List.length_append, List.length_cons]
  omega
theorem enumD_map : ∀ (rs : List (List Int)) (k : Nat), enumD (k : Int) (rs.map rowD) = (rs.zipIdx k).map fun p => .tup [.int (p.2 : Int), rowD p.1]
  | [], _ => rfl
  | r :: rs, k => by
    rw [List.map_cons, List.zipIdx_cons, List.map_cons]
    unfold enumD
    rw [show ((k : Int) + 1) = ((k + 1 : Nat) : Int) by omega, enumD_map rs (k + 1)]
def pairD : Option (List Int × List Int) → Dt
  | some p => .tup [rowD p.1, rowD p.2]
  | none => .non
theorem tells_out {h l r : Tx} {w : Ds} (hh : h.length ≤ 4000) {rows : List (List Int)} (hr : ∀ x ∈ rows, x.length = h.length) : ∀ (post pre : List (List Int)) (k4 k5 k6 : Sl), rows = pre ++ post →
    (∃ p, clashT h l r post = some p ∧ forG (bTup (bCons (bName 4) (bCons (bName 5) bNil))) b_clash_of_tells_1 ((post.zipIdx pre.length).map fun p => .tup [.int (p.2 : Int), rowD p.1]) [.dat (.lst (rows.map rowD)), .dat (T h), .dat (T l), .dat (T r), k4, k5, k6] w = .ret (.tup [rowD p.1, rowD p.2]) w) ∨
    (clashT h l r post = none ∧ ∃ e, forG (bTup (bCons (bName 4) (bCons (bName 5) bNil))) b_clash_of_tells_1 ((post.zipIdx pre.length).map fun p => .tup [.int (p.2 : Int), rowD p.1]) [.dat (.lst (rows.map rowD)), .dat (T h), .dat (T l), .dat (T r), k4, k5, k6] w = .nx e w)
  | [], pre, k4, k5, k6, _ => .inr ⟨rfl, _, rfl⟩
  | a :: post, pre, k4, k5, k6, e => by
    have ha := hr a (by rw [e]; simp)
    have hp : ∀ x ∈ post, x.length = h.length := fun x hx => hr x (by rw [e]; simp [hx])
    rw [List.zipIdx_cons, List.map_cons]
    unfold forG
    rw [show bTup (bCons (bName 4) (bCons (bName 5) bNil)) (.tup [.int (pre.length : Int), rowD a]) [.dat (.lst (rows.map rowD)), .dat (T h), .dat (T l), .dat (T r), k4, k5, k6] = some [.dat (.lst (rows.map rowD)), .dat (T h), .dat (T l), .dat (T r), .dat (.int (pre.length : Int)), .dat (rowD a), k6] from rfl]
    simp only
    have hs : cutG (rows.map rowD) (some ((pre.length : Int) + 1)) none = post.map rowD := by
      rw [e, List.map_append, List.map_cons]
      have := slice_from (pre.map rowD) (rowD a) (post.map rowD)
      rwa [List.length_map] at this
    have hi : (gIt srcD (gSl (gVar 0) (gPart (gBin oAdd (gVar 4) (gOk (.int 1)))) gNoPart)) [.dat (.lst (rows.map rowD)), .dat (T h), .dat (T l), .dat (T r), .dat (.int (pre.length : Int)), .dat (rowD a), k6] w = .ok (post.map rowD) w := by
      refine gIt_ok (d := .lst (post.map rowD)) ?_ rfl
      simp only [gSl_app, gVar_app, gPart_app, gBin_app, gOk_app, gNoPart_app, bind_ok, oAdd_int, oSl]
      simp [hs]
    unfold clashT
    rcases tells_in (R := .lst (rows.map rowD)) (at_ := (pre.length : Int)) (w := w) (l := l) (r := r) (k6 := k6) ha hh hp with ⟨b, h1, h2⟩ | ⟨h1, k6', h2⟩
    · rw [h1]
      refine .inl ⟨_, rfl, ?_⟩
      rw [show b_clash_of_tells_1 [.dat (.lst (rows.map rowD)), .dat (T h), .dat (T l), .dat (T r), .dat (.int (pre.length : Int)), .dat (rowD a), k6] w = .ret (.tup [rowD a, rowD b]) w from sFor_ok hi h2]
    · rw [h1]
      simp only
      rw [show b_clash_of_tells_1 [.dat (.lst (rows.map rowD)), .dat (T h), .dat (T l), .dat (T r), .dat (.int (pre.length : Int)), .dat (rowD a), k6] w = .nx [.dat (.lst (rows.map rowD)), .dat (T h), .dat (T l), .dat (T r), .dat (.int (pre.length : Int)), .dat (rowD a), k6'] w from sFor_ok hi h2]
      simp only
      have := tells_out (l := l) (r := r) (w := w) hh hr post (pre ++ [a]) (.dat (.int (pre.length : Int))) (.dat (rowD a)) k6' (by rw [e]; simp)
      simpa using this
theorem m_clash_of_tells_eq {h l r : Tx} {rows : List (List Int)} {w : Ds} (hh : h.length ≤ 4000) (hr : ∀ x ∈ rows, x.length = h.length) (hn : rows.length ≤ 4000) : m_clash_of_tells [.lst (rows.map rowD), T h, T l, T r] w = .dat (pairD (clashT h l r rows)) w := by
  have hi : (gIts (oEnum 0) (gCons (gVar 0) gNil)) [.dat (.lst (rows.map rowD)), .dat (T h), .dat (T l), .dat (T r), .un, .un, .un] w = .ok ((rows.zipIdx 0).map fun p => .tup [.int (p.2 : Int), rowD p.1]) w := by
    refine gIts_ok (ga1 rfl) ?_
    have := enumD_map rows 0
    show (srcD (.lst (rows.map rowD))).map (enumD 0) = _
    rw [show srcD (.lst (rows.map rowD)) = some (rows.map rowD) from rfl]
    exact congrArg some this
  rcases tells_out (l := l) (r := r) (w := w) hh hr rows [] .un .un .un rfl with ⟨p, h1, h2⟩ | ⟨h1, e, h2⟩
  · rw [h1]
    exact runM_ret (sSeq_ret (sFor_ok hi h2))
  · rw [h1]
    exact runM_ret (sSeq_nx (sFor_ok hi h2) (sRet_ok rfl))
/-! ### rows as keys -/
def keyR (r : List Int) : List Key := r.map Sum.inl
theorem keyR_inj {a b : List Int} (h : keyR a = keyR b) : a = b := by
  unfold keyR at h
  exact List.map_inj_right (fun _ _ e => by injection e) |>.mp h
theorem keyT_row (r : List Int) : keyT (rowD r) = some (keyR r) := by
  show keysI (r.map .int) = _
  induction r with
  | nil => rfl
  | cons a r ih => simp only [List.map_cons, keysI, keyI, Option.bind, ih, keyR, Option.map]
theorem getG_put {κ : Type} [DecidableEq κ] (x y : κ) (v : Dt) : ∀ kvs : List (κ × Dt), (getG (putG kvs x v) y).isSome = (decide (y = x) || (getG kvs y).isSome) := by
  have some_iff : ∀ (kvs : List (κ × Dt)) (y : κ), (getG kvs y).isSome = kvs.any fun kv => decide (kv.1 = y) := fun kvs y => by
    unfold getG
    rw [Option.isSome_map, List.isSome_find?]
  intro kvs
  rw [some_iff, some_iff]
  unfold putG
  by_cases h : (kvs.any fun kv => decide (kv.1 = x)) = true
  · rw [if_pos h, List.any_map]
    have e : ((fun kv : κ × Dt => decide (kv.1 = y)) ∘ fun kv => if kv.1 = x then (kv.1, v) else kv) = fun kv => decide (kv.1 = y) := by
      funext kv
      simp only [Function.comp]
      split <;> rfl
    rw [e]
    by_cases hy : y = x
    · subst hy; rw [h]; simp
    · simp [hy]
  · rw [if_neg h, List.any_append]
    simp only [List.any_cons, List.any_nil, Bool.or_false]
    by_cases hy : y = x
    · subst hy; simp
    · have : decide (x = y) = false := decide_eq_false fun e => hy e.symm
      rw [this]; simp [hy]
def thereKV (rows : List (List Int)) (kvs : List (List Key × Dt)) : List (List Key × Dt) := rows.foldl (fun k r => putG k (keyR r) (.bl true)) kvs
theorem there_iff : ∀ (rows : List (List Int)) (kvs : List (List Key × Dt)) (r : List Int), (getG (thereKV rows kvs) (keyR r)).isSome = (decide (r ∈ rows) || (getG kvs (keyR r)).isSome)
  | [], kvs, r => by simp [thereKV]
  | a :: rows, kvs, r => by
    have := there_iff rows (putG kvs (keyR a) (.bl true)) r
    unfold thereKV at this ⊢
    rw [List.foldl_cons, this, getG_put]
    by_cases h : r = a
    · subst h; simp
    · have : decide (keyR r = keyR a) = false := decide_eq_false fun e => h (keyR_inj e)
      rw [this]
      simp [h]
theorem putG_len {κ : Type} [DecidableEq κ] (kvs : List (κ × Dt)) (x : κ) (v : Dt) : (putG kvs x v).length ≤ kvs.length + 1 := by
  unfold putG
  split
  · simp
  · simp
theorem dcG_rows {b : Bd} {he : Dn.Env} {w : Ds} {gk : GE} (hb : ∀ r : List Int, ∃ e1, b (rowD r) he = some e1 ∧ gk e1 w = .ok (rowD r) w) : ∀ (rows : List (List Int)) (acc : List (List Key × Dt)), acc.length + rows.length ≤ sizeLine → dcG b gYes gk (gOk (.bl true)) he (rows.map rowD) acc w = .ok (thereKV rows acc) w
  | [], acc, _ => rfl
  | r :: rows, acc, hl => by
    obtain ⟨e1, h1, h2⟩ := hb r
    rw [List.length_cons] at hl
    rw [List.map_cons]
    unfold dcG
    rw [h1]
    simp only [gYes_app, h2, gOk_app, keyT_row]
    rw [if_pos (by omega), dcG_rows hb rows _ (by have := putG_len acc (keyR r) (.bl true); omega)]
    rfl
/-! ### clashes of "parts" -/
def badP (rows : List (List Int)) (h l t : Tx) (a b : List Int) : Bool := decide (cellsL a h l = cellsL b h l) && !decide (wantedL a b h t ∈ rows)
def clashP (h l t : Tx) (rows : List (List Int)) : List (List Int) → Option (List Int × List Int × List Int)
  | [] => none
  | a :: rest => match rows.find? (badP rows h l t a) with
    | some b => some (a, b, wantedL a b h t)
    | none => clashP h l t rows rest
def tripD : Option (List Int × List Int × List Int) → Dt
  | some p => .tup [rowD p.1, rowD p.2.1, rowD p.2.2]
  | none => .non
theorem parts_in {R : Dt} {h l r t : Tx} {a : List Int} {rows : List (List Int)} {w : Ds} (ha : a.length = h.length) (hh : h.length ≤ 4000) : ∀ {rest : List (List Int)} {k7 k8 : Sl}, (∀ x ∈ rest, x.length = h.length) →
    (∃ b, rest.find? (badP rows h l t a) = some b ∧ forG (bName 7) b_clash_of_parts_0 (rest.map rowD) [.dat R, .dat (T h), .dat (T l), .dat (T r), .own (.dT (thereKV rows [])), .dat (T t), .dat (rowD a), k7, k8, .un] w = .ret (.tup [rowD a, rowD b, rowD (wantedL a b h t)]) w) ∨
    (rest.find? (badP rows h l t a) = none ∧ ∃ k7' k8', forG (bName 7) b_clash_of_parts_0 (rest.map rowD) [.dat R, .dat (T h), .dat (T l), .dat (T r), .own (.dT (thereKV rows [])), .dat (T t), .dat (rowD a), k7, k8, .un] w = .nx [.dat R, .dat (T h), .dat (T l), .dat (T r), .own (.dT (thereKV rows [])), .dat (T t), .dat (rowD a), k7', k8', .un] w)
  | [], k7, k8, _ => .inr ⟨rfl, k7, k8, rfl⟩
  | b :: rest, k7, k8, hr => by
    have hb := hr b List.mem_cons_self
    let E (k8 : Sl) : Dn.Env := [.dat R, .dat (T h), .dat (T l), .dat (T r), .own (.dT (thereKV rows [])), .dat (T t), .dat (rowD a), .dat (rowD b), k8, .un]
    have t1 : (gTst (gBin oEq (gCall 3 [] m_cells_of (gCons (gVar 6) (gCons (gVar 1) (gCons (gVar 2) gNil)))) (gCall 3 [] m_cells_of (gCons (gVar 7) (gCons (gVar 1) (gCons (gVar 2) gNil)))))) (E k8) w = .ok (decide (cellsL a h l = cellsL b h l)) w :=
      gTst_ok (gBin_ok (gCall_dat (ga3 rfl rfl rfl) (m_cells_of_eq ha hh)) (gCall_dat (ga3 rfl rfl rfl) (m_cells_of_eq hb hh)) (oEq_row _ _))
    have t2 : (gCall 4 [] m_wanted (gCons (gVar 6) (gCons (gVar 7) (gCons (gVar 1) (gCons (gVar 5) gNil))))) (E k8) w = .ok (rowD (wantedL a b h t)) w :=
      gCall_dat (ds := [rowD a, rowD b, T h, T t]) (w1 := w) rfl (m_wanted_eq ha hb hh)
    have t3 : (gLendT (gTst (gBin oNotInK (gVar 8) (gVar 4)))) (E (.dat (rowD (wantedL a b h t)))) w = .ok (!decide (wantedL a b h t ∈ rows)) w := by
      refine gLendT_ok (gTst_ok (gBin_ok (a := rowD (wantedL a b h t)) (b := .dicT (thereKV rows [])) (w1 := w) (w2 := w) rfl rfl ?_))
      show (inK (rowD (wantedL a b h t)) (.dicT (thereKV rows []))).map (fun r => Dt.bl (!r)) = _
      rw [show inK (rowD (wantedL a b h t)) (.dicT (thereKV rows [])) = (keyT (rowD (wantedL a b h t))).map fun x => (getG (thereKV rows []) x).isSome from rfl, keyT_row]
      simp only [Option.map]
      rw [there_iff]
      simp [getG]
    have body : ∃ k8', b_clash_of_parts_0 (E k8) w = if badP rows h l t a b then .ret (.tup [rowD a, rowD b, rowD (wantedL a b h t)]) w else .nx (E k8') w := by
      by_cases c1 : cellsL a h l = cellsL b h l
      · refine ⟨.dat (rowD (wantedL a b h t)), ?_⟩
        refine sIf_t (w1 := w) (by rw [t1]; simp [c1]) (sSeq_nx (e1 := E (.dat (rowD (wantedL a b h t)))) (w1 := w) (sSet_ok t2 (by show 8 < 10; decide)) ?_)
        by_cases c2 : wantedL a b h t ∈ rows
        · rw [if_neg (by simp [badP, c1, c2])]
          exact sIf_f (w1 := w) (by rw [t3]; simp [c2]) rfl
        · rw [if_pos (by simp [badP, c1, c2])]
          exact sIf_t (w1 := w) (by rw [t3]; simp [c2]) (sRet_ok (d := .tup [rowD a, rowD b, rowD (wantedL a b h t)]) (w1 := w) (by simp [sz_line, E]))
      · refine ⟨k8, ?_⟩
        rw [if_neg (by simp [badP, c1])]
        exact sIf_f (w1 := w) (by rw [t1]; simp [c1]) rfl
    obtain ⟨k8', hbody⟩ := body
    rw [List.map_cons]
    unfold forG
    rw [show bName 7 (rowD b) [.dat R, .dat (T h), .dat (T l), .dat (T r), .own (.dT (thereKV rows [])), .dat (T t), .dat (rowD a), k7, k8, .un] = some (E k8) from rfl]
    simp only
    rw [hbody, List.find?_cons]
    cases hbad : badP rows h l t a b with
    | true => exact .inl ⟨b, rfl, by simp⟩
    | false => simpa using parts_in ha hh (fun x hx => hr x (List.mem_cons_of_mem _ hx)) (k7 := .dat (rowD b)) (k8 := k8')
theorem parts_out {h l r t : Tx} {w : Ds} (hh : h.length ≤ 4000) {rows : List (List Int)} (hr : ∀ x ∈ rows, x.length = h.length) : ∀ (post : List (List Int)) (k6 k7 k8 : Sl), (∀ x ∈ post, x.length = h.length) →
    (∃ p, clashP h l t rows post = some p ∧ forG (bName 6) b_clash_of_parts_1 (post.map rowD) [.dat (.lst (rows.map rowD)), .dat (T h), .dat (T l), .dat (T r), .own (.dT (thereKV rows [])), .dat (T t), k6, k7, k8, .un] w = .ret (.tup [rowD p.1, rowD p.2.1, rowD p.2.2]) w) ∨
    (clashP h l t rows post = none ∧ ∃ e, forG (bName 6) b_clash_of_parts_1 (post.map rowD) [.dat (.lst (rows.map rowD)), .dat (T h), .dat (T l), .dat (T r), .own (.dT (thereKV rows [])), .dat (T t), k6, k7, k8, .un] w = .nx e w)
  | [], k6, k7, k8, _ => .inr ⟨rfl, _, rfl⟩
  | a :: post, k6, k7, k8, hp => by
    have ha := hp a List.mem_cons_self
    rw [List.map_cons]
    unfold forG
    rw [show bName 6 (rowD a) [.dat (.lst (rows.map rowD)), .dat (T h), .dat (T l), .dat (T r), .own (.dT (thereKV rows [])), .dat (T t), k6, k7, k8, .un] = some [.dat (.lst (rows.map rowD)), .dat (T h), .dat (T l), .dat (T r), .own (.dT (thereKV rows [])), .dat (T t), .dat (rowD a), k7, k8, .un] from rfl]
    simp only
    unfold clashP
    rcases parts_in (R := .lst (rows.map rowD)) (w := w) (l := l) (r := r) (t := t) (rows := rows) (k7 := k7) (k8 := k8) ha hh hr with ⟨b, h1, h2⟩ | ⟨h1, k7', k8', h2⟩
    · rw [h1]
      refine .inl ⟨_, rfl, ?_⟩
      rw [show b_clash_of_parts_1 [.dat (.lst (rows.map rowD)), .dat (T h), .dat (T l), .dat (T r), .own (.dT (thereKV rows [])), .dat (T t), .dat (rowD a), k7, k8, .un] w = .ret (.tup [rowD a, rowD b, rowD (wantedL a b h t)]) w from sFor_ok (gIt_ok rfl rfl) h2]
    · rw [h1]
      simp only
      rw [show b_clash_of_parts_1 [.dat (.lst (rows.map rowD)), .dat (T h), .dat (T l), .dat (T r), .own (.dT (thereKV rows [])), .dat (T t), .dat (rowD a), k7, k8, .un] w = .nx [.dat (.lst (rows.map rowD)), .dat (T h), .dat (T l), .dat (T r), .own (.dT (thereKV rows [])), .dat (T t), .dat (rowD a), k7', k8', .un] w from sFor_ok (gIt_ok rfl rfl) h2]
      simp only
      exact parts_out hh hr post _ _ _ fun x hx => hp x (List.mem_cons_of_mem _ hx)
theorem m_clash_of_parts_eq {h l r : Tx} {rows : List (List Int)} {w : Ds} (hh : h.length ≤ 4000) (hr : ∀ x ∈ rows, x.length = h.length) (hn : rows.length ≤ 4000) (hlr : l.length + r.length + 1 < 4096) : m_clash_of_parts [.lst (rows.map rowD), T h, T l, T r] w = .dat (tripD (clashP h l (unionL l r) rows rows)) w := by
  have hd : (gDc [9] (gIt srcD (gVar 0)) (bName 9) gYes (gVar 9) (gOk (.bl true))) [.dat (.lst (rows.map rowD)), .dat (T h), .dat (T l), .dat (T r), .un, .un, .un, .un, .un, .un] w = .ok (.dT (thereKV rows [])) w := by
    unfold gDc
    rw [show (gIt srcD (gVar 0)) [.dat (.lst (rows.map rowD)), .dat (T h), .dat (T l), .dat (T r), .un, .un, .un, .un, .un, .un] w = .ok (rows.map rowD) w from gIt_ok rfl rfl, bind_ok]
    rw [dcG_rows (fun x => ⟨[.dat (.lst (rows.map rowD)), .dat (T h), .dat (T l), .dat (T r), .un, .un, .un, .un, .un, .dat (rowD x)], rfl, rfl⟩) rows [] (by rw [sz_line]; simp; omega)]
  rcases parts_out (l := l) (r := r) (t := unionL l r) (w := w) hh hr rows .un .un .un hr with ⟨p, h1, h2⟩ | ⟨h1, e, h2⟩
  · rw [h1]
    exact runM_ret (sSeq_nx (sSetF_ok hd) (sSeq_nx (sSet_ok (gCall_dat (ga2 rfl rfl) (m_union_eq hlr))) (sSeq_ret (sFor_ok (gIt_ok rfl rfl) h2))))
  · rw [h1]
    exact runM_ret (sSeq_nx (sSetF_ok hd) (sSeq_nx (sSet_ok (gCall_dat (ga2 rfl rfl) (m_union_eq hlr))) (sSeq_nx (sFor_ok (gIt_ok rfl rfl) h2) (sRet_ok rfl))))
/-! ### sayings -/
def tellsT : Tx := [116, 101, 108, 108, 115]
def partsT : Tx := [112, 97, 114, 116, 115]
theorem tells_str : Str.ofString "tells" = sx tellsT := by decide +kernel
theorem parts_str : Str.ofString "parts" = sx partsT := by decide +kernel
theorem tells_asc : Asc tellsT := by intro c h; simp [tellsT] at h; omega
theorem parts_asc : Asc partsT := by intro c h; simp [partsT] at h; omega
structure Sy where
  tells : Bool
  l : Tx
  r : Tx
def Sy.word (s : Sy) : Tx := if s.tells then tellsT else partsT
def Sy.d (s : Sy) : Dt := .tup [T s.word, T s.l, T s.r]
theorem Sy.word_asc (s : Sy) : Asc s.word := by unfold Sy.word; split; exact tells_asc; exact parts_asc
theorem Sy.eq_tells (s : Sy) : oEq (T s.word) (.str "tells") = some (.bl s.tells) := by
  rw [tells_str, oEq_T s.word_asc tells_asc]
  unfold Sy.word
  cases s.tells <;> simp [tellsT, partsT]
theorem Sy.eq_parts (s : Sy) : oEq (T s.word) (.str "parts") = some (.bl (!s.tells)) := by
  rw [parts_str, oEq_T s.word_asc parts_asc]
  unfold Sy.word
  cases s.tells <;> simp [tellsT, partsT]
def clashD (h : Tx) (s : Sy) (rows : List (List Int)) : Dt := if s.tells then pairD (clashT h s.l (withoutL s.r s.l) rows) else tripD (clashP h s.l (unionL s.l s.r) rows rows)
def keepsB (h : Tx) (s : Sy) (rows : List (List Int)) : Bool := if s.tells then (clashT h s.l (withoutL s.r s.l) rows).isNone else (clashP h s.l (unionL s.l s.r) rows rows).isNone
/-- a table as the laws hand it -/
structure Tbl (h : Tx) (rs : List (List Int)) : Prop where
  len : ∀ r ∈ rs, r.length = h.length
  few : rs.length < 4000
  hl : h.length ≤ 10
theorem Tbl.ok {h : Tx} {rs : List (List Int)} (t : Tbl h rs) : okRows rs = true := by
  unfold okRows
  simp only [Bool.and_eq_true, Bool.or_eq_true, decide_eq_true_eq, List.all_eq_true, Bool.not_eq_true']
  refine ⟨⟨Nat.lt_of_le_of_lt (by simpa using addAll_len rs []) (Nat.lt_of_lt_of_le t.few (by decide)), ?_⟩, by rw [sz_line]; have := t.few; omega⟩
  by_cases hh : h.length = 0
  · exact .inr fun r hr => List.isEmpty_iff.mpr (List.length_eq_zero_iff.mp ((t.len r hr).trans hh))
  · refine .inl fun r hr => ?_
    have := t.len r hr
    cases r with
    | nil => simp at this; omega
    | cons _ _ => rfl
theorem Tbl.srt {h : Tx} {rs : List (List Int)} (t : Tbl h rs) : Tbl h (sortRows rs) := ⟨fun r hr => t.len r (mem_sortRows.mp hr), Nat.lt_of_le_of_lt (sortRows_len rs) t.few, t.hl⟩
theorem gaC {ga : GE} {gr : GA} {env : Dn.Env} {w w1 w2 : Ds} {d : Dt} {ds : List Dt} (h1 : ga env w = .ok d w1) (h2 : gr env w1 = .ok ds w2) : gCons ga gr env w = .ok (d :: ds) w2 := by
  rw [gCons_app, h1, bind_ok, h2]; rfl
theorem gaN {env : Dn.Env} {w : Ds} : gNil env w = .ok [] w := rfl
theorem m_clash_eq {h : Tx} {s : Sy} {rs : List (List Int)} {w : Ds} (t : Tbl h rs) (hl : s.l.length ≤ 100) (hr : s.r.length ≤ 100) : m_clash [.lst (rs.map rowD), T h, s.d] w = .dat (clashD h s (sortRows rs)) w := by
  have t2 := t.srt
  have h10 := t.hl
  have f2 := t2.few
  have hrise : (gCall 1 [] m_rising (gCons (gVar 0) gNil)) [.dat (.lst (rs.map rowD)), .dat (T h), .dat s.d, .dat (T s.word), .dat (T s.l), .dat (T s.r)] w = .ok (.lst ((sortRows rs).map rowD)) w := gCall_own (ga1 rfl) (m_rising_eq t.ok)
  have hw : (gCall 2 [] m_without (gCons (gVar 5) (gCons (gVar 4) gNil))) [.dat (.lst (rs.map rowD)), .dat (T h), .dat s.d, .dat (T s.word), .dat (T s.l), .dat (T s.r)] w = .ok (T (withoutL s.r s.l)) w := gCall_dat (ga2 rfl rfl) (m_without_eq (by omega))
  have ht : (gTst (gBin oEq (gVar 3) (gOk (.str "tells")))) [.dat (.lst (rs.map rowD)), .dat (T h), .dat s.d, .dat (T s.word), .dat (T s.l), .dat (T s.r)] w = .ok s.tells w := gTst_ok (gBin_ok rfl rfl s.eq_tells)
  have h0 : sAsg (bTup (bCons (bName 3) (bCons (bName 4) (bCons (bName 5) bNil)))) (gVar 2) [.dat (.lst (rs.map rowD)), .dat (T h), .dat s.d, .un, .un, .un] w = .nx [.dat (.lst (rs.map rowD)), .dat (T h), .dat s.d, .dat (T s.word), .dat (T s.l), .dat (T s.r)] w := rfl
  unfold clashD
  cases e : s.tells with
  | true =>
    refine runM_ret (sSeq_nx h0 (sSeq_ret (sIf_t (w1 := w) (by rw [ht, e]) (sRetC_dat (gaC hrise (gaC rfl (gaC rfl (gaC hw gaN)))) (m_clash_of_tells_eq (by omega) t2.len (by omega))))))
  | false =>
    refine runM_ret (sSeq_nx h0 (sSeq_nx (sIf_f (w1 := w) (by rw [ht, e]) rfl) (sRetC_dat (gaC hrise (gaC rfl (gaC rfl (gaC rfl gaN)))) (m_clash_of_parts_eq (by omega) t2.len (by omega) (by omega)))))
end Mi
end
section
/-! Sayings: what the laws draw, what idle ones keep. -/
namespace Mi
open PySem L2 Dn
/-! ### draws -/
theorem oLen_T {h : Tx} (hl : h.length ≤ 16777216) : oLen [T h] = some (.int (h.length : Int)) := by
  show (if (sx h).length ≤ sizeLine then some (Dt.int ((sx h).length : Int)) else none) = _
  rw [sx_length, if_pos (by rw [sz_line]; exact hl)]
theorem gAnd_f {g h : GT} {env : Dn.Env} {w w1 : Ds} (e : g env w = .ok false w1) : gAnd g h env w = .ok false w1 := by rw [gAnd_app, e]; rfl
theorem gAnd_t {g h : GT} {env : Dn.Env} {w w1 : Ds} {o : Out Bool} (e : g env w = .ok true w1) (e' : h env w1 = o) : gAnd g h env w = o := by rw [gAnd_app, e]; exact e'
theorem word_draw {w : Ds} (hw : Wk w) : ∃ s : Bool, ∃ w', ∀ env : Dn.Env, env[0]? = some (.dat .wd) → (gIx (gFrz (gLst (gCons (gOk (.str "tells")) (gCons (gOk (.str "tells")) (gCons (gOk (.str "parts")) gNil))))) (gCall 2 [] m__law_draw (gCons (gVar 0) (gCons (gOk (.int 3)) gNil)))) env w = .ok (T (if s then tellsT else partsT)) w' ∧ Wk w' := by
  obtain ⟨r, w1, e1, r0, r1, hw1⟩ := m__law_draw_eq hw (many := 3) (by decide) (by decide)
  have hm : ∃ s : Bool, atI [Dt.str "tells", Dt.str "tells", Dt.str "parts"] r = some (T (if s then tellsT else partsT)) := by
    have : r = 0 ∨ r = 1 ∨ r = 2 := by omega
    rcases this with rfl | rfl | rfl
    · exact ⟨true, congrArg (fun x => some (Dt.str x)) tells_str⟩
    · exact ⟨true, congrArg (fun x => some (Dt.str x)) tells_str⟩
    · exact ⟨false, congrArg (fun x => some (Dt.str x)) parts_str⟩
  obtain ⟨s, em⟩ := hm
  refine ⟨s, w1, fun env h => ⟨gIx_ok (a := .lst [.str "tells", .str "tells", .str "parts"]) (w1 := w) (gFrz_lst (by simp [sz_line])) (gCall_dat (ds := [.wd, .int 3]) (w1 := w) ?_ e1) em, hw1⟩⟩
  simp [h]
theorem m__law_saying_eq {w : Ds} {h : Tx} (hw : Wk w) (h0 : 0 < h.length) (hh : h.length ≤ 4000) (ha : Asc h) : ∃ (s : Sy) (w' : Ds), m__law_saying [.wd, T h] w = .dat s.d w' ∧ s.l.Sublist h ∧ s.r.Sublist h ∧ Wk w' := by
  obtain ⟨t, w1, e1⟩ := word_draw hw
  have hw1 := (e1 [.dat .wd] rfl).2
  obtain ⟨l, w2, e2, hl, hw2⟩ := m__law_side_eq hw1 (h := h) hh
  obtain ⟨r, w3, e3, hr, hw3⟩ := m__law_side_eq hw2 (h := h) hh
  have e1' := (e1 [.dat .wd, .dat (T h), .un, .un, .un] rfl).1
  have ee : Str.ofString "" = sx [] := rfl
  have fin : ∀ (x : Tx) (w : Ds), sRet (gTup (gCons (gVar 2) (gCons (gVar 3) (gCons (gVar 4) gNil)))) [.dat .wd, .dat (T h), .dat (T (if t then tellsT else partsT)), .dat (T l), .dat (T x)] w = .ret (Sy.d ⟨t, l, x⟩) w := fun x w => sRet_ok (by simp [sz_line, Sy.d, Sy.word])
  by_cases hr0 : r = []
  · subst hr0
    obtain ⟨q, w4, e4, q0, q1, hw4⟩ := m__law_draw_eq hw3 (many := 2) (by decide) (by decide)
    have t1 : (gTst (gBin oEq (gVar 4) (gOk (.str "")))) [.dat .wd, .dat (T h), .dat (T (if t then tellsT else partsT)), .dat (T l), .dat (T [])] w3 = .ok true w3 :=
      gTst_ok (gBin_ok (a := T []) (b := T []) rfl (by rw [gOk_app, ee]) (oEq_same (n := 0) (.str fun c h => by cases h)))
    have t2 : (gTst (gBin oEq (gCall 2 [] m__law_draw (gCons (gVar 0) (gCons (gOk (.int 2)) gNil))) (gOk (.int 0)))) [.dat .wd, .dat (T h), .dat (T (if t then tellsT else partsT)), .dat (T l), .dat (T [])] w3 = .ok (decide (q = 0)) w4 :=
      gTst_ok (gBin_ok (gCall_dat (ga2 rfl rfl) e4) rfl (oEq_int q 0))
    have ta : (gAnd (gTst (gBin oEq (gVar 4) (gOk (.str "")))) (gTst (gBin oEq (gCall 2 [] m__law_draw (gCons (gVar 0) (gCons (gOk (.int 2)) gNil))) (gOk (.int 0))))) [.dat .wd, .dat (T h), .dat (T (if t then tellsT else partsT)), .dat (T l), .dat (T [])] w3 = .ok (decide (q = 0)) w4 := by
      rw [gAnd_app, t1, bind_ok, if_pos rfl, t2]
    by_cases hq : q = 0
    · obtain ⟨i, w5, e5, i0, i1, hw5⟩ := m__law_draw_eq hw4 (many := (h.length : Int)) (by omega) (by omega)
      obtain ⟨k, rfl⟩ : ∃ n : Nat, i = n := ⟨i.toNat, by omega⟩
      refine ⟨⟨t, l, [h[k]'(by omega)]⟩, w5, runM_ret (sSeq_nx (sSet_ok e1') (sSeq_nx (sSet_ok (gCall_dat (ga2 rfl rfl) e2)) (sSeq_nx (sSet_ok (gCall_dat (ga2 rfl rfl) e3)) (sSeq_nx (sIf_t (w1 := w4) ?_ (sSet_ok (gIx_ok (a := T h) (w1 := w4) rfl (gCall_dat (ga2 rfl (gArgs_ok (ga1 rfl) ?_)) e5) (oIx_T (by omega) (by omega))))) (fin _ _))))), hl, List.singleton_sublist.mpr (List.getElem_mem _), hw5⟩
      · exact ta.trans (by simp [hq])
      · exact oLen_T (by omega)
    · refine ⟨⟨t, l, []⟩, w4, runM_ret (sSeq_nx (sSet_ok e1') (sSeq_nx (sSet_ok (gCall_dat (ga2 rfl rfl) e2)) (sSeq_nx (sSet_ok (gCall_dat (ga2 rfl rfl) e3)) (sSeq_nx (sIf_f (w1 := w4) ?_ rfl) (fin _ _))))), hl, hr, hw4⟩
      exact ta.trans (by simp [hq])
  · have t1 : (gTst (gBin oEq (gVar 4) (gOk (.str "")))) [.dat .wd, .dat (T h), .dat (T (if t then tellsT else partsT)), .dat (T l), .dat (T r)] w3 = .ok false w3 :=
      gTst_ok (gBin_ok (a := T r) (b := T []) rfl (by rw [gOk_app, ee]) (by rw [oEq_T (asc_sub ha hr) (fun c h => by cases h)]; simp [hr0]))
    refine ⟨⟨t, l, r⟩, w3, runM_ret (sSeq_nx (sSet_ok e1') (sSeq_nx (sSet_ok (gCall_dat (ga2 rfl rfl) e2)) (sSeq_nx (sSet_ok (gCall_dat (ga2 rfl rfl) e3)) (sSeq_nx (sIf_f (w1 := w3) ?_ rfl) (fin _ _))))), hl, hr, hw3⟩
    exact gAnd_f t1
/-! ### heaps -/
theorem gLcY_inv {α : Type} {vs : List Nat} {gi : GA} {b : Bd} {ge : GE} {env : Dn.Env} {w w1 : Ds} (P : Ds → Prop) (R : List Dt → Prop) (xs : List α) (v : α → Dt) (f : α → Dt → Prop) (hi : gi env w = .ok (xs.map v) w1) (h0 : P w1)
    (h : ∀ x ∈ xs, ∃ e1, b (v x) (hide vs env) = some e1 ∧ ∀ w, P w → ∃ y w3, ge e1 w = .ok y w3 ∧ P w3 ∧ f x y) (hl : xs.length ≤ sizeLine)
    (hR : ∀ zs : List (α × Dt), zs.map (·.1) = xs → (∀ z ∈ zs, f z.1 z.2) → R (zs.map (·.2))) :
    ∃ ys w2, gLc vs gi b gYes ge env w = .ok (.lst ys) w2 ∧ P w2 ∧ R ys := by
  unfold gLc
  rw [hi]
  simp only [Out.bind]
  have key : ∀ (ys : List α) (acc : List Dt) (w : Ds), (∀ y ∈ ys, y ∈ xs) → acc.length + ys.length ≤ sizeLine → P w → ∃ rs w2, lcG b gYes ge (hide vs env) (ys.map v) acc w = .ok (acc ++ rs) w2 ∧ P w2 ∧ ∃ zs : List (α × Dt), zs.map (·.1) = ys ∧ (∀ z ∈ zs, f z.1 z.2) ∧ rs = zs.map (·.2) := by
    intro ys
    induction ys with
    | nil => intro acc w _ _ hP; exact ⟨[], w, by simp [lcG], hP, [], rfl, fun _ h => (nomatch h), rfl⟩
    | cons y ys ih =>
      intro acc w hy hacc hP
      obtain ⟨e1, h1, h2⟩ := h y (hy y List.mem_cons_self)
      obtain ⟨d, w3, h5, hP3, h6⟩ := h2 w hP
      rw [List.length_cons] at hacc
      rw [List.map_cons]
      unfold lcG
      rw [h1]
      simp only [gYes_app]
      rw [h5]
      simp only
      rw [if_pos (by omega)]
      obtain ⟨rs, w4, e, p4, zs, s1, s2⟩ := ih (acc ++ [d]) w3 (fun z hz => hy z (List.mem_cons_of_mem _ hz)) (by simp; omega) hP3
      exact ⟨d :: rs, w4, by rw [e]; simp, p4, (y, d) :: zs, by rw [List.map_cons, s1], fun z hz => (List.mem_cons.mp hz).elim (fun q => q ▸ h6) (s2.1 z), by rw [s2.2]; rfl⟩
  obtain ⟨rs, w2, e, p2, zs, z1, z2, z3⟩ := key xs [] w1 (fun _ h => h) (by simpa using hl) h0
  rw [e]
  exact ⟨rs, w2, by simp, p2, z3 ▸ hR _ z1 z2⟩
theorem each_as {α β : Type} {f : β → Dt} {p : β → Prop} : ∀ {zs : List (α × Dt)}, (∀ z ∈ zs, ∃ b, p b ∧ z.2 = f b) → ∃ bs : List β, bs.length = zs.length ∧ (∀ b ∈ bs, p b) ∧ zs.map (·.2) = bs.map f
  | [], _ => ⟨[], rfl, fun _ h => (nomatch h), rfl⟩
  | z :: zs, h => by
    obtain ⟨b, h1, h2⟩ := h z List.mem_cons_self
    obtain ⟨bs, h3, h4, h5⟩ := each_as (f := f) (p := p) (zs := zs) fun y hy => h y (List.mem_cons_of_mem _ hy)
    exact ⟨b :: bs, by simp [h3], fun c hc => (List.mem_cons.mp hc).elim (fun e => e ▸ h1) (h4 c), by rw [List.map_cons, h5, h2]; rfl⟩
/-! ### idle sayings -/
theorem withinL_iff {a b : Tx} : withinL a b = true ↔ ∀ c ∈ a, c ∈ b := by simp [withinL]
theorem withinL_not {a b : Tx} (h : withinL a b = false) : ∃ c ∈ a, c ∉ b := by
  unfold withinL at h
  rw [List.all_eq_false] at h
  obtain ⟨c, h1, h2⟩ := h
  exact ⟨c, h1, by simpa using h2⟩
theorem mem_unionL {a b : Tx} {c : Nat} : c ∈ unionL a b ↔ c ∈ a ∨ c ∈ b := by simp [unionL]
end Mi
end
section
/-! Texts cut at blanks. -/
namespace Mi
open PySem L2 Dn TL
end Mi
end
section
/-! Sayings read and written. -/
namespace Mi
open PySem L2 Dn
theorem str_empty : Str.ofString "" = sx [] := rfl
theorem asc_nil : Asc [] := fun _ h => nomatch h
abbrev signs : List (Str × Str) := [("tells", ">"), ("parts", ">>")]
def okSide (x h : Tx) : Bool := isSetL x && withinL x h
theorem gIfE_t {c : GT} {g h : GE} {env : Dn.Env} {w w1 : Ds} {o : Out Dt} (e : c env w = .ok true w1) (e' : g env w1 = o) : gIfE c g h env w = o := by rw [gIfE_app, e]; exact e'
theorem gIfE_f {c : GT} {g h : GE} {env : Dn.Env} {w w1 : Ds} {o : Out Dt} (e : c env w = .ok false w1) (e' : h env w1 = o) : gIfE c g h env w = o := by rw [gIfE_app, e]; exact e'
theorem any_pl {n : Nat} {a : Dt} {p : PyData} (ha : Pl n a) (ea : toPy a = some p) : ∀ (ys : List Dt) {ps : List PyData}, (∀ y ∈ ys, Pl n y) → toPys ys = some ps → (anyEq p ps = true ↔ a ∈ ys)
  | [], ps, _, e => by simp [toPys] at e; subst e; simp [anyEq]
  | y :: ys, ps, h, e => by
    obtain ⟨q, e1, _, _⟩ := Pl.py (h y List.mem_cons_self)
    obtain ⟨qs, e2, _, _⟩ := pl_pys ys fun z hz => h z (List.mem_cons_of_mem _ hz)
    have e3 : ps = q :: qs := by simp [toPys, e1, e2] at e; exact e.symm
    subst e3
    have h1 := any_pl ha ea ys (fun z hz => h z (List.mem_cons_of_mem _ hz)) e2
    have h2 := Pl.eqv (h y List.mem_cons_self) ha e1 ea
    unfold anyEq at h1 ⊢
    rw [List.any_cons, Bool.or_eq_true, h1, h2, List.mem_cons]
    exact ⟨fun z => z.imp Eq.symm id, fun z => z.imp Eq.symm id⟩
theorem inD_pl {n : Nat} {a : Dt} {ys : List Dt} (ha : Pl n a) (hy : ∀ y ∈ ys, Pl n y) (hn : n + 1 ≤ 64 := by decide) : ∃ r, inD a (.lst ys) = some r ∧ (r = true ↔ a ∈ ys) := by
  obtain ⟨p, e1, c1, d1⟩ := ha.py
  obtain ⟨ps, e2, c2, d2⟩ := pl_pys ys hy
  refine ⟨anyEq p ps, ?_, any_pl ha e1 ys hy e2⟩
  have h : inD a (.lst ys) = ((toPy a).bind fun p => (toPys ys).bind fun ps => if SeqAt.shaped p = true ∧ SeqAt.shaped (.list ps) = true then some (anyEq p ps) else none) := by
    cases a <;> rfl
  rw [h, e1, e2]
  simp only [Option.bind]
  rw [if_pos ⟨by simp [SeqAt.shaped, c1]; omega, by simp [SeqAt.shaped, PyData.canLay0, PyData.depth, c2]; omega⟩]
end Mi
end
section
/-! Books: sayings as triples of texts, what a Book makes of them. -/
namespace Dn
section
variable {env : Env} {w : Ds}
@[simp] theorem gBind1_app (f : Dt → Option Dt) (ga : GE) : gBind1 f ga env w = (ga env w).bind fun a w1 => match f a with
  | some r => .ok r w1
  | none => .bad := rfl
theorem gBind1_ok {f : Dt → Option Dt} {ga : GE} {a r : Dt} {w1 : Ds} (h : ga env w = .ok a w1) (hf : f a = some r) : gBind1 f ga env w = .ok r w1 := by simp [h, hf]
end
end Dn
namespace Mi
open PySem L2 Dn
/-! ### sayings as triples -/
structure Say where
  w : Tx
  l : Tx
  r : Tx
deriving DecidableEq
namespace Say
def d (s : Say) : Dt := .tup [T s.w, T s.l, T s.r]
def k (s : Say) : List Key := [.inr (sx s.w), .inr (sx s.l), .inr (sx s.r)]
@[simp] theorem keyT_d (s : Say) : keyT s.d = some s.k := rfl
/-- all short -/
structure Ok (s : Say) : Prop where
  aw : Asc s.w
  al : Asc s.l
  ar : Asc s.r
  lw : s.w.length ≤ 1000
  ll : s.l.length ≤ 1000
  lr : s.r.length ≤ 1000
theorem pl {s : Say} (h : s.Ok) {n : Nat} : Pl (n + 1) s.d := .tup fun x hx => by
  simp only [List.mem_cons, List.not_mem_nil, or_false] at hx
  rcases hx with rfl | rfl | rfl
  · exact .str h.aw
  · exact .str h.al
  · exact .str h.ar
end Say
def isSayB (s : Say) (h : Tx) : Bool := (decide (s.w = tellsT) || decide (s.w = partsT)) && (okSide s.l h && okSide s.r h)
/-! ### unlike ones, in the order of their first places -/
def uniqF (acc : List Say) : List Say → List Say
  | [] => acc
  | x :: xs => uniqF (if x ∈ acc then acc else acc ++ [x]) xs
def uniq (xs : List Say) : List Say := uniqF [] xs
/-! ### Book(..) -/
def bookD (h : Tx) (ss : List Say) : Dt := .obj "Book" [("letters", T h), ("said", .lst (ss.map Say.d))]
/-- what Book(h, ss) comes to -/
inductive Bk where
  | cols
  | say (i : Nat)
  | full
  | ok (ss : List Say)
abbrev E0 (h : Tx) (dd : Dt) (a b c : Sl) : Dn.Env := [.own (.slf "Book" []), .dat (T h), .dat dd, a, b, c]
end Mi
end
section
/-! Books, what the laws draw for them: unlike ones, sayings drawn, heads and sayings that are none. -/
namespace Mi
open PySem L2 Dn
/-! ### small -/
theorem gLst_ok' {g : GA} {env : Dn.Env} {w w1 : Ds} {ds : List Dt} (h : g env w = .ok ds w1) (hl : ds.length ≤ 16777216) : gLst g env w = .ok (.lst ds) w1 := by rw [gLst_app, h, bind_ok, if_pos (by rw [sz_line]; exact hl)]
theorem gTup_ok {g : GA} {env : Dn.Env} {w w1 : Ds} {ds : List Dt} (h : g env w = .ok ds w1) (hl : ds.length ≤ 16777216) : gTup g env w = .ok (.tup ds) w1 := by rw [gTup_app, h, bind_ok, if_pos (by rw [sz_line]; exact hl)]
theorem gFL {g : GA} {env : Dn.Env} {w w1 : Ds} {ds : List Dt} (h : g env w = .ok ds w1) (hl : ds.length ≤ 16777216) : gFrz (gLst g) env w = .ok (.lst ds) w1 := gFrz_lst (gLst_ok' h hl)
theorem draw_at {env : Dn.Env} {w : Ds} {i n : Nat} (hw : Wk w) (hn : 0 < n) (hn1 : n < 1000) (h0 : env[i]? = some (.dat .wd)) : ∃ q w', gCall 2 [] m__law_draw (gCons (gVar i) (gCons (gOk (.int (n : Int))) gNil)) env w = .ok (.int q) w' ∧ 0 ≤ q ∧ q < (n : Int) ∧ Wk w' := by
  obtain ⟨q, w1, e, q0, q1, hw1⟩ := m__law_draw_eq hw (many := n) (by omega) (by omega)
  exact ⟨q, w1, gCall_dat (ga2 (by rw [gVar_app, h0]) rfl) e, q0, q1, hw1⟩
theorem two {h : Tx} (hl : 2 ≤ h.length) : ∃ a b r, h = a :: b :: r := by
  match h, hl with
  | a :: b :: r, _ => exact ⟨a, b, r, rfl⟩
/-! ### heads that are none -/
theorem gSl_ok {ga : GE} {gl gh : GO} {env : Dn.Env} {w w1 w2 w3 : Ds} {a r : Dt} {lo hi : Option Int} (h1 : ga env w = .ok a w1) (h2 : gl env w1 = .ok lo w2) (h3 : gh env w2 = .ok hi w3) (hf : oSl a lo hi = some r) : gSl ga gl gh env w = .ok r w3 := by simp [h1, h2, h3, hf]
/-! ### sayings that are none -/
/-! ### unlike ones -/
/-! ### sayings drawn -/
/-- a saying over a head -/
structure SayH (h : Tx) (s : Say) : Prop where
  wd : s.w = tellsT ∨ s.w = partsT
  l : s.l.Sublist h
  r : s.r.Sublist h
theorem SayH.ok {h : Tx} {s : Say} (H : Hd h) (a : SayH h s) : s.Ok := by
  have h1 := a.l.length_le
  have h2 := a.r.length_le
  have h3 := H.hi
  refine ⟨?_, asc_sub H.asc a.l, asc_sub H.asc a.r, ?_, by omega, by omega⟩
  · rcases a.wd with e | e <;> rw [e]
    · exact tells_asc
    · exact parts_asc
  · rcases a.wd with e | e <;> rw [e] <;> decide
theorem set_sub {h a : Tx} (H : Hd h) (s : a.Sublist h) : isSetL a = true := by
  unfold isSetL
  rw [Bool.and_eq_true]
  exact ⟨List.all_eq_true.mpr fun c hc => by simpa using H.let_ c (s.subset hc), adj_ris.mpr (H.ris.sublist s)⟩
theorem SayH.say {h : Tx} {s : Say} (H : Hd h) (a : SayH h s) : isSayB s h = true := by
  unfold isSayB okSide
  rw [set_sub H a.l, set_sub H a.r, withinL_iff.mpr fun c hc => a.l.subset hc, withinL_iff.mpr fun c hc => a.r.subset hc]
  rcases a.wd with e | e <;> simp [e]
end Mi
end
section
/-! k08: many sayings, what a Book made or refused answers. -/
namespace Mi
open PySem L2 Dn
theorem oLen_lst {ds : List Dt} (h : ds.length ≤ 16777216) : oLen [.lst ds] = some (.int (ds.length : Int)) := by
  first
  | rfl
  | (show (if ds.length ≤ sizeLine then some (Dt.int (ds.length : Int)) else none) = _
     rw [if_pos (by rw [sz_line]; exact h)])
theorem isSub_h {h s : Tx} (H : Hd h) (hs : s ∈ subsetsL h) : s.Sublist h := (mem_subsL h s).mp (mem_keySort.mp hs)
/-! ### Book(..) made or refused -/
def Bk.d : Bk → Dt
  | .cols => .tup [.str "BadColumns", .bl true, .bl false]
  | .say i => .tup [.str "BadSaying", .int i, .bl true, .bl false]
  | .full => .tup [.str "Full", .int 12, .bl false, .bl true]
  | .ok ss => .int (ss.length : Int)
end Mi
end
section
/-! Books told: sorted sayings, ==, pages, words for them. -/
namespace Mi
open PySem L2 Dn
open PyProof.Rows
open PySem.W (AllAlike Sortable dataLe alike alikeAll)
/-! ### sorted(sayings) -/
/-! ### lists of sayings, == -/
def LS (ss : List Say) : Dt := .lst (ss.map Say.d)
/-! ### methods that tell -/
theorem oEq_tells {x : Tx} (h : Asc x) : oEq (T x) (.str "tells") = some (.bl (decide (x = tellsT))) := by
  rw [tells_str]
  exact oEq_T h tells_asc
end Mi
end
section
/-! Books told: pages, words for them. -/
namespace Mi
open PySem L2 Dn PySem.Spec PyProof.Rows
/-! ### texts put together -/
theorem oEq_nil {x : Tx} (h : Asc x) : oEq (T x) (.str "") = some (.bl (decide (x = []))) := by
  rw [str_empty]
  exact oEq_T h asc_nil
/-! ### joined -/
/-! ### repr -/
end Mi
end
section
/-! Books told: repr, all at once; Books made of sayings over their head. -/
namespace Mi
open PySem L2 Dn PySem.Spec PyProof.Rows
/-! ### a Book is told as it should be -/
/-! ### Books of sayings over their head -/
end Mi
end
section
/-! Sayings written and read. -/
namespace Mi
open PySem L2 Dn PySem.Spec PyProof.Rows TL
/-! ### words -/
/-! ### what a text reads as -/
end Mi
end
section
/-! Sayings read by the program; written; spoilt. -/
namespace Mi
open PySem L2 Dn PySem.Spec PyProof.Rows TL
end Mi
end
section
/-! Sayings written; texts spoilt. -/
namespace Mi
open PySem L2 Dn PySem.Spec PyProof.Rows TL
/-! ### what is written reads as it was -/
/-! ### texts cut and joined -/
end Mi
end
section
/-! Blocks: cuts by ways, any order, end alike. Plain lists. -/
namespace Mi
open PySem L2 Dn
abbrev Way := Tx × Tx
def cutB (b : Tx) (w : Way) : Bool := decide (commonL b w.1 = []) && (!decide (commonL b w.2 = []) && !decide (commonL b w.2 = b))
theorem mem_withoutL {a b : Tx} {c : Nat} : c ∈ withoutL a b ↔ c ∈ a ∧ c ∉ b := by simp [withoutL]
theorem common_nil {a b : Tx} : commonL a b = [] ↔ ∀ c ∈ a, c ∉ b := by
  unfold commonL
  rw [List.filter_eq_nil_iff]
  simp
theorem common_all {a b : Tx} : commonL a b = a ↔ ∀ c ∈ a, c ∈ b := by
  unfold commonL
  rw [List.filter_eq_self]
  simp
structure Part (R : Tx) (P : List Tx) : Prop where
  sub : ∀ b ∈ P, b.Sublist R
  ne : ∀ b ∈ P, b ≠ []
  all : ∀ c ∈ R, ∃ b ∈ P, c ∈ b
  dis : P.Pairwise fun a b => ∀ c, c ∈ a → c ∉ b
  sum : (P.map (·.length)).sum = R.length
theorem sum_perm {P Q : List Tx} (h : P.Perm Q) : (P.map (·.length)).sum = (Q.map (·.length)).sum := by
  induction h with
  | nil => rfl
  | cons x _ ih => simp [ih]
  | swap x y l => simp; omega
  | trans _ _ h1 h2 => exact h1.trans h2
theorem Part.perm {R : Tx} {P Q : List Tx} (a : Part R P) (h : P.Perm Q) : Part R Q where
  sub := fun b hb => a.sub b (h.mem_iff.mpr hb)
  ne := fun b hb => a.ne b (h.mem_iff.mpr hb)
  all := fun c hc => by
    obtain ⟨b, hb, hc⟩ := a.all c hc
    exact ⟨b, h.mem_iff.mp hb, hc⟩
  dis := (h.pairwise_iff fun {x y} hxy c hy hx => hxy c hx hy).mp a.dis
  sum := by rw [← sum_perm h]; exact a.sum
theorem len_split (a b : Tx) : (commonL a b).length + (withoutL a b).length = a.length := by
  unfold commonL withoutL
  induction a with
  | nil => rfl
  | cons c a ih =>
    by_cases h : c ∈ b
    · simp only [List.filter_cons, h, decide_true, if_true, Bool.not_true, Bool.false_eq_true, if_false, List.length_cons] at ih ⊢
      omega
    · simp only [List.filter_cons, h, decide_false, Bool.false_eq_true, if_false, Bool.not_false, if_true, List.length_cons] at ih ⊢
      omega
theorem cutB_iff {b : Tx} {w : Way} : cutB b w = true ↔ commonL b w.1 = [] ∧ commonL b w.2 ≠ [] ∧ commonL b w.2 ≠ b := by
  unfold cutB
  simp
theorem Part.split {R : Tx} {b : Tx} {P : List Tx} {w : Way} (a : Part R (b :: P)) (hc : cutB b w = true) : Part R (commonL b w.2 :: withoutL b w.2 :: P) := by
  obtain ⟨h1, h2, h3⟩ := cutB_iff.mp hc
  have sb := a.sub b List.mem_cons_self
  have dp := List.pairwise_cons.mp a.dis
  refine ⟨fun x hx => ?_, fun x hx => ?_, fun c hc => ?_, ?_, ?_⟩
  · simp only [List.mem_cons] at hx
    rcases hx with rfl | rfl | hx
    · exact (List.filter_sublist).trans sb
    · exact (List.filter_sublist).trans sb
    · exact a.sub x (List.mem_cons_of_mem _ hx)
  · simp only [List.mem_cons] at hx
    rcases hx with rfl | rfl | hx
    · exact h2
    · intro e
      apply h3
      rw [common_all]
      intro c hcb
      cases Classical.em (c ∈ w.2) with
      | inl h => exact h
      | inr h =>
        have : c ∈ withoutL b w.2 := mem_withoutL.mpr ⟨hcb, h⟩
        rw [e] at this
        cases this
    · exact a.ne x (List.mem_cons_of_mem _ hx)
  · obtain ⟨x, hx, hcx⟩ := a.all c hc
    rcases List.mem_cons.mp hx with rfl | hx
    · by_cases h : c ∈ w.2
      · exact ⟨_, List.mem_cons_self, mem_commonL.mpr ⟨hcx, h⟩⟩
      · exact ⟨_, List.mem_cons_of_mem _ List.mem_cons_self, mem_withoutL.mpr ⟨hcx, h⟩⟩
    · exact ⟨x, List.mem_cons_of_mem _ (List.mem_cons_of_mem _ hx), hcx⟩
  · refine List.pairwise_cons.mpr ⟨fun y hy c hc => ?_, List.pairwise_cons.mpr ⟨fun y hy c hc => ?_, dp.2⟩⟩
    · rcases List.mem_cons.mp hy with rfl | hy
      · exact fun hm => (mem_withoutL.mp hm).2 (mem_commonL.mp hc).2
      · exact dp.1 y hy c (mem_commonL.mp hc).1
    · exact dp.1 y hy c (mem_withoutL.mp hc).1
  · have h := a.sum
    have hl := len_split b w.2
    simp only [List.map_cons, List.sum_cons] at h ⊢
    omega
/-- one cut -/
def Step (w : Way) (P P' : List Tx) : Prop := ∃ b P0, P.Perm (b :: P0) ∧ P'.Perm (commonL b w.2 :: withoutL b w.2 :: P0) ∧ cutB b w = true
theorem Step.part {R : Tx} {P P' : List Tx} {w : Way} (s : Step w P P') (a : Part R P) : Part R P' := by
  obtain ⟨b, P0, h1, h2, hc⟩ := s
  exact ((a.perm h1).split hc).perm h2.symm
theorem Step.len {P P' : List Tx} {w : Way} (s : Step w P P') : P'.length = P.length + 1 := by
  obtain ⟨b, P0, h1, h2, hc⟩ := s
  rw [h2.length_eq, h1.length_eq]
  simp
def Stable (ws : List Way) (P : List Tx) : Prop := ∀ w ∈ ws, ∀ b ∈ P, cutB b w = false
def Coarser (P Q : List Tx) : Prop := ∀ q ∈ Q, ∃ b ∈ P, ∀ c ∈ q, c ∈ b
theorem Step.coarser {P P' Q : List Tx} {ws : List Way} {w : Way} (s : Step w P P') (hw : w ∈ ws) (hs : Stable ws Q) (h : Coarser P Q) : Coarser P' Q := by
  obtain ⟨b, P0, h1, h2, hc⟩ := s
  obtain ⟨c1, _, _⟩ := cutB_iff.mp hc
  intro q hq
  obtain ⟨x, hx, hsub⟩ := h q hq
  rcases List.mem_cons.mp (h1.mem_iff.mp hx) with rfl | hx
  · have hq' := hs w hw q hq
    have n1 : commonL q w.1 = [] := common_nil.mpr fun c hc' => common_nil.mp c1 c (hsub c hc')
    by_cases n2 : commonL q w.2 = []
    · refine ⟨withoutL x w.2, h2.mem_iff.mpr (List.mem_cons_of_mem _ List.mem_cons_self), fun c hc' => mem_withoutL.mpr ⟨hsub c hc', common_nil.mp n2 c hc'⟩⟩
    · have n3 : commonL q w.2 = q := by
        cases Classical.em (commonL q w.2 = q) with
        | inl h => exact h
        | inr h =>
          have : cutB q w = true := cutB_iff.mpr ⟨n1, n2, h⟩
          rw [this] at hq'
          cases hq'
      exact ⟨commonL x w.2, h2.mem_iff.mpr List.mem_cons_self, fun c hc' => mem_commonL.mpr ⟨hsub c hc', common_all.mp n3 c hc'⟩⟩
  · exact ⟨x, h2.mem_iff.mpr (List.mem_cons_of_mem _ (List.mem_cons_of_mem _ hx)), hsub⟩
theorem Part.few {R : Tx} {P : List Tx} (a : Part R P) : P.length ≤ R.length := by
  rw [← a.sum]
  have h := a.ne
  clear a
  induction P with
  | nil => simp
  | cons b P ih =>
    have := ih fun x hx => h x (List.mem_cons_of_mem _ hx)
    have := List.length_pos_iff.mpr (h b List.mem_cons_self)
    simp only [List.map_cons, List.sum_cons, List.length_cons]
    omega
theorem Part.nodup {R : Tx} {P : List Tx} (a : Part R P) : P.Nodup := by
  have h := a.ne
  have d := a.dis
  clear a
  induction P with
  | nil => exact List.nodup_nil
  | cons b P ih =>
    have dp := List.pairwise_cons.mp d
    refine List.nodup_cons.mpr ⟨fun hm => ?_, ih (fun x hx => h x (List.mem_cons_of_mem _ hx)) dp.2⟩
    obtain ⟨c, l, e⟩ := List.exists_cons_of_ne_nil (h b List.mem_cons_self)
    exact dp.1 b hm c (by rw [e]; simp) (by rw [e]; simp)
theorem pair_mem {P : List Tx} (d : P.Pairwise fun a b => ∀ c, c ∈ a → c ∉ b) {a b : Tx} (ha : a ∈ P) (hb : b ∈ P) {c : Nat} (h1 : c ∈ a) (h2 : c ∈ b) : a = b := by
  induction P with
  | nil => cases ha
  | cons x P ih =>
    have dp := List.pairwise_cons.mp d
    rcases List.mem_cons.mp ha with e1 | ha
    · rcases List.mem_cons.mp hb with e2 | hb
      · rw [e1, e2]
      · rw [e1] at h1; exact absurd h2 (dp.1 b hb c h1)
    · rcases List.mem_cons.mp hb with e2 | hb
      · rw [e2] at h2; exact absurd h1 (dp.1 a ha c h2)
      · exact ih dp.2 ha hb
theorem same_half {R : Tx} {P Q : List Tx} (hR : Ris R) (a : Part R P) (b : Part R Q) (h1 : Coarser P Q) (h2 : Coarser Q P) : ∀ x ∈ P, x ∈ Q := fun x hx => by
  obtain ⟨q, hq, s1⟩ := h2 x hx
  obtain ⟨y, hy, s2⟩ := h1 q hq
  obtain ⟨c, l, e⟩ := List.exists_cons_of_ne_nil (a.ne x hx)
  have hc : c ∈ x := by rw [e]; simp
  have exy := pair_mem a.dis hx hy hc (s2 c (s1 c hc))
  subst exy
  have : x = q := ris_ext (hR.sublist (a.sub x hx)) (hR.sublist (b.sub q hq)) fun c => ⟨s1 c, s2 c⟩
  rw [this]
  exact hq
theorem same_perm {R : Tx} {P Q : List Tx} (hR : Ris R) (a : Part R P) (b : Part R Q) (h1 : Coarser P Q) (h2 : Coarser Q P) : P.Perm Q :=
  (List.perm_ext_iff_of_nodup a.nodup b.nodup).mpr fun x => ⟨same_half hR a b h1 h2 x, same_half hR b a h2 h1 x⟩
/-- reached from the one block by cuts -/
inductive Run (ws : List Way) (R : Tx) : List Tx → Prop
  | start : Run ws R [R]
  | step {P P' : List Tx} {w : Way} : Run ws R P → w ∈ ws → Step w P P' → Run ws R P'
theorem part_start {R : Tx} (h : R ≠ []) : Part R [R] := ⟨fun b hb => by rw [List.mem_singleton.mp hb]; exact List.Sublist.refl _, fun b hb => by rw [List.mem_singleton.mp hb]; exact h, fun c hc => ⟨R, by simp, hc⟩, by simp, by simp⟩
theorem Run.part {ws : List Way} {R : Tx} {P : List Tx} (hR : R ≠ []) (r : Run ws R P) : Part R P := by
  induction r with
  | start => exact part_start hR
  | step _ _ s ih => exact s.part ih
theorem Run.coarser {ws : List Way} {R : Tx} {P Q : List Tx} (r : Run ws R P) (hs : Stable ws Q) (b : Part R Q) : Coarser P Q := by
  induction r with
  | start => exact fun q hq => ⟨R, by simp, fun c hc => (b.sub q hq).subset hc⟩
  | step _ hw s ih => exact s.coarser hw hs ih
theorem runs_alike {ws : List Way} {R : Tx} {P Q : List Tx} (hR : Ris R) (h0 : R ≠ []) (a : Run ws R P) (b : Run ws R Q) (sp : Stable ws P) (sq : Stable ws Q) : P.Perm Q :=
  same_perm hR (a.part h0) (b.part h0) (a.coarser sq (b.part h0)) (b.coarser sp (a.part h0))
end Mi
end
section
/-! Loops that end at the first hit; while loops; ways and cuts as the program and the laws find them. -/
namespace Mi
open PySem L2 Dn
theorem forG_first {α : Type} {b : Bd} {body : GS} (I : Dn.Env → Prop) (f : α → Option Dt) (v : α → Dt) {w : Ds} (xs : List α)
    (h : ∀ x ∈ xs, ∀ env, I env → ∃ e1, b (v x) env = some e1 ∧ match f x with
      | some d => body e1 w = .ret d w
      | none => ∃ e2, body e1 w = .nx e2 w ∧ I e2) :
    ∀ {env : Dn.Env}, I env → match xs.findSome? f with
      | some d => forG b body (xs.map v) env w = .ret d w
      | none => ∃ e2, forG b body (xs.map v) env w = .nx e2 w ∧ I e2 := by
  induction xs with
  | nil => exact fun {env} hI => ⟨env, rfl, hI⟩
  | cons x xs ih =>
    intro env hI
    obtain ⟨e1, hb, hx⟩ := h x List.mem_cons_self env hI
    rw [List.findSome?_cons, List.map_cons]
    cases e : f x with
    | some d =>
      rw [e] at hx
      simp only
      unfold forG
      rw [hb]
      simp only
      rw [hx]
    | none =>
      rw [e] at hx
      obtain ⟨e2, hx, hI2⟩ := hx
      have := ih (fun y hy => h y (List.mem_cons_of_mem _ hy)) hI2
      simp only
      unfold forG
      rw [hb]
      simp only
      rw [hx]
      exact this
theorem while_run {c : GT} {body : GS} {w : Ds} (I : Nat → Dn.Env → Prop) (Fin : Dn.Env → Prop)
    (h : ∀ m env, I m env → (c env w = .ok false w ∧ Fin env) ∨ (c env w = .ok true w ∧ ∃ e2, body env w = .nx e2 w ∧ ∃ m', m' < m ∧ I m' e2)) :
    ∀ (n m : Nat) (env : Dn.Env), m < n → I m env → ∃ e, whileG c body n env w = .nx e w ∧ Fin e := by
  intro n
  induction n with
  | zero => exact fun m env hl => absurd hl (Nat.not_lt_zero _)
  | succ n ih =>
    intro m env hl hI
    rcases h m env hI with ⟨h1, h2⟩ | ⟨h1, e2, h2, m', h3, h4⟩
    · refine ⟨env, ?_, h2⟩
      unfold whileG
      rw [h1]
    · obtain ⟨e, he, hf⟩ := ih m' e2 (by omega) h4
      refine ⟨e, ?_, hf⟩
      unfold whileG
      rw [h1]
      simp only
      rw [h2]
      exact he
theorem sWhile_ok {c : GT} {body : GS} {env : Dn.Env} {w : Ds} {o : OutS} (h : whileG c body turnsMost env w = o) : sWhile c body env w = o := h
/-! ### ways -/
def wayD (w : Way) : Dt := .tup [T w.1, T w.2]
def waysOf (s : Say) : List Way := if s.w = tellsT then s.r.map fun c => (s.l, [c]) else [(s.l, s.r)]
def waysL (ss : List Say) : List Way := (ss.map waysOf).flatten
theorem mem_waysL {ss : List Say} {w : Way} : w ∈ waysL ss ↔ ∃ s ∈ ss, w ∈ waysOf s := by
  unfold waysL
  rw [List.mem_flatten]
  constructor
  · rintro ⟨l, hl, hw⟩
    obtain ⟨s, hs, rfl⟩ := List.mem_map.mp hl
    exact ⟨s, hs, hw⟩
  · rintro ⟨s, hs, hw⟩
    exact ⟨waysOf s, List.mem_map.mpr ⟨s, hs, rfl⟩, hw⟩
theorem waysOf_len {s : Say} (h : s.Ok) : (waysOf s).length ≤ 1000 := by
  unfold waysOf
  split
  · rw [List.length_map]; exact h.lr
  · simp
theorem waysL_cons (s : Say) (ss : List Say) : waysL (s :: ss) = waysOf s ++ waysL ss := rfl
theorem waysL_len : ∀ {ss : List Say}, (∀ s ∈ ss, s.Ok) → (waysL ss).length ≤ 1000 * ss.length
  | [], _ => by simp [waysL]
  | s :: ss, h => by
    have h1 := waysOf_len (h s List.mem_cons_self)
    have h2 := waysL_len fun x hx => h x (List.mem_cons_of_mem _ hx)
    rw [waysL_cons, List.length_append, List.length_cons]
    omega
theorem m_cutters_eq {h : Tx} {ss : List Say} {w : Ds} (ok : ∀ s ∈ ss, s.Ok) (few : ss.length ≤ 1000) : m_cutters [bookD h ss] w = .own (.lst ((waysL ss).map wayD)) w := by
  have key : ∀ (xs : List Say) (acc : List Way) (k2 k3 k4 k5 : Sl), (∀ s ∈ xs, s.Ok) → acc.length + 1000 * xs.length ≤ 1000000 → ∃ k2' k3' k4' k5', forG (bTup (bCons (bName 2) (bCons (bName 3) (bCons (bName 4) bNil)))) b_cutters_0 (xs.map Say.d) [.dat (bookD h ss), .own (.lst (acc.map wayD)), k2, k3, k4, k5] w = .nx [.dat (bookD h ss), .own (.lst ((acc ++ waysL xs).map wayD)), k2', k3', k4', k5'] w := by
    intro xs
    induction xs with
    | nil => exact fun acc k2 k3 k4 k5 _ _ => ⟨k2, k3, k4, k5, by simp [waysL, forG]⟩
    | cons s xs ih =>
      intro acc k2 k3 k4 k5 hk hl
      rw [List.length_cons] at hl
      have so := hk s List.mem_cons_self
      have wl := waysOf_len so
      let E : Dn.Env := [.dat (bookD h ss), .own (.lst (acc.map wayD)), .dat (T s.w), .dat (T s.l), .dat (T s.r), k5]
      rw [List.map_cons]
      unfold forG
      rw [show bTup (bCons (bName 2) (bCons (bName 3) (bCons (bName 4) bNil))) s.d [.dat (bookD h ss), .own (.lst (acc.map wayD)), k2, k3, k4, k5] = some E from rfl]
      simp only
      have t : (gTst (gBin oEq (gVar 2) (gOk (.str "tells")))) E w = .ok (decide (s.w = tellsT)) w := gTst_ok (gBin_ok rfl rfl (oEq_tells so.aw))
      have body : b_cutters_0 E w = .nx [.dat (bookD h ss), .own (.lst ((acc ++ waysOf s).map wayD)), .dat (T s.w), .dat (T s.l), .dat (T s.r), k5] w := by
        unfold waysOf at wl ⊢
        by_cases hw : s.w = tellsT
        · rw [if_pos hw] at wl ⊢
          have e := gLc_map (vs := [5]) (gi := gIt srcD (gVar 4)) (b := bName 5) (gt := gYes) (ge := gTup (gCons (gVar 3) (gCons (gVar 5) gNil))) (env := E) (w := w) (w1 := w) s.r (fun c => T [c]) (fun _ => true) (fun c => wayD (s.l, [c]))
            (gIt_ok rfl (srcD_T s.r)) (fun c hc => ⟨(hide [5] E).set 5 (.dat (T [c])), by simp [E], rfl, fun _ => gTup_ok (ga2 (d := T s.l) (d' := T [c]) (w1 := w) (w2 := w) (by simp [E]) (by simp [E])) (by simp)⟩) (by rw [sz_line]; have := so.lr; omega)
          rw [filter_tt] at e
          refine sIf_t (w1 := w) (t.trans (by simp [hw])) ?_
          rw [sLm_app, show E[1]? = some (.own (.lst (acc.map wayD))) from rfl]
          simp only [ga1 (gFrz_lst e), fExt]
          rw [if_pos (by rw [List.length_map] at wl; simp [sz_line]; omega)]
          show OutS.nx _ w = _
          simp [E, List.map_map, Function.comp_def]
        · rw [if_neg hw] at wl ⊢
          refine sIf_f (w1 := w) (t.trans (by simp [hw])) ?_
          have e := gTup_ok (g := gCons (gVar 3) (gCons (gVar 4) gNil)) (env := E) (w := w) (w1 := w) (ds := [T s.l, T s.r]) (ga2 rfl rfl) (by simp)
          have hk' : (acc.map wayD).length < sizeLine := by rw [sz_line, List.length_map]; omega
          rw [sLm_app, show E[1]? = some (.own (.lst (acc.map wayD))) from rfl]
          simp only [ga1 e, fApp, if_pos hk']
          show OutS.nx _ w = _
          simp [E, wayD]
      rw [body]
      simp only
      obtain ⟨a2, a3, a4, a5, e⟩ := ih (acc ++ waysOf s) (.dat (T s.w)) (.dat (T s.l)) (.dat (T s.r)) k5 (fun x hx => hk x (List.mem_cons_of_mem _ hx)) (by rw [List.length_append]; omega)
      exact ⟨a2, a3, a4, a5, by rw [e, waysL_cons, List.append_assoc]⟩
  obtain ⟨a2, a3, a4, a5, e⟩ := key ss [] .un .un .un .un ok (by simp; omega)
  rw [List.nil_append] at e
  exact runM_rtf (sSeq_nx (sSetF_ok (d := .lst []) (w1 := w) rfl) (sSeq_nx (sFor_ok (gIt_ok (d := .lst (ss.map Say.d)) (gBind1_ok (a := bookD h ss) rfl rfl) rfl) e) rfl))
/-! ### the first cut -/
/-- short texts -/
def Sh (x : Tx) : Prop := Asc x ∧ x.length ≤ 1000
theorem Sh.common {a b : Tx} (h : Sh a) : Sh (commonL a b) := ⟨asc_sub h.1 List.filter_sublist, Nat.le_trans List.filter_sublist.length_le h.2⟩
theorem Sh.without {a b : Tx} (h : Sh a) : Sh (withoutL a b) := ⟨asc_sub h.1 List.filter_sublist, Nat.le_trans List.filter_sublist.length_le h.2⟩
def ShW (ws : List Way) : Prop := ∀ w ∈ ws, Sh w.1 ∧ Sh w.2
theorem waysOf_sh {s : Say} (h : s.Ok) : ShW (waysOf s) := fun w hw => by
  unfold waysOf at hw
  split at hw
  · obtain ⟨c, hc, rfl⟩ := List.mem_map.mp hw
    exact ⟨⟨h.al, h.ll⟩, fun d hd => h.ar d (by rw [List.mem_singleton.mp hd]; exact hc), by simp⟩
  · rw [List.mem_singleton.mp hw]
    exact ⟨⟨h.al, h.ll⟩, ⟨h.ar, h.lr⟩⟩
theorem waysL_sh {ss : List Say} (h : ∀ s ∈ ss, s.Ok) : ShW (waysL ss) := fun w hw => by
  obtain ⟨s, hs, hw⟩ := mem_waysL.mp hw
  exact waysOf_sh (h s hs) w hw
def firstAt (w : Way) (P : List Tx) : Option (Nat × Way) := P.zipIdx.findSome? fun p => if cutB p.1 w then some (p.2, w) else none
def cutOnce (ws : List Way) (P : List Tx) : Option (Nat × Way) := ws.findSome? fun w => firstAt w P
def onceD : Option (Nat × Way) → Dt
  | some (i, w) => .tup [.int (i : Int), T w.1, T w.2]
  | none => .non
theorem enumD_T : ∀ (P : List Tx) (k : Nat), enumD (k : Int) (P.map T) = (P.zipIdx k).map fun p => .tup [.int (p.2 : Int), T p.1]
  | [], _ => rfl
  | b :: P, k => by
    have := enumD_T P (k + 1)
    simp only [List.map_cons, List.zipIdx_cons, enumD]
    rw [← this]
    rfl
theorem findSome_map {α β γ : Type} (f : α → Option β) (g : β → γ) : ∀ xs : List α, (xs.findSome? fun x => (f x).map g) = (xs.findSome? f).map g
  | [] => rfl
  | x :: xs => by
    rw [List.findSome?_cons, List.findSome?_cons]
    cases f x with
    | none => exact findSome_map f g xs
    | some y => rfl
theorem oNotInT_two {x b : Tx} : oNotInT (T x) (.tup [.str "", T b]) = some (.bl (!decide (x = []) && !decide (x = b))) := by
  have e : oNotInT (T x) (.tup [.str "", T b]) = (strsOf [.str "", T b]).map fun ys => Dt.bl (!ys.any fun y => decide (y = sx x)) := rfl
  have e2 : strsOf [.str "", T b] = some [sx [], sx b] := by
    show some [Str.ofString "", sx b] = _
    rw [str_empty]
  rw [e, e2]
  simp only [Option.map_some, List.any_cons, List.any_nil, Bool.or_false, sx_eq]
  congr 2
  by_cases h1 : x = []
  · subst h1; simp
  · by_cases h2 : x = b
    · subst h2; simp
    · simp [h1, h2, Ne.symm h1, Ne.symm h2]
theorem m_cut_once_eq {P : List Tx} {ws : List Way} {w : Ds} (hP : ∀ b ∈ P, Sh b) (hW : ShW ws) (few : P.length ≤ 1000) : m_cut_once [.lst (P.map T), .lst (ws.map wayD)] w = .dat (onceD (cutOnce ws P)) w := by
  have inner : ∀ (u : Way), Sh u.1 → Sh u.2 → ∀ (env : Dn.Env), (∃ k4 k5 k6, env = [.dat (.lst (P.map T)), .dat (.lst (ws.map wayD)), .dat (T u.1), .dat (T u.2), k4, k5, k6]) →
      match ((P.zipIdx).findSome? fun p => (if cutB p.1 u then some (p.2, u) else none).map fun z => onceD (some z)) with
      | some d => b_cut_once_1 env w = .ret d w
      | none => ∃ e2, b_cut_once_1 env w = .nx e2 w ∧ ∃ k4 k5 k6, e2 = [.dat (.lst (P.map T)), .dat (.lst (ws.map wayD)), .dat (T u.1), .dat (T u.2), k4, k5, k6] := fun u h1 h2 env hI => by
    have hen : gIts (oEnum 0) (gCons (gVar 0) gNil) env w = .ok (P.zipIdx.map fun p => .tup [.int (p.2 : Int), T p.1]) w := by
      obtain ⟨k4, k5, k6, rfl⟩ := hI
      refine gIts_ok (ga1 (d := .lst (P.map T)) rfl) ?_
      unfold oEnum
      show some (enumD 0 (P.map T)) = _
      rw [show (0 : Int) = ((0 : Nat) : Int) from rfl, enumD_T P 0]
    have := forG_first (b := bTup (bCons (bName 4) (bCons (bName 5) bNil))) (body := b_cut_once_0) (fun env => ∃ k4 k5 k6, env = [.dat (.lst (P.map T)), .dat (.lst (ws.map wayD)), .dat (T u.1), .dat (T u.2), k4, k5, k6])
      (fun p : Tx × Nat => (if cutB p.1 u then some (p.2, u) else none).map fun z => onceD (some z)) (fun p => .tup [.int (p.2 : Int), T p.1]) (w := w) P.zipIdx (fun p hp env hI => by
        obtain ⟨k4, k5, k6, rfl⟩ := hI
        obtain ⟨b, i⟩ := p
        have hb : b ∈ P := (List.mem_zipIdx' hp).2 ▸ List.getElem_mem _
        have sb := hP b hb
        have sl : (commonL b u.1).length ≤ 1000 := sb.common.2
        refine ⟨[.dat (.lst (P.map T)), .dat (.lst (ws.map wayD)), .dat (T u.1), .dat (T u.2), .dat (.int (i : Int)), .dat (T b), k6], rfl, ?_⟩
        let E : Dn.Env := [.dat (.lst (P.map T)), .dat (.lst (ws.map wayD)), .dat (T u.1), .dat (T u.2), .dat (.int (i : Int)), .dat (T b), .dat (T (commonL b u.2))]
        have s6 : sSet 6 (gCall 2 [] m_common (gCons (gVar 5) (gCons (gVar 3) gNil))) [.dat (.lst (P.map T)), .dat (.lst (ws.map wayD)), .dat (T u.1), .dat (T u.2), .dat (.int (i : Int)), .dat (T b), k6] w = .nx E w := sSet_ok (gCall_dat (ga2 rfl rfl) (m_common_eq (by have := sb.2; omega)))
        have t1 : (gTst (gBin oEq (gCall 2 [] m_common (gCons (gVar 5) (gCons (gVar 2) gNil))) (gOk (.str "")))) E w = .ok (decide (commonL b u.1 = [])) w := gTst_ok (gBin_ok (gCall_dat (ga2 rfl rfl) (m_common_eq (by have := sb.2; omega))) rfl (oEq_nil sb.common.1))
        have t2 : (gTst (gBin oNotInT (gVar 6) (gTup (gCons (gOk (.str "")) (gCons (gVar 5) gNil))))) E w = .ok (!decide (commonL b u.2 = []) && !decide (commonL b u.2 = b)) w := gTst_ok (gBin_ok (a := T (commonL b u.2)) rfl (gTup_ok (ga2 rfl rfl) (by simp)) oNotInT_two)
        have t : (gAnd (gTst (gBin oEq (gCall 2 [] m_common (gCons (gVar 5) (gCons (gVar 2) gNil))) (gOk (.str "")))) (gTst (gBin oNotInT (gVar 6) (gTup (gCons (gOk (.str "")) (gCons (gVar 5) gNil)))))) E w = .ok (cutB b u) w := by
          unfold cutB
          cases c : decide (commonL b u.1 = []) with
          | true => exact gAnd_t (t1.trans (by rw [c])) (t2.trans (by rw [Bool.true_and]))
          | false => exact gAnd_f (t1.trans (by rw [c]))
        cases c : cutB b u with
        | true =>
          show b_cut_once_0 _ w = _
          exact sSeq_nx s6 (sIf_t (w1 := w) (t.trans (by rw [c])) (sRet_ok (gTup_ok (gaC rfl (gaC rfl (gaC rfl gaN))) (by simp))))
        | false => exact ⟨E, sSeq_nx s6 (sIf_f (w1 := w) (t.trans (by rw [c])) rfl), _, _, _, rfl⟩) hI
    cases c : P.zipIdx.findSome? fun p : Tx × Nat => (if cutB p.1 u then some (p.2, u) else none).map fun z => onceD (some z) with
    | some d =>
      rw [c] at this
      exact sFor_ok hen this
    | none =>
      rw [c] at this
      obtain ⟨e2, h3, h4⟩ := this
      exact ⟨e2, sFor_ok hen h3, h4⟩
  have outer := forG_first (b := bTup (bCons (bName 2) (bCons (bName 3) bNil))) (body := b_cut_once_1) (fun env => ∃ k2 k3 k4 k5 k6, env = [.dat (.lst (P.map T)), .dat (.lst (ws.map wayD)), k2, k3, k4, k5, k6])
    (fun u : Way => (firstAt u P).map fun z => onceD (some z)) wayD (w := w) ws (fun u hu env hI => by
      obtain ⟨k2, k3, k4, k5, k6, rfl⟩ := hI
      refine ⟨[.dat (.lst (P.map T)), .dat (.lst (ws.map wayD)), .dat (T u.1), .dat (T u.2), k4, k5, k6], rfl, ?_⟩
      have := inner u (hW u hu).1 (hW u hu).2 _ ⟨k4, k5, k6, rfl⟩
      rw [findSome_map] at this
      show (match (firstAt u P).map fun z => onceD (some z) with
        | some d => _
        | none => _)
      unfold firstAt
      cases c : P.zipIdx.findSome? fun p : Tx × Nat => if cutB p.1 u then some (p.2, u) else none with
      | some z =>
        rw [c] at this
        exact this
      | none =>
        rw [c] at this
        obtain ⟨e2, h3, k4, k5, k6, h4⟩ := this
        exact ⟨e2, h3, _, _, _, _, _, h4⟩) (env := [.dat (.lst (P.map T)), .dat (.lst (ws.map wayD)), .un, .un, .un, .un, .un]) ⟨_, _, _, _, _, rfl⟩
  rw [findSome_map] at outer
  unfold cutOnce
  cases c : ws.findSome? fun u => firstAt u P with
  | some z =>
    rw [c] at outer
    exact runM_ret (sSeq_ret (sFor_ok (gIt_ok (d := .lst (ws.map wayD)) rfl rfl) outer))
  | none =>
    rw [c] at outer
    obtain ⟨e2, h3, _⟩ := outer
    exact runM_ret (sSeq_nx (sFor_ok (gIt_ok (d := .lst (ws.map wayD)) rfl rfl) h3) rfl)
end Mi
end
section
/-! The law's cuts; blocks on both sides; sorted texts. -/
namespace Mi
open PySem L2 Dn
open PyProof.Rows
open PySem.W (AllAlike Sortable dataLe alike alikeAll)
/-! ### sorted texts -/
def sortT (P : List Tx) : List Tx := P.mergeSort (dataLe false fun x => encD (T x))
theorem mem_sortT {xs : List Tx} {s : Tx} : s ∈ sortT xs ↔ s ∈ xs := (List.mergeSort_perm xs _).mem_iff
/-! ### the law's first cut -/
/-! ### what a first cut tells -/
theorem cutOnce_some {ws : List Way} {P : List Tx} {i : Nat} {u : Way} (h : cutOnce ws P = some (i, u)) : u ∈ ws ∧ ∃ b, P[i]? = some b ∧ cutB b u = true := by
  unfold cutOnce at h
  obtain ⟨u', hu, e⟩ := List.exists_of_findSome?_eq_some h
  unfold firstAt at e
  obtain ⟨⟨b, j⟩, hb, e⟩ := List.exists_of_findSome?_eq_some e
  split at e
  · cases e
    rename_i hc
    exact ⟨hu, b, by simpa using List.mem_zipIdx_iff_getElem?.mp hb, hc⟩
  · cases e
theorem cutOnce_none {ws : List Way} {P : List Tx} (h : cutOnce ws P = none) : Stable ws P := fun u hu b hb => by
  unfold cutOnce at h
  have := List.findSome?_eq_none_iff.mp h u hu
  unfold firstAt at this
  obtain ⟨i, hi⟩ := List.getElem?_of_mem hb
  have := List.findSome?_eq_none_iff.mp this (b, i) (List.mem_zipIdx_iff_getElem?.mpr hi)
  cases c : cutB b u with
  | false => rfl
  | true => simp [c] at this
end Mi
end
section
/-! Blocks of a book, the law's blocks. -/
namespace Mi
open PySem L2 Dn
def Fin' (R : Tx) (ws : List Way) (P : List Tx) : Prop := (R = [] ∧ P = []) ∨ (R ≠ [] ∧ Run ws R P ∧ Stable ws P)
theorem Fin'.perm {R : Tx} {ws : List Way} {P Q : List Tx} (hR : Ris R) (a : Fin' R ws P) (b : Fin' R ws Q) : P.Perm Q := by
  rcases a with ⟨a1, a2⟩ | ⟨a1, a2, a3⟩
  · rcases b with ⟨b1, b2⟩ | ⟨b1, b2, b3⟩
    · rw [a2, b2]
    · exact absurd a1 b1
  · rcases b with ⟨b1, b2⟩ | ⟨b1, b2, b3⟩
    · exact absurd b1 a1
    · exact runs_alike hR a1 a2 b2 a3 b3
theorem Fin'.sub {R : Tx} {ws : List Way} {P : List Tx} (a : Fin' R ws P) : ∀ b ∈ P, b.Sublist R ∧ b ≠ [] := fun b hb => by
  rcases a with ⟨a1, a2⟩ | ⟨a1, a2, a3⟩
  · rw [a2] at hb; cases hb
  · exact ⟨(a2.part a1).sub b hb, (a2.part a1).ne b hb⟩
theorem Fin'.few {R : Tx} {ws : List Way} {P : List Tx} (a : Fin' R ws P) : P.length ≤ R.length := by
  rcases a with ⟨a1, a2⟩ | ⟨a1, a2, a3⟩
  · rw [a2]; simp
  · exact (a2.part a1).few
theorem gLend_ok {g : GE} {env : Dn.Env} {w w1 : Ds} {d : Dt} (h : g (lendA env) w = .ok d w1) (hf : flat d = true) : gLend g env w = .ok d w1 := by
  rw [gLend_app, h]
  simp only [hf, if_true]
theorem step_at {P : List Tx} {i : Nat} {b : Tx} {u : Way} (hi : P[i]? = some b) (hc : cutB b u = true) : Step u P (P.take i ++ [commonL b u.2, withoutL b u.2] ++ P.drop (i + 1)) := by
  have hl : i < P.length := by
    cases Nat.decLt i P.length with
    | isTrue h => exact h
    | isFalse h => rw [List.getElem?_eq_none (Nat.le_of_not_lt h)] at hi; cases hi
  have hb : P[i] = b := by rw [List.getElem?_eq_getElem hl] at hi; exact Option.some.inj hi
  refine ⟨b, P.take i ++ P.drop (i + 1), ?_, ?_, hc⟩
  · have e : P = P.take i ++ b :: P.drop (i + 1) := by
      rw [← hb, ← List.drop_eq_getElem_cons hl, List.take_append_drop]
    conv => lhs; rw [e]
    exact List.perm_middle
  · rw [List.append_assoc]
    show (P.take i ++ (commonL b u.2 :: withoutL b u.2 :: P.drop (i + 1))).Perm _
    exact List.perm_middle.trans (List.Perm.cons _ List.perm_middle)
theorem run_sh {ws : List Way} {R : Tx} {P : List Tx} (h0 : R ≠ []) (r : Run ws R P) (hR : Sh R) : ∀ b ∈ P, Sh b := fun b hb => by
  have := (r.part h0).sub b hb
  exact ⟨asc_sub hR.1 this, Nat.le_trans this.length_le hR.2⟩
theorem hd_sh {h : Tx} (H : Hd h) : Sh h := ⟨H.asc, by have := H.hi; omega⟩
/-! ### the program's blocks -/
theorem m_blocks_of_eq {h l : Tx} {ss : List Say} {w : Ds} (H : Hd h) (ok : ∀ s ∈ ss, s.Ok) (few : ss.length ≤ 100) : ∃ P, Fin' (withoutL h l) (waysL ss) P ∧ m_blocks_of [bookD h ss, T l] w = .own (.lst (P.map T)) w := by
  have hi := H.hi
  have wsh := waysL_sh ok
  have wl := waysL_len ok
  let ws := waysL ss
  let R := withoutL h l
  have hR : Sh R := (hd_sh H).without
  have R6 : R.length ≤ 6 := Nat.le_trans List.filter_sublist.length_le hi
  let E (k2 k3 k4 k5 k6 k7 k8 k9 : Sl) : Dn.Env := [.dat (bookD h ss), .dat (T l), k2, k3, k4, k5, k6, k7, k8, k9]
  have s2 : sSet 2 (gCall 2 [] m_without (gCons (gBind1 (oFld ["Book"] "letters") (gVar 0)) (gCons (gVar 1) gNil))) (E .un .un .un .un .un .un .un .un) w = .nx (E (.dat (T R)) .un .un .un .un .un .un .un) w :=
    sSet_ok (hi := by show 2 < 10; decide) (gCall_dat (ga2 (gBind1_ok (a := bookD h ss) (r := T h) rfl rfl) rfl) (m_without_eq (by omega)))
  have t0 : (gTst (gBin oNe (gVar 2) (gOk (.str "")))) (E (.dat (T R)) .un .un .un .un .un .un .un) w = .ok (!decide (R = [])) w := gTst_ok (gBin_ok rfl rfl (by rw [str_empty]; exact oNe_T hR.1 asc_nil))
  have cut : ∀ {P : List Tx} {k5 k6 k7 k8 k9 : Sl}, (∀ b ∈ P, Sh b) → P.length ≤ 1000 → sSet 5 (gLend (gCall 2 [] m_cut_once (gCons (gVar 3) (gCons (gVar 4) gNil)))) (E (.dat (T R)) (.own (.lst (P.map T))) (.dat (.lst (ws.map wayD))) k5 k6 k7 k8 k9) w = .nx (E (.dat (T R)) (.own (.lst (P.map T))) (.dat (.lst (ws.map wayD))) (.dat (onceD (cutOnce ws P))) k6 k7 k8 k9) w := fun hP hl => by
    refine sSet_ok (hi := by show 5 < 10; decide) (gLend_ok (gCall_dat (ga2 (g := gVar 3) (g' := gVar 4) rfl rfl) (m_cut_once_eq hP wsh hl)) ?_)
    cases cutOnce ws _ with
    | none => rfl
    | some z => obtain ⟨i, u⟩ := z; rfl
  have s4 : ∀ {k3 : Sl}, sSet 4 (gCall 1 [] m_cutters (gCons (gVar 0) gNil)) (E (.dat (T R)) k3 .un .un .un .un .un .un) w = .nx (E (.dat (T R)) k3 (.dat (.lst (ws.map wayD))) .un .un .un .un .un) w := fun {k3} => sSet_ok (hi := by show 4 < 10; decide) (gCall_own (ga1 rfl) (m_cutters_eq ok (by omega)))
  by_cases h0 : R = []
  · refine ⟨[], .inl ⟨h0, rfl⟩, ?_⟩
    have s3 : sSetF 3 (gIfF (gTst (gBin oNe (gVar 2) (gOk (.str "")))) (gLst (gCons (gVar 2) gNil)) (gLst gNil)) (E (.dat (T R)) .un .un .un .un .un .un .un) w = .nx (E (.dat (T R)) (.own (.lst (([] : List Tx).map T))) .un .un .un .un .un .un) w := by
      refine sSetF_ok (d := .lst []) (w1 := w) (hi := by show 3 < 10; decide) ?_
      unfold gIfF
      rw [t0]
      simp [h0]
    have cn : cutOnce ws [] = none := by
      unfold cutOnce
      rw [List.findSome?_eq_none_iff]
      intro u _
      rfl
    have c5 := cut (P := []) (k5 := .un) (k6 := .un) (k7 := .un) (k8 := .un) (k9 := .un) (fun _ h => by cases h) (by simp)
    rw [cn] at c5
    exact runM_rtf (sSeq_nx s2 (sSeq_nx s3 (sSeq_nx s4 (sSeq_nx c5 (sSeq_nx (sWhile_ok rfl) rfl)))))
  · have s3 : sSetF 3 (gIfF (gTst (gBin oNe (gVar 2) (gOk (.str "")))) (gLst (gCons (gVar 2) gNil)) (gLst gNil)) (E (.dat (T R)) .un .un .un .un .un .un .un) w = .nx (E (.dat (T R)) (.own (.lst ([R].map T))) .un .un .un .un .un .un) w := by
      refine sSetF_ok (d := .lst [T R]) (w1 := w) (hi := by show 3 < 10; decide) ?_
      unfold gIfF
      rw [t0]
      simp only [bind_ok, h0, decide_false, Bool.not_false, if_true]
      exact gLst_ok' (ga1 rfl) (by simp)
    obtain ⟨e, he, P, k6, k7, k8, k9, ee, hr, hs⟩ := while_run (c := gTst (gBin oIsNot (gVar 5) (gOk .non))) (body := b_blocks_of_0) (w := w)
      (fun m env => ∃ (P : List Tx) (k6 k7 k8 k9 : Sl), env = E (.dat (T R)) (.own (.lst (P.map T))) (.dat (.lst (ws.map wayD))) (.dat (onceD (cutOnce ws P))) k6 k7 k8 k9 ∧ Run ws R P ∧ m = R.length - P.length)
      (fun env => ∃ (P : List Tx) (k6 k7 k8 k9 : Sl), env = E (.dat (T R)) (.own (.lst (P.map T))) (.dat (.lst (ws.map wayD))) (.dat (onceD (cutOnce ws P))) k6 k7 k8 k9 ∧ Run ws R P ∧ Stable ws P)
      (fun m env hI => by
        obtain ⟨P, k6, k7, k8, k9, rfl, hr, hm⟩ := hI
        have hp := hr.part h0
        have pf := hp.few
        have psh := run_sh h0 hr hR
        cases c : cutOnce ws P with
        | none => exact .inl ⟨rfl, P, k6, k7, k8, k9, by rw [c], hr, cutOnce_none c⟩
        | some z =>
          obtain ⟨i, u⟩ := z
          obtain ⟨hu, b, hb, hc⟩ := cutOnce_some c
          have st := step_at hb hc
          have hr' := Run.step hr hu st
          have pf' := (hr'.part h0).few
          have psh' := run_sh h0 hr' hR
          have ln := st.len
          have hl : i < P.length := by
            cases Nat.decLt i P.length with
            | isTrue h => exact h
            | isFalse h => rw [List.getElem?_eq_none (Nat.le_of_not_lt h)] at hb; cases hb
          have sb := psh b (List.mem_of_getElem? hb)
          refine .inr ⟨rfl, E (.dat (T R)) (.own (.lst ((P.take i ++ [commonL b u.2, withoutL b u.2] ++ P.drop (i + 1)).map T))) (.dat (.lst (ws.map wayD))) (.dat (onceD (cutOnce ws (P.take i ++ [commonL b u.2, withoutL b u.2] ++ P.drop (i + 1))))) (.dat (.int (i : Int))) (.dat (T u.1)) (.dat (T u.2)) (.dat (T b)), ?_, R.length - (P.take i ++ [commonL b u.2, withoutL b u.2] ++ P.drop (i + 1)).length, by omega, _, _, _, _, _, rfl, hr', rfl⟩
          let F (k5 k9 : Sl) (P : List Tx) : Dn.Env := E (.dat (T R)) (.own (.lst (P.map T))) (.dat (.lst (ws.map wayD))) k5 (.dat (.int (i : Int))) (.dat (T u.1)) (.dat (T u.2)) k9
          have a1 : sAsg (bTup (bCons (bName 6) (bCons (bName 7) (bCons (bName 8) bNil)))) (gVar 5) (E (.dat (T R)) (.own (.lst (P.map T))) (.dat (.lst (ws.map wayD))) (.dat (onceD (some (i, u)))) k6 k7 k8 k9) w = .nx (F (.dat (onceD (some (i, u)))) k9 P) w := rfl
          have a2 : sSet 9 (gLend (gIx (gVar 3) (gVar 6))) (F (.dat (onceD (some (i, u)))) k9 P) w = .nx (F (.dat (onceD (some (i, u)))) (.dat (T b)) P) w := by
            refine sSet_ok (d := T b) (w1 := w) (hi := by show 9 < 10; decide) (gLend_ok (gIx_ok (a := .lst (P.map T)) (b := .int (i : Int)) rfl rfl ?_) rfl)
            show atI (P.map T) _ = _
            rw [atI_nat (by rw [List.length_map]; exact hl)]
            rw [List.getElem_map]
            rw [List.getElem?_eq_getElem hl] at hb
            rw [Option.some.inj hb]
          have a3 : sSlc 3 (gPart (gVar 6)) (gPart (gBin oAdd (gVar 6) (gOk (.int 1)))) (gFrz (gLst (gCons (gCall 2 [] m_common (gCons (gVar 9) (gCons (gVar 8) gNil))) (gCons (gCall 2 [] m_without (gCons (gVar 9) (gCons (gVar 8) gNil))) gNil)))) (F (.dat (onceD (some (i, u)))) (.dat (T b)) P) w = .nx (F (.dat (onceD (some (i, u)))) (.dat (T b)) (P.take i ++ [commonL b u.2, withoutL b u.2] ++ P.drop (i + 1))) w := by
            have eg : (gFrz (gLst (gCons (gCall 2 [] m_common (gCons (gVar 9) (gCons (gVar 8) gNil))) (gCons (gCall 2 [] m_without (gCons (gVar 9) (gCons (gVar 8) gNil))) gNil)))) (F (.dat (onceD (some (i, u)))) (.dat (T b)) P) w = .ok (.lst ([commonL b u.2, withoutL b u.2].map T)) w := gFL (ga2 (gCall_dat (ga2 rfl rfl) (m_common_eq (by have := sb.2; omega))) (gCall_dat (ga2 rfl rfl) (m_without_eq (by have := sb.2; omega)))) (by simp)
            unfold sSlc
            rw [show (F (.dat (onceD (some (i, u)))) (.dat (T b)) P)[3]? = some (.own (.lst (P.map T))) from rfl]
            simp only [eg]
            rw [show (gPart (gVar 6)) (F (.dat (onceD (some (i, u)))) (.dat (T b)) P) w = .ok (some (i : Int)) w from rfl]
            simp only
            rw [show (gPart (gBin oAdd (gVar 6) (gOk (.int 1)))) (F (.dat (onceD (some (i, u)))) (.dat (T b)) P) w = .ok (some ((i : Int) + 1)) w from rfl]
            simp only
            rw [if_pos ⟨by omega, by omega, by rw [List.length_map]; omega, by simp [sz_line]; omega⟩]
            have e1 : ((i : Int)).toNat = i := by omega
            have e2 : ((i : Int) + 1).toNat = i + 1 := by omega
            rw [e1, e2, ← List.map_take, ← List.map_drop, ← List.map_append, ← List.map_append]
            rfl
          exact sSeq_nx a1 (sSeq_nx a2 (sSeq_nx a3 (cut psh' (by omega))))) turnsMost (R.length - 1) (E (.dat (T R)) (.own (.lst ([R].map T))) (.dat (.lst (ws.map wayD))) (.dat (onceD (cutOnce ws [R]))) .un .un .un .un) (by show R.length - 1 < 100000; omega) ⟨[R], _, _, _, _, rfl, .start, rfl⟩
    subst ee
    refine ⟨P, .inr ⟨h0, hr, hs⟩, ?_⟩
    have c5 := cut (P := [R]) (k5 := .un) (k6 := .un) (k7 := .un) (k8 := .un) (k9 := .un) (fun b hb => by rw [List.mem_singleton.mp hb]; exact hR) (by simp)
    exact runM_rtf (sSeq_nx s2 (sSeq_nx s3 (sSeq_nx s4 (sSeq_nx c5 (sSeq_nx (sWhile_ok he) rfl)))))
end Mi
end
section
/-! The law's blocks. -/
namespace Mi
open PySem L2 Dn
end Mi
end
section
/-! told, parted, follows on both sides. -/
namespace Mi
open PySem L2 Dn
def tellB (c : Nat) (s : Say) : Bool := decide (s.w = tellsT) && (decide (c ∈ s.r) && !decide (c ∈ s.l))
def tellerD (ss : List Say) (c : Nat) : Dt := match ss.findSome? fun s => if tellB c s then some s.d else none with
  | some d => d
  | none => .non
def TellP (ss : List Say) (c : Nat) : Prop := ∃ s ∈ ss, s.w = tellsT ∧ c ∈ s.r ∧ c ∉ s.l
theorem teller_non {ss : List Say} {c : Nat} : isNon (tellerD ss c) = false ↔ TellP ss c := by
  unfold tellerD
  cases e : ss.findSome? fun s => if tellB c s then some s.d else none with
  | some d =>
    obtain ⟨s, hs, e⟩ := List.exists_of_findSome?_eq_some e
    split at e
    · cases e
      rename_i ht
      unfold tellB at ht
      simp only [Bool.and_eq_true, decide_eq_true_eq, Bool.not_eq_true', decide_eq_false_iff_not] at ht
      exact ⟨fun _ => ⟨s, hs, ht.1, ht.2.1, ht.2.2⟩, fun _ => rfl⟩
    · cases e
  | none =>
    refine ⟨fun h => (by cases h), fun ⟨s, hs, h1, h2, h3⟩ => ?_⟩
    have := List.findSome?_eq_none_iff.mp e s hs
    have ht : tellB c s = true := by simp [tellB, h1, h2, h3]
    simp [ht] at this
def toldL (ss : List Say) (l : Tx) (P : List Tx) : Tx := unionL l ((P.filter fun b => decide (b.length = 1)).filter fun b => !isNon (tellerD ss (b.headD 0))).flatten
theorem mem_told {ss : List Say} {l : Tx} {P : List Tx} {c : Nat} : c ∈ toldL ss l P ↔ c ∈ l ∨ ([c] ∈ P ∧ TellP ss c) := by
  unfold toldL
  rw [mem_unionL, List.mem_flatten]
  refine or_congr_right ⟨?_, ?_⟩
  · rintro ⟨b, hb, hc⟩
    simp only [List.mem_filter, decide_eq_true_eq, Bool.not_eq_true'] at hb
    obtain ⟨⟨hb, h1⟩, h2⟩ := hb
    match b, h1 with
    | [d], _ =>
      have : c = d := List.mem_singleton.mp hc
      subst this
      exact ⟨hb, teller_non.mp h2⟩
  · rintro ⟨hb, ht⟩
    refine ⟨[c], ?_, by simp⟩
    simp only [List.mem_filter, decide_eq_true_eq, Bool.not_eq_true']
    exact ⟨⟨hb, rfl⟩, teller_non.mpr ht⟩
end Mi
end
section
/-! The law's told; parted, follows on both sides. -/
namespace Mi
open PySem L2 Dn
/-! ### parted -/
/-! ### follows -/
end Mi
end
section
/-! What follows, as a function; spare sayings, lean books, books compared. -/
namespace Mi
open PySem L2 Dn
def syOf (s : Say) : Sy := ⟨decide (s.w = tellsT), s.l, s.r⟩
/-! ### the others -/
def others (ss : List Say) (s : Say) : List Say := ss.filter fun x => !decide (x = s)
/-! ### spare -/
/-! ### lean -/
/-! ### compared -/
end Mi
end
section
/-! k13: what is told grows, holds still, follows. Plain lists. -/
namespace Mi
open PySem L2 Dn
theorem Fin'.stable {R : Tx} {ws : List Way} {P : List Tx} (a : Fin' R ws P) : Stable ws P := by
  rcases a with ⟨a1, a2⟩ | ⟨_, _, a3⟩
  · rw [a2]; exact fun _ _ b hb => by cases hb
  · exact a3
theorem Fin'.cover {R : Tx} {ws : List Way} {P : List Tx} (a : Fin' R ws P) {c : Nat} (hc : c ∈ R) : ∃ b ∈ P, c ∈ b := by
  rcases a with ⟨a1, a2⟩ | ⟨a1, a2, _⟩
  · rw [a1] at hc; cases hc
  · exact (a2.part a1).all c hc
theorem Fin'.one {R : Tx} {ws : List Way} {P : List Tx} (a : Fin' R ws P) {x y : Tx} {c : Nat} (hx : x ∈ P) (hy : y ∈ P) (h1 : c ∈ x) (h2 : c ∈ y) : x = y := by
  rcases a with ⟨a1, a2⟩ | ⟨a1, a2, _⟩
  · rw [a2] at hx; cases hx
  · exact pair_mem (a2.part a1).dis hx hy h1 h2
/-- what no way cuts lies within one block -/
theorem Fin'.within {R : Tx} {ws : List Way} {P Q : List Tx} (a : Fin' R ws P) (hs : Stable ws Q) (hq : ∀ q ∈ Q, q ≠ [] ∧ ∀ c ∈ q, c ∈ R) : Coarser P Q := by
  rcases a with ⟨a1, a2⟩ | ⟨a1, a2, a3⟩
  · intro q h
    obtain ⟨n, s⟩ := hq q h
    obtain ⟨c, l, e⟩ := List.exists_cons_of_ne_nil n
    have := s c (by rw [e]; simp)
    rw [a1] at this
    cases this
  · clear a3
    induction a2 with
    | start => exact fun q h => ⟨R, by simp, (hq q h).2⟩
    | step _ hw s ih => exact s.coarser hw hs ih
theorem Stable.mono {ws ws' : List Way} {P : List Tx} (h : Stable ws' P) (s : ∀ w ∈ ws, w ∈ ws') : Stable ws P := fun w hw b hb => h w (s w hw) b hb
theorem Stable.part {ws : List Way} {P Q : List Tx} (h : Stable ws P) (s : ∀ b ∈ Q, b ∈ P) : Stable ws Q := fun w hw b hb => h w hw b (s b hb)
theorem ris_single {b : Tx} {c : Nat} (h : Ris b) (n : b ≠ []) (hs : ∀ d ∈ b, d = c) : b = [c] := by
  obtain ⟨x, l, rfl⟩ := List.exists_cons_of_ne_nil n
  have hx := hs x List.mem_cons_self
  subst hx
  match l, h with
  | [], _ => rfl
  | y :: l, h =>
    have := (List.pairwise_cons.mp h).1 y List.mem_cons_self
    have := hs y (by simp)
    omega
theorem Fin'.ris {h l : Tx} {ws : List Way} {P : List Tx} (H : Hd h) (a : Fin' (withoutL h l) ws P) : ∀ b ∈ P, Ris b ∧ b ≠ [] ∧ ∀ c ∈ b, c ∈ h ∧ c ∉ l := fun b hb => by
  obtain ⟨s, n⟩ := a.sub b hb
  exact ⟨(H.ris.sublist List.filter_sublist).sublist s, n, fun c hc => mem_withoutL.mp (s.subset hc)⟩
/-- smaller blocks with more ways, more on the left -/
theorem Fin'.finer {h l l' : Tx} {ws ws' : List Way} {P Q : List Tx} (H : Hd h) (a : Fin' (withoutL h l) ws P) (b : Fin' (withoutL h l') ws' Q) (hl : ∀ c ∈ l, c ∈ l') (hw : ∀ w ∈ ws, w ∈ ws') : Coarser P Q :=
  a.within (b.stable.mono hw) fun q hq => ⟨(b.ris H q hq).2.1, fun c hc => mem_withoutL.mpr ⟨((b.ris H q hq).2.2 c hc).1, fun m => ((b.ris H q hq).2.2 c hc).2 (hl c m)⟩⟩
theorem single_finer {h l l' : Tx} {ws ws' : List Way} {P Q : List Tx} (H : Hd h) (a : Fin' (withoutL h l) ws P) (b : Fin' (withoutL h l') ws' Q) (hl : ∀ c ∈ l, c ∈ l') (hw : ∀ w ∈ ws, w ∈ ws') {c : Nat} (hc : [c] ∈ P) (hn : c ∉ l') : [c] ∈ Q := by
  have ch := ((a.ris H _ hc).2.2 c (by simp)).1
  obtain ⟨q, hq, hcq⟩ := b.cover (mem_withoutL.mpr ⟨ch, hn⟩)
  obtain ⟨x, hx, s⟩ := a.finer H b hl hw q hq
  have := a.one hx hc (s c hcq) (by simp)
  subst this
  obtain ⟨r, n, _⟩ := b.ris H q hq
  rw [← ris_single r n fun d hd => List.mem_singleton.mp (s d hd)]
  exact hq
/-- more is told on more -/
theorem told_mono {h l l' : Tx} {ss ss' : List Say} {P Q : List Tx} (H : Hd h) (a : Fin' (withoutL h l) (waysL ss) P) (b : Fin' (withoutL h l') (waysL ss') Q) (hl : ∀ c ∈ l, c ∈ l') (hs : ∀ s ∈ ss, s ∈ ss') : ∀ c ∈ toldL ss l P, c ∈ toldL ss' l' Q := fun c hc => by
  have hw : ∀ w ∈ waysL ss, w ∈ waysL ss' := fun w hw => by
    obtain ⟨s, m, hw⟩ := mem_waysL.mp hw
    exact mem_waysL.mpr ⟨s, hs s m, hw⟩
  rw [mem_told] at hc ⊢
  rcases hc with hc | ⟨hc, s, m, t⟩
  · exact .inl (hl c hc)
  · by_cases hn : c ∈ l'
    · exact .inl hn
    · exact .inr ⟨single_finer H a b hl hw hc hn, s, hs s m, t⟩
end Mi
end
section
/-! k13: a saying that follows cuts nothing. -/
namespace Mi
open PySem L2 Dn
end Mi
end
section
/-! Book.more. -/
namespace Mi
open PySem L2 Dn
end Mi
end
section
/-! Blocks and what is told, as functions; least sets, keys. -/
namespace Mi
open PySem L2 Dn
section
variable {h l : Tx} {ss : List Say} {w : Ds}
open Classical in
noncomputable def finF (h : Tx) (ss : List Say) (l : Tx) : List Tx := if e : ∃ P, Fin' (withoutL h l) (waysL ss) P then e.choose else []
theorem finF_ok (H : Hd h) (ok : ∀ s ∈ ss, SayH h s) (few : ss.length ≤ 100) : Fin' (withoutL h l) (waysL ss) (finF h ss l) := by
  obtain ⟨P, hP, _⟩ := m_blocks_of_eq (w := w0 []) (l := l) H (fun s h => (ok s h).ok H) few
  have e : ∃ P, Fin' (withoutL h l) (waysL ss) P := ⟨P, hP⟩
  unfold finF
  rw [dif_pos e]
  exact e.choose_spec
noncomputable def toldF (h : Tx) (ss : List Say) (l : Tx) : Tx := toldL ss l (finF h ss l)
/-! ### least sets -/
def leastF (acc : List Tx) : List Tx → List Tx
  | [] => acc
  | x :: xs => leastF (if acc.any (fun o => withinL o x) then acc else acc ++ [x]) xs
def leastL (xs : List Tx) : List Tx := leastF [] xs
theorem leastF_sub : ∀ (xs acc : List Tx), ∃ ys, leastF acc xs = acc ++ ys ∧ ys.Sublist xs
  | [], acc => ⟨[], by simp [leastF], List.Sublist.refl _⟩
  | x :: xs, acc => by
    unfold leastF
    split
    · obtain ⟨ys, e, s⟩ := leastF_sub xs acc
      exact ⟨ys, e, s.cons _⟩
    · obtain ⟨ys, e, s⟩ := leastF_sub xs (acc ++ [x])
      exact ⟨x :: ys, by rw [e]; simp, s.cons₂ _⟩
theorem leastL_sub (xs : List Tx) : (leastL xs).Sublist xs := by
  obtain ⟨ys, e, s⟩ := leastF_sub xs []
  unfold leastL
  rw [e]
  exact s
noncomputable def keysF (h : Tx) (ss : List Say) : List Tx := leastL ((subsetsL h).filter fun l => decide (toldF h ss l = h))
theorem keysF_sub : ∀ x ∈ keysF h ss, x ∈ subsetsL h := fun x hx => (List.mem_filter.mp ((leastL_sub _).subset hx)).1
end
end Mi
end
section
/-! Wider heads; a drawn saying of a head; appends. -/
namespace Mi
open PySem L2 Dn
theorem app_ok {i : Nat} {ga : GA} {env : Dn.Env} {w w1 : Ds} {ds : List Dt} {e : Dt} (h0 : env[i]? = some (.own (.lst ds))) (h : ga env w = .ok [e] w1) (hl : ds.length < 16777216) : sLm i fApp ga env w = .nx (env.set i (.own (.lst (ds ++ [e])))) w1 := by
  simp only [sLm_app, h0, h, fApp]
  rw [if_pos (by rw [sz_line]; exact hl)]
theorem gLendL_ok {g : GA} {env : Dn.Env} {w w1 : Ds} {ds : List Dt} (e : g (lendA env) w = .ok ds w1) (hf : flats ds = true) : gLendL g env w = .ok ds w1 := by
  unfold gLendL
  simp only [e]
  rw [if_pos hf]
theorem ix_map {α : Type} {f : α → Dt} {xs : List α} {n : Nat} {w : Ds} (hn : n < xs.length) : oIx w (.lst (xs.map f)) (.int (n : Int)) = some (f xs[n]) := by
  show atI (xs.map f) (n : Int) = _
  rw [atI_nat (by simpa using hn)]
  simp
end Mi
end
section
/-! Faults, as functions. -/
namespace Mi
open PySem L2 Dn
def thirdT : Tx := [116, 104, 105, 114, 100]
def fourthT : Tx := [102, 111, 117, 114, 116, 104]
section
variable {h l p f : Tx} {ss : List Say} {w : Ds}
noncomputable def partKeys (h : Tx) (ss : List Say) (p : Tx) : List Tx := leastL ((subsetsL p).filter fun l => withinL p (toldF h ss l))
theorem sub_p {p l : Tx} (hl : l ∈ subsetsL p) : l.Sublist p := (mem_subsL p l).mp (mem_keySort.mp hl)
/-- the blocks' cuts within a part, in order -/
noncomputable def cutsF (h : Tx) (ss : List Say) (l p : Tx) : List Tx := sortT (((finF h ss l).map fun b => commonL b p).filter fun x => !decide (x = []))
theorem cutsF_mem {x : Tx} : x ∈ cutsF h ss l p ↔ x ≠ [] ∧ ∃ b ∈ finF h ss l, commonL b p = x := by
  unfold cutsF
  rw [mem_sortT, List.mem_filter, List.mem_map]
  simp [and_comm]
/-- what is at fault by the set l of a part p -/
noncomputable def faultAt (h : Tx) (ss : List Say) (p f l : Tx) : Option Say :=
  if withinL p (toldF h ss l) then none else
  match (withoutL (commonL (toldF h ss l) p) l).findSome? fun c => if f ≠ thirdT ∨ c ∉ (partKeys h ss p).flatten then some (⟨tellsT, l, [c]⟩ : Say) else none with
  | some s => some s
  | none => if f = fourthT ∧ 1 < (cutsF h ss l p).length then some ⟨partsT, l, (cutsF h ss l p).headD []⟩ else none
noncomputable def firstFault (h : Tx) (ss : List Say) (p f : Tx) : Option Say := (subsetsL p).findSome? (faultAt h ss p f)
end
end Mi
end
section
/-! The law's first fault is the same. -/
namespace Mi
open PySem L2 Dn
open PyProof.Rows
open PySem.W (AllAlike Sortable dataLe alike alikeAll)
end Mi
end
section
/-! Faults: what they say. -/
namespace Mi
open PySem L2 Dn
section
variable {h l p f : Tx} {ss : List Say} {w : Ds}
theorem low_told {c : Nat} (hc : c ∈ l) : c ∈ toldF h ss l := mem_told.mpr (.inl hc)
/-- a fault's left side tells not all; what it says -/
structure FaultOk (h : Tx) (ss : List Say) (p : Tx) (s : Say) : Prop where
  lp : s.l.Sublist p
  ne : withinL p (toldF h ss s.l) = false
  some : (∃ c, s = ⟨tellsT, s.l, [c]⟩ ∧ c ∈ toldF h ss s.l ∧ c ∈ p ∧ c ∉ s.l) ∨ (s.w = partsT ∧ s.r ∈ cutsF h ss s.l p ∧ 1 < (cutsF h ss s.l p).length)
theorem fault_ok {s : Say} (e : firstFault h ss p f = some s) : FaultOk h ss p s := by
  obtain ⟨l, hl, e⟩ := List.exists_of_findSome?_eq_some e
  have hlp := sub_p hl
  unfold faultAt at e
  split at e
  · cases e
  · rename_i hw
    have hw' : withinL p (toldF h ss l) = false := by simpa using hw
    split at e
    · rename_i s' e2
      cases e
      obtain ⟨c, hc, e3⟩ := List.exists_of_findSome?_eq_some e2
      split at e3
      · cases e3
        obtain ⟨h1, h2⟩ := mem_withoutL.mp hc
        obtain ⟨h3, h4⟩ := mem_commonL.mp h1
        exact ⟨hlp, hw', .inl ⟨c, rfl, h3, h4, h2⟩⟩
      · cases e3
    · split at e
      · rename_i z
        cases e
        refine ⟨hlp, hw', .inr ⟨rfl, ?_, z.2⟩⟩
        show (cutsF h ss l p).headD [] ∈ cutsF h ss l p
        cases y : cutsF h ss l p with
        | nil => rw [y] at z; simp at z
        | cons a r => exact List.mem_cons_self
      · cases e
/-- the blocks' cuts are of signs that are told not -/
theorem cuts_out (H : Hd h) (ok : ∀ s ∈ ss, SayH h s) (few : ss.length ≤ 100) {x : Tx} (hx : x ∈ cutsF h ss l p) : x ≠ [] ∧ ∀ c ∈ x, c ∈ p ∧ c ∉ l := by
  obtain ⟨hn, b, hb, rfl⟩ := cutsF_mem.mp hx
  refine ⟨hn, fun c hc => ?_⟩
  obtain ⟨h1, h2⟩ := mem_commonL.mp hc
  exact ⟨h2, (mem_withoutL.mp (((finF_ok (l := l) H ok few).sub b hb).1.subset h1)).2⟩
end
end Mi
end
section
/-! Splitting off comes to an end. -/
namespace Mi
open PySem L2 Dn
section
variable {h l p f : Tx} {ss : List Say} {w : Ds}
/-! ### a fault's two parts are smaller -/
theorem cuts_two (H : Hd h) (ok : ∀ s ∈ ss, SayH h s) (few : ss.length ≤ 100) (h1 : 1 < (cutsF h ss l p).length) : ∃ x ∈ cutsF h ss l p, ∃ y ∈ cutsF h ss l p, x ≠ y := by
  have nd : ((finF h ss l)).Nodup := by
    rcases finF_ok (l := l) H ok few with ⟨_, e⟩ | ⟨hn, r, _⟩
    · rw [e]; exact List.nodup_nil
    · exact (r.part hn).nodup
  have pm : (cutsF h ss l p).Perm (((finF h ss l).map fun b => commonL b p).filter fun x => !decide (x = [])) := List.mergeSort_perm _ _
  have pw : (((finF h ss l).map fun b => commonL b p).filter fun x => !decide (x = [])).Pairwise fun x y => x ≠ y := by
    refine List.Pairwise.imp_of_mem (R := fun x y => x ≠ [] → x ≠ y) ?_ (List.Pairwise.filter _ ?_)
    rotate_left
    · rw [List.pairwise_map]
      refine nd.imp_of_mem fun {a b} ha hb ne hx e => ne ?_
      obtain ⟨c, hc⟩ := List.exists_mem_of_ne_nil _ hx
      have hc' := hc
      rw [e] at hc'
      exact (finF_ok (l := l) H ok few).one ha hb (mem_commonL.mp hc).1 (mem_commonL.mp hc').1
    · intro x y hx hy r
      have h1 := (List.mem_filter.mp hx).2
      simp only [Bool.not_eq_true', decide_eq_false_iff_not] at h1
      exact r h1
  have l1 := h1
  rw [pm.length_eq] at l1
  match e : (((finF h ss l).map fun b => commonL b p).filter fun x => !decide (x = [])), l1, pw with
  | a :: b :: r, _, pw =>
    refine ⟨a, pm.mem_iff.mpr (by rw [e]; simp), b, pm.mem_iff.mpr (by rw [e]; simp), (List.pairwise_cons.mp pw).1 b List.mem_cons_self⟩
  | [a], h1, _ => simp at h1
  | [], h1, _ => simp at h1
theorem fault_split (H : Hd h) (hp : p.Sublist h) (ok : ∀ s ∈ ss, SayH h s) (few : ss.length ≤ 100) {s : Say} (fo : FaultOk h ss p s) :
    (unionL s.l s.r).Sublist h ∧ (unionL s.l s.r).length < p.length ∧ (p.filter fun c => !decide (c ∈ s.r)).length < p.length ∧ ∀ c ∈ s.r, c ∈ p := by
  obtain ⟨lp, ne, z⟩ := fo
  have rin : s.r ≠ [] ∧ ∀ c ∈ s.r, c ∈ p := by
    rcases z with ⟨c, e, h1, h2, h3⟩ | ⟨_, h1, _⟩
    · rw [e]; exact ⟨List.cons_ne_nil _ _, fun x hx => by rw [List.mem_singleton.mp hx]; exact h2⟩
    · have := cuts_out H ok few h1
      exact ⟨this.1, fun c hc => (this.2 c hc).1⟩
  have hR := H.ris.sublist hp
  obtain ⟨d, hd, hdl, hdr⟩ : ∃ d ∈ p, d ∉ s.l ∧ d ∉ s.r := by
    rcases z with ⟨c, e, h1, h2, h3⟩ | ⟨_, h1, h2⟩
    · obtain ⟨d, d1, d2⟩ := withinL_not ne
      exact ⟨d, d1, fun z => d2 (low_told z), fun z => by rw [e] at z; rw [List.mem_singleton.mp z] at d2; exact d2 h1⟩
    · apply Classical.byContradiction
      intro no
      have all : ∀ d ∈ p, d ∉ s.l → d ∈ s.r := fun d hd hl => Classical.byContradiction fun hr => no ⟨d, hd, hl, hr⟩
      obtain ⟨b, hb, eb⟩ := (cutsF_mem.mp h1).2
      have same : ∀ x ∈ cutsF h ss s.l p, x = s.r := fun x hx => by
        obtain ⟨hn, b', hb', e'⟩ := cutsF_mem.mp hx
        obtain ⟨c, hc⟩ := List.exists_mem_of_ne_nil _ hn
        obtain ⟨c1, c2⟩ := (cuts_out H ok few hx).2 c hc
        have cr := all c c1 c2
        rw [← eb] at cr
        rw [← e'] at hc
        have : b' = b := (finF_ok (l := s.l) H ok few).one hb' hb (mem_commonL.mp hc).1 (mem_commonL.mp cr).1
        rw [← e', this, eb]
      obtain ⟨x, hx, y, hy, nxy⟩ := cuts_two H ok few h2
      exact nxy ((same x hx).trans (same y hy).symm)
  have us : (unionL s.l s.r) = p.filter fun c => decide (c ∈ s.l ++ s.r) := ris_ext (ris_ordL _) (hR.sublist List.filter_sublist) fun c => by
    rw [mem_unionL, List.mem_filter]
    simp only [List.mem_append, decide_eq_true_eq]
    exact ⟨fun z => ⟨z.elim (fun z => lp.subset z) (rin.2 c), z⟩, fun z => z.2⟩
  have lt : ∀ {q : Nat → Bool} {d : Nat}, d ∈ p → q d = false → (p.filter q).length < p.length := fun {q d} hd hq => by
    rcases Nat.lt_or_ge (p.filter q).length p.length with z | z
    · exact z
    · have e := (List.filter_sublist (p := q) (l := p)).eq_of_length_le z
      have : d ∈ p.filter q := by rw [e]; exact hd
      rw [(List.mem_filter.mp this).2] at hq
      cases hq
  refine ⟨by rw [us]; exact List.filter_sublist.trans hp, by rw [us]; exact lt hd (by simp [hdl, hdr]), ?_, rin.2⟩
  obtain ⟨c, hc⟩ := List.exists_mem_of_ne_nil _ rin.1
  exact lt (rin.2 c hc) (by simp [hc])
/-! ### the end -/
def wt (p : Tx) : Nat := 2 ^ (p.length + 1) - 1
def wts (ps : List Tx) : Nat := (ps.map wt).sum
theorem wts_app (a b : List Tx) : wts (a ++ b) = wts a + wts b := by simp [wts]
theorem wt_two {a b p : Tx} (h1 : a.length < p.length) (h2 : b.length < p.length) : wt a + wt b < wt p := by
  have e1 : 2 ^ (a.length + 1) ≤ 2 ^ p.length := Nat.pow_le_pow_right (by decide) h1
  have e2 : 2 ^ (b.length + 1) ≤ 2 ^ p.length := Nat.pow_le_pow_right (by decide) h2
  have e3 : 2 ^ (p.length + 1) = 2 ^ p.length * 2 := Nat.pow_succ 2 _
  have e4 : 1 ≤ 2 ^ (a.length + 1) := Nat.one_le_two_pow
  unfold wt
  omega
end
end Mi
end
section
/-! Partings looked at; what is told by parts. -/
namespace Mi
open PySem L2 Dn
section
variable {h l p : Tx} {ss : List Say} {w : Ds}
/-! ### a parting -/
structure Sds (xs : List Tx) : Prop where
  asc : ∀ x ∈ xs, Asc x
  len : ∀ x ∈ xs, x.length ≤ 100
  few : xs.length ≤ 100
theorem Sds.sum {xs : List Tx} (s : Sds xs) : (xs.map (·.length)).sum ≤ 16777216 := by
  have key : ∀ xs : List Tx, (∀ x ∈ xs, x.length ≤ 100) → (xs.map (·.length)).sum ≤ 100 * xs.length := by
    intro xs
    induction xs with
    | nil => intro _; simp
    | cons a r ih =>
      intro hx
      have := ih fun x hx' => hx x (List.mem_cons_of_mem _ hx')
      have := hx a List.mem_cons_self
      simp only [List.map_cons, List.sum_cons, List.length_cons]
      omega
  have := key xs s.len
  have := s.few
  omega
/-! ### growing by parts -/
noncomputable def growP (h : Tx) (ss : List Say) (s p : Tx) : Tx := commonL h (s ++ commonL p (toldF h ss (commonL p s)))
noncomputable def roundP (h : Tx) (ss : List Say) (ps : List Tx) (s : Tx) : Tx := ps.foldl (growP h ss) s
noncomputable def iterP (h : Tx) (ss : List Say) (ps : List Tx) : Nat → Tx → Tx
  | 0, s => s
  | n + 1, s => iterP h ss ps n (roundP h ss ps s)
theorem growP_sub (s p : Tx) : (growP h ss s p).Sublist h := List.filter_sublist
theorem growP_low {s p : Tx} (hs : s.Sublist h) {c : Nat} (hc : c ∈ s) : c ∈ growP h ss s p := mem_commonL.mpr ⟨hs.subset hc, List.mem_append_left _ hc⟩
theorem roundP_sub : ∀ (ps : List Tx) {s : Tx}, s.Sublist h → (roundP h ss ps s).Sublist h
  | [], _, hs => hs
  | p :: ps, s, _ => roundP_sub ps (growP_sub s p)
theorem roundP_low : ∀ (ps : List Tx) {s : Tx}, s.Sublist h → ∀ c ∈ s, c ∈ roundP h ss ps s
  | [], _, _, _, hc => hc
  | p :: ps, s, hs, c, hc => roundP_low ps (growP_sub s p) c (growP_low hs hc)
theorem iterP_sub (ps : List Tx) : ∀ (n : Nat) {s : Tx}, s.Sublist h → (iterP h ss ps n s).Sublist h
  | 0, _, hs => hs
  | n + 1, _, hs => iterP_sub ps n (roundP_sub ps hs)
theorem round_sub_of (H : Hd h) (ps : List Tx) {s : Tx} (hs : s.Sublist h) : s.Sublist (roundP h ss ps s) := by
  have r := roundP_sub (ss := ss) ps hs
  have e : s = (roundP h ss ps s).filter fun c => decide (c ∈ s) := ris_ext (H.ris.sublist hs) ((H.ris.sublist r).sublist List.filter_sublist) fun c => by
    rw [List.mem_filter]
    simp only [decide_eq_true_eq]
    exact ⟨fun hc => ⟨roundP_low ps hs c hc, hc⟩, fun hc => hc.2⟩
  rw [e]
  have z : ((roundP h ss ps s).filter fun c => decide (c ∈ s)).Sublist (roundP h ss ps s) := List.filter_sublist
  rw [← e] at z ⊢
  exact z
theorem round_grows (H : Hd h) (ps : List Tx) {s : Tx} (hs : s.Sublist h) (ne : roundP h ss ps s ≠ s) : s.length < (roundP h ss ps s).length := by
  have z := round_sub_of (ss := ss) H ps hs
  rcases Nat.lt_or_ge s.length (roundP h ss ps s).length with y | y
  · exact y
  · exact absurd (z.eq_of_length_le y).symm ne
theorem iter_fix (ps : List Tx) {s : Tx} (e : roundP h ss ps s = s) : ∀ n, iterP h ss ps n s = s
  | 0 => rfl
  | n + 1 => by
    show iterP h ss ps n (roundP h ss ps s) = s
    rw [e]
    exact iter_fix ps e n
/-- after so many rounds nothing grows -/
theorem iter_done (H : Hd h) (ps : List Tx) : ∀ (n : Nat) {s : Tx}, s.Sublist h → h.length < s.length + n → roundP h ss ps (iterP h ss ps n s) = iterP h ss ps n s
  | 0, s, hs, hl => by have := hs.length_le; omega
  | n + 1, s, hs, hl => by
    by_cases e : roundP h ss ps s = s
    · rw [iter_fix ps e]; exact e
    · have := round_grows H ps hs e
      exact iter_done H ps n (roundP_sub ps hs) (by omega)
noncomputable def grownF (h : Tx) (ss : List Say) (ps : List Tx) (s : Tx) : Tx := iterP h ss ps (h.length + 1) s
end
end Mi
end
section
/-! The law's own look for clashes; what a table keeps. -/
namespace Mi
open PySem L2 Dn
section
variable {h p l r t : Tx} {a b : List Int} {w : Ds}
theorem zip_rng (hl : a.length = h.length) : a.zip h = (List.range h.length).map fun k => (a.getD k 0, h.getD k 0) := by
  refine List.ext_getElem (by simp [hl]) fun i h1 h2 => ?_
  simp at h1 h2
  simp [List.getD_eq_getElem?_getD, List.getElem?_eq_getElem (l := a) (i := i) (by omega), List.getElem?_eq_getElem (l := h) (i := i) (by omega)]
theorem zip3_rng (ha : a.length = h.length) (hb : b.length = h.length) : a.zip (b.zip h) = (List.range h.length).map fun k => (a.getD k 0, b.getD k 0, h.getD k 0) := by
  refine List.ext_getElem (by simp [ha, hb]) fun i h1 h2 => ?_
  simp at h1 h2
  simp [List.getD_eq_getElem?_getD, List.getElem?_eq_getElem (l := a) (i := i) (by omega), List.getElem?_eq_getElem (l := b) (i := i) (by omega), List.getElem?_eq_getElem (l := h) (i := i) (by omega)]
theorem ix_row {k : Nat} (hk : k < a.length) : oIx w (rowD a) (.int (k : Int)) = some (.int (a.getD k 0)) := by
  show atI (a.map Dt.int) (k : Int) = _
  rw [atI_nat (by simpa using hk)]
  simp [List.getD_eq_getElem?_getD, List.getElem?_eq_getElem hk]
theorem ix_sign {k : Nat} (hk : k < h.length) (hh : h.length ≤ 4000) : oIx w (T h) (.int (k : Int)) = some (T [h.getD k 0]) := by
  rw [oIx_T hk (by omega)]
  simp [List.getD_eq_getElem?_getD, List.getElem?_eq_getElem hk]
theorem m__law_cells_eq (hl : a.length = h.length) (hh : h.length ≤ 4000) : m__law_cells [rowD a, T h, T p] w = .dat (rowD (cellsL a h p)) w := by
  have e := gLc_map (vs := [3]) (gi := gIts oRng1 (gCons (gArgs oLen (gCons (gVar 1) gNil)) gNil)) (b := bName 3) (gt := gTst (gBin oIn (gIx (gVar 1) (gVar 3)) (gVar 2))) (ge := gIx (gVar 0) (gVar 3)) (env := [.dat (rowD a), .dat (T h), .dat (T p), .un]) (w := w) (w1 := w)
    (List.range h.length) (fun k : Nat => Dt.int (k : Int)) (fun k => decide (h.getD k 0 ∈ p)) (fun k => .int (a.getD k 0))
    (gIts_ok (ga1 (gArgs_ok (ga1 rfl) (oLen_T (by omega)))) (oRng1_nat _ (by omega)))
    (fun k hk => by
      have hk' : k < h.length := List.mem_range.mp hk
      exact ⟨[.dat (rowD a), .dat (T h), .dat (T p), .dat (.int (k : Int))], rfl, gTst_ok (gBin_ok (gIx_ok (a := T h) rfl rfl (ix_sign hk' hh)) rfl (oIn_T _ p)), fun _ => gIx_ok (a := rowD a) rfl rfl (ix_row (by omega))⟩) (by rw [sz_line]; simp; omega)
  refine runM_ret (sRet_ok (gArgs_ok (ga1 (gFrz_lst e)) ?_))
  rw [oTuple_lst]
  unfold cellsL
  rw [zip_rng hl, List.filter_map, List.map_map]
  simp [rowD, List.map_map, Function.comp_def]
theorem m__law_crossed_eq (ha : a.length = h.length) (hb : b.length = h.length) (hh : h.length ≤ 4000) : m__law_crossed [rowD a, rowD b, T h, T t] w = .dat (rowD (wantedL a b h t)) w := by
  have e := gLc_map (vs := [4]) (gi := gIts oRng1 (gCons (gArgs oLen (gCons (gVar 2) gNil)) gNil)) (b := bName 4) (gt := gYes) (ge := gIfE (gTst (gBin oIn (gIx (gVar 2) (gVar 4)) (gVar 3))) (gIx (gVar 0) (gVar 4)) (gIx (gVar 1) (gVar 4))) (env := [.dat (rowD a), .dat (rowD b), .dat (T h), .dat (T t), .un]) (w := w) (w1 := w)
    (List.range h.length) (fun k : Nat => Dt.int (k : Int)) (fun _ => true) (fun k => .int (if h.getD k 0 ∈ t then a.getD k 0 else b.getD k 0))
    (gIts_ok (ga1 (gArgs_ok (ga1 rfl) (oLen_T (by omega)))) (oRng1_nat _ (by omega)))
    (fun k hk => by
      have hk' : k < h.length := List.mem_range.mp hk
      refine ⟨[.dat (rowD a), .dat (rowD b), .dat (T h), .dat (T t), .dat (.int (k : Int))], rfl, rfl, fun _ => ?_⟩
      have tt : (gTst (gBin oIn (gIx (gVar 2) (gVar 4)) (gVar 3))) [.dat (rowD a), .dat (rowD b), .dat (T h), .dat (T t), .dat (.int (k : Int))] w = .ok (decide (h.getD k 0 ∈ t)) w := gTst_ok (gBin_ok (gIx_ok (a := T h) rfl rfl (ix_sign hk' hh)) rfl (oIn_T _ t))
      by_cases z : h.getD k 0 ∈ t
      · rw [if_pos z]; exact gIfE_t (w1 := w) (tt.trans (by rw [decide_eq_true z])) (gIx_ok (a := rowD a) rfl rfl (ix_row (by omega)))
      · rw [if_neg z]; exact gIfE_f (w1 := w) (tt.trans (by rw [decide_eq_false z])) (gIx_ok (a := rowD b) rfl rfl (ix_row (by omega)))) (by rw [sz_line]; simp; omega)
  rw [filter_tt] at e
  refine runM_ret (sRet_ok (gArgs_ok (ga1 (gFrz_lst e)) ?_))
  rw [oTuple_lst]
  unfold wantedL
  rw [zip3_rng ha hb, List.map_map]
  simp [rowD, List.map_map, Function.comp_def]
theorem oNotIn_rows {x : List Int} {rows : List (List Int)} : oNotIn (rowD x) (.lst (rows.map rowD)) = some (.bl (!decide (x ∈ rows))) := by
  obtain ⟨r, e, hr⟩ := inD_pl (n := 1) (a := rowD x) (ys := rows.map rowD) (pl_row x) fun y hy => by
    obtain ⟨z, _, rfl⟩ := List.mem_map.mp hy
    exact pl_row z
  unfold oNotIn
  rw [e]
  have : r = decide (x ∈ rows) := by
    rw [Bool.eq_iff_iff, hr, decide_eq_true_eq, List.mem_map]
    exact ⟨fun ⟨y, hy, e⟩ => rowD_inj e ▸ hy, fun z => ⟨x, z, rfl⟩⟩
  rw [this]
  rfl
/-! ### the law's clash -/
def hitF (h : Tx) (s : Sy) (rows : List (List Int)) (k j : Nat) : Option Dt :=
  let a := rows.getD k []
  let b := rows.getD j []
  if cellsL a h s.l = cellsL b h s.l then
    if s.tells = true then (if k < j ∧ cellsL a h s.r ≠ cellsL b h s.r then some (.tup [rowD a, rowD b]) else none)
    else (if wantedL a b h (s.l ++ s.r) ∈ rows then none else some (.tup [rowD a, rowD b, rowD (wantedL a b h (s.l ++ s.r))]))
  else none
def hitsF (h : Tx) (s : Sy) (rows : List (List Int)) (k : Nat) : Option Dt := (List.range rows.length).findSome? (hitF h s rows k)
def clashF (h : Tx) (s : Sy) (rows : List (List Int)) : Option Dt := (List.range rows.length).findSome? (hitsF h s rows)
abbrev CE (R : Dt) (h : Tx) (s : Sy) (k6 k7 k8 k9 k10 k11 : Sl) : Dn.Env := [.dat R, .dat (T h), .dat s.d, .dat (T s.word), .dat (T s.l), .dat (T s.r), k6, k7, k8, k9, k10, k11]
theorem hit_body {s : Sy} {rows : List (List Int)} {k j : Nat} {k8 k9 k10 k11 : Sl} (hr : ∀ x ∈ rows, x.length = h.length) (hh : h.length ≤ 4000) (hl : s.l.length ≤ 1000) (hr' : s.r.length ≤ 1000) (hk : k < rows.length) (hj : j < rows.length) :
    match hitF h s rows k j with
      | some d => b__law_clash_0 (CE (.lst (rows.map rowD)) h s (.dat (.int (k : Int))) (.dat (.int (j : Int))) k8 k9 k10 k11) w = .ret d w
      | none => ∃ e2, b__law_clash_0 (CE (.lst (rows.map rowD)) h s (.dat (.int (k : Int))) (.dat (.int (j : Int))) k8 k9 k10 k11) w = .nx e2 w ∧ ∃ k8 k9 k10 k11, e2 = CE (.lst (rows.map rowD)) h s (.dat (.int (k : Int))) (.dat (.int (j : Int))) k8 k9 k10 k11 := by
  let a := rows[k]
  let b := rows[j]
  have ea : rows.getD k [] = a := by simp [a, List.getD_eq_getElem?_getD, List.getElem?_eq_getElem hk]
  have eb : rows.getD j [] = b := by simp [b, List.getD_eq_getElem?_getD, List.getElem?_eq_getElem hj]
  have la : a.length = h.length := hr a (List.getElem_mem hk)
  have lb : b.length = h.length := hr b (List.getElem_mem hj)
  let E (k8 k9 k10 k11 : Sl) := CE (.lst (rows.map rowD)) h s (.dat (.int (k : Int))) (.dat (.int (j : Int))) k8 k9 k10 k11
  have s8 : sSet 8 (gIx (gVar 0) (gVar 6)) (E k8 k9 k10 k11) w = .nx (E (.dat (rowD a)) k9 k10 k11) w := sSet_ok (hi := by show 8 < 12; decide) (gIx_ok (a := .lst (rows.map rowD)) (w1 := w) rfl rfl (ix_map hk))
  have s9 : sSet 9 (gIx (gVar 0) (gVar 7)) (E (.dat (rowD a)) k9 k10 k11) w = .nx (E (.dat (rowD a)) (.dat (rowD b)) k10 k11) w := sSet_ok (hi := by show 9 < 12; decide) (gIx_ok (a := .lst (rows.map rowD)) (w1 := w) rfl rfl (ix_map hj))
  have t0 : (gTst (gBin oEq (gCall 3 [] m__law_cells (gCons (gVar 8) (gCons (gVar 1) (gCons (gVar 4) gNil)))) (gCall 3 [] m__law_cells (gCons (gVar 9) (gCons (gVar 1) (gCons (gVar 4) gNil)))))) (E (.dat (rowD a)) (.dat (rowD b)) k10 k11) w = .ok (decide (cellsL a h s.l = cellsL b h s.l)) w :=
    gTst_ok (gBin_ok (w1 := w) (w2 := w) (gCall_dat (ga3 (d := rowD a) (d' := T h) (d'' := T s.l) rfl rfl rfl) (m__law_cells_eq la hh)) (gCall_dat (ga3 (d := rowD b) (d' := T h) (d'' := T s.l) rfl rfl rfl) (m__law_cells_eq lb hh)) (oEq_row _ _))
  unfold hitF
  simp only [ea, eb]
  by_cases c0 : cellsL a h s.l = cellsL b h s.l
  · rw [if_pos c0]
    let u : Bool := !decide (cellsL a h s.r = cellsL b h s.r)
    have s10 : sSet 10 (gBin oNe (gCall 3 [] m__law_cells (gCons (gVar 8) (gCons (gVar 1) (gCons (gVar 5) gNil)))) (gCall 3 [] m__law_cells (gCons (gVar 9) (gCons (gVar 1) (gCons (gVar 5) gNil))))) (E (.dat (rowD a)) (.dat (rowD b)) k10 k11) w = .nx (E (.dat (rowD a)) (.dat (rowD b)) (.dat (.bl u)) k11) w :=
      sSet_ok (hi := by show 10 < 12; decide) (gBin_ok (w1 := w) (w2 := w) (gCall_dat (ga3 (d := rowD a) (d' := T h) (d'' := T s.r) rfl rfl rfl) (m__law_cells_eq la hh)) (gCall_dat (ga3 (d := rowD b) (d' := T h) (d'' := T s.r) rfl rfl rfl) (m__law_cells_eq lb hh)) (oNe_row _ _))
    let E10 (k11 : Sl) := E (.dat (rowD a)) (.dat (rowD b)) (.dat (.bl u)) k11
    have t1 : (gAnd (gTst (gBin oEq (gVar 3) (gOk (.str "tells")))) (gAnd (gTst (gBin oGt (gVar 7) (gVar 6))) (gTst (gVar 10)))) (E10 k11) w = .ok (s.tells && (decide ((k : Int) < (j : Int)) && u)) w :=
      gAnd_ok (gTst_ok (gBin_ok (a := T s.word) rfl rfl s.eq_tells)) (gAnd_ok (gTst_ok (gBin_ok (a := .int (j : Int)) (b := .int (k : Int)) rfl rfl (oGt_int _ _))) (gTst_ok (b := u) rfl))
    let m := wantedL a b h (s.l ++ s.r)
    have s11 : sSet 11 (gCall 4 [] m__law_crossed (gCons (gVar 8) (gCons (gVar 9) (gCons (gVar 1) (gCons (gBin oAdd (gVar 4) (gVar 5)) gNil))))) (E10 k11) w = .nx (E10 (.dat (rowD m))) w :=
      sSet_ok (hi := by show 11 < 12; decide) (gCall_dat (gaC (d := rowD a) (w1 := w) rfl (gaC (d := rowD b) (w1 := w) rfl (gaC (d := T h) (w1 := w) rfl (gaC (gBin_ok (a := T s.l) (b := T s.r) rfl rfl (oAdd_T (by omega))) gaN)))) (m__law_crossed_eq la lb hh))
    have t2 : (gAnd (gTst (gBin oEq (gVar 3) (gOk (.str "parts")))) (gTst (gBin oNotIn (gVar 11) (gVar 0)))) (E10 (.dat (rowD m))) w = .ok ((!s.tells) && !decide (m ∈ rows)) w :=
      gAnd_ok (gTst_ok (gBin_ok (a := T s.word) rfl rfl s.eq_parts)) (gTst_ok (gBin_ok (a := rowD m) (b := .lst (rows.map rowD)) rfl rfl oNotIn_rows))
    have front : ∀ {o : OutS} {g : GS}, g (E10 k11) w = o → sSeq (sSet 8 (gIx (gVar 0) (gVar 6))) (sSeq (sSet 9 (gIx (gVar 0) (gVar 7))) (sIf (gTst (gBin oEq (gCall 3 [] m__law_cells (gCons (gVar 8) (gCons (gVar 1) (gCons (gVar 4) gNil)))) (gCall 3 [] m__law_cells (gCons (gVar 9) (gCons (gVar 1) (gCons (gVar 4) gNil)))))) (sSeq (sSet 10 (gBin oNe (gCall 3 [] m__law_cells (gCons (gVar 8) (gCons (gVar 1) (gCons (gVar 5) gNil)))) (gCall 3 [] m__law_cells (gCons (gVar 9) (gCons (gVar 1) (gCons (gVar 5) gNil)))))) g) sSkip)) (E k8 k9 k10 k11) w = o := fun hg =>
      sSeq_nx s8 (sSeq_nx s9 (sIf_t (w1 := w) (t0.trans (by rw [decide_eq_true c0])) (sSeq_nx s10 hg)))
    cases ct : s.tells with
    | true =>
      rw [if_pos rfl]
      by_cases c1 : k < j ∧ cellsL a h s.r ≠ cellsL b h s.r
      · rw [if_pos c1]
        refine front (sSeq_ret (sIf_t (w1 := w) (t1.trans ?_) (sRet_ok (gTup_ok (ga2 (d := rowD a) (d' := rowD b) rfl rfl) (by simp)))))
        rw [ct]
        simp [u, c1.1, c1.2]
      · rw [if_neg c1]
        refine ⟨E10 (.dat (rowD m)), front (sSeq_nx (sIf_f (w1 := w) (t1.trans ?_) rfl) (sSeq_nx s11 (sIf_f (w1 := w) (t2.trans (by rw [ct]; rfl)) rfl))), _, _, _, _, rfl⟩
        rw [ct]
        simp only [u, Bool.true_and]
        congr 1
        rw [Bool.eq_false_iff]
        intro z
        simp only [Bool.and_eq_true, decide_eq_true_eq, Bool.not_eq_true', decide_eq_false_iff_not] at z
        exact c1 ⟨by omega, z.2⟩
    | false =>
      rw [if_neg Bool.false_ne_true]
      have f1 : sIf (gAnd (gTst (gBin oEq (gVar 3) (gOk (.str "tells")))) (gAnd (gTst (gBin oGt (gVar 7) (gVar 6))) (gTst (gVar 10)))) (sRet (gTup (gCons (gVar 8) (gCons (gVar 9) gNil)))) sSkip (E10 k11) w = .nx (E10 k11) w := sIf_f (w1 := w) (t1.trans (by rw [ct]; rfl)) rfl
      by_cases c1 : m ∈ rows
      · rw [if_pos c1]
        exact ⟨E10 (.dat (rowD m)), front (sSeq_nx f1 (sSeq_nx s11 (sIf_f (w1 := w) (t2.trans (by rw [ct, decide_eq_true c1]; rfl)) rfl))), _, _, _, _, rfl⟩
      · rw [if_neg c1]
        exact front (sSeq_nx f1 (sSeq_nx s11 (sIf_t (w1 := w) (t2.trans (by rw [ct, decide_eq_false c1]; rfl)) (sRet_ok (gTup_ok (ga3 (d := rowD a) (d' := rowD b) (d'' := rowD m) rfl rfl rfl) (by simp))))))
  · rw [if_neg c0]
    exact ⟨_, sSeq_nx s8 (sSeq_nx s9 (sIf_f (w1 := w) (t0.trans (by rw [decide_eq_false c0])) rfl)), _, _, _, _, rfl⟩
def optD : Option Dt → Dt
  | some d => d
  | none => .non
theorem m__law_clash_eq {s : Sy} {rows : List (List Int)} (hr : ∀ x ∈ rows, x.length = h.length) (hh : h.length ≤ 4000) (hl : s.l.length ≤ 1000) (hr' : s.r.length ≤ 1000) (hn : rows.length ≤ 4000) : m__law_clash [.lst (rows.map rowD), T h, s.d] w = .dat (optD (clashF h s rows)) w := by
  have rng : ∀ {k6 k7 k8 k9 k10 k11 : Sl}, (gIts oRng1 (gCons (gArgs oLen (gCons (gVar 0) gNil)) gNil)) (CE (.lst (rows.map rowD)) h s k6 k7 k8 k9 k10 k11) w = .ok ((List.range rows.length).map fun k : Nat => Dt.int (k : Int)) w := by
    intro k6 k7 k8 k9 k10 k11
    exact gIts_ok (ga1 (gArgs_ok (ga1 (d := .lst (rows.map rowD)) rfl) ((oLen_lst (by rw [List.length_map]; omega)).trans (by rw [List.length_map])))) (oRng1_nat _ (by omega))
  have inner : ∀ (k : Nat), k < rows.length → ∀ {k7 k8 k9 k10 k11 : Sl}, match hitsF h s rows k with
      | some d => b__law_clash_1 (CE (.lst (rows.map rowD)) h s (.dat (.int (k : Int))) k7 k8 k9 k10 k11) w = .ret d w
      | none => ∃ e2, b__law_clash_1 (CE (.lst (rows.map rowD)) h s (.dat (.int (k : Int))) k7 k8 k9 k10 k11) w = .nx e2 w ∧ ∃ k6 k7 k8 k9 k10 k11, e2 = CE (.lst (rows.map rowD)) h s k6 k7 k8 k9 k10 k11 := by
    intro k hk k7 k8 k9 k10 k11
    have f := forG_first (b := bName 7) (body := b__law_clash_0) (fun env => ∃ k7 k8 k9 k10 k11, env = CE (.lst (rows.map rowD)) h s (.dat (.int (k : Int))) k7 k8 k9 k10 k11) (hitF h s rows k) (fun j : Nat => Dt.int (j : Int)) (w := w) (List.range rows.length) (fun j hj env hI => by
      obtain ⟨k7, k8, k9, k10, k11, rfl⟩ := hI
      have hj' := List.mem_range.mp hj
      refine ⟨CE (.lst (rows.map rowD)) h s (.dat (.int (k : Int))) (.dat (.int (j : Int))) k8 k9 k10 k11, rfl, ?_⟩
      have hb := hit_body (w := w) (k8 := k8) (k9 := k9) (k10 := k10) (k11 := k11) hr hh hl hr' hk hj'
      cases e : hitF h s rows k j with
      | some d => rw [e] at hb; exact hb
      | none =>
        rw [e] at hb
        obtain ⟨e2, h1, k8', k9', k10', k11', h2⟩ := hb
        exact ⟨e2, h1, _, k8', k9', k10', k11', h2⟩) (env := CE (.lst (rows.map rowD)) h s (.dat (.int (k : Int))) k7 k8 k9 k10 k11) ⟨_, _, _, _, _, rfl⟩
    unfold hitsF
    cases e : (List.range rows.length).findSome? (hitF h s rows k) with
    | some d => rw [e] at f; exact sFor_ok rng f
    | none =>
      rw [e] at f
      obtain ⟨e2, h1, k7', k8', k9', k10', k11', h2⟩ := f
      exact ⟨e2, sFor_ok rng h1, _, k7', k8', k9', k10', k11', h2⟩
  have f := forG_first (b := bName 6) (body := b__law_clash_1) (fun env => ∃ k6 k7 k8 k9 k10 k11, env = CE (.lst (rows.map rowD)) h s k6 k7 k8 k9 k10 k11) (hitsF h s rows) (fun j : Nat => Dt.int (j : Int)) (w := w) (List.range rows.length) (fun k hk env hI => by
    obtain ⟨k6, k7, k8, k9, k10, k11, rfl⟩ := hI
    have hk' := List.mem_range.mp hk
    refine ⟨CE (.lst (rows.map rowD)) h s (.dat (.int (k : Int))) k7 k8 k9 k10 k11, rfl, ?_⟩
    have hb := inner k hk' (k7 := k7) (k8 := k8) (k9 := k9) (k10 := k10) (k11 := k11)
    cases e : hitsF h s rows k with
    | some d => rw [e] at hb; exact hb
    | none => rw [e] at hb; exact hb) (env := CE (.lst (rows.map rowD)) h s .un .un .un .un .un .un) ⟨_, _, _, _, _, _, rfl⟩
  have h0 : sAsg (bTup (bCons (bName 3) (bCons (bName 4) (bCons (bName 5) bNil)))) (gVar 2) [.dat (.lst (rows.map rowD)), .dat (T h), .dat s.d, .un, .un, .un, .un, .un, .un, .un, .un, .un] w = .nx (CE (.lst (rows.map rowD)) h s .un .un .un .un .un .un) w := rfl
  unfold clashF
  cases e : (List.range rows.length).findSome? (hitsF h s rows) with
  | some d =>
    rw [e] at f
    exact runM_ret (sSeq_nx h0 (sSeq_ret (sFor_ok rng f)))
  | none =>
    rw [e] at f
    obtain ⟨e2, h1, k6, k7, k8, k9, k10, k11, h2⟩ := f
    exact runM_ret (sSeq_nx h0 (sSeq_nx (sFor_ok rng h1) rfl))
end
end Mi
end
section
/-! What a table keeps, place by place; program and law alike; the finest sets that a table parts. -/
namespace Mi
open PySem L2 Dn
open PyProof.Rows
open PySem.W (AllAlike Sortable dataLe alike alikeAll)
section
variable {h p l r t X Y : Tx} {a b c : List Int} {S rows : List (List Int)}
/-! ### place by place -/
theorem agree_iff (ha : a.length = h.length) (hb : b.length = h.length) : cellsL a h p = cellsL b h p ↔ ∀ k, k < h.length → h.getD k 0 ∈ p → a.getD k 0 = b.getD k 0 := by
  unfold cellsL
  rw [zip_rng ha, zip_rng hb, List.filter_map, List.filter_map, List.map_map, List.map_map]
  have e : ((fun q : Int × Nat => decide (q.2 ∈ p)) ∘ fun k => (a.getD k 0, h.getD k 0)) = ((fun q : Int × Nat => decide (q.2 ∈ p)) ∘ fun k => (b.getD k 0, h.getD k 0)) := rfl
  rw [e, List.map_inj_left]
  constructor
  · intro z k hk hp
    exact z k (List.mem_filter.mpr ⟨List.mem_range.mpr hk, by simpa using hp⟩)
  · intro z k hk
    obtain ⟨h1, h2⟩ := List.mem_filter.mp hk
    exact z k (List.mem_range.mp h1) (by simpa using h2)
theorem wanted_len (ha : a.length = h.length) (hb : b.length = h.length) : (wantedL a b h t).length = h.length := by
  unfold wantedL
  simp [ha, hb]
theorem wanted_get (ha : a.length = h.length) (hb : b.length = h.length) {k : Nat} (hk : k < h.length) : (wantedL a b h t).getD k 0 = if h.getD k 0 ∈ t then a.getD k 0 else b.getD k 0 := by
  unfold wantedL
  rw [zip3_rng ha hb, List.map_map]
  simp [List.getD_eq_getElem?_getD, List.getElem?_range hk]
theorem row_ext (ha : a.length = h.length) (hb : b.length = h.length) (e : ∀ k, k < h.length → a.getD k 0 = b.getD k 0) : a = b := by
  refine List.ext_getElem (ha.trans hb.symm) fun k h1 h2 => ?_
  have := e k (by omega)
  simpa [List.getD_eq_getElem?_getD, List.getElem?_eq_getElem h1, List.getElem?_eq_getElem h2] using this
theorem wanted_congr (ht : ∀ c, c ∈ X ↔ c ∈ Y) : wantedL a b h X = wantedL a b h Y := by
  unfold wantedL
  refine List.map_congr_left fun q _ => ?_
  simp only [ht]
/-! ### kept -/
def keptT (h l r : Tx) (S : List (List Int)) : Prop := ∀ a ∈ S, ∀ b ∈ S, cellsL a h l = cellsL b h l → cellsL a h r = cellsL b h r
def keptP (h l X : Tx) (S : List (List Int)) : Prop := ∀ a ∈ S, ∀ b ∈ S, cellsL a h l = cellsL b h l → wantedL a b h (l ++ X) ∈ S
def kept (h : Tx) (s : Sy) (S : List (List Int)) : Prop := if s.tells = true then keptT h s.l s.r S else keptP h s.l s.r S
theorem agree_rest (ha : a.length = h.length) (hb : b.length = h.length) (q : cellsL a h l = cellsL b h l) : cellsL a h (withoutL r l) = cellsL b h (withoutL r l) ↔ cellsL a h r = cellsL b h r := by
  rw [agree_iff ha hb, agree_iff ha hb]
  have q := (agree_iff ha hb).mp q
  constructor
  · intro z k hk hr
    by_cases c : h.getD k 0 ∈ l
    · exact q k hk c
    · exact z k hk (mem_withoutL.mpr ⟨hr, c⟩)
  · intro z k hk hr
    exact z k hk (mem_withoutL.mp hr).1
/-! ### what is parted: closed under rest and meet -/
theorem keptP_all (hr : ∀ x ∈ S, x.length = h.length) (hx : ∀ c ∈ h, c ∉ l → c ∈ X) : keptP h l X S := fun a ha b hb _ => by
  have : wantedL a b h (l ++ X) = a := row_ext (wanted_len (hr a ha) (hr b hb)) (hr a ha) fun k hk => by
    have hm : h.getD k 0 ∈ h := by rw [List.getD_eq_getElem?_getD, List.getElem?_eq_getElem hk]; exact List.getElem_mem hk
    rw [wanted_get (hr a ha) (hr b hb) hk]
    by_cases c : h.getD k 0 ∈ l
    · rw [if_pos (List.mem_append_left _ c)]
    · rw [if_pos (List.mem_append_right _ (hx _ hm c))]
  rw [this]
  exact ha
/-! ### shorter ones first -/
/-! ### least ones -/
end
end Mi
end
section
/-! The finest sets that a table parts. -/
namespace Mi
open PySem L2 Dn
end Mi
end
section
/-! What is read off tables: program and law. -/
namespace Mi
open PySem L2 Dn
section
variable {h l : Tx} {rs S : List (List Int)} {dd : Dt} {w : Ds}
/-! ### tables handed as a list or a tuple -/
theorem m_rising_eq' (hd : srcD dd = some (rs.map rowD)) (ok : okRows rs = true) : m_rising [dd] w = .own (.lst ((sortRows rs).map rowD)) w := by
  have hl : rs.length ≤ sizeLine := by unfold okRows at ok; simp only [Bool.and_eq_true, decide_eq_true_eq] at ok; exact ok.2
  have e := gSrtSc_rows (vs := [1]) (gi := gIt srcD (gVar 0)) (b := bName 1) (gt := gYes) (ge := gArgs oTuple (gCons (gVar 1) gNil)) (env := [.dat dd, .un]) (w := w) (w1 := w) rs rowD (fun _ => true) (fun r => r) (gIt_ok (d := dd) rfl hd)
    (fun r hr => ⟨[.dat dd, .dat (rowD r)], rfl, rfl, fun _ => gArgs_ok (ga1 rfl) (oTuple_row r)⟩) (by rw [filter_tt, List.map_id']; exact ok) hl
  rw [filter_tt, List.map_id'] at e
  exact runM_rtf (sRetF_ok e)
theorem m_clash_eq' {s : Sy} (hd : srcD dd = some (rs.map rowD)) (t : Tbl h rs) (hl : s.l.length ≤ 100) (hr : s.r.length ≤ 100) : m_clash [dd, T h, s.d] w = .dat (clashD h s (sortRows rs)) w := by
  have t2 := t.srt
  have h10 := t.hl
  have f2 := t2.few
  have hrise : (gCall 1 [] m_rising (gCons (gVar 0) gNil)) [.dat dd, .dat (T h), .dat s.d, .dat (T s.word), .dat (T s.l), .dat (T s.r)] w = .ok (.lst ((sortRows rs).map rowD)) w := gCall_own (ga1 rfl) (m_rising_eq' hd t.ok)
  have hw : (gCall 2 [] m_without (gCons (gVar 5) (gCons (gVar 4) gNil))) [.dat dd, .dat (T h), .dat s.d, .dat (T s.word), .dat (T s.l), .dat (T s.r)] w = .ok (T (withoutL s.r s.l)) w := gCall_dat (ga2 rfl rfl) (m_without_eq (by omega))
  have ht : (gTst (gBin oEq (gVar 3) (gOk (.str "tells")))) [.dat dd, .dat (T h), .dat s.d, .dat (T s.word), .dat (T s.l), .dat (T s.r)] w = .ok s.tells w := gTst_ok (gBin_ok rfl rfl s.eq_tells)
  have h0 : sAsg (bTup (bCons (bName 3) (bCons (bName 4) (bCons (bName 5) bNil)))) (gVar 2) [.dat dd, .dat (T h), .dat s.d, .un, .un, .un] w = .nx [.dat dd, .dat (T h), .dat s.d, .dat (T s.word), .dat (T s.l), .dat (T s.r)] w := rfl
  unfold clashD
  cases e : s.tells with
  | true =>
    refine runM_ret (sSeq_nx h0 (sSeq_ret (sIf_t (w1 := w) (by rw [ht, e]) (sRetC_dat (gaC hrise (gaC rfl (gaC rfl (gaC hw gaN)))) (m_clash_of_tells_eq (by omega) t2.len (by omega))))))
  | false =>
    refine runM_ret (sSeq_nx h0 (sSeq_nx (sIf_f (w1 := w) (by rw [ht, e]) rfl) (sRetC_dat (gaC hrise (gaC rfl (gaC rfl (gaC rfl gaN)))) (m_clash_of_parts_eq (by omega) t2.len (by omega) (by omega)))))
theorem m_keeps_eq' {s : Sy} (hd : srcD dd = some (rs.map rowD)) (t : Tbl h rs) (hl : s.l.length ≤ 100) (hr : s.r.length ≤ 100) : m_keeps [dd, T h, s.d] w = .dat (.bl (keepsB h s (sortRows rs))) w := by
  refine runM_ret (sRet_ok (gBin_ok (gCall_dat (ga3 (d := dd) (d' := T h) (d'' := s.d) rfl rfl rfl) (m_clash_eq' hd t hl hr)) rfl ?_))
  show some (Dt.bl (isNon (clashD h s (sortRows rs)))) = _
  congr 2
  unfold clashD keepsB
  cases s.tells with
  | true => simp only [if_true]; cases clashT h s.l (withoutL s.r s.l) (sortRows rs) <;> rfl
  | false => simp only [Bool.false_eq_true, if_false]; cases clashP h s.l (unionL s.l s.r) (sortRows rs) (sortRows rs) <;> rfl
theorem m__law_rising_eq (ok : okRows rs = true) : m__law_rising [.lst (rs.map rowD)] w = .own (.lst ((sortRows rs).map rowD)) w := by
  have hl : rs.length ≤ sizeLine := by unfold okRows at ok; simp only [Bool.and_eq_true, decide_eq_true_eq] at ok; exact ok.2
  have e := gLc_map (vs := [1]) (gi := gIt srcD (gVar 0)) (b := bName 1) (gt := gYes) (ge := gArgs oTuple (gCons (gVar 1) gNil)) (env := [.dat (.lst (rs.map rowD)), .un]) (w := w) (w1 := w) rs rowD (fun _ => true) rowD (gIt_ok (d := .lst (rs.map rowD)) rfl rfl)
    (fun r hr => ⟨[.dat (.lst (rs.map rowD)), .dat (rowD r)], rfl, rfl, fun _ => gArgs_ok (ga1 rfl) (oTuple_row r)⟩) hl
  rw [filter_tt] at e
  exact runM_rtf (sRetF_ok (gArgsF_ok (ga1 (gFrz_lst e)) (oSrtT_rows ok)))
/-! ### the law's look -/
/-! ### what least sets tell -/
/-! ### the finest sets -/
/-! ### signs in order -/
end
end Mi
end
section
noncomputable section
namespace Mi
open PySem L2 Dn
/-! law_k04 -/
def b_law_k04_0 : GS := (sSeq (sSetF 4 (gCallF 3 [] m__law_heap (gCons (gVar 1) (gCons (gVar 2) (gCons (gOk (.int 9)) gNil))))) (sSeq (sIf (gLendT (gAnd (gTst (gBin oGt (gArgs oLen (gCons (gVar 4) gNil)) (gOk (.int 1)))) (gTst (gBin oEq (gCall 2 [] m__law_draw (gCons (gVar 1) (gCons (gOk (.int 2)) gNil))) (gOk (.int 0)))))) (sLm 4 fApp (gLendL (gCons (gIx (gVar 4) (gCall 2 [] m__law_draw (gCons (gVar 1) (gCons (gArgs oLen (gCons (gVar 4) gNil)) gNil)))) gNil))) sSkip) (sSeq (sSet 5 (gCall 2 [] m__law_saying (gCons (gVar 1) (gCons (gVar 2) gNil)))) (sSeq (sSet 6 (gLend (gCall 3 [] m__law_clash (gCons (gCall 1 [] m__law_rising (gCons (gVar 4) gNil)) (gCons (gVar 2) (gCons (gVar 5) gNil)))))) (sSeq (sSet 7 (gFrz (gLendF (gArgsF oList (gCons (gVar 4) gNil))))) (sSeq (sIf (gTst (gBin oEq (gCall 2 [] m__law_draw (gCons (gVar 1) (gCons (gOk (.int 2)) gNil))) (gOk (.int 0)))) (sSet 7 (gLend (gArgs oTuple (gCons (gVar 4) gNil)))) sSkip) (sSeq (sSet 8 (gArgs oRepr (gCons (gVar 7) gNil))) (sSeq (sIf (gOr (gTst (gBin oNe (gCall 3 [] m_clash (gCons (gVar 7) (gCons (gVar 2) (gCons (gVar 5) gNil)))) (gVar 6))) (gNot (gTst (gCall 2 [] m__law_truth (gCons (gCall 3 [] m_keeps (gCons (gVar 7) (gCons (gVar 2) (gCons (gVar 5) gNil)))) (gCons (gBin oIs (gVar 6) (gOk .non)) gNil)))))) (sRet (gOk (.bl false))) sSkip) (sSeq (sIf (gTst (gBin oNeS (gArgs oRepr (gCons (gVar 7) gNil)) (gVar 8))) (sRet (gOk (.bl false))) sSkip) (sSeq (sSetF 4 (gLendF (gCatF (gVar 4) (gCall 3 [] m__law_heap (gCons (gVar 1) (gCons (gVar 2) (gCons (gOk (.int 2)) gNil))))))) (sSeq (sSet 6 (gLend (gCall 3 [] m__law_clash (gCons (gCall 1 [] m__law_rising (gCons (gVar 4) gNil)) (gCons (gVar 2) (gCons (gVar 5) gNil)))))) (sIf (gLendT (gOr (gTst (gBin oNe (gCall 3 [] m_clash (gCons (gVar 4) (gCons (gVar 2) (gCons (gVar 5) gNil)))) (gVar 6))) (gTst (gBin oIsNot (gCall 3 [] m_clash (gCons (gFrz (gLst gNil)) (gCons (gVar 2) (gCons (gVar 5) gNil)))) (gOk .non))))) (sRet (gOk (.bl false))) sSkip))))))))))))
def g0_law_k04 : GS := (sSetF 1 (gCallF 1 [] m__law_start (gCons (gVar 0) gNil)))
def g_law_k04 : GS := (sSeq (sSet 2 (gCall 1 [] m__law_head (gCons (gVar 1) gNil))) (sSeq (sFor (gIts oRng1 (gCons (gOk (.int 6)) gNil)) (bName 3) b_law_k04_0) (sRet (gOk (.bl true)))))
/-! _law_cut -/
/-! _law_filled_in -/
/-! _law_join -/
/-! cut -/
/-! row_over -/
/-! paired -/
/-! joined -/
/-! law_k05 -/
/-! _law_uneven -/
/-! _law_evened -/
/-! _law_wanted -/
/-! _law_chased -/
/-! law_k06 -/
/-! law_k12 -/
/-! law_k22 -/
/-! put_one -/
def g_put_one : GS := (sSeq (sSet 5 (gM1 oIndex (gVar 0) (gVar 2))) (sRetC 1 [] m_rising (gCons (gFrz (gLc [6] (gIt srcD (gVar 1)) (bName 6) gYes (gBin oAdd (gBin oAddT (gSl (gVar 6) gNoPart (gPart (gVar 5))) (gTup (gCons (gIfE (gTst (gBin oEq (gIx (gVar 6) (gVar 5)) (gVar 4))) (gVar 3) (gIx (gVar 6) (gVar 5))) gNil))) (gSl (gVar 6) (gPart (gBin oAdd (gVar 5) (gOk (.int 1)))) gNoPart)))) gNil)))
def m_put_one : Mf := runM 7 g_put_one
/-! unequal -/
def b_unequal_0 : GS := (sIf (gAnd (gTst (gBin oIn (gVar 7) (gVar 3))) (gTst (gBin oNe (gVar 8) (gVar 9)))) (sRet (gTup (gCons (gVar 7) (gCons (gArgs oMin2 (gCons (gVar 8) (gCons (gVar 9) gNil))) (gCons (gArgs oMax2 (gCons (gVar 8) (gCons (gVar 9) gNil))) gNil))))) sSkip)
def b_unequal_1 : GS := (sSeq (sSetdV 6 4 (gCall 3 [] m_cells_of (gCons (gVar 5) (gCons (gVar 0) (gCons (gVar 2) gNil)))) (gVar 5)) (sFor (gIts oZip3 (gCons (gVar 0) (gCons (gVar 6) (gCons (gVar 5) gNil)))) (bTup (bCons (bName 7) (bCons (bName 8) (bCons (bName 9) bNil)))) b_unequal_0))
def g_unequal : GS := (sSeq (sSetF 4 gDnew) (sSeq (sFor (gIt srcD (gVar 1)) (bName 5) b_unequal_1) (sRet (gOk .non))))
def m_unequal : Mf := runM 10 g_unequal
/-! evened -/
def b_evened_0 : GS := (sSeq (sAsg (bTup (bCons (bName 5) (bCons (bName 6) bNil))) (gIx (gVar 3) (gVar 4))) (sSeq (sSet 7 (gCall 4 [] m_unequal (gCons (gVar 2) (gCons (gVar 1) (gCons (gVar 5) (gCons (gVar 6) gNil)))))) (sIf (gTst (gBin oIs (gVar 7) (gOk .non))) (sAugI 4 (gOk (.int 1))) (sSeq (sSet 1 (gCall 5 [] m_put_one (gCons (gVar 2) (gCons (gVar 1) (gCons (gIx (gVar 7) (gOk (.int 0))) (gCons (gIx (gVar 7) (gOk (.int 1))) (gCons (gIx (gVar 7) (gOk (.int 2))) gNil))))))) (sSet 4 (gOk (.int 0)))))))
def g_evened : GS := (sSeq (sSet 2 (gBind1 (oFld ["Book"] "letters") (gVar 0))) (sSeq (sSet 3 (gFrz (gLc [8, 5, 6] (gIt srcD (gBind1 (oFld ["Book"] "said") (gVar 0))) (bTup (bCons (bName 8) (bCons (bName 5) (bCons (bName 6) bNil)))) (gTst (gBin oEq (gVar 8) (gOk (.str "tells")))) (gTup (gCons (gVar 5) (gCons (gVar 6) gNil)))))) (sSeq (sSet 4 (gOk (.int 0))) (sSeq (sWhile (gTst (gBin oLt (gVar 4) (gArgs oLen (gCons (gVar 3) gNil)))) b_evened_0) (sRet (gVar 1))))))
def m_evened : Mf := runM 9 g_evened
/-! asked_for -/
/-! filled -/
/-! chased_rows -/
/-! looked_rows -/
/-! chased -/
/-! _law_end -/
/-! law_k27 -/
/-! law_k28 -/
/-! first_rows -/
/-! lost -/
/-! comes_back -/
/-! _law_asked_k29 -/
/-! _law_first -/
/-! law_k29 -/
/-! _law_lost -/
/-! law_k30 -/
/-! _law_back -/
/-! law_k31 -/
/-! _law_is_parting -/
/-! _law_kept -/
/-! _law_third -/
/-! grown_of -/
/-! needed -/
/-! joined_up -/
/-! law_k33 -/
/-! _law_fault -/
/-! _law_let_go -/
/-! _law_split_once -/
/-! _law_due_k34 -/
/-! split_off_k34 -/
/-! law_k34 -/
/-! showing -/
/-! _law_asked_k35 -/
/-! _law_told_there -/
/-! _law_shows -/
/-! law_k35 -/
/-! law_k37 -/
/-! laid -/
/-! looked_table -/
/-! state_of -/
/-! Store___init__ -/
/-! table_of -/
/-! Store___len__ -/
/-! _law_made_k39 -/
/-! _law_two_sides -/
/-! _law_good_split -/
/-! _law_parts -/
/-! _law_some_table -/
/-! _law_first_clash -/
/-! _law_table_due -/
/-! _law_rows -/
/-! law_k39 -/
/-! _law_kept_of -/
/-! Store___repr__ -/
/-! Store_book -/
/-! Store_cells -/
/-! Store_parts -/
/-! Store_piece -/
/-! Store_rows -/
/-! _law_store_is -/
/-! law_k62 -/
/-! _law_laid -/
/-! _law_no_fault -/
/-! law_k63 -/
/-! _law_asked_k65 -/
/-! _law_third_fault -/
/-! _law_due_k65 -/
/-! law_k65 -/
end Mi
end
end
section
/-! Tables against what does not follow (k17): one row for each union of free blocks. -/
namespace Mi
open PySem L2 Dn
end Mi
end
section
/-! The unions of free blocks and their rows; sorted rows (k17). -/
namespace Mi
open PySem L2 Dn
open PyProof.Rows
open PySem.W (AllAlike Sortable dataLe alike alikeAll)
/-! ### unions -/
/-! ### rows sorted -/
end Mi
end
section
/-! What `against` answers (k17). -/
namespace Mi
open PySem L2 Dn
theorem flats_rows : ∀ rs : List (List Int), flats (rs.map rowD) = true
  | [] => rfl
  | r :: rs => by
    have one : ∀ r : List Int, flats (r.map Dt.int) = true := fun r => by
      induction r with
      | nil => rfl
      | cons i r ih => simp [flats, flat, ih]
    have : flat (rowD r) = true := by
      show flat (.tup (r.map .int)) = true
      simpa [flat] using one r
    simp [flats, this, flats_rows rs]
end Mi
end
section
/-! Tables against what does not follow (k17): the law's look. -/
namespace Mi
open PySem L2 Dn
end Mi
end
section
/-! What follows is kept by each table that keeps the book. -/
namespace Mi
open PySem L2 Dn
section
variable {h l : Tx} {ss : List Say} {S : List (List Int)} (len : ∀ r ∈ S, r.length = h.length)
include len
/-- a parted block, cut by a kept saying -/
theorem keptP_cut {b lo hi : Tx} (zb : keptP h l b S) (zw : keptP h lo hi S) (hb : ∀ c ∈ b, c ∉ lo) : keptP h l (commonL b hi) S ∧ keptP h l (withoutL b hi) S := by
  have key : ∀ x ∈ S, ∀ y ∈ S, cellsL x h l = cellsL y h l → ∃ u ∈ S, (∀ k, k < h.length → u.getD k 0 = if h.getD k 0 ∈ l ++ b then x.getD k 0 else y.getD k 0) ∧ cellsL u h lo = cellsL y h lo := fun x hx y hy q => by
    have lx := len x hx
    have ly := len y hy
    refine ⟨_, zb x hx y hy q, fun k hk => wanted_get lx ly hk, ?_⟩
    rw [agree_iff (wanted_len lx ly) ly]
    intro k hk hm
    rw [wanted_get lx ly hk]
    by_cases p : h.getD k 0 ∈ l
    · rw [if_pos (List.mem_append_left _ p)]
      exact (agree_iff lx ly).mp q k hk p
    · rw [if_neg fun z => (List.mem_append.mp z).elim p fun z => hb _ z hm]
  constructor
  · intro x hx y hy q
    obtain ⟨u, hu, eu, ag⟩ := key x hx y hy q
    have lx := len x hx
    have ly := len y hy
    have lu := len u hu
    have z := zw u hu y hy ag
    have A := (agree_iff lx ly).mp q
    rw [show wantedL x y h (l ++ commonL b hi) = wantedL u y h (lo ++ hi) from row_ext ((wanted_len lx ly)) (wanted_len lu ly) fun k hk => ?_]
    · exact z
    · rw [wanted_get lx ly hk, wanted_get lu ly hk, eu k hk]
      have Ak := A k hk
      have Bk := hb (h.getD k 0)
      simp only [List.mem_append, mem_commonL]
      by_cases p1 : h.getD k 0 ∈ l <;> by_cases p2 : h.getD k 0 ∈ b <;> by_cases p3 : h.getD k 0 ∈ lo <;> by_cases p4 : h.getD k 0 ∈ hi <;> simp_all
  · intro x hx y hy q
    obtain ⟨u, hu, eu, ag⟩ := key x hx y hy q
    have lx := len x hx
    have ly := len y hy
    have lu := len u hu
    have z := zw y hy u hu ag.symm
    have A := (agree_iff lx ly).mp q
    rw [show wantedL x y h (l ++ withoutL b hi) = wantedL y u h (lo ++ hi) from row_ext ((wanted_len lx ly)) (wanted_len ly lu) fun k hk => ?_]
    · exact z
    · rw [wanted_get lx ly hk, wanted_get ly lu hk, eu k hk]
      have Ak := A k hk
      have Bk := hb (h.getD k 0)
      simp only [List.mem_append, mem_withoutL]
      by_cases p1 : h.getD k 0 ∈ l <;> by_cases p2 : h.getD k 0 ∈ b <;> by_cases p3 : h.getD k 0 ∈ lo <;> by_cases p4 : h.getD k 0 ∈ hi <;> simp_all
theorem keptT_parts {lo hi : Tx} {c : Nat} (z : keptT h lo hi S) (hc : c ∈ hi) : keptP h lo [c] S := fun x hx y hy q => by
  have lx := len x hx
  have ly := len y hy
  have A := (agree_iff lx ly).mp q
  have B := (agree_iff lx ly).mp (z x hx y hy q)
  rw [show wantedL x y h (lo ++ [c]) = y from row_ext (wanted_len lx ly) ly fun k hk => ?_]
  · exact hy
  · rw [wanted_get lx ly hk]
    by_cases p : h.getD k 0 ∈ lo ++ [c]
    · rw [if_pos p]
      rcases List.mem_append.mp p with p | p
      · exact A k hk p
      · exact B k hk (by rw [List.mem_singleton.mp p]; exact hc)
    · rw [if_neg p]
/-- the book's ways are kept -/
theorem ways_kept (ok : ∀ s ∈ ss, SayH h s) (k : ∀ s ∈ ss, kept h (syOf s) S) : ∀ w ∈ waysL ss, keptP h w.1 w.2 S := fun w hw => by
  obtain ⟨s, hs, hw⟩ := mem_waysL.mp hw
  have ks := k s hs
  unfold waysOf at hw
  unfold kept at ks
  by_cases e : s.w = tellsT
  · rw [if_pos e] at hw
    rw [if_pos (by simp [syOf, e])] at ks
    obtain ⟨c, hc, rfl⟩ := List.mem_map.mp hw
    exact keptT_parts len ks hc
  · rw [if_neg e] at hw
    rw [if_neg (by simp [syOf, e])] at ks
    rw [List.mem_singleton.mp hw]
    exact ks
theorem run_kept {R : Tx} {P : List Tx} (hR : keptP h l R S) (kw : ∀ w ∈ waysL ss, keptP h w.1 w.2 S) (r : Run (waysL ss) R P) : ∀ b ∈ P, keptP h l b S := by
  induction r with
  | start => intro b hb; rw [List.mem_singleton.mp hb]; exact hR
  | step _ hw s ih =>
    obtain ⟨b, P0, h1, h2, hc⟩ := s
    obtain ⟨c1, _, _⟩ := cutB_iff.mp hc
    obtain ⟨k1, k2⟩ := keptP_cut len (ih b (h1.mem_iff.mpr List.mem_cons_self)) (kw _ hw) (common_nil.mp c1)
    intro x hx
    rcases List.mem_cons.mp (h2.mem_iff.mp hx) with rfl | hx
    · exact k1
    · rcases List.mem_cons.mp hx with rfl | hx
      · exact k2
      · exact ih x (h1.mem_iff.mpr (List.mem_cons_of_mem _ hx))
/-- each block is parted off -/
theorem blocks_kept (ok : ∀ s ∈ ss, SayH h s) (k : ∀ s ∈ ss, kept h (syOf s) S) {P : List Tx} (hP : Fin' (withoutL h l) (waysL ss) P) : ∀ b ∈ P, keptP h l b S := by
  rcases hP with ⟨_, e⟩ | ⟨_, r, _⟩
  · rw [e]; intro b hb; cases hb
  · exact run_kept len (keptP_all len fun c ch cl => mem_withoutL.mpr ⟨ch, cl⟩) (ways_kept len ok k) r
/-- what is told is told -/
theorem told_kept (H : Hd h) (ok : ∀ s ∈ ss, SayH h s) (few : ss.length ≤ 100) (k : ∀ s ∈ ss, kept h (syOf s) S) : keptT h l (toldF h ss l) S := fun x hx y hy q => by
  have lx := len x hx
  have ly := len y hy
  have A := (agree_iff lx ly).mp q
  refine (agree_iff lx ly).mpr fun n hn hm => ?_
  have hP := finF_ok (l := l) H ok few
  rcases mem_told.mp (show h.getD n 0 ∈ toldL ss l (finF h ss l) from hm) with z | ⟨z, s, hs, hw, cr, cl⟩
  · exact A n hn z
  · have zb := blocks_kept len ok k hP _ z
    have hu := zb x hx y hy q
    have ks := k s hs
    unfold kept at ks
    rw [if_pos (by simp [syOf, hw])] at ks
    have lu := wanted_len (h := h) (t := l ++ [h.getD n 0]) lx ly
    have ag : cellsL (wantedL x y h (l ++ [h.getD n 0])) h s.l = cellsL y h s.l := by
      rw [agree_iff lu ly]
      intro j hj hjm
      rw [wanted_get lx ly hj]
      by_cases p : h.getD j 0 ∈ l ++ [h.getD n 0]
      · rw [if_pos p]
        rcases List.mem_append.mp p with p | p
        · exact A j hj p
        · rw [List.mem_singleton.mp p] at hjm
          exact absurd hjm cl
      · rw [if_neg p]
    have B := (agree_iff lu ly).mp (ks _ hu y hy ag) n hn cr
    rw [wanted_get lx ly hn, if_pos (List.mem_append_right _ (List.mem_singleton.mpr rfl))] at B
    exact B
end
end Mi
end
section
/-! Tables that show what is told (k35): the law's look at them, and why it holds. -/
namespace Mi
open PySem L2 Dn
/-! ### text.index(sign) -/
theorem occ_all (s sub : Str) (hi limit : Nat) : ∀ (l : List Nat) (st : Array Nat × Nat), (∀ i ∈ st.1, i + sub.length ≤ hi ∧ Builtin.Str.subAt s sub i = true) →
    ∀ i ∈ (forIn l st (StrLaws.occBody s sub hi limit)).run.fst, i + sub.length ≤ hi ∧ Builtin.Str.subAt s sub i = true
  | [], st, h => h
  | a :: l, st, h => by
    rw [List.forIn_cons]
    unfold StrLaws.occBody
    split
    · rename_i c
      refine occ_all s sub hi limit l _ fun i hi' => ?_
      rcases Array.mem_push.mp hi' with z | z
      · exact h i z
      · rw [z]; exact ⟨c.1.2, c.2⟩
    · exact occ_all s sub hi limit l _ h
theorem oIndex_T {h : Tx} {c : Nat} (nd : h.Nodup) (hc : c ∈ h) : oIndex (sx h) (T [c]) = some (.int (h.idxOf c : Int)) := by
  have e1 := StrLaws.found_one (sx h) c
  rw [sx_toList, decide_eq_true hc] at e1
  have e2 : ∀ i ∈ Builtin.Str.occurrences (sx h) (sx [c]) 0 (sx h).length 1, h[i]? = some c := fun i hi => by
    rw [StrLaws.occ_eq] at hi
    have := occ_all (sx h) (sx [c]) (sx h).length 1 _ (#[], 0) (fun i hi => by simp at hi) i (by simpa using hi)
    have := (StrLaws.subAt_one (sx h) c i).mp this
    rwa [sx_toList] at this
  have e1' : (!(Builtin.Str.occurrences (sx h) (sx [c]) 0 (sx h).length 1).isEmpty) = true := e1
  show (match Builtin.Str.occurrences (sx h) (sx [c]) 0 (sx h).length 1 with
    | i :: _ => some (Dt.int (i : Nat))
    | [] => none) = _
  cases q : Builtin.Str.occurrences (sx h) (sx [c]) 0 (sx h).length 1 with
  | nil => rw [q] at e1'; cases e1'
  | cons i r =>
    have hi := e2 i (by rw [q]; exact List.mem_cons_self)
    obtain ⟨hl, hi⟩ := List.getElem?_eq_some_iff.mp hi
    have : h.idxOf c = i := by rw [← hi, nd.idxOf_getElem]
    simp only [this]
/-! ### what is told, as a closure -/
section
variable {h : Tx} {ss : List Say} (H : Hd h) (ok : ∀ s ∈ ss, SayH h s) (few : ss.length ≤ 100)
include H ok few
theorem toldF_mono {l m : Tx} (hl : ∀ c ∈ l, c ∈ m) : ∀ c ∈ toldF h ss l, c ∈ toldF h ss m := told_mono H (finF_ok H ok few) (finF_ok H ok few) hl fun _ x => x
end
/-! ### the rows -/
/-! ### the law's look at one set and one column -/
theorem getG_putE {κ : Type} [DecidableEq κ] (x y : κ) (v : Dt) : ∀ kvs : List (κ × Dt), getG (putG kvs x v) y = if y = x then some v else getG kvs y := by
  intro kvs
  unfold putG
  by_cases a : (kvs.any fun kv => decide (kv.1 = x)) = true
  · rw [if_pos a]
    induction kvs with
    | nil => cases a
    | cons p r ih =>
      rw [List.map_cons]
      by_cases px : p.1 = x
      · rw [if_pos px]
        by_cases yx : y = x
        · rw [if_pos yx]
          unfold getG
          rw [List.find?_cons]
          simp [px, yx]
        · rw [if_neg yx]
          unfold getG
          have n1 : decide (p.1 = y) = false := decide_eq_false fun e => yx (e.symm.trans px)
          rw [List.find?_cons, List.find?_cons]
          simp only [n1]
          by_cases b : (r.any fun kv => decide (kv.1 = x)) = true
          · have := ih b
            rw [if_neg yx] at this
            exact this
          · have : r.map (fun kv => if kv.1 = x then (kv.1, v) else kv) = r := by
              refine (List.map_congr_left fun kv hk => ?_).trans (List.map_id' r)
              rw [if_neg fun e => b (List.any_eq_true.mpr ⟨kv, hk, decide_eq_true e⟩)]
            rw [this]
      · rw [if_neg px]
        have b : (r.any fun kv => decide (kv.1 = x)) = true := by
          rw [List.any_cons, decide_eq_false px, Bool.false_or] at a
          exact a
        have := ih b
        unfold getG at this ⊢
        rw [List.find?_cons, List.find?_cons]
        by_cases py : p.1 = y
        · simp only [py, decide_true]
          rw [if_neg fun e => px (py.trans e)]
        · simp only [decide_eq_false py]
          exact this
  · rw [if_neg a]
    unfold getG
    rw [List.find?_append]
    by_cases yx : y = x
    · subst yx
      have : (kvs.find? fun kv => decide (kv.1 = y)) = none := by
        rw [List.find?_eq_none]
        intro kv hk e
        exact a (List.any_eq_true.mpr ⟨kv, hk, e⟩)
      rw [this, if_pos rfl]
      simp
    · rw [if_neg yx]
      have : decide (x = y) = false := decide_eq_false fun e => yx e.symm
      simp [this]
end Mi
end
section
/-! The showing table of a book (k35): what the program makes, what the law sees. -/
namespace Mi
open PySem L2 Dn
/-! ### sorted sets of texts -/
end Mi
end
section
/-! The law's rounds (chase): the first uneven pair. -/
namespace Mi
open PySem L2 Dn
section
variable {h : Tx} {S : List (List Int)} {w : Ds}
/-- each row's mate -/
def matesOk (h : Tx) (s : Sy) (pre : List (List Int)) (kvs : List (List Key × Dt)) : Prop :=
  (∀ k : List Int, getG kvs (keyR k) = none ∨ ∃ a ∈ pre, cellsL a h s.l = k ∧ getG kvs (keyR k) = some (rowD a)) ∧
  (s.tells = true → ∀ x ∈ pre, ∃ a ∈ pre, getG kvs (keyR (cellsL x h s.l)) = some (rowD a) ∧ ∀ k, k < h.length → h.getD k 0 ∈ s.r → a.getD k 0 = x.getD k 0) ∧ kvs.length ≤ pre.length
/-- a pair of cells that a told saying makes one -/
def offD (h : Tx) (s : Sy) (S : List (List Int)) (d : Dt) : Prop := s.tells = true ∧ ∃ (k : Nat) (lo hi : Int) (a b : List Int), d = .tup [.int (k : Int), .int lo, .int hi] ∧ k < h.length ∧ lo < hi ∧ a ∈ S ∧ b ∈ S ∧ a.getD k 0 = lo ∧ b.getD k 0 = hi ∧ cellsL a h s.l = cellsL b h s.l ∧ h.getD k 0 ∈ s.r
def offU (h : Tx) (ss : List Say) (S : List (List Int)) (d : Dt) : Prop := ∃ s ∈ ss, offD h (syOf s) S d
/-- told sayings are kept -/
def evenS (h : Tx) (ss : List Say) (S : List (List Int)) : Prop := ∀ s ∈ ss, (syOf s).tells = true → keptT h s.l s.r S
end
end Mi
end
section
/-! The law's rounds: the box that the rows stay in; evening. -/
namespace Mi
open PySem L2 Dn
theorem sort_nd (rs : List (List Int)) : (sortRows rs).Nodup := (List.mergeSort_perm _ _).nodup_iff.mpr (addAll_nd List.nodup_nil)
/-! ### the box -/
def boxL : List (List Int) → List (List Int)
  | [] => [[]]
  | c :: cs => c.flatMap fun v => (boxL cs).map (v :: ·)
theorem mem_boxL : ∀ {Cs : List (List Int)} {r : List Int}, r ∈ boxL Cs ↔ r.length = Cs.length ∧ ∀ k, k < Cs.length → r.getD k 0 ∈ Cs.getD k []
  | [], r => by
    unfold boxL
    rw [List.mem_singleton]
    exact ⟨fun e => by rw [e]; exact ⟨rfl, fun k hk => absurd hk (Nat.not_lt_zero k)⟩, fun h => List.length_eq_zero_iff.mp h.1⟩
  | c :: cs, r => by
    unfold boxL
    rw [List.mem_flatMap]
    constructor
    · rintro ⟨v, hv, hr⟩
      obtain ⟨q, hq, rfl⟩ := List.mem_map.mp hr
      obtain ⟨e1, e2⟩ := mem_boxL.mp hq
      refine ⟨by simp [e1], fun k hk => ?_⟩
      cases k with
      | zero => exact hv
      | succ k => exact e2 k (by simpa using hk)
    · rintro ⟨e1, e2⟩
      cases r with
      | nil => cases e1
      | cons v q =>
        refine ⟨v, e2 0 (by simp), List.mem_map.mpr ⟨q, mem_boxL.mpr ⟨by simpa using e1, fun k hk => ?_⟩, rfl⟩⟩
        exact e2 (k + 1) (by simpa using hk)
def cellsU (Cs : List (List Int)) : List (Nat × Int) := (List.range Cs.length).flatMap fun k => (Cs.getD k []).map fun v => (k, v)
structure Bx (h : Tx) (Cs : List (List Int)) (S : List (List Int)) : Prop where
  n : Cs.length = h.length
  lo : 1 ≤ h.length
  hi : h.length ≤ 100
  u : (cellsU Cs).length < 1000
  inb : ∀ r ∈ S, r ∈ boxL Cs
section
variable {h : Tx} {S : List (List Int)} {Cs : List (List Int)} {w : Ds}
theorem Bx.len (b : Bx h Cs S) : ∀ r ∈ S, r.length = h.length := fun r hr => (mem_boxL.mp (b.inb r hr)).1.trans b.n
theorem Bx.cell (b : Bx h Cs S) {r : List Int} (hr : r ∈ S) {k : Nat} (hk : k < h.length) : r.getD k 0 ∈ Cs.getD k [] := (mem_boxL.mp (b.inb r hr)).2 k (by rw [b.n]; exact hk)
theorem Bx.sub {R : List (List Int)} (b : Bx h Cs S) (e : ∀ r ∈ R, r ∈ boxL Cs) : Bx h Cs R := ⟨b.n, b.lo, b.hi, b.u, e⟩
theorem Bx.srt (b : Bx h Cs S) : Bx h Cs (sortRows S) := b.sub fun r hr => b.inb r (mem_sortRows.mp hr)
theorem okRows_of {A : List (List Int)} (few : (Sk.addAll [] A).length < 60000) (hl : A.length ≤ 16777216) (ne : ∀ r ∈ A, r ≠ []) : okRows A = true := by
  unfold okRows
  simp only [Bool.and_eq_true, Bool.or_eq_true, decide_eq_true_eq, List.all_eq_true, Bool.not_eq_true']
  refine ⟨⟨few, .inl fun r hr => ?_⟩, by rw [sz_line]; exact hl⟩
  have := ne r hr
  cases r with
  | nil => exact absurd rfl this
  | cons _ _ => rfl
theorem Bx.ne (b : Bx h Cs S) : ∀ r ∈ S, r ≠ [] := fun r hr e => by
  have := b.len r hr
  have := b.lo
  rw [e] at *
  simp at *
  omega
theorem Bx.ok (b : Bx h Cs S) (hl : S.length < 60000) : okRows S = true := by
  have := addAll_len S []
  simp only [List.length_nil] at this
  exact okRows_of (by omega) (by omega) b.ne
/-- the columns of a heap -/
def colsOf (h : Tx) (R : List (List Int)) : List (List Int) := (List.range h.length).map fun k => R.map fun r => r.getD k 0
theorem colsOf_get {R : List (List Int)} {k : Nat} (hk : k < h.length) : (colsOf h R).getD k [] = R.map fun r => r.getD k 0 := by
  unfold colsOf
  rw [List.getD_eq_getElem?_getD, List.getElem?_map, List.getElem?_range hk]
  rfl
theorem Bx.ofm {R : List (List Int)} {m n : Nat} (len : ∀ r ∈ R, r.length = h.length) (lo : 1 ≤ h.length) (hi : h.length ≤ n) (few : R.length ≤ m) (m1 : 1 ≤ m) (mn : m * n < 1000) (n1 : n ≤ 100) : Bx h (colsOf h R) R := by
  have cl : (colsOf h R).length = h.length := by unfold colsOf; simp
  have cm : ∀ c ∈ colsOf h R, c.length ≤ m := fun c hc => by
    obtain ⟨k, _, rfl⟩ := List.mem_map.mp hc
    rw [List.length_map]; exact few
  refine ⟨cl, lo, by omega, ?_, fun r hr => mem_boxL.mpr ⟨(len r hr).trans cl.symm, fun k hk => ?_⟩⟩
  · unfold cellsU
    rw [List.length_flatMap, cl]
    have : ∀ n, (∀ k, k < n → k < h.length) → ((List.range n).map fun k => ((((colsOf h R).getD k []).map fun v => (k, v)).length)).sum ≤ m * n := by
      intro n
      induction n with
      | zero => intro _; exact Nat.le_refl 0
      | succ n ih =>
        intro hn
        rw [List.range_succ, List.map_append, List.sum_append, Nat.mul_succ]
        have a := ih fun k hk => hn k (by omega)
        have b : (((colsOf h R).getD n []).map fun v => (n, v)).length ≤ m := by
          rw [List.length_map, colsOf_get (hn n (by omega)), List.length_map]; exact few
        simp only [List.map_cons, List.map_nil, List.sum_cons, List.sum_nil]
        omega
    have := this h.length fun k hk => hk
    have := Nat.mul_le_mul_left m hi
    omega
  · rw [colsOf_get (by omega)]
    exact List.mem_map_of_mem hr
theorem Bx.of {R : List (List Int)} (len : ∀ r ∈ R, r.length = h.length) (lo : 1 ≤ h.length) (hi : h.length ≤ 5) (few : R.length ≤ 5) : Bx h (colsOf h R) R := Bx.ofm (m := 5) (n := 5) len lo hi few (by decide) (by decide) (by decide)
/-! ### evening -/
def evenRow (k : Nat) (lo hi : Int) (r : List Int) : List Int := r.set k (if r.getD k 0 = hi then lo else r.getD k 0)
theorem evenRow_get {k j : Nat} {lo hi : Int} {r : List Int} (hk : k < r.length) : (evenRow k lo hi r).getD j 0 = if j = k then (if r.getD k 0 = hi then lo else r.getD k 0) else r.getD j 0 := by
  unfold evenRow
  rw [List.getD_eq_getElem?_getD, List.getElem?_set]
  by_cases e : k = j
  · subst e
    simp [hk]
  · rw [if_neg e, if_neg fun z => e z.symm, ← List.getD_eq_getElem?_getD]
theorem oSl_row_to {r : List Int} {k : Nat} (hk : k < r.length) : oSl (rowD r) none (some (k : Int)) = some (rowD (r.take k)) := by
  show (if HT.sIx (r.map Dt.int).length 0 none = 0 ∧ HT.sIx (r.map Dt.int).length (r.map Dt.int).length (some (k : Int)) = (r.map Dt.int).length then none else some (Dt.tup (cutG (r.map Dt.int) none (some (k : Int))))) = _
  rw [HT.sIx_nat, if_neg (by rw [List.length_map]; omega)]
  unfold cutG
  rw [HT.sIx_nat, HT.sIx_none, Nat.sub_zero, List.drop_zero, List.length_map, Nat.min_eq_left (by omega), ← List.map_take]
  rfl
theorem oSl_row_from {r : List Int} {k : Nat} (hk : k < r.length) : oSl (rowD r) (some ((k : Int) + 1)) none = some (rowD (r.drop (k + 1))) := by
  show (if HT.sIx (r.map Dt.int).length 0 (some ((k : Int) + 1)) = 0 ∧ HT.sIx (r.map Dt.int).length (r.map Dt.int).length none = (r.map Dt.int).length then none else some (Dt.tup (cutG (r.map Dt.int) (some ((k : Int) + 1)) none))) = _
  rw [show ((k : Int) + 1) = ((k + 1 : Nat) : Int) from rfl, HT.sIx_nat, if_neg (by rw [List.length_map]; omega)]
  unfold cutG
  rw [HT.sIx_nat, HT.sIx_none, List.length_map, Nat.min_eq_left (by omega), ← List.map_drop, List.take_of_length_le (by simp)]
  rfl
theorem oAddT_row (a b : List Int) (hl : a.length + b.length ≤ 16777216) : oAddT (rowD a) (rowD b) = some (rowD (a ++ b)) := by
  show (if (a.map Dt.int).length + (b.map Dt.int).length ≤ sizeLine then some (Dt.tup (a.map Dt.int ++ b.map Dt.int)) else none) = _
  rw [if_pos (by rw [sz_line]; simpa using hl), ← List.map_append]
  rfl
theorem oAdd_row (a b : List Int) (ne : a ≠ []) (hl : a.length + b.length ≤ 16777216) : oAdd (rowD a) (rowD b) = some (rowD (a ++ b)) := by
  show (if a.map Dt.int ≠ [] ∧ (a.map Dt.int).length + (b.map Dt.int).length ≤ sizeLine then some (Dt.tup (a.map Dt.int ++ b.map Dt.int)) else none) = _
  rw [if_pos ⟨by simpa using ne, by rw [sz_line]; simpa using hl⟩, ← List.map_append]
  rfl
theorem evenRow_eq {r : List Int} {k : Nat} {lo hi : Int} (hk : k < r.length) : evenRow k lo hi r = r.take k ++ [if r.getD k 0 = hi then lo else r.getD k 0] ++ r.drop (k + 1) := by
  unfold evenRow
  rw [List.set_eq_take_append_cons_drop, if_pos hk]
  simp
/-- how many cells stand somewhere -/
def measS (Cs S : List (List Int)) : Nat := (cellsU Cs).countP fun p => S.any fun r => decide (r.getD p.1 0 = p.2)
theorem countP_lt {α : Type} {p q : α → Bool} : ∀ {l : List α}, (∀ x ∈ l, q x = true → p x = true) → (∃ x ∈ l, p x = true ∧ q x = false) → l.countP q < l.countP p
  | [], _, ⟨x, hx, _⟩ => nomatch hx
  | y :: l, h, ⟨x, hx, h1, h2⟩ => by
    have le : l.countP q ≤ l.countP p := List.countP_mono_left fun z hz => h z (List.mem_cons_of_mem _ hz)
    rw [List.countP_cons, List.countP_cons]
    rcases List.mem_cons.mp hx with e | m
    · subst e
      rw [if_pos h1, if_neg (by rw [h2]; exact Bool.false_ne_true)]
      omega
    · have := countP_lt (fun z hz => h z (List.mem_cons_of_mem _ hz)) ⟨x, m, h1, h2⟩
      have hy := h y List.mem_cons_self
      cases qy : q y with
      | false => rw [if_neg Bool.false_ne_true]; omega
      | true => rw [hy qy, if_pos rfl]; omega
theorem mem_cellsU {p : Nat × Int} : p ∈ cellsU Cs ↔ p.1 < Cs.length ∧ p.2 ∈ Cs.getD p.1 [] := by
  unfold cellsU
  rw [List.mem_flatMap]
  constructor
  · rintro ⟨k, hk, hp⟩
    obtain ⟨v, hv, rfl⟩ := List.mem_map.mp hp
    exact ⟨List.mem_range.mp hk, hv⟩
  · rintro ⟨h1, h2⟩
    exact ⟨p.1, List.mem_range.mpr h1, List.mem_map.mpr ⟨p.2, h2, rfl⟩⟩
def Frc (h : Tx) (ss : List Say) (S : List (List Int)) (k : Nat) (lo hi : Int) : Prop := k < h.length ∧ lo < hi ∧ ∃ s ∈ ss, (syOf s).tells = true ∧ ∃ a ∈ S, ∃ b ∈ S, a.getD k 0 = lo ∧ b.getD k 0 = hi ∧ cellsL a h s.l = cellsL b h s.l ∧ h.getD k 0 ∈ s.r
theorem even_step {d : Dt} {ss : List Say} (b : Bx h Cs S) (o : offU h ss S d) : ∃ (k : Nat) (lo hi : Int), d = .tup [.int (k : Int), .int lo, .int hi] ∧ Frc h ss S k lo hi ∧ k < h.length ∧ Bx h Cs (S.map (evenRow k lo hi)) ∧ measS Cs (sortRows (S.map (evenRow k lo hi))) < measS Cs S := by
  obtain ⟨s, sm, st, k, lo, hi, x, y, rfl, hk, lt, hx, hy, ex, ey, cq, kr⟩ := o
  have clo : lo ∈ Cs.getD k [] := by rw [← ex]; exact b.cell hx hk
  have chi : hi ∈ Cs.getD k [] := by rw [← ey]; exact b.cell hy hk
  refine ⟨k, lo, hi, rfl, ⟨hk, lt, s, sm, st, x, hx, y, hy, ex, ey, cq, kr⟩, hk, b.sub fun r hr => ?_, countP_lt (fun p hp hq => ?_) ⟨(k, hi), mem_cellsU.mpr ⟨by rw [b.n]; exact hk, chi⟩, List.any_eq_true.mpr ⟨y, hy, decide_eq_true ey⟩, ?_⟩⟩
  · obtain ⟨q, hq, rfl⟩ := List.mem_map.mp hr
    have lq := b.len q hq
    refine mem_boxL.mpr ⟨by unfold evenRow; rw [List.length_set]; exact lq.trans b.n.symm, fun j hj => ?_⟩
    rw [evenRow_get (by omega)]
    by_cases e : j = k
    · subst e
      rw [if_pos rfl]
      split
      · exact clo
      · exact b.cell hq hk
    · rw [if_neg e]
      exact b.cell hq (by rw [← b.n]; exact hj)
  · obtain ⟨r, hr, er⟩ := List.any_eq_true.mp hq
    obtain ⟨q, hq', rfl⟩ := List.mem_map.mp (mem_sortRows.mp hr)
    have er := of_decide_eq_true er
    have lq := b.len q hq'
    rw [evenRow_get (by omega)] at er
    refine List.any_eq_true.mpr ?_
    by_cases e : p.1 = k
    · rw [if_pos e] at er
      by_cases z : q.getD k 0 = hi
      · rw [if_pos z] at er
        exact ⟨x, hx, decide_eq_true (by rw [e, ex, er])⟩
      · rw [if_neg z] at er
        exact ⟨q, hq', decide_eq_true (by rw [e, er])⟩
    · rw [if_neg e] at er
      exact ⟨q, hq', decide_eq_true er⟩
  · rw [Bool.eq_false_iff]
    intro z
    obtain ⟨r, hr, er⟩ := List.any_eq_true.mp z
    obtain ⟨q, hq', rfl⟩ := List.mem_map.mp (mem_sortRows.mp hr)
    have er := of_decide_eq_true er
    have lq := b.len q hq'
    rw [evenRow_get (by omega), if_pos rfl] at er
    by_cases z : q.getD k 0 = hi
    · rw [if_pos z] at er; simp only at er; omega
    · rw [if_neg z] at er; exact z er
end
end Mi
end
section
/-! The law's rounds: the rows that parted sayings want; the rounds to their end. -/
namespace Mi
open PySem L2 Dn
/-! ### groups -/
abbrev Gs := List (List Int × List (List Int))
def addG : Gs → List Int → List Int → Gs
  | [], k, x => [(k, [x])]
  | g :: gs, k, x => if g.1 = k then (g.1, g.2 ++ [x]) :: gs else g :: addG gs k x
theorem nd_key : ∀ {gs : Gs} {f f' : List Int × List (List Int)}, (gs.map (·.1)).Nodup → f ∈ gs → f' ∈ gs → f.1 = f'.1 → f = f'
  | g :: gs, f, f', nd, h, h', e => by
    obtain ⟨n1, n2⟩ := List.nodup_cons.mp nd
    rcases List.mem_cons.mp h with rfl | m <;> rcases List.mem_cons.mp h' with rfl | m'
    · rfl
    · exact absurd (show f.1 ∈ gs.map (·.1) from by rw [e]; exact List.mem_map_of_mem (f := fun x : List Int × List (List Int) => x.1) m') n1
    · exact absurd (show f'.1 ∈ gs.map (·.1) from by rw [← e]; exact List.mem_map_of_mem (f := fun x : List Int × List (List Int) => x.1) m) n1
    · exact nd_key n2 m m' e
structure GrpOk (h l : Tx) (pre : List (List Int)) (gs : Gs) : Prop where
  inn : ∀ g ∈ gs, ∀ a ∈ g.2, a ∈ pre ∧ cellsL a h l = g.1
  all : ∀ x ∈ pre, ∃ g ∈ gs, g.1 = cellsL x h l ∧ x ∈ g.2
  nd : (gs.map (·.1)).Nodup
  sum : (gs.map fun g => g.2.length).sum = pre.length
  few : gs.length ≤ pre.length
theorem addG_sum (k x : List Int) : ∀ gs : Gs, ((addG gs k x).map fun g => g.2.length).sum = (gs.map fun g => g.2.length).sum + 1
  | [] => rfl
  | g :: gs => by
    unfold addG
    split
    · simp; omega
    · simp only [List.map_cons, List.sum_cons]
      rw [addG_sum k x gs]
      omega
theorem addG_few (k x : List Int) : ∀ gs : Gs, (addG gs k x).length ≤ gs.length + 1
  | [] => Nat.le_refl _
  | g :: gs => by
    unfold addG
    split
    · simp
    · have := addG_few k x gs
      simp only [List.length_cons]
      omega
theorem addG_key {k x c : List Int} : ∀ {gs : Gs}, c ∈ (addG gs k x).map (·.1) → c ∈ gs.map (·.1) ∨ c = k
  | [], h => .inr (by simpa [addG] using h)
  | g :: gs, h => by
    unfold addG at h
    split at h
    · exact .inl h
    · rcases List.mem_cons.mp h with e | m
      · exact .inl (by rw [e]; exact List.mem_cons_self)
      · exact (addG_key m).imp (fun z => List.mem_cons_of_mem _ z) id
theorem addG_nd {k x : List Int} : ∀ {gs : Gs}, (gs.map (·.1)).Nodup → ((addG gs k x).map (·.1)).Nodup
  | [], _ => by simp [addG]
  | g :: gs, h => by
    unfold addG
    obtain ⟨h1, h2⟩ := List.nodup_cons.mp h
    split
    · exact h
    · rename_i n
      refine List.nodup_cons.mpr ⟨fun z => ?_, addG_nd h2⟩
      rcases addG_key z with m | m
      · exact h1 m
      · exact n m
theorem addG_inn {k x : List Int} : ∀ {gs : Gs} {g : List Int × List (List Int)} {a : List Int}, g ∈ addG gs k x → a ∈ g.2 → (∃ g' ∈ gs, g'.1 = g.1 ∧ a ∈ g'.2) ∨ a = x ∧ g.1 = k
  | [], g, a, h, ha => by
    rw [List.mem_singleton.mp h] at ha ⊢
    exact .inr ⟨List.mem_singleton.mp ha, rfl⟩
  | f :: gs, g, a, h, ha => by
    unfold addG at h
    split at h
    · rename_i e
      rcases List.mem_cons.mp h with rfl | m
      · rcases List.mem_append.mp ha with z | z
        · exact .inl ⟨f, List.mem_cons_self, rfl, z⟩
        · exact .inr ⟨List.mem_singleton.mp z, e⟩
      · exact .inl ⟨g, List.mem_cons_of_mem _ m, rfl, ha⟩
    · rcases List.mem_cons.mp h with rfl | m
      · exact .inl ⟨g, List.mem_cons_self, rfl, ha⟩
      · rcases addG_inn m ha with ⟨g', m', r⟩ | r
        · exact .inl ⟨g', List.mem_cons_of_mem _ m', r⟩
        · exact .inr r
theorem addG_old {k x : List Int} : ∀ {gs : Gs} {g : List Int × List (List Int)} {a : List Int}, g ∈ gs → a ∈ g.2 → ∃ g' ∈ addG gs k x, g'.1 = g.1 ∧ a ∈ g'.2
  | f :: gs, g, a, h, ha => by
    unfold addG
    split
    · rcases List.mem_cons.mp h with rfl | m
      · exact ⟨_, List.mem_cons_self, rfl, List.mem_append_left _ ha⟩
      · exact ⟨g, List.mem_cons_of_mem _ m, rfl, ha⟩
    · rcases List.mem_cons.mp h with rfl | m
      · exact ⟨g, List.mem_cons_self, rfl, ha⟩
      · obtain ⟨g', m', r⟩ := addG_old (k := k) (x := x) m ha
        exact ⟨g', List.mem_cons_of_mem _ m', r⟩
theorem addG_new (k x : List Int) : ∀ gs : Gs, ∃ g ∈ addG gs k x, g.1 = k ∧ x ∈ g.2
  | [] => ⟨(k, [x]), by simp [addG], rfl, by simp⟩
  | f :: gs => by
    unfold addG
    split
    · rename_i e
      exact ⟨_, List.mem_cons_self, e, by simp⟩
    · obtain ⟨g, m, r⟩ := addG_new k x gs
      exact ⟨g, List.mem_cons_of_mem _ m, r⟩
section
variable {h : Tx} {S : List (List Int)} {Cs : List (List Int)} {w : Ds}
theorem GrpOk.step {l : Tx} {pre : List (List Int)} {gs : Gs} (g : GrpOk h l pre gs) (x : List Int) : GrpOk h l (pre ++ [x]) (addG gs (cellsL x h l) x) := by
  refine ⟨fun f hf a ha => ?_, fun y hy => ?_, addG_nd g.nd, ?_, ?_⟩
  · rcases addG_inn hf ha with ⟨f', m, e, ha'⟩ | ⟨e1, e2⟩
    · obtain ⟨i1, i2⟩ := g.inn f' m a ha'
      exact ⟨List.mem_append_left _ i1, i2.trans e⟩
    · rw [e1, e2]; exact ⟨by simp, rfl⟩
  · rcases List.mem_append.mp hy with m | m
    · obtain ⟨f, hf, e, z⟩ := g.all y m
      obtain ⟨f', hf', e', z'⟩ := addG_old (k := cellsL x h l) (x := x) hf z
      exact ⟨f', hf', e'.trans e, z'⟩
    · rw [List.mem_singleton.mp m]
      obtain ⟨f, hf, e, z⟩ := addG_new (cellsL x h l) x gs
      exact ⟨f, hf, e, z⟩
  · rw [addG_sum, g.sum, List.length_append, List.length_singleton]
  · have := addG_few (cellsL x h l) x gs
    have := g.few
    rw [List.length_append, List.length_singleton]
    omega
def groupsF (h l : Tx) (S : List (List Int)) : Gs := S.foldl (fun gs x => addG gs (cellsL x h l) x) []
theorem groups_ok (l : Tx) : GrpOk h l S (groupsF h l S) := by
  have key : ∀ (post pre : List (List Int)) (gs : Gs), GrpOk h l pre gs → GrpOk h l (pre ++ post) (post.foldl (fun gs x => addG gs (cellsL x h l) x) gs) := by
    intro post
    induction post with
    | nil => intro pre gs g; rw [List.append_nil]; exact g
    | cons x post ih =>
      intro pre gs g
      have := ih (pre ++ [x]) _ (g.step x)
      rw [List.append_assoc] at this
      exact this
  exact key S [] [] ⟨fun g hg => (nomatch hg), fun x hx => (nomatch hx), List.nodup_nil, rfl, Nat.le_refl _⟩
def crossG (h t : Tx) (rs : List (List Int)) : List (List Int) := rs.flatMap fun a => rs.map fun b => wantedL a b h t
def grpS (h : Tx) (S : List (List Int)) (s : Sy) : Gs := if s.tells = true then [] else groupsF h s.l S
def crossS (h : Tx) (S : List (List Int)) (s : Sy) : List (List Int) := (grpS h S s).flatMap fun g => crossG h (s.l ++ s.r) g.2
def moreF (h : Tx) (S : List (List Int)) (ss : List Say) : List (List Int) := S ++ ss.flatMap fun s => crossS h S (syOf s)
theorem mem_crossS {s : Sy} {r : List Int} : r ∈ crossS h S s ↔ s.tells = false ∧ ∃ a ∈ S, ∃ b ∈ S, cellsL a h s.l = cellsL b h s.l ∧ r = wantedL a b h (s.l ++ s.r) := by
  unfold crossS grpS
  cases s.tells with
  | true => simp
  | false =>
    rw [if_neg Bool.false_ne_true, List.mem_flatMap]
    have g := groups_ok (h := h) (S := S) s.l
    constructor
    · rintro ⟨f, hf, hr⟩
      unfold crossG at hr
      obtain ⟨a, ha, hr⟩ := List.mem_flatMap.mp hr
      obtain ⟨b, hb, rfl⟩ := List.mem_map.mp hr
      obtain ⟨a1, a2⟩ := g.inn f hf a ha
      obtain ⟨b1, b2⟩ := g.inn f hf b hb
      exact ⟨rfl, a, a1, b, b1, a2.trans b2.symm, rfl⟩
    · rintro ⟨_, a, ha, b, hb, e, rfl⟩
      obtain ⟨f, hf, e1, m1⟩ := g.all a ha
      obtain ⟨f', hf', e2, m2⟩ := g.all b hb
      have : f = f' := by
        exact nd_key g.nd hf hf' (e1.trans (e.trans e2.symm))
      subst this
      exact ⟨f, hf, List.mem_flatMap.mpr ⟨a, m1, List.mem_map.mpr ⟨b, m2, rfl⟩⟩⟩
theorem mem_moreF {ss : List Say} {r : List Int} : r ∈ moreF h S ss ↔ r ∈ S ∨ ∃ s ∈ ss, (syOf s).tells = false ∧ ∃ a ∈ S, ∃ b ∈ S, cellsL a h s.l = cellsL b h s.l ∧ r = wantedL a b h (s.l ++ s.r) := by
  unfold moreF
  rw [List.mem_append, List.mem_flatMap]
  exact or_congr Iff.rfl ⟨fun ⟨s, hs, hr⟩ => ⟨s, hs, mem_crossS.mp hr⟩, fun ⟨s, hs, hr⟩ => ⟨s, hs, mem_crossS.mpr hr⟩⟩
theorem flat_len {α β γ : Type} {f : α → β → γ} {ys : List β} : ∀ xs : List α, (xs.flatMap fun a => ys.map (f a)).length = xs.length * ys.length
  | [] => by simp
  | x :: xs => by rw [List.flatMap_cons, List.length_append, flat_len xs, List.length_map, List.length_cons, Nat.succ_mul, Nat.add_comm]
/-! ### the walk of wanted -/
abbrev WE (S : List (List Int)) (h : Tx) (L : Dt) (more : List (List Int)) (s : Sy) (k7 k8 k9 k10 k11 : Sl) : Dn.Env :=
  [.dat (.lst (S.map rowD)), .dat (T h), .dat L, .own (.lst (more.map rowD)), .dat (T s.word), .dat (T s.l), .dat (T s.r), k7, k8, k9, k10, k11, .un]
theorem Bx.more {ss : List Say} (b : Bx h Cs S) : Bx h Cs (moreF h S ss) := b.sub fun r hr => by
  rcases mem_moreF.mp hr with m | ⟨s, _, _, x, hx, y, hy, _, rfl⟩
  · exact b.inb r m
  · have lx := b.len x hx
    have ly := b.len y hy
    refine mem_boxL.mpr ⟨(wanted_len lx ly).trans b.n.symm, fun k hk => ?_⟩
    have hk : k < h.length := by rw [← b.n]; exact hk
    rw [wanted_get lx ly hk]
    split
    · exact b.cell hx hk
    · exact b.cell hy hk
end
end Mi
end
section
/-! The law's rounds to their end: a table that keeps all, or none. -/
namespace Mi
open PySem L2 Dn
section
variable {h : Tx} {S : List (List Int)} {Cs : List (List Int)} {w : Ds}
theorem fix_kept {ss : List Say} (ev : evenS h ss S) (fx : ∀ r ∈ moreF h S ss, r ∈ S) : ∀ s ∈ ss, kept h (syOf s) S := fun s hs => by
  unfold kept
  cases t : (syOf s).tells with
  | true => rw [if_pos rfl]; exact ev s hs t
  | false =>
    rw [if_neg Bool.false_ne_true]
    intro a ha b hb q
    exact fx _ (mem_moreF.mpr (.inr ⟨s, hs, t, a, ha, b, hb, q, rfl⟩))
/-! ### cuts -/
end
/-! ### what the told table is -/
end Mi
end
section
/-! The law's rounds end: a measure; two rows that are alike in one set alone. -/
namespace Mi
open PySem L2 Dn
/-! ### two rows -/
section
variable {h l : Tx} {ss : List Say} {P : List Tx} {S R : List (List Int)}
theorem getD_map {α β : Type} {f : α → β} {xs : List α} {k : Nat} {d : β} (hk : k < xs.length) : (xs.map f).getD k d = f xs[k] := by
  rw [List.getD_eq_getElem?_getD, List.getElem?_map, List.getElem?_eq_getElem hk]; rfl
end
end Mi
end
section
/-! Two rows that are alike in one set alone, brought to a table that keeps the book: what stays true. -/
namespace Mi
open PySem L2 Dn
section
variable {h l : Tx} {ss : List Say} {S R : List (List Int)} {Cs : List (List Int)}
/-! ### how many rows there is room for -/
theorem boxL_cons_len (c : List Int) (cs : List (List Int)) : (boxL (c :: cs)).length = c.length * (boxL cs).length := by
  show (c.flatMap fun v => (boxL cs).map (v :: ·)).length = _
  rw [flat_len]
theorem boxL_pow : ∀ {Vs : List (List Int)}, (∀ c ∈ Vs, 1 ≤ c.length ∧ c.length ≤ 2) → Vs.length ≤ (Vs.map (·.length)).sum ∧ (boxL Vs).length ≤ 2 ^ ((Vs.map (·.length)).sum - Vs.length)
  | [], _ => ⟨Nat.le_refl _, Nat.le_refl _⟩
  | c :: cs, hc => by
    obtain ⟨i1, i2⟩ := boxL_pow (Vs := cs) fun x hx => hc x (List.mem_cons_of_mem _ hx)
    obtain ⟨c1, c2⟩ := hc c List.mem_cons_self
    rw [boxL_cons_len, List.map_cons, List.sum_cons, List.length_cons]
    refine ⟨by omega, ?_⟩
    rcases (show c.length = 1 ∨ c.length = 2 by omega) with e | e
    · rw [e, Nat.one_mul, show 1 + (cs.map (·.length)).sum - (cs.length + 1) = (cs.map (·.length)).sum - cs.length by omega]
      exact i2
    · rw [e, show 2 + (cs.map (·.length)).sum - (cs.length + 1) = ((cs.map (·.length)).sum - cs.length) + 1 by omega, Nat.pow_succ, Nat.mul_comm]
      exact Nat.mul_le_mul_right 2 i2
def valsL (Cs S : List (List Int)) : List (List Int) := (List.range Cs.length).map fun k => (Cs.getD k []).filter fun v => S.any fun r => decide (r.getD k 0 = v)
theorem meas_vals : measS Cs S = ((valsL Cs S).map (·.length)).sum := by
  unfold measS cellsU valsL
  rw [List.countP_flatMap, List.map_map]
  congr 1
  refine List.map_congr_left fun k _ => ?_
  simp only [Function.comp]
  rw [List.countP_map, List.countP_eq_length_filter]
  rfl
theorem room (b : Bx h Cs S) (nd : S.Nodup) (c2 : ∀ k, k < h.length → (Cs.getD k []).length ≤ 2) (ne : S ≠ []) : h.length ≤ measS Cs S ∧ S.length ≤ 2 ^ (measS Cs S - h.length) := by
  have vl : (valsL Cs S).length = h.length := by unfold valsL; rw [List.length_map, List.length_range, b.n]
  obtain ⟨r0, hr0⟩ := List.exists_mem_of_ne_nil S ne
  obtain ⟨p1, p2⟩ := boxL_pow (Vs := valsL Cs S) fun c hc => by
    obtain ⟨k, hk, rfl⟩ := List.mem_map.mp hc
    have hk : k < h.length := by rw [← b.n]; exact List.mem_range.mp hk
    refine ⟨?_, Nat.le_trans (List.length_filter_le _ _) (c2 k hk)⟩
    exact List.length_pos_of_mem (List.mem_filter.mpr ⟨b.cell hr0 hk, List.any_eq_true.mpr ⟨r0, hr0, decide_eq_true rfl⟩⟩)
  rw [← meas_vals, vl] at p1 p2
  refine ⟨p1, Nat.le_trans (Tg.nd_in nd fun r hr => mem_boxL.mpr ⟨(b.len r hr).trans vl.symm, fun k hk => ?_⟩) p2⟩
  have hk : k < h.length := by rw [← vl]; exact hk
  unfold valsL
  rw [getD_map (by rw [List.length_range, b.n]; exact hk)]
  simp only [List.getElem_range]
  exact List.mem_filter.mpr ⟨b.cell hr hk, List.any_eq_true.mpr ⟨r, hr, decide_eq_true rfl⟩⟩
/-! ### cells by column -/
/-! ### what stays true -/
end
end Mi
end
section
/-! Two rows that are alike in one set alone: the table that the rounds end with. -/
namespace Mi
open PySem L2 Dn
end Mi
end
section
/-! The program's chase: evening. -/
namespace Mi
open PySem L2 Dn
section
variable {h : Tx} {S : List (List Int)} {Cs : List (List Int)} {w : Ds}
theorem zip3_hab {a x : List Int} (la : a.length = h.length) (lx : x.length = h.length) : zip3D (h.map fun c => T [c]) (a.map Dt.int) (x.map Dt.int) = (List.range h.length).map fun k => Dt.tup [T [h.getD k 0], .int (a.getD k 0), .int (x.getD k 0)] := by
  refine List.ext_getElem ?_ fun i h1 h2 => ?_
  · rw [zip3D_len _ _ _ (by simp [la]) (by simp [lx])]; simp
  · have hi : i < h.length := by simpa using h2
    have e := zip3D_get (h.map fun c => T [c]) (a.map Dt.int) (x.map Dt.int) i (T [h.getD i 0]) (.int (a.getD i 0)) (.int (x.getD i 0)) (by simp [hi]) (by simp [la, hi]) (by simp [lx, hi])
    rw [List.getElem_map, List.getElem_range]
    rw [List.getElem?_eq_getElem h1] at e
    exact Option.some.inj e
/-- where two rows differ on a right side, told by the column -/
def offS (h r : Tx) (a x : List Int) (k : Nat) : Option Dt :=
  if h.getD k 0 ∈ r ∧ a.getD k 0 ≠ x.getD k 0 then some (.tup [T [h.getD k 0], .int (if x.getD k 0 < a.getD k 0 then x.getD k 0 else a.getD k 0), .int (if x.getD k 0 > a.getD k 0 then x.getD k 0 else a.getD k 0)]) else none
abbrev QE (R : Dt) (h l r : Tx) (k4 k5 k6 k7 k8 k9 : Sl) : Dn.Env := [.dat (T h), .dat R, .dat (T l), .dat (T r), k4, k5, k6, k7, k8, k9]
theorem unequal_body {R : Dt} {l r : Tx} {a x : List Int} {k : Nat} {k4 k5 k6 : Sl} :
    match offS h r a x k with
    | some d => b_unequal_0 (QE R h l r k4 k5 k6 (.dat (T [h.getD k 0])) (.dat (.int (a.getD k 0))) (.dat (.int (x.getD k 0)))) w = .ret d w
    | none => b_unequal_0 (QE R h l r k4 k5 k6 (.dat (T [h.getD k 0])) (.dat (.int (a.getD k 0))) (.dat (.int (x.getD k 0)))) w = .nx (QE R h l r k4 k5 k6 (.dat (T [h.getD k 0])) (.dat (.int (a.getD k 0))) (.dat (.int (x.getD k 0)))) w := by
  let E : Dn.Env := QE R h l r k4 k5 k6 (.dat (T [h.getD k 0])) (.dat (.int (a.getD k 0))) (.dat (.int (x.getD k 0)))
  have t : (gAnd (gTst (gBin oIn (gVar 7) (gVar 3))) (gTst (gBin oNe (gVar 8) (gVar 9)))) E w = .ok (decide (h.getD k 0 ∈ r) && !decide (a.getD k 0 = x.getD k 0)) w :=
    gAnd_ok (gTst_ok (gBin_ok (a := T [h.getD k 0]) (b := T r) rfl rfl (oIn_T _ _))) (gTst_ok (gBin_ok (a := .int (a.getD k 0)) (b := .int (x.getD k 0)) rfl rfl (oNe_int _ _)))
  unfold offS
  by_cases c : h.getD k 0 ∈ r ∧ a.getD k 0 ≠ x.getD k 0
  · rw [if_pos c]
    refine sIf_t (w1 := w) (t.trans ?_) (sRet_ok (gTup_ok (gaC (d := T [h.getD k 0]) rfl (gaC (gArgs_ok (ga2 (d := .int (a.getD k 0)) (d' := .int (x.getD k 0)) rfl rfl) (oMin2_int _ _)) (gaC (gArgs_ok (ga2 (d := .int (a.getD k 0)) (d' := .int (x.getD k 0)) rfl rfl) rfl) gaN))) (by simp)))
    rw [decide_eq_true c.1, decide_eq_false c.2]; rfl
  · rw [if_neg c]
    refine sIf_f (w1 := w) (t.trans ?_) rfl
    congr 1
    rw [Bool.eq_false_iff]
    intro z
    simp only [Bool.and_eq_true, decide_eq_true_eq, Bool.not_eq_true', decide_eq_false_iff_not] at z
    exact c z
/-- a pair of cells to be made one, told by the column -/
def offC (h l r : Tx) (S : List (List Int)) (d : Dt) : Prop := ∃ (k : Nat) (lo hi : Int) (a b : List Int), d = .tup [T [h.getD k 0], .int lo, .int hi] ∧ k < h.length ∧ lo < hi ∧ a ∈ S ∧ b ∈ S ∧ a.getD k 0 = lo ∧ b.getD k 0 = hi ∧ cellsL a h l = cellsL b h l ∧ h.getD k 0 ∈ r
theorem mate_step {s : Sy} {pre : List (List Int)} {x : List Int} {kvs : List (List Key × Dt)} (len : ∀ r ∈ pre, r.length = h.length) (lx : x.length = h.length) (g : matesOk h s pre kvs) (hS : ∀ r ∈ pre, r ∈ S) (hx : x ∈ S) :
    ∃ (a : List Int) (kvs' : List (List Key × Dt)), a.length = h.length ∧ a ∈ S ∧ (a ∈ pre ∨ a = x) ∧ cellsL a h s.l = cellsL x h s.l ∧ (getG kvs (keyR (cellsL x h s.l))).getD (rowD x) = rowD a ∧ setdG kvs (keyR (cellsL x h s.l)) (rowD x) = kvs' ∧
      ((∀ k, k < h.length → h.getD k 0 ∈ s.r → a.getD k 0 = x.getD k 0) → matesOk h s (pre ++ [x]) kvs') := by
  obtain ⟨g1, g2, g3⟩ := g
  obtain ⟨a, kvs', la, aS, am, ca, ea, ek, ma⟩ : ∃ (a : List Int) (kvs' : List (List Key × Dt)), a.length = h.length ∧ a ∈ S ∧ (a ∈ pre ∨ a = x) ∧ cellsL a h s.l = cellsL x h s.l ∧ (getG kvs (keyR (cellsL x h s.l))).getD (rowD x) = rowD a ∧ setdG kvs (keyR (cellsL x h s.l)) (rowD x) = kvs' ∧
      (getG kvs' (keyR (cellsL x h s.l)) = some (rowD a) ∧ (∀ k, getG kvs' (keyR k) = none ∨ ∃ a ∈ pre ++ [x], cellsL a h s.l = k ∧ getG kvs' (keyR k) = some (rowD a)) ∧ (∀ k d, getG kvs (keyR k) = some d → getG kvs' (keyR k) = some d) ∧ kvs'.length ≤ pre.length + 1) := by
    rcases g1 (cellsL x h s.l) with n | ⟨a, m, k, q⟩
    · refine ⟨x, putG kvs (keyR (cellsL x h s.l)) (rowD x), lx, hx, .inr rfl, rfl, by rw [n]; rfl, by unfold setdG; rw [n]; rfl, by rw [getG_putE, if_pos rfl], fun k => ?_, fun k d hd => ?_, by have := putG_len kvs (keyR (cellsL x h s.l)) (rowD x); omega⟩
      · rw [getG_putE]
        by_cases y : keyR k = keyR (cellsL x h s.l)
        · exact .inr ⟨x, by simp, (keyR_inj y).symm, by rw [if_pos y]⟩
        · rw [if_neg y]
          rcases g1 k with q | ⟨b, m, ek, q⟩
          · exact .inl q
          · exact .inr ⟨b, List.mem_append_left _ m, ek, q⟩
      · rw [getG_putE, if_neg fun y => ?_]
        · exact hd
        · rw [y, n] at hd; cases hd
    · refine ⟨a, kvs, len a m, hS a m, .inl m, k, by rw [q]; rfl, by unfold setdG; rw [q]; rfl, q, fun k => ?_, fun k d hd => hd, by omega⟩
      rcases g1 k with q | ⟨b, m, ek, q⟩
      · exact .inl q
      · exact .inr ⟨b, List.mem_append_left _ m, ek, q⟩
  obtain ⟨m1, m2, m3, m4⟩ := ma
  refine ⟨a, kvs', la, aS, am, ca, ea, ek, fun same => ⟨m2, fun st y hy => ?_, by rw [List.length_append, List.length_singleton]; exact m4⟩⟩
  rcases List.mem_append.mp hy with m | m
  · obtain ⟨b, bm, eb, ag⟩ := g2 st y m
    exact ⟨b, List.mem_append_left _ bm, m3 _ _ eb, ag⟩
  · rw [List.mem_singleton.mp m]
    exact ⟨a, List.mem_append.mpr (am.imp id fun e => List.mem_singleton.mpr e), m1, same⟩
theorem unequal_turn {l r : Tx} {pre : List (List Int)} {x : List Int} {kvs : List (List Key × Dt)} {k6 k7 k8 k9 : Sl} (hh : h.length ≤ 100) (len : ∀ r ∈ pre, r.length = h.length) (lx : x.length = h.length) (pl : pre.length ≤ 100000) (g : matesOk h ⟨true, l, r⟩ pre kvs) (hS : ∀ r ∈ pre, r ∈ S) (hx : x ∈ S) :
    (∃ kvs' k6' k7' k8' k9', b_unequal_1 (QE (.lst (S.map rowD)) h l r (.own (.dT kvs)) (.dat (rowD x)) k6 k7 k8 k9) w = .nx (QE (.lst (S.map rowD)) h l r (.own (.dT kvs')) (.dat (rowD x)) k6' k7' k8' k9') w ∧ matesOk h ⟨true, l, r⟩ (pre ++ [x]) kvs') ∨
    (∃ d, b_unequal_1 (QE (.lst (S.map rowD)) h l r (.own (.dT kvs)) (.dat (rowD x)) k6 k7 k8 k9) w = .ret d w ∧ offC h l r S d) := by
  obtain ⟨a, kvs', la, aS, am, ca, ea, ek, fin⟩ := mate_step len lx g hS hx
  let E (kvs : List (List Key × Dt)) (k6 k7 k8 k9 : Sl) : Dn.Env := QE (.lst (S.map rowD)) h l r (.own (.dT kvs)) (.dat (rowD x)) k6 k7 k8 k9
  have gl : kvs.length ≤ pre.length := g.2.2
  have s8 : sSetdV 6 4 (gCall 3 [] m_cells_of (gCons (gVar 5) (gCons (gVar 0) (gCons (gVar 2) gNil)))) (gVar 5) (E kvs k6 k7 k8 k9) w = .nx (E kvs' (.dat (rowD a)) k7 k8 k9) w := by
    have c : gCall 3 [] m_cells_of (gCons (gVar 5) (gCons (gVar 0) (gCons (gVar 2) gNil))) (E kvs k6 k7 k8 k9) w = .ok (rowD (cellsL x h l)) w := gCall_dat (ga3 (d := rowD x) (d' := T h) (d'' := T l) rfl rfl rfl) (m_cells_of_eq lx (by omega))
    unfold sSetdV
    show (match gCall 3 [] m_cells_of (gCons (gVar 5) (gCons (gVar 0) (gCons (gVar 2) gNil))) (E kvs k6 k7 k8 k9) w with
      | .ok a w1 => _
      | .exc c fs w1 => _
      | .bad => _) = _
    rw [c]
    simp only [gVar, E, List.getElem?_cons_succ, List.getElem?_cons_zero]
    rw [keyT_row]
    simp only
    rw [if_pos ⟨by rw [sz_line]; omega, by simp⟩]
    have ea' : (getG kvs (keyR (cellsL x h l))).getD (rowD x) = rowD a := ea
    have ek' : setdG kvs (keyR (cellsL x h l)) (rowD x) = kvs' := ek
    rw [ea', ek']
    rfl
  have rng : (gIts oZip3 (gCons (gVar 0) (gCons (gVar 6) (gCons (gVar 5) gNil)))) (E kvs' (.dat (rowD a)) k7 k8 k9) w = .ok ((List.range h.length).map fun k => Dt.tup [T [h.getD k 0], .int (a.getD k 0), .int (x.getD k 0)]) w := gIts_ok (ga3 (d := T h) (d' := rowD a) (d'' := rowD x) rfl rfl rfl) (by
    show (match srcD (T h), srcD (rowD a), srcD (rowD x) with
      | some x, some y, some z => if x.length = y.length ∧ x.length = z.length then some (zip3D x y z) else none
      | _, _, _ => none) = _
    rw [srcD_T, show srcD (rowD a) = some (a.map .int) from rfl, show srcD (rowD x) = some (x.map .int) from rfl]
    simp only
    rw [if_pos (by simp; omega), zip3_hab la lx])
  have lp := forG_first (b := bTup (bCons (bName 7) (bCons (bName 8) (bCons (bName 9) bNil)))) (body := b_unequal_0) (fun env => ∃ k7 k8 k9, env = E kvs' (.dat (rowD a)) k7 k8 k9) (offS h r a x) (fun k : Nat => Dt.tup [T [h.getD k 0], .int (a.getD k 0), .int (x.getD k 0)]) (w := w) (List.range h.length) (by
    intro k hk env ⟨k7, k8, k9, he⟩
    subst he
    refine ⟨E kvs' (.dat (rowD a)) (.dat (T [h.getD k 0])) (.dat (.int (a.getD k 0))) (.dat (.int (x.getD k 0))), rfl, ?_⟩
    have := unequal_body (h := h) (w := w) (R := .lst (S.map rowD)) (l := l) (r := r) (a := a) (x := x) (k := k) (k4 := .own (.dT kvs')) (k5 := .dat (rowD x)) (k6 := .dat (rowD a))
    cases e : offS h r a x k with
    | some d => rw [e] at this; exact this
    | none => rw [e] at this; exact ⟨_, this, _, _, _, rfl⟩)
    (env := E kvs' (.dat (rowD a)) k7 k8 k9) ⟨_, _, _, rfl⟩
  cases q : (List.range h.length).findSome? (offS h r a x) with
  | some d =>
    rw [q] at lp
    refine .inr ⟨d, sSeq_nx s8 (sFor_ok rng lp), ?_⟩
    obtain ⟨k, hk, e⟩ := List.exists_of_findSome?_eq_some q
    unfold offS at e
    split at e
    · rename_i c
      cases e
      have hk := List.mem_range.mp hk
      rcases Int.lt_or_gt_of_ne c.2 with z | z
      · exact ⟨k, a.getD k 0, x.getD k 0, a, x, by rw [if_neg (by omega), if_pos (by omega)], hk, z, aS, hx, rfl, rfl, ca, c.1⟩
      · exact ⟨k, x.getD k 0, a.getD k 0, x, a, by rw [if_pos (by omega), if_neg (by omega)], hk, z, hx, aS, rfl, rfl, ca.symm, c.1⟩
    · cases e
  | none =>
    rw [q] at lp
    obtain ⟨e2, f, k7', k8', k9', rfl⟩ := lp
    refine .inl ⟨kvs', _, k7', k8', k9', sSeq_nx s8 (sFor_ok rng f), fin fun k hk hr => ?_⟩
    have := List.findSome?_eq_none_iff.mp q k (List.mem_range.mpr hk)
    unfold offS at this
    split at this
    · cases this
    · rename_i c
      exact Classical.byContradiction fun z => c ⟨hr, z⟩
theorem m_unequal_eq {l r : Tx} (hh : h.length ≤ 100) (len : ∀ r ∈ S, r.length = h.length) (few : S.length ≤ 60000) : ∃ d, m_unequal [T h, .lst (S.map rowD), T l, T r] w = .dat d w ∧ (d = .non ∧ keptT h l r S ∨ offC h l r S d) := by
  rcases forG_ret (b := bName 5) (body := b_unequal_1) (fun pre _ env w1 => (∃ kvs k5 k6 k7 k8 k9, env = QE (.lst (S.map rowD)) h l r (.own (.dT kvs)) k5 k6 k7 k8 k9 ∧ matesOk h ⟨true, l, r⟩ pre kvs) ∧ w1 = w) (fun d w1 => w1 = w ∧ offC h l r S d) rowD S (by
    intro pre x post env w1 hx ⟨⟨kvs, k5, k6, k7, k8, k9, he, g⟩, hw⟩
    subst he hw
    have sub : ∀ r ∈ pre, r ∈ S := fun r hr => by rw [hx]; exact List.mem_append_left _ hr
    have xS : x ∈ S := by rw [hx]; simp
    have pl : pre.length ≤ 100000 := by
      have := congrArg List.length hx
      simp only [List.length_append, List.length_cons] at this
      omega
    refine ⟨QE (.lst (S.map rowD)) h l r (.own (.dT kvs)) (.dat (rowD x)) k6 k7 k8 k9, rfl, ?_⟩
    rcases unequal_turn (w := w1) (k6 := k6) (k7 := k7) (k8 := k8) (k9 := k9) (S := S) hh (fun r hr => len r (sub r hr)) (len x xS) pl g sub xS with ⟨kvs', k6', k7', k8', k9', e, g'⟩ | ⟨d, e, o⟩
    · exact .inl ⟨_, w1, e, ⟨kvs', _, k6', k7', k8', k9', rfl, g'⟩, rfl⟩
    · exact .inr ⟨d, w1, e, rfl, o⟩)
    (env := QE (.lst (S.map rowD)) h l r (.own (.dT [])) .un .un .un .un .un) (w := w)
    ⟨⟨[], .un, .un, .un, .un, .un, rfl, fun k => .inl rfl, fun _ x hx => (nomatch hx), Nat.zero_le _⟩, rfl⟩ with ⟨e2, w2, f, ⟨kvs, k5', k6', k7', k8', k9', he, _, g2, _⟩, hw⟩ | ⟨d, w2, f, hw, o⟩
  · subst he hw
    refine ⟨.non, runM_ret (sSeq_nx (e1 := QE (.lst (S.map rowD)) h l r (.own (.dT [])) .un .un .un .un .un) (w1 := w2) rfl (sSeq_nx (sFor_ok (gIt_ok (d := .lst (S.map rowD)) rfl rfl) f) (sRet_ok rfl))), .inl ⟨rfl, fun a ha b hb q => ?_⟩⟩
    obtain ⟨c, _, ec, ac⟩ := g2 rfl a ha
    obtain ⟨d, _, ed, ad⟩ := g2 rfl b hb
    rw [show cellsL a h (Sy.l ⟨true, l, r⟩) = cellsL b h (Sy.l ⟨true, l, r⟩) from q, ed] at ec
    injection ec with ec
    cases rowD_inj ec
    exact (agree_iff (len a ha) (len b hb)).mpr fun k hk hm => (ac k hk hm).symm.trans (ad k hk hm)
  · subst hw
    exact ⟨d, runM_ret (sSeq_nx (e1 := QE (.lst (S.map rowD)) h l r (.own (.dT [])) .un .un .un .un .un) (w1 := w2) rfl (sSeq_ret (sFor_ok (gIt_ok (d := .lst (S.map rowD)) rfl rfl) f))), .inr o⟩
end
end Mi
end
section
/-! The program's chase: evening, filling. -/
namespace Mi
open PySem L2 Dn
section
variable {h : Tx} {S : List (List Int)} {Cs : List (List Int)} {w : Ds}
theorem even_rowP {R c2 : Dt} {r : List Int} {k : Nat} {lo hi : Int} (hr : r.length = h.length) (hh : h.length ≤ 100) (hk : k < h.length) :
    (gBin oAdd (gBin oAddT (gSl (gVar 6) gNoPart (gPart (gVar 5))) (gTup (gCons (gIfE (gTst (gBin oEq (gIx (gVar 6) (gVar 5)) (gVar 4))) (gVar 3) (gIx (gVar 6) (gVar 5))) gNil))) (gSl (gVar 6) (gPart (gBin oAdd (gVar 5) (gOk (.int 1)))) gNoPart)) [.dat (T h), .dat R, .dat c2, .dat (.int lo), .dat (.int hi), .dat (.int (k : Int)), .dat (rowD r)] w = .ok (rowD (evenRow k lo hi r)) w := by
  let E : Dn.Env := [.dat (T h), .dat R, .dat c2, .dat (.int lo), .dat (.int hi), .dat (.int (k : Int)), .dat (rowD r)]
  have ix : gIx (gVar 6) (gVar 5) E w = .ok (.int (r.getD k 0)) w := gIx_ok (a := rowD r) (b := .int (k : Int)) rfl rfl (ix_row (by omega))
  have e1 : gIfE (gTst (gBin oEq (gIx (gVar 6) (gVar 5)) (gVar 4))) (gVar 3) (gIx (gVar 6) (gVar 5)) E w = .ok (.int (if r.getD k 0 = hi then lo else r.getD k 0)) w := by
    have t : (gTst (gBin oEq (gIx (gVar 6) (gVar 5)) (gVar 4))) E w = .ok (decide (r.getD k 0 = hi)) w := gTst_ok (gBin_ok ix rfl (oEq_int _ _))
    by_cases z : r.getD k 0 = hi
    · rw [if_pos z]; exact gIfE_t (w1 := w) (t.trans (by rw [decide_eq_true z])) rfl
    · rw [if_neg z]; exact gIfE_f (w1 := w) (t.trans (by rw [decide_eq_false z])) ix
  have e2 : gBin oAddT (gSl (gVar 6) gNoPart (gPart (gVar 5))) (gTup (gCons (gIfE (gTst (gBin oEq (gIx (gVar 6) (gVar 5)) (gVar 4))) (gVar 3) (gIx (gVar 6) (gVar 5))) gNil)) E w = .ok (rowD (r.take k ++ [if r.getD k 0 = hi then lo else r.getD k 0])) w :=
    gBin_ok (a := rowD (r.take k)) (b := rowD [if r.getD k 0 = hi then lo else r.getD k 0]) (gSl_ok (lo := none) (hi := some (k : Int)) rfl rfl rfl (oSl_row_to (by omega))) (gTup_ok (ga1 e1) (by simp)) (oAddT_row _ _ (by simp; omega))
  rw [evenRow_eq (by omega)]
  exact gBin_ok e2 (gSl_ok (a := rowD r) (lo := some ((k : Int) + 1)) (hi := none) rfl rfl rfl (oSl_row_from (by omega))) (oAdd_row _ _ (by simp) (by simp; omega))
theorem idx_at {c : Nat} {k : Nat} (nd : h.Nodup) (hk : k < h.length) (e : h.getD k 0 = c) : h.idxOf c = k := by
  rw [← e, List.getD_eq_getElem?_getD, List.getElem?_eq_getElem hk]
  exact nd.idxOf_getElem k hk
theorem m_put_one_eq {k : Nat} {lo hi : Int} (H : Hd h) (len : ∀ r ∈ S, r.length = h.length) (hk : k < h.length) (few : S.length ≤ 60000) (ok : okRows (S.map (evenRow k lo hi)) = true) :
    m_put_one [T h, .lst (S.map rowD), T [h.getD k 0], .int lo, .int hi] w = .own (.lst ((sortRows (S.map (evenRow k lo hi))).map rowD)) w := by
  have hh := H.hi
  let E (k5 k6 : Sl) : Dn.Env := [.dat (T h), .dat (.lst (S.map rowD)), .dat (T [h.getD k 0]), .dat (.int lo), .dat (.int hi), k5, k6]
  have hm : h.getD k 0 ∈ h := by
    rw [List.getD_eq_getElem?_getD, List.getElem?_eq_getElem hk]
    exact List.getElem_mem hk
  have s5 : sSet 5 (gM1 oIndex (gVar 0) (gVar 2)) (E .un .un) w = .nx (E (.dat (.int (k : Int))) .un) w :=
    sSet_ok (hi := by show 5 < 7; decide) (gM1_ok (x := sx h) (d := T [h.getD k 0]) rfl rfl ((oIndex_T H.ris.nodup hm).trans (by rw [idx_at H.ris.nodup hk rfl])))
  have lc := gLc_map (vs := [6]) (gi := gIt srcD (gVar 1)) (b := bName 6) (gt := gYes) (ge := gBin oAdd (gBin oAddT (gSl (gVar 6) gNoPart (gPart (gVar 5))) (gTup (gCons (gIfE (gTst (gBin oEq (gIx (gVar 6) (gVar 5)) (gVar 4))) (gVar 3) (gIx (gVar 6) (gVar 5))) gNil))) (gSl (gVar 6) (gPart (gBin oAdd (gVar 5) (gOk (.int 1)))) gNoPart)) (env := E (.dat (.int (k : Int))) .un) (w := w) (w1 := w)
    S rowD (fun _ => true) (fun r => rowD (evenRow k lo hi r)) (gIt_ok (d := .lst (S.map rowD)) rfl rfl) (fun r hr => ⟨E (.dat (.int (k : Int))) (.dat (rowD r)), rfl, rfl, fun _ => even_rowP (len r hr) (by omega) hk⟩) (by rw [sz_line]; omega)
  rw [filter_tt, show (S.map fun r => rowD (evenRow k lo hi r)) = (S.map (evenRow k lo hi)).map rowD from by rw [List.map_map]; rfl] at lc
  exact runM_rtf (sSeq_nx s5 (sRetC_own (ga1 (gFrz_lst lc)) (m_rising_eq ok)))
theorem sAsg_go {b : Bd} {g : GE} {env e1 : Dn.Env} {w w1 : Ds} {d : Dt} (h : g env w = .ok d w1) (hb : b d env = some e1) : sAsg b g env w = .nx e1 w1 := by simp only [sAsg_app, h, hb]
/-! ### evened -/
def tellersL (ss : List Say) : List Say := ss.filter fun s => decide (s.w = tellsT)
def pairTD (s : Say) : Dt := .tup [T s.l, T s.r]
abbrev VE (h : Tx) (ss : List Say) (R : Dt) (k4 k5 k6 k7 : Sl) : Dn.Env := [.dat (bookD h ss), .dat R, .dat (T h), .dat (.lst ((tellersL ss).map pairTD)), k4, k5, k6, k7, .un]
theorem tells_dec {s : Say} (hs : s.w = tellsT ∨ s.w = partsT) : oEq (T s.w) (.str "tells") = some (.bl (decide (s.w = tellsT))) := by
  rw [tells_str, oEq_T (by rcases hs with e | e <;> rw [e]; exact tells_asc; exact parts_asc) tells_asc]
theorem m_evened_inv {ss : List Say} (I : List (List Int) → Prop) (hI : ∀ S k lo hi, I S → Bx h Cs S → Frc h ss S k lo hi → I (sortRows (S.map (evenRow k lo hi)))) (i0 : I S) (H : Hd h) (ok : ∀ s ∈ ss, SayH h s) (few : ss.length ≤ 90) (b : Bx h Cs S) (nd : S.Nodup) (sl : S.length < 60000) :
    ∃ R, m_evened [bookD h ss, .lst (S.map rowD)] w = .dat (.lst (R.map rowD)) w ∧ Bx h Cs R ∧ R.Nodup ∧ evenS h ss R ∧ R.length ≤ S.length ∧ I R ∧ (R = S ∨ measS Cs R < measS Cs S) := by
  have hh := H.hi
  let F (k2 k3 k4 : Sl) : Dn.Env := [.dat (bookD h ss), .dat (.lst (S.map rowD)), k2, k3, k4, .un, .un, .un, .un]
  have tl : (tellersL ss).length ≤ ss.length := List.length_filter_le _ _
  have s2 : sSet 2 (gBind1 (oFld ["Book"] "letters") (gVar 0)) (F .un .un .un) w = .nx (F (.dat (T h)) .un .un) w := sSet_ok (hi := by show 2 < 9; decide) (gBind1_ok (a := bookD h ss) rfl rfl)
  have lc := gLc_map (vs := [8, 5, 6]) (gi := gIt srcD (gBind1 (oFld ["Book"] "said") (gVar 0))) (b := bTup (bCons (bName 8) (bCons (bName 5) (bCons (bName 6) bNil)))) (gt := gTst (gBin oEq (gVar 8) (gOk (.str "tells")))) (ge := gTup (gCons (gVar 5) (gCons (gVar 6) gNil))) (env := F (.dat (T h)) .un .un) (w := w) (w1 := w)
    ss Say.d (fun s => decide (s.w = tellsT)) pairTD (gIt_ok (d := LS ss) (gBind1_ok (a := bookD h ss) rfl rfl) rfl) (fun s hs => ⟨[.dat (bookD h ss), .dat (.lst (S.map rowD)), .dat (T h), .un, .un, .dat (T s.l), .dat (T s.r), .un, .dat (T s.w)], rfl, gTst_ok (gBin_ok (a := T s.w) (b := .str "tells") rfl rfl (tells_dec (ok s hs).wd)), fun _ => gTup_ok (ds := [T s.l, T s.r]) (gaC (d := T s.l) rfl (gaC (d := T s.r) rfl gaN)) (by simp)⟩) (by rw [sz_line]; omega)
  have s3 : sSet 3 (gFrz (gLc [8, 5, 6] (gIt srcD (gBind1 (oFld ["Book"] "said") (gVar 0))) (bTup (bCons (bName 8) (bCons (bName 5) (bCons (bName 6) bNil)))) (gTst (gBin oEq (gVar 8) (gOk (.str "tells")))) (gTup (gCons (gVar 5) (gCons (gVar 6) gNil))))) (F (.dat (T h)) .un .un) w = .nx (F (.dat (T h)) (.dat (.lst ((tellersL ss).map pairTD))) .un) w := sSet_ok (hi := by show 3 < 9; decide) (gFrz_lst lc)
  have s4 : sSet 4 (gOk (.int 0)) (F (.dat (T h)) (.dat (.lst ((tellersL ss).map pairTD))) .un) w = .nx (VE h ss (.lst (S.map rowD)) (.dat (.int ((0 : Nat) : Int))) .un .un .un) w := sSet_ok (hi := by show 4 < 9; decide) rfl
  have mt : ∀ {R : List (List Int)}, measS Cs R < 1000 := fun {R} => by
    have := b.u
    have : measS Cs R ≤ (cellsU Cs).length := List.countP_le_length
    omega
  have ln : ∀ (R : Dt) (k4 k5 k6 k7 : Sl), (gArgs oLen (gCons (gVar 3) gNil)) (VE h ss R k4 k5 k6 k7) w = .ok (.int ((tellersL ss).length : Int)) w := fun R k4 k5 k6 k7 => gArgs_ok (ga1 (d := .lst ((tellersL ss).map pairTD)) rfl) ((oLen_lst (by rw [List.length_map]; omega)).trans (by rw [List.length_map]))
  obtain ⟨e, f, R, at_, k5, k6, k7, he, bR, ndR, ev, le, iR, ms⟩ := while_run (c := gTst (gBin oLt (gVar 4) (gArgs oLen (gCons (gVar 3) gNil)))) (body := b_evened_0) (w := w)
    (fun m env => ∃ R at_ k5 k6 k7, env = VE h ss (.lst (R.map rowD)) (.dat (.int ((at_ : Nat) : Int))) k5 k6 k7 ∧ at_ ≤ (tellersL ss).length ∧ Bx h Cs R ∧ R.Nodup ∧ (∀ s ∈ (tellersL ss).take at_, keptT h s.l s.r R) ∧ R.length ≤ S.length ∧ I R ∧ (R = S ∨ measS Cs R < measS Cs S) ∧ m = measS Cs R * 95 + ((tellersL ss).length - at_))
    (fun env => ∃ R at_ k5 k6 k7, env = VE h ss (.lst (R.map rowD)) (.dat (.int ((at_ : Nat) : Int))) k5 k6 k7 ∧ Bx h Cs R ∧ R.Nodup ∧ evenS h ss R ∧ R.length ≤ S.length ∧ I R ∧ (R = S ∨ measS Cs R < measS Cs S)) (by
    rintro m env ⟨R, at_, k5, k6, k7, he, hat, bR, ndR, ev, le, iR, dR, rfl⟩
    subst he
    have cond : ∀ t : Bool, decide ((at_ : Int) < ((tellersL ss).length : Int)) = t → (gTst (gBin oLt (gVar 4) (gArgs oLen (gCons (gVar 3) gNil)))) (VE h ss (.lst (R.map rowD)) (.dat (.int ((at_ : Nat) : Int))) k5 k6 k7) w = .ok t w := fun t ht => gTst_ok (gBin_ok (a := .int (at_ : Int)) rfl (ln _ _ _ _ _) ((oLt_int _ _).trans (by rw [ht])))
    by_cases lt : at_ < (tellersL ss).length
    · refine .inr ⟨cond true (by rw [decide_eq_true_eq]; omega), ?_⟩
      obtain ⟨s, hs⟩ : ∃ s, (tellersL ss)[at_]? = some s := ⟨_, List.getElem?_eq_getElem lt⟩
      have sT := List.mem_of_getElem? hs
      have hs' : (tellersL ss)[at_] = s := by rw [List.getElem?_eq_getElem lt] at hs; exact Option.some.inj hs
      obtain ⟨sm, st⟩ := List.mem_filter.mp sT
      have l4 : R.length < 60000 := by omega
      obtain ⟨d, e1, o⟩ := m_unequal_eq (w := w) (S := R) (l := s.l) (r := s.r) (by omega) bR.len (by omega)
      have c1 : sAsg (bTup (bCons (bName 5) (bCons (bName 6) bNil))) (gIx (gVar 3) (gVar 4)) (VE h ss (.lst (R.map rowD)) (.dat (.int ((at_ : Nat) : Int))) k5 k6 k7) w = .nx (VE h ss (.lst (R.map rowD)) (.dat (.int ((at_ : Nat) : Int))) (.dat (T s.l)) (.dat (T s.r)) k7) w :=
        sAsg_go (d := pairTD s) (gIx_ok (a := .lst ((tellersL ss).map pairTD)) (b := .int ((at_ : Nat) : Int)) rfl rfl ((ix_map lt).trans (by rw [hs']))) rfl
      have c2 : sSet 7 (gCall 4 [] m_unequal (gCons (gVar 2) (gCons (gVar 1) (gCons (gVar 5) (gCons (gVar 6) gNil))))) (VE h ss (.lst (R.map rowD)) (.dat (.int ((at_ : Nat) : Int))) (.dat (T s.l)) (.dat (T s.r)) k7) w = .nx (VE h ss (.lst (R.map rowD)) (.dat (.int ((at_ : Nat) : Int))) (.dat (T s.l)) (.dat (T s.r)) (.dat d)) w :=
        sSet_ok (hi := by show 7 < 9; decide) (gCall_dat (gaC (d := T h) rfl (gaC (d := .lst (R.map rowD)) rfl (gaC (d := T s.l) rfl (gaC (d := T s.r) rfl gaN)))) e1)
      rcases o with ⟨rfl, kt⟩ | ⟨k, lo, hi, x, y, rfl, hk, lth, hx, hy, ex, ey, cq, kr⟩
      · refine ⟨VE h ss (.lst (R.map rowD)) (.dat (.int ((at_ + 1 : Nat) : Int))) (.dat (T s.l)) (.dat (T s.r)) (.dat .non), sSeq_nx c1 (sSeq_nx c2 (sIf_t (w1 := w) (gTst_ok (gBin_ok (a := .non) (b := .non) rfl rfl rfl)) rfl)), _, ?_, R, at_ + 1, _, _, _, rfl, by omega, bR, ndR, fun t ht => ?_, le, iR, dR, rfl⟩
        · omega
        · rw [List.take_succ, hs] at ht
          rcases List.mem_append.mp ht with m | m
          · exact ev t m
          · have : t = s := by simpa using m
            rw [this]; exact kt
      · have fr : Frc h ss R k lo hi := ⟨hk, lth, s, sm, by simpa [syOf] using st, x, hx, y, hy, ex, ey, cq, kr⟩
        obtain ⟨k', lo', hi', ed, fr', hk', b2, ms⟩ := even_step (ss := ss) (d := .tup [.int (k : Int), .int lo, .int hi]) bR ⟨s, sm, by simpa [syOf] using st, k, lo, hi, x, y, rfl, hk, lth, hx, hy, ex, ey, cq, kr⟩
        injection ed with ed
        simp only [List.cons.injEq, Dt.int.injEq, and_true] at ed
        obtain ⟨e1', e2', e3'⟩ := ed
        have : k' = k := by omega
        subst this e2' e3'
        have b3 := b2.srt
        have n3 := sort_nd (R.map (evenRow k' lo hi))
        have g : ∀ i (v : Dt), (i = 0 ∧ v = T [h.getD k' 0]) ∨ (i = 1 ∧ v = .int lo) ∨ (i = 2 ∧ v = .int hi) → (gIx (gVar 7) (gOk (.int ((i : Nat) : Int)))) (VE h ss (.lst (R.map rowD)) (.dat (.int ((at_ : Nat) : Int))) (.dat (T s.l)) (.dat (T s.r)) (.dat (.tup [T [h.getD k' 0], .int lo, .int hi]))) w = .ok v w := fun i v hv => by
          rcases hv with ⟨rfl, rfl⟩ | ⟨rfl, rfl⟩ | ⟨rfl, rfl⟩ <;> exact gIx_ok (a := .tup [T [h.getD k' 0], .int lo, .int hi]) rfl rfl rfl
        have c3 : sSet 1 (gCall 5 [] m_put_one (gCons (gVar 2) (gCons (gVar 1) (gCons (gIx (gVar 7) (gOk (.int 0))) (gCons (gIx (gVar 7) (gOk (.int 1))) (gCons (gIx (gVar 7) (gOk (.int 2))) gNil)))))) (VE h ss (.lst (R.map rowD)) (.dat (.int ((at_ : Nat) : Int))) (.dat (T s.l)) (.dat (T s.r)) (.dat (.tup [T [h.getD k' 0], .int lo, .int hi]))) w = .nx (VE h ss (.lst ((sortRows (R.map (evenRow k' lo hi))).map rowD)) (.dat (.int ((at_ : Nat) : Int))) (.dat (T s.l)) (.dat (T s.r)) (.dat (.tup [T [h.getD k' 0], .int lo, .int hi]))) w :=
          sSet_ok (hi := by show 1 < 9; decide) (gCall_own (gaC (d := T h) rfl (gaC (d := .lst (R.map rowD)) rfl (gaC (g 0 _ (.inl ⟨rfl, rfl⟩)) (gaC (g 1 _ (.inr (.inl ⟨rfl, rfl⟩))) (gaC (g 2 _ (.inr (.inr ⟨rfl, rfl⟩))) gaN))))) (m_put_one_eq H bR.len hk (by omega) (b2.ok (by rw [List.length_map]; omega))))
        refine ⟨VE h ss (.lst ((sortRows (R.map (evenRow k' lo hi))).map rowD)) (.dat (.int ((0 : Nat) : Int))) (.dat (T s.l)) (.dat (T s.r)) (.dat (.tup [T [h.getD k' 0], .int lo, .int hi])), sSeq_nx c1 (sSeq_nx c2 (sIf_f (w1 := w) (gTst_ok (gBin_ok (a := .tup [T [h.getD k' 0], .int lo, .int hi]) (b := .non) rfl rfl rfl)) (sSeq_nx c3 (sSet_ok (hi := by show 4 < 9; decide) rfl)))), _, ?_, _, 0, _, _, _, rfl, Nat.zero_le _, b3, n3, fun t ht => (by simp at ht), ?_, hI R k' lo hi iR bR fr, .inr (dR.elim (fun z => by rw [← z]; exact ms) fun z => Nat.lt_trans ms z), rfl⟩
        · omega
        · have := sortRows_len (R.map (evenRow k' lo hi))
          rw [List.length_map] at this
          omega
    · refine .inl ⟨cond false (by rw [decide_eq_false_iff_not]; omega), R, at_, _, _, _, rfl, bR, ndR, fun s hs st => ?_, le, iR, dR⟩
      refine ev s ?_
      rw [List.take_of_length_le (by omega)]
      exact List.mem_filter.mpr ⟨hs, by simpa [syOf] using st⟩) turnsMost (measS Cs S * 95 + ((tellersL ss).length - 0)) (VE h ss (.lst (S.map rowD)) (.dat (.int ((0 : Nat) : Int))) .un .un .un) (by
        have := mt (R := S)
        unfold turnsMost
        omega) ⟨S, 0, _, _, _, rfl, Nat.zero_le _, b, nd, fun t ht => (by simp at ht), Nat.le_refl _, i0, .inl rfl, rfl⟩
  subst he
  exact ⟨R, runM_ret (sSeq_nx s2 (sSeq_nx s3 (sSeq_nx s4 (sSeq_nx (sWhile_ok f) (sRet_ok rfl))))), bR, ndR, ev, le, iR, ms⟩
end
end Mi
end
section
/-! The program's chase: filling. -/
namespace Mi
open PySem L2 Dn
section
variable {h : Tx} {S : List (List Int)} {Cs : List (List Int)} {w : Ds}
theorem sortRows_same {A B : List (List Int)} (e : ∀ r, r ∈ A ↔ r ∈ B) : sortRows A = sortRows B := by
  unfold sortRows
  refine srtR_perm ((List.perm_ext_iff_of_nodup (addAll_nd List.nodup_nil) (addAll_nd List.nodup_nil)).mpr fun r => ?_)
  rw [Sk.mem_addAll, Sk.mem_addAll]
  simp [e]
end
end Mi
end
section
/-! Chases: what evening comes to, whatever the order; the rounds. -/
namespace Mi
open PySem L2 Dn
section
variable {h : Tx} {S : List (List Int)} {Cs : List (List Int)} {w : Ds} {ss : List Say}
theorem sort_idem (S : List (List Int)) : sortRows (sortRows S) = sortRows S := sortRows_same fun r => mem_sortRows
/-! ### the least agreement -/
def mapF (h : Tx) (f : Nat → Int → Int) (r : List Int) : List Int := (List.range h.length).map fun k => f k (r.getD k 0)
theorem mapF_len {f : Nat → Int → Int} {r : List Int} : (mapF h f r).length = h.length := by simp [mapF]
theorem mapF_get {f : Nat → Int → Int} {r : List Int} {k : Nat} (hk : k < h.length) : (mapF h f r).getD k 0 = f k (r.getD k 0) := by
  unfold mapF
  simp [List.getD_eq_getElem?_getD, List.getElem?_range hk]
theorem mapF_id {r : List Int} {f : Nat → Int → Int} (lr : r.length = h.length) (e : ∀ k, k < h.length → f k (r.getD k 0) = r.getD k 0) : mapF h f r = r := row_ext mapF_len lr fun k hk => (mapF_get hk).trans (e k hk)
structure Eqv (E : Nat → Int → Int → Prop) : Prop where
  refl : ∀ k x, E k x x
  symm : ∀ k x y, E k x y → E k y x
  trans : ∀ k x y z, E k x y → E k y z → E k x z
def Closd (h : Tx) (ss : List Say) (S : List (List Int)) (E : Nat → Int → Int → Prop) : Prop := ∀ s ∈ ss, (syOf s).tells = true → ∀ a ∈ S, ∀ b ∈ S, (∀ k, k < h.length → h.getD k 0 ∈ s.l → E k (a.getD k 0) (b.getD k 0)) → ∀ k, k < h.length → h.getD k 0 ∈ s.r → E k (a.getD k 0) (b.getD k 0)
def Lst (h : Tx) (ss : List Say) (S : List (List Int)) (k : Nat) (x y : Int) : Prop := ∀ E, Eqv E → Closd h ss S E → E k x y
structure Evr (h : Tx) (ss : List Say) (S R : List (List Int)) (f : Nat → Int → Int) : Prop where
  mem : ∀ r, r ∈ R ↔ ∃ a ∈ S, r = mapF h f a
  le : ∀ k x, f k x ≤ x
  lst : ∀ k x, Lst h ss S k x (f k x)
theorem Evr.start (len : ∀ r ∈ S, r.length = h.length) : Evr h ss S S fun _ x => x :=
  ⟨fun r => ⟨fun hr => ⟨r, hr, (mapF_id (len r hr) fun _ _ => rfl).symm⟩, fun ⟨a, ha, e⟩ => by rw [e, mapF_id (len a ha) fun _ _ => rfl]; exact ha⟩, fun _ _ => Int.le_refl _, fun k x E q _ => q.refl k x⟩
theorem Evr.step {R : List (List Int)} {f : Nat → Int → Int} (e : Evr h ss S R f) {k : Nat} {lo hi : Int} (fr : Frc h ss R k lo hi) : Evr h ss S (sortRows (R.map (evenRow k lo hi))) fun j x => if j = k then (if f k x = hi then lo else f k x) else f j x := by
  obtain ⟨hk, lt, s, sm, st, x, hx, y, hy, ex, ey, cq, kr⟩ := fr
  obtain ⟨a, ha, rfl⟩ := (e.mem x).mp hx
  obtain ⟨b, hb, rfl⟩ := (e.mem y).mp hy
  rw [mapF_get hk] at ex ey
  have ag := (agree_iff mapF_len mapF_len).mp cq
  have key : Lst h ss S k lo hi := fun E q c => by
    have := c s sm st a ha b hb (fun j hj hl => by
      have t := ag j hj hl
      rw [mapF_get hj, mapF_get hj] at t
      exact q.trans _ _ _ _ (e.lst j (a.getD j 0) E q c) (t ▸ q.symm _ _ _ (e.lst j (b.getD j 0) E q c))) k hk kr
    have t1 := e.lst k (a.getD k 0) E q c
    have t2 := e.lst k (b.getD k 0) E q c
    rw [ex] at t1
    rw [ey] at t2
    exact q.trans _ _ _ _ (q.symm _ _ _ t1) (q.trans _ _ _ _ this t2)
  have row : ∀ c : List Int, evenRow k lo hi (mapF h f c) = mapF h (fun j x => if j = k then (if f k x = hi then lo else f k x) else f j x) c := fun c => by
    refine row_ext (by unfold evenRow; rw [List.length_set]; exact mapF_len) mapF_len fun j hj => ?_
    rw [evenRow_get (by rw [mapF_len]; exact hk), mapF_get hj, mapF_get hk, mapF_get hj]
    by_cases z : j = k
    · rw [if_pos z, if_pos z, z]
    · rw [if_neg z, if_neg z]
  refine ⟨fun r => ?_, fun j x => ?_, fun j x => ?_⟩
  · rw [mem_sortRows, List.mem_map]
    constructor
    · rintro ⟨q, hq, rfl⟩
      obtain ⟨c, hc, rfl⟩ := (e.mem q).mp hq
      exact ⟨c, hc, row c⟩
    · rintro ⟨c, hc, rfl⟩
      exact ⟨mapF h f c, (e.mem _).mpr ⟨c, hc, rfl⟩, row c⟩
  · split
    · rename_i z
      subst z
      split
      · rename_i z; have := e.le j x; omega
      · exact e.le j x
    · exact e.le j x
  · split
    · rename_i z
      subst z
      split
      · rename_i z
        exact fun E q c => q.trans _ _ _ _ (z ▸ e.lst j x E q c) (q.symm _ _ _ (key E q c))
      · exact e.lst j x
    · exact e.lst j x
/-- T is what evening makes of S -/
def EvR (h : Tx) (ss : List Say) (S T : List (List Int)) : Prop := (∃ f, Evr h ss S T f) ∧ evenS h ss T ∧ sortRows T = T
theorem Evr.closed {T : List (List Int)} {f : Nat → Int → Int} (e : Evr h ss S T f) (ev : evenS h ss T) : Closd h ss S fun k x y => f k x = f k y := fun s sm st a ha b hb q k hk kr => by
  have ta : mapF h f a ∈ T := (e.mem _).mpr ⟨a, ha, rfl⟩
  have tb : mapF h f b ∈ T := (e.mem _).mpr ⟨b, hb, rfl⟩
  have := (agree_iff mapF_len mapF_len).mp (ev s sm st _ ta _ tb ((agree_iff mapF_len mapF_len).mpr fun j hj hl => by rw [mapF_get hj, mapF_get hj]; exact q j hj hl)) k hk kr
  rw [mapF_get hk, mapF_get hk] at this
  exact this
theorem kerEqv (f : Nat → Int → Int) : Eqv fun k x y => f k x = f k y := ⟨fun _ _ => rfl, fun _ _ _ e => e.symm, fun _ _ _ _ e g => e.trans g⟩
theorem EvR.uniq {T U : List (List Int)} (t : EvR h ss S T) (u : EvR h ss S U) : T = U := by
  obtain ⟨⟨f, ef⟩, evf, sf⟩ := t
  obtain ⟨⟨g, eg⟩, evg, sg⟩ := u
  have fg : ∀ k x, f k x = g k x := fun k x => by
    have h1 : g k x = g k (f k x) := ef.lst k x _ (kerEqv g) (eg.closed evg)
    have h2 : f k x = f k (g k x) := eg.lst k x _ (kerEqv f) (ef.closed evf)
    have h3 := eg.le k (f k x)
    have h4 := ef.le k (g k x)
    omega
  rw [← sf, ← sg]
  refine sortRows_same fun r => ?_
  rw [ef.mem, eg.mem]
  refine exists_congr fun a => and_congr_right fun _ => ?_
  rw [show mapF h f a = mapF h g a from by unfold mapF; refine List.map_congr_left fun k _ => fg k _]
theorem Closd.same {ss' : List Say} {S' : List (List Int)} {E : Nat → Int → Int → Prop} (es : ∀ s, s ∈ ss ↔ s ∈ ss') (eS : ∀ r, r ∈ S ↔ r ∈ S') (c : Closd h ss S E) : Closd h ss' S' E := fun s sm st a ha b hb => c s ((es s).mpr sm) st a ((eS a).mpr ha) b ((eS b).mpr hb)
theorem EvR.same {ss' : List Say} {S' T : List (List Int)} (es : ∀ s, s ∈ ss ↔ s ∈ ss') (eS : ∀ r, r ∈ S ↔ r ∈ S') (t : EvR h ss S T) : EvR h ss' S' T := by
  obtain ⟨⟨f, ef⟩, evf, sf⟩ := t
  refine ⟨⟨f, fun r => ?_, ef.le, fun k x E q c => ef.lst k x E q (c.same (fun s => (es s).symm) fun r => (eS r).symm)⟩, fun s sm => evf s ((es s).mpr sm), sf⟩
  rw [ef.mem]
  exact exists_congr fun a => and_congr_left fun _ => eS a
/-! ### the rounds -/
abbrev fillS (h : Tx) (ss : List Say) (T : List (List Int)) : List (List Int) := sortRows (moreF h T ss)
inductive ChR (h : Tx) (ss : List Say) (most : Nat) : List (List Int) → Option (List (List Int)) → Prop
  | full {S T : List (List Int)} : EvR h ss S T → most < (fillS h ss T).length → ChR h ss most S none
  | done {S T : List (List Int)} : EvR h ss S T → (fillS h ss T).length ≤ most → fillS h ss T = T → ChR h ss most S (some T)
  | more {S T : List (List Int)} {r : Option (List (List Int))} : EvR h ss S T → (fillS h ss T).length ≤ most → fillS h ss T ≠ T → ChR h ss most (fillS h ss T) r → ChR h ss most S r
theorem ChR.uniq {most : Nat} {r q : Option (List (List Int))} (a : ChR h ss most S r) (b : ChR h ss most S q) : r = q := by
  induction a generalizing q with
  | full e f =>
    cases b with
    | full _ _ => rfl
    | done e' f' _ => rw [e.uniq e'] at f; omega
    | more e' f' _ _ => rw [e.uniq e'] at f; omega
  | done e f g =>
    cases b with
    | full e' f' => rw [e.uniq e'] at f; omega
    | done e' f' _ => rw [e.uniq e']
    | more e' f' g' _ => rw [e.uniq e'] at g; exact absurd g g'
  | more e f g _ ih =>
    cases b with
    | full e' f' => rw [e.uniq e'] at f; omega
    | done e' f' g' => rw [e.uniq e'] at g; exact absurd g' g
    | more e' f' g' b' => rw [e.uniq e'] at ih; exact ih b'
theorem more_same {ss' : List Say} (es : ∀ s, s ∈ ss ↔ s ∈ ss') : fillS h ss S = fillS h ss' S := sortRows_same fun r => by rw [mem_moreF, mem_moreF]; simp only [es]
theorem ChR.same {ss' : List Say} {most : Nat} {S' : List (List Int)} {r : Option (List (List Int))} (es : ∀ s, s ∈ ss ↔ s ∈ ss') (eS : ∀ r, r ∈ S ↔ r ∈ S') (a : ChR h ss most S r) : ChR h ss' most S' r := by
  induction a generalizing S' with
  | full e f => exact .full (e.same es eS) (by rw [← more_same es]; exact f)
  | done e f g => exact .done (e.same es eS) (by rw [← more_same es]; exact f) (by rw [← more_same es]; exact g)
  | more e f g _ ih => exact .more (e.same es eS) (by rw [← more_same es]; exact f) (by rw [← more_same es]; exact g) (by rw [← more_same es]; exact ih fun _ => Iff.rfl)
theorem ChR.len {most : Nat} {T : List (List Int)} (a : ChR h ss most S (some T)) : T.length ≤ most ∧ sortRows T = T ∧ evenS h ss T ∧ fillS h ss T = T := by
  generalize e : some T = o at a
  induction a with
  | full _ _ => cases e
  | done t f g => cases e; exact ⟨by rw [← g]; exact f, t.2.2, t.2.1, g⟩
  | more _ _ _ _ ih => exact ih e
theorem ChR.kept {most : Nat} {T : List (List Int)} (a : ChR h ss most S (some T)) : ∀ s ∈ ss, kept h (syOf s) T := by
  obtain ⟨_, _, ev, fx⟩ := a.len
  exact fix_kept ev fun r hr => by rw [← fx]; exact mem_sortRows.mpr hr
/-- what every round keeps, the end keeps -/
theorem ChR.ind {most : Nat} {r : Option (List (List Int))} (I : List (List Int) → Prop) (he : ∀ S T, I S → EvR h ss S T → I T) (hf : ∀ T, I T → I (fillS h ss T)) (i0 : I S) (a : ChR h ss most S r) : (∃ T, r = some T ∧ I T) ∨ r = none ∧ ∃ M, I M ∧ most < M.length := by
  induction a with
  | full e f => exact .inr ⟨rfl, _, hf _ (he _ _ i0 e), f⟩
  | done e f g => exact .inl ⟨_, rfl, he _ _ i0 e⟩
  | more e f g _ ih => exact ih (hf _ (he _ _ i0 e))
/-! ### the program's rounds -/
theorem m_evened_run (H : Hd h) (ok : ∀ s ∈ ss, SayH h s) (few : ss.length ≤ 90) (b : Bx h Cs S) (so : sortRows S = S) (sl : S.length < 60000) :
    ∃ T, m_evened [bookD h ss, .lst (S.map rowD)] w = .dat (.lst (T.map rowD)) w ∧ Bx h Cs T ∧ T.Nodup ∧ EvR h ss S T ∧ T.length ≤ S.length ∧ (T = S ∨ measS Cs T < measS Cs S) := by
  obtain ⟨T, e, bT, nT, ev, le, ⟨⟨f, ef⟩, sT⟩, ms⟩ := m_evened_inv (w := w) (fun R => (∃ f, Evr h ss S R f) ∧ sortRows R = R) (fun R k lo hi i bR fr => ⟨i.1.elim fun f ef => ⟨_, ef.step fr⟩, sort_idem _⟩) ⟨⟨_, Evr.start b.len⟩, so⟩ H ok few b (by rw [← so]; exact sort_nd S) sl
  exact ⟨T, e, bT, nT, ⟨⟨f, ef⟩, ev, sT⟩, le, ms⟩
end
end Mi
end
section
/-! Chases: rows looked at; the law's rounds as rounds. -/
namespace Mi
open PySem L2 Dn
theorem m__law_heap_rng {w : Ds} {h : Tx} {many : Nat} (hw : Wk w) (hh : h.length ≤ 4000) (hm : many ≤ 1000) : ∃ (rs : List (List Int)) (w' : Ds), m__law_heap [.wd, T h, .int (many : Int)] w = .own (.lst (rs.map rowD)) w' ∧ rs.length ≤ many ∧ (∀ r ∈ rs, r.length = h.length ∧ ∀ c ∈ r, 0 ≤ c ∧ c ≤ 999) ∧ Wk w' := by
  obtain ⟨r, w1, e1, r0, r1, hw1⟩ := m__law_draw_eq hw (many := 5) (by decide) (by decide)
  have hx : ∃ m : Int, atI [Dt.int 2, Dt.int 2, Dt.int 3, Dt.int 4, Dt.int 1000] r = some (.int m) ∧ 0 < m ∧ m ≤ 1000 := by
    have : r = 0 ∨ r = 1 ∨ r = 2 ∨ r = 3 ∨ r = 4 := by omega
    rcases this with rfl | rfl | rfl | rfl | rfl
    · exact ⟨2, rfl, by decide, by decide⟩
    · exact ⟨2, rfl, by decide, by decide⟩
    · exact ⟨3, rfl, by decide, by decide⟩
    · exact ⟨4, rfl, by decide, by decide⟩
    · exact ⟨1000, rfl, by decide, by decide⟩
  obtain ⟨m, em, m0, m1⟩ := hx
  obtain ⟨q, w2, e2, q0, q1, hw2⟩ := m__law_draw_eq hw1 (many := (many : Int) + 1) (by omega) (by omega)
  obtain ⟨n, rfl⟩ : ∃ n : Nat, q = n := ⟨q.toNat, by omega⟩
  obtain ⟨ys, w3, e3, hw3, rs, rfl, hr1, hr2⟩ := gLc_inv (vs := [4]) (gi := gIts oRng1 (gCons (gCall 2 [] m__law_draw (gCons (gVar 0) (gCons (gBin oAdd (gVar 2) (gOk (.int 1))) gNil))) gNil)) (b := bName 4) (gt := gYes) (ge := gArgs oTuple (gCons (gFrz (gLc [5] (gIt srcD (gVar 1)) (bName 5) gYes (gCall 2 [] m__law_draw (gCons (gVar 0) (gCons (gVar 3) gNil))))) gNil))
    (env := [.dat .wd, .dat (T h), .dat (.int (many : Int)), .dat (.int m), .un, .un]) (w := w1) (w1 := w2) Wk
    (fun ys => ∃ rs : List (List Int), ys = rs.map rowD ∧ rs.length ≤ many ∧ ∀ r ∈ rs, r.length = h.length ∧ ∀ c ∈ r, 0 ≤ c ∧ c ≤ 999) (List.range n) (fun k : Nat => Dt.int (k : Int)) (fun _ d => ∃ r : List Int, (r.length = h.length ∧ ∀ c ∈ r, 0 ≤ c ∧ c ≤ 999) ∧ d = rowD r)
    (gIts_ok (ga1 (gCall_dat (ga2 rfl rfl) e2)) (oRng1_nat n (by omega))) hw2
    (fun k hk => ⟨[.dat .wd, .dat (T h), .dat (.int (many : Int)), .dat (.int m), .dat (.int k), .un], rfl, fun w hw => ⟨true, w, rfl, hw, fun _ => by
      obtain ⟨zs, w3, e3, hw3, r, rfl, hr⟩ := gLcY_inv (vs := [5]) (gi := gIt srcD (gVar 1)) (b := bName 5) (ge := gCall 2 [] m__law_draw (gCons (gVar 0) (gCons (gVar 3) gNil)))
        (env := [.dat .wd, .dat (T h), .dat (.int (many : Int)), .dat (.int m), .dat (.int k), .un]) (w := w) (w1 := w) Wk
        (fun ys => ∃ r : List Int, ys = r.map Dt.int ∧ r.length = h.length ∧ ∀ c ∈ r, 0 ≤ c ∧ c ≤ 999) h (fun c => T [c]) (fun _ d => ∃ i : Int, (0 ≤ i ∧ i ≤ 999) ∧ d = .int i) (gIt_ok rfl (srcD_T h)) hw
        (fun c hc => ⟨[.dat .wd, .dat (T h), .dat (.int (many : Int)), .dat (.int m), .dat (.int k), .dat (T [c])], rfl, fun w hw => by
          obtain ⟨q, w2, e2, q0, q1, hw2⟩ := m__law_draw_eq hw (many := m) m0 (by omega)
          exact ⟨.int q, w2, gCall_dat (ga2 rfl rfl) e2, hw2, q, ⟨q0, by omega⟩, rfl⟩⟩) (by rw [sz_line]; omega)
        (fun zs h1 h2 => by
          obtain ⟨r, h3, h4, h5⟩ := each_as h2
          exact ⟨r, h5, by rw [h3, ← h1, List.length_map], h4⟩)
      exact ⟨rowD r, w3, gArgs_ok (ga1 (gFrz_lst e3)) (oTuple_lst _), hw3, r, hr, rfl⟩⟩⟩) (by rw [sz_line]; simp; omega)
    (fun zs h1 h2 => by
      obtain ⟨rs, h3, h4, h5⟩ := each_as h2
      have := h1.length_le
      simp at this
      exact ⟨rs, h5, by omega, h4⟩)
  exact ⟨rs, w3, runM_rtf (sSeq_nx (sSet_ok (gIx_ok (a := .lst [.int 2, .int 2, .int 3, .int 4, .int 1000]) (w1 := w) (gFrz_lst (by simp [sz_line])) (gCall_dat (ga2 rfl rfl) e1) em)) (sRetF_ok e3)), hr1, hr2, hw3⟩
end Mi
end
section
/-! Chases: small things for the laws about them. -/
namespace Mi
open PySem L2 Dn
section
variable {h : Tx} {S : List (List Int)} {Cs : List (List Int)} {w : Ds} {ss : List Say}
/-- a row of a table, by a draw -/
theorem pickR {R : List (List Int)} {env : Dn.Env} {i : Nat} (hw : Wk w) (h1 : env[1]? = some (.dat .wd)) (h6 : ∀ w, gVar i env w = .ok (.lst (R.map rowD)) w) (ne : R ≠ []) (few : R.length ≤ 100) :
    ∃ r ∈ R, ∃ w', gIx (gVar i) (gCall 2 [] m__law_draw (gCons (gVar 1) (gCons (gArgs oLen (gCons (gVar i) gNil)) gNil))) env w = .ok (rowD r) w' ∧ Wk w' := by
  have lp : 0 < R.length := List.length_pos_iff.mpr ne
  obtain ⟨q, w1, e, q0, q1, hw1⟩ := m__law_draw_eq hw (many := (R.length : Int)) (by omega) (by omega)
  obtain ⟨n, rfl⟩ : ∃ n : Nat, q = n := ⟨q.toNat, by omega⟩
  have hn : n < R.length := by omega
  refine ⟨R[n], List.getElem_mem hn, w1, gIx_ok (a := .lst (R.map rowD)) (b := .int (n : Int)) (h6 w) (gCall_dat (ga2 (d := .wd) (by rw [gVar_app, h1]) (gArgs_ok (ga1 (h6 w)) ((oLen_lst (by rw [List.length_map]; omega)).trans (by rw [List.length_map])))) e) (ix_map hn), hw1⟩
/-! ### the end of a chase as the laws tell it -/
theorem EvR.box {U : List (List Int)} (H : Hd h) (ok : ∀ s ∈ ss, SayH h s) (few : ss.length ≤ 90) (b : Bx h Cs S) (so : sortRows S = S) (sl : S.length < 60000) (t : EvR h ss S U) : Bx h Cs U ∧ U.length ≤ S.length := by
  obtain ⟨V, _, bV, _, ev, le, _⟩ := m_evened_run (w := w0 []) H ok few b so sl
  rw [t.uniq ev]
  exact ⟨bV, le⟩
theorem ChR.ind2 {most : Nat} {r : Option (List (List Int))} (I : List (List Int) → Prop) (he : ∀ S T, I S → EvR h ss S T → I T) (hf : ∀ T, I T → (fillS h ss T).length ≤ most → I (fillS h ss T)) (i0 : I S) (a : ChR h ss most S r) : (∃ T, r = some T ∧ I T) ∨ r = none ∧ ∃ T, I T ∧ most < (fillS h ss T).length := by
  induction a with
  | full e f => exact .inr ⟨rfl, _, he _ _ i0 e, f⟩
  | done e f g => exact .inl ⟨_, rfl, he _ _ i0 e⟩
  | more e f g _ ih => exact ih (hf _ (he _ _ i0 e) f)
def InB (h : Tx) (Cs S : List (List Int)) : Prop := Bx h Cs S ∧ sortRows S = S ∧ S.length ≤ 110
theorem InB.even (H : Hd h) (ok : ∀ s ∈ ss, SayH h s) (few : ss.length ≤ 90) (R V : List (List Int)) (i : InB h Cs R) (e : EvR h ss R V) : InB h Cs V := by
  obtain ⟨b, l⟩ := e.box H ok few i.1 i.2.1 (by have := i.2.2; omega)
  exact ⟨b, e.2.2, Nat.le_trans l i.2.2⟩
theorem InB.fill {most : Nat} (m : most ≤ 110) (R : List (List Int)) (i : InB h Cs R) (l : (fillS h ss R).length ≤ most) : InB h Cs (fillS h ss R) := ⟨(i.1.more (ss := ss)).srt, sort_idem _, by omega⟩
theorem InB.first (b : Bx h Cs S) (sl : S.length ≤ 110) : InB h Cs (sortRows S) := ⟨b.srt, sort_idem S, Nat.le_trans (sortRows_len S) sl⟩
end
end Mi
end
section
/-! The first clash: the program's is the law's; repr of tables. -/
namespace Mi
open PySem L2 Dn
section
variable {h l r : Tx} {rows : List (List Int)} {w : Ds}
theorem rng_find {α β : Type} (f : α → Option β) : ∀ (ys : List α) (m : Nat) (g : Nat → Option β), (∀ i (hi : i < ys.length), g (m + i) = f ys[i]) → (List.range' m ys.length).findSome? g = ys.findSome? f
  | [], m, g, _ => rfl
  | y :: ys, m, g, e => by
    have e0 := e 0 (by simp)
    rw [Nat.add_zero] at e0
    rw [List.length_cons, List.range'_succ, List.findSome?_cons, List.findSome?_cons, e0, rng_find f ys (m + 1) g fun i hi => by
      have := e (i + 1) (by simpa using hi)
      rw [show m + 1 + i = m + (i + 1) by omega, this]
      rfl]
    rfl
/-- each one with those behind it -/
def behindF {β : Type} (F : List Int → List Int → Option β) : List (List Int) → Option β
  | [] => none
  | a :: rest => match rest.findSome? (F a) with
    | some d => some d
    | none => behindF F rest
theorem rng_behind {β : Type} (F : List Int → List Int → Option β) : ∀ (ys : List (List Int)) (m : Nat) (g : Nat → Option β), (∀ i (hi : i < ys.length), g (m + i) = (ys.drop (i + 1)).findSome? (F ys[i])) → (List.range' m ys.length).findSome? g = behindF F ys
  | [], m, g, _ => rfl
  | y :: ys, m, g, e => by
    have e0 := e 0 (by simp)
    rw [Nat.add_zero] at e0
    have e0' : g m = ys.findSome? (F y) := e0
    rw [List.length_cons, List.range'_succ, List.findSome?_cons, e0', rng_behind F ys (m + 1) g fun i hi => by
      have := e (i + 1) (by simpa using hi)
      rw [show m + 1 + i = m + (i + 1) by omega, this]
      rfl]
    rfl
theorem find_some {β : Type} (p : List Int → Bool) (D : List Int → β) : ∀ ys : List (List Int), ys.findSome? (fun b => if p b = true then some (D b) else none) = (ys.find? p).map D
  | [] => rfl
  | y :: ys => by
    rw [List.findSome?_cons, List.find?_cons, find_some p D ys]
    cases p y <;> simp
theorem row_k {k : Nat} (hk : k < rows.length) : rows.getD k [] = rows[k] := by simp [List.getD_eq_getElem?_getD, List.getElem?_eq_getElem hk]
def DT (a b : List Int) : Dt := .tup [rowD a, rowD b]
def DP (h t : Tx) (a b : List Int) : Dt := .tup [rowD a, rowD b, rowD (wantedL a b h t)]
theorem tells_same {s : Sy} (ht : s.tells = true) (len : ∀ x ∈ rows, x.length = h.length) : clashF h s rows = (clashT h s.l (withoutL s.r s.l) rows).map fun p => DT p.1 p.2 := by
  let F : List Int → List Int → Option Dt := fun a b => if badT h s.l (withoutL s.r s.l) a b = true then some (DT a b) else none
  have e1 : ∀ ys : List (List Int), behindF F ys = (clashT h s.l (withoutL s.r s.l) ys).map fun p => DT p.1 p.2 := fun ys => by
    induction ys with
    | nil => rfl
    | cons a ys ih =>
      unfold behindF clashT
      rw [show ys.findSome? (F a) = (ys.find? (badT h s.l (withoutL s.r s.l) a)).map (DT a) from find_some _ _ ys]
      cases ys.find? (badT h s.l (withoutL s.r s.l) a) with
      | some b => rfl
      | none => exact ih
  rw [← e1]
  unfold clashF
  rw [List.range_eq_range']
  refine rng_behind F rows 0 _ fun k hk => ?_
  rw [Nat.zero_add]
  unfold hitsF
  have sp : List.range rows.length = List.range' 0 (k + 1) ++ List.range' (k + 1) (rows.drop (k + 1)).length := by
    rw [List.range_eq_range', List.length_drop]
    have := List.range'_append_1 (s := 0) (m := k + 1) (n := rows.length - (k + 1))
    rw [Nat.zero_add] at this
    rw [this]
    congr 1
    omega
  rw [sp, List.findSome?_append]
  have lk := len _ (List.getElem_mem hk)
  have n0 : (List.range' 0 (k + 1)).findSome? (hitF h s rows k) = none := List.findSome?_eq_none_iff.mpr fun j hj => by
    have hj' : j < k + 1 := by
      rw [List.mem_range'_1] at hj
      omega
    unfold hitF
    simp only [ht, if_true]
    split
    · rw [if_neg]
      rintro ⟨z, _⟩
      omega
    · rfl
  rw [n0, Option.none_or]
  refine rng_find (F rows[k]) (rows.drop (k + 1)) (k + 1) _ fun i hi => ?_
  have hi' : k + 1 + i < rows.length := by rw [List.length_drop] at hi; omega
  have lj := len _ (List.getElem_mem hi')
  unfold hitF
  rw [row_k hk, row_k hi', List.getElem_drop]
  simp only [ht, if_true]
  show _ = if badT h s.l (withoutL s.r s.l) rows[k] rows[k + 1 + i] = true then some (DT rows[k] rows[k + 1 + i]) else none
  unfold badT
  by_cases q : cellsL rows[k] h s.l = cellsL rows[k + 1 + i] h s.l
  · have ar := agree_rest (r := s.r) lk lj q
    rw [if_pos q, decide_eq_true q, Bool.true_and]
    by_cases z : cellsL rows[k] h s.r = cellsL rows[k + 1 + i] h s.r
    · rw [if_neg (fun y => y.2 z), decide_eq_true (ar.mpr z)]
      rfl
    · rw [if_pos ⟨by omega, z⟩, decide_eq_false fun y => z (ar.mp y)]
      rfl
  · rw [if_neg q, decide_eq_false q]
    rfl
theorem parts_same {s : Sy} (ht : s.tells = false) : clashF h s rows = (clashP h s.l (unionL s.l s.r) rows rows).map fun p => .tup [rowD p.1, rowD p.2.1, rowD p.2.2] := by
  have wc : ∀ a b : List Int, wantedL a b h (unionL s.l s.r) = wantedL a b h (s.l ++ s.r) := fun a b => wanted_congr fun c => by rw [mem_unionL, List.mem_append]
  let G : List Int → Option Dt := fun a => (rows.find? (badP rows h s.l (unionL s.l s.r) a)).map (DP h (unionL s.l s.r) a)
  have e1 : ∀ ys : List (List Int), ys.findSome? G = (clashP h s.l (unionL s.l s.r) rows ys).map fun p => .tup [rowD p.1, rowD p.2.1, rowD p.2.2] := fun ys => by
    induction ys with
    | nil => rfl
    | cons a ys ih =>
      unfold clashP
      rw [List.findSome?_cons]
      cases z : rows.find? (badP rows h s.l (unionL s.l s.r) a) with
      | some b => simp only [G, z]; rfl
      | none => simp only [G, z]; exact ih
  rw [← e1]
  unfold clashF
  rw [List.range_eq_range']
  refine rng_find G rows 0 _ fun k hk => ?_
  rw [Nat.zero_add]
  show hitsF h s rows k = (rows.find? (badP rows h s.l (unionL s.l s.r) rows[k])).map (DP h (unionL s.l s.r) rows[k])
  rw [← find_some]
  unfold hitsF
  rw [List.range_eq_range']
  refine rng_find _ rows 0 _ fun j hj => ?_
  rw [Nat.zero_add]
  unfold hitF
  rw [row_k hk, row_k hj]
  simp only [ht, Bool.false_eq_true, if_false]
  unfold badP DP
  rw [wc]
  by_cases q : cellsL rows[k] h s.l = cellsL rows[j] h s.l
  · rw [if_pos q, decide_eq_true q, Bool.true_and]
    by_cases z : wantedL rows[k] rows[j] h (s.l ++ s.r) ∈ rows
    · rw [if_pos z, decide_eq_true z]; rfl
    · rw [if_neg z, decide_eq_false z]; rfl
  · rw [if_neg q, decide_eq_false q]; rfl
/-- the program's first clash is the law's -/
theorem clash_same {s : Sy} (len : ∀ x ∈ rows, x.length = h.length) : optD (clashF h s rows) = clashD h s rows := by
  unfold clashD
  cases ht : s.tells with
  | true =>
    rw [tells_same ht len]
    cases clashT h s.l (withoutL s.r s.l) rows <;> rfl
  | false =>
    rw [parts_same ht]
    cases clashP h s.l (unionL s.l s.r) rows rows <;> rfl
/-! ### repr of tables -/
theorem toPys_ints : ∀ r : List Int, toPys (r.map Dt.int) = some (r.map PyData.int)
  | [] => rfl
  | x :: r => by
    show (toPy (.int x)).bind (fun a => (toPys (r.map Dt.int)).map (a :: ·)) = _
    rw [toPys_ints r]
    rfl
theorem toPys_rows : ∀ rs : List (List Int), toPys (rs.map rowD) = some (rs.map fun r => PyData.tuple (r.map .int))
  | [] => rfl
  | r :: rs => by
    show (toPy (rowD r)).bind (fun a => (toPys (rs.map rowD)).map (a :: ·)) = _
    rw [toPys_rows rs, show toPy (rowD r) = some (.tuple (r.map .int)) from by unfold rowD toPy; rw [toPys_ints]; rfl]
    rfl
def Cl (r : List Int) : Prop := ∀ c ∈ r, 0 ≤ c ∧ c ≤ 999
theorem cell_small {c : Int} (a : 0 ≤ c ∧ c ≤ 999) : c.natAbs.log2 < 10 := by
  have h1 : c.natAbs < 2 ^ 10 := by
    have : (2 : Nat) ^ 10 = 1024 := by decide
    omega
  by_cases z : c.natAbs = 0
  · rw [z]; decide
  · exact (Nat.log2_lt z).mpr h1
theorem sh_ints : ∀ {r : List Int}, Cl r → PyData.showableAll (r.map PyData.int) = true ∧ PyData.hasDictAll (r.map PyData.int) = false ∧ PyData.depthAll (r.map PyData.int) = 0 ∧ PyData.leavesShortAll 13 (r.map PyData.int) = true ∧ PyData.weightAll (r.map PyData.int) ≤ 12 * r.length
  | [], _ => ⟨rfl, rfl, rfl, rfl, Nat.le_refl _⟩
  | c :: r, a => by
    obtain ⟨h1, h2, h3, h4, h5⟩ := sh_ints (r := r) fun x hx => a x (List.mem_cons_of_mem _ hx)
    have s := cell_small (a c List.mem_cons_self)
    have c0 := a c List.mem_cons_self
    refine ⟨?_, ?_, ?_, ?_, ?_⟩
    · simp only [List.map_cons, PyData.showableAll, PyData.showable, h1, Bool.and_true, decide_eq_true_eq]; omega
    · simp only [List.map_cons, PyData.hasDictAll, PyData.hasDict, h2, Bool.or_false]
    · simp only [List.map_cons, PyData.depthAll, PyData.depth, h3, Nat.max_self]
    · simp only [List.map_cons, PyData.leavesShortAll, PyData.leavesShort, h4, Bool.and_true, decide_eq_true_eq]
      have := PyProof.Rows.toString_length_le (v := c) c0.1 (k := 3) (by decide) (by rw [show (10 : Int) ^ 3 = 1000 from by decide]; omega)
      show (Str.ofString (toString c)).length ≤ 13
      omega
    · simp only [List.map_cons, PyData.weightAll, PyData.weight, List.length_cons]
      split <;> omega
theorem sh_rows : ∀ {rs : List (List Int)} {m : Nat}, (∀ r ∈ rs, r.length = m ∧ Cl r) → PyData.showableAll (rs.map fun r => PyData.tuple (r.map .int)) = true ∧ PyData.hasDictAll (rs.map fun r => PyData.tuple (r.map .int)) = false ∧ PyData.depthAll (rs.map fun r => PyData.tuple (r.map .int)) ≤ 1 ∧
    PyData.leavesShortAll 13 (rs.map fun r => PyData.tuple (r.map .int)) = true ∧ PyData.weightAll (rs.map fun r => PyData.tuple (r.map .int)) ≤ (12 * m + 1) * rs.length
  | [], _, _ => ⟨rfl, rfl, Nat.zero_le _, rfl, Nat.zero_le _⟩
  | r :: rs, m, a => by
    obtain ⟨h1, h2, h3, h4, h5⟩ := sh_rows (rs := rs) (m := m) fun x hx => a x (List.mem_cons_of_mem _ hx)
    obtain ⟨lr, cr⟩ := a r List.mem_cons_self
    obtain ⟨g1, g2, g3, g4, g5⟩ := sh_ints cr
    rw [lr] at g5
    refine ⟨?_, ?_, ?_, ?_, ?_⟩
    · simp only [List.map_cons, PyData.showableAll, PyData.showable, h1, g1, Bool.and_true]
    · simp only [List.map_cons, PyData.hasDictAll, PyData.hasDict, h2, g2, Bool.or_false]
    · simp only [List.map_cons, PyData.depthAll, PyData.depth, g3]; omega
    · simp only [List.map_cons, PyData.leavesShortAll, PyData.leavesShort, h4, g4, Bool.and_true]
    · simp only [List.map_cons, PyData.weightAll, PyData.weight, List.length_cons, Nat.mul_add, Nat.mul_one]
      omega
theorem repr_rowsL {rs : List (List Int)} {m : Nat} (a : ∀ r ∈ rs, r.length = m ∧ Cl r) (hm : m ≤ 100) (few : rs.length ≤ 500) : ∃ t, oRepr [.lst (rs.map rowD)] = some (.str t) := by
  obtain ⟨h1, h2, h3, h4, h5⟩ := sh_rows a
  have b := PyData.shown_le 13 (by decide) (.list (rs.map fun r => PyData.tuple (r.map .int))) (by simpa only [PyData.leavesShort] using h4)
  have wl : (12 * m + 1) * rs.length ≤ 1201 * 500 := Nat.mul_le_mul (by omega) few
  simp only [PyData.weight] at b
  refine ⟨(PyData.list (rs.map fun r => PyData.tuple (r.map .int))).shown, ?_⟩
  show (toPys (rs.map rowD)).bind _ = _
  rw [toPys_rows, Option.bind_some, if_pos ⟨h1, h2, by simp only [PyData.depth]; omega, by rw [sz_line]; omega⟩]
theorem repr_rowsT {rs : List (List Int)} {m : Nat} (a : ∀ r ∈ rs, r.length = m ∧ Cl r) (hm : m ≤ 100) (few : rs.length ≤ 500) : ∃ t, oRepr [.tup (rs.map rowD)] = some (.str t) := by
  obtain ⟨h1, h2, h3, h4, h5⟩ := sh_rows a
  have b := PyData.shown_le 13 (by decide) (.tuple (rs.map fun r => PyData.tuple (r.map .int))) (by simpa only [PyData.leavesShort] using h4)
  have wl : (12 * m + 1) * rs.length ≤ 1201 * 500 := Nat.mul_le_mul (by omega) few
  simp only [PyData.weight] at b
  refine ⟨(PyData.tuple (rs.map fun r => PyData.tuple (r.map .int))).shown, ?_⟩
  show (toPys (rs.map rowD)).bind _ = _
  rw [toPys_rows, Option.bind_some, if_pos ⟨h1, h2, by simp only [PyData.depth]; omega, by rw [sz_line]; omega⟩]
end
end Mi
end
section
/-! Chases of the first rows of partings. -/
namespace Mi
open PySem L2 Dn
section
variable {h : Tx} {S U K : List (List Int)} {Cs : List (List Int)} {w : Ds} {ss : List Say} {most : Nat}
/-! ### what the rounds keep -/
/-- rows of a small box are never crowded -/
theorem ChR.fits {r : Option (List (List Int))} (H : Hd h) (ok : ∀ s ∈ ss, SayH h s) (few : ss.length ≤ 90) (b : Bx h Cs S) (sl : S.length ≤ 110) (m : most ≤ 110) (sm : (boxL Cs).length ≤ most) (a : ChR h ss most (sortRows S) r) : ∃ V, r = some V := by
  rcases a.ind2 (InB h Cs) (InB.even H ok few) (InB.fill m) (InB.first b sl) with ⟨V, e, i⟩ | ⟨_, M, i, big⟩
  · exact ⟨V, e⟩
  · have := Tg.nd_in (xs := fillS h ss M) (ys := boxL Cs) (sort_nd _) (i.1.more (ss := ss)).srt.inb
    omega
/-! ### first rows -/
end
end Mi
end
section
/-! Partings: what follows is kept by every kept table; two parts by what they share. -/
namespace Mi
open PySem L2 Dn
section
variable {h l : Tx} {S U K : List (List Int)} {Cs : List (List Int)} {w : Ds} {ss : List Say} {most : Nat}
theorem head_mem {k : Nat} (hk : k < h.length) : h.getD k 0 ∈ h := by
  rw [List.getD_eq_getElem?_getD, List.getElem?_eq_getElem hk]; exact List.getElem_mem hk
end
end Mi
end
section
/-! Partings split off: the greatest parts; the split itself, as an own list. -/
namespace Mi
open PySem L2 Dn
section
variable {h l p f : Tx} {ss : List Say} {w : Ds}
def goB (xs : List Tx) (q : Tx × Nat) : Bool := decide ((xs.filter fun o => withinL q.1 o && !decide (o = q.1)) = []) && !decide (q.1 ∈ xs.take q.2)
/-- the greatest parts, each once -/
def goF (xs : List Tx) : List Tx := ((xs.zipIdx 0).filter (goB xs)).map (·.1)
theorem goF_sub (xs : List Tx) : (goF xs).Sublist xs := by
  unfold goF
  have := (List.filter_sublist (l := xs.zipIdx 0) (p := goB xs)).map (·.1)
  rwa [List.zipIdx_map_fst] at this
/-! ### splits -/
def cutPs (pre post : List Tx) (p : Tx) (s : Say) : List Tx := pre ++ [unionL s.l s.r, p.filter fun c => !decide (c ∈ s.r)] ++ post
inductive Spl (h : Tx) (ss : List Say) (f : Tx) : List Tx → List Tx → Prop
  | done {ps : List Tx} : (∀ p ∈ ps, firstFault h ss p f = none) → Spl h ss f ps ps
  | cut {pre post r : List Tx} {p : Tx} {s : Say} : (∀ q ∈ pre, firstFault h ss q f = none) → firstFault h ss p f = some s → Spl h ss f (goF (cutPs pre post p s)) r → Spl h ss f (pre ++ p :: post) r
theorem split_at {pre post pre' post' : List Tx} {p p' : Tx} {P : Tx → Prop} (e : pre ++ p :: post = pre' ++ p' :: post') (h1 : ∀ q ∈ pre, P q) (h2 : ∀ q ∈ pre', P q) (n1 : ¬ P p) (n2 : ¬ P p') : pre = pre' ∧ p = p' ∧ post = post' := by
  induction pre generalizing pre' with
  | nil =>
    cases pre' with
    | nil => simp at e; exact ⟨rfl, e.1, e.2⟩
    | cons x xs => simp at e; exact absurd (e.1 ▸ h2 x List.mem_cons_self) n1
  | cons x xs ih =>
    cases pre' with
    | nil => simp at e; exact absurd (e.1 ▸ h1 x List.mem_cons_self) n2
    | cons y ys =>
      simp at e
      obtain ⟨a, b, c⟩ := ih e.2 (fun q hq => h1 q (List.mem_cons_of_mem _ hq)) (fun q hq => h2 q (List.mem_cons_of_mem _ hq))
      exact ⟨by rw [e.1, a], b, c⟩
theorem Spl.uniq {ps r q : List Tx} (a : Spl h ss f ps r) (b : Spl h ss f ps q) : r = q := by
  induction a generalizing q with
  | @done ps d =>
    cases b with
    | done _ => rfl
    | @cut pre post r p s h1 h2 _ => rw [d p (by simp)] at h2; cases h2
  | @cut pre post r p s h1 h2 _ ih =>
    generalize e : pre ++ p :: post = ps at b
    cases b with
    | done d => rw [d p (by rw [← e]; simp)] at h2; cases h2
    | @cut pre' post' r' p' s' g1 g2 b' =>
      obtain ⟨rfl, rfl, rfl⟩ := split_at (P := fun q => firstFault h ss q f = none) e h1 g1 (by rw [h2]; simp) (by rw [g2]; simp)
      rw [h2] at g2
      cases g2
      exact ih b'
/-- what splits keep -/
theorem Spl.ind {ps r : List Tx} (I : List Tx → Prop) (hI : ∀ pre post p s, I (pre ++ p :: post) → firstFault h ss p f = some s → I (goF (cutPs pre post p s))) (i0 : I ps) (a : Spl h ss f ps r) : I r := by
  induction a with
  | done _ => exact i0
  | cut h1 h2 _ ih => exact ih (hI _ _ _ _ i0 h2)
theorem cut_facts (H : Hd h) (ok : ∀ s ∈ ss, SayH h s) (few : ss.length ≤ 100) {pre post : List Tx} {s : Say} (hps : ∀ q ∈ pre ++ p :: post, q.Sublist h) (e : firstFault h ss p f = some s) : (∀ q ∈ cutPs pre post p s, q.Sublist h) ∧ wts (cutPs pre post p s) < wts (pre ++ p :: post) := by
  have hp := hps p (by simp)
  obtain ⟨u1, u2, u3, u4⟩ := fault_split H hp ok few (fault_ok e)
  refine ⟨fun x hx => ?_, ?_⟩
  · simp only [cutPs, List.mem_append, List.mem_cons, List.not_mem_nil, or_false] at hx
    rcases hx with (hx | rfl | rfl) | hx
    · exact hps x (by simp [hx])
    · exact u1
    · exact List.filter_sublist.trans hp
    · exact hps x (by simp [hx])
  · have two := wt_two u2 u3
    simp only [cutPs, wts_app]
    simp only [wts, List.map_cons, List.map_nil, List.sum_cons, List.sum_nil]
    omega
end
end Mi
end
section
/-! Partings split off: the program's and the law's own going. -/
namespace Mi
open PySem L2 Dn
end Mi
end
section
/-! Partings split off: the law's own going. -/
namespace Mi
open PySem L2 Dn
end Mi
end
section
/-! Partings split off: the law's turns; what is split off comes back. -/
namespace Mi
open PySem L2 Dn
section
variable {h l p f : Tx} {ss : List Say} {w : Ds}
theorem Spl.step {a b r : List Tx} {s : Say} (sp : Spl h ss f (a ++ p :: b) r) (z2 : ∀ q ∈ a, firstFault h ss q f = none) (z3 : firstFault h ss p f = some s) : Spl h ss f (goF (cutPs a b p s)) r := by
  generalize e : a ++ p :: b = ps at sp
  cases sp with
  | done d => rw [d p (by rw [← e]; simp)] at z3; cases z3
  | @cut pre' post' r' p' s' g1 g2 b' =>
    obtain ⟨rfl, rfl, rfl⟩ := split_at (P := fun q => firstFault h ss q f = none) e z2 g1 (by rw [z3]; simp) (by rw [g2]; simp)
    rw [z3] at g2
    cases g2
    exact b'
end
end Mi
end
section
/-! What is split off comes back. -/
namespace Mi
open PySem L2 Dn
section
variable {h l p f : Tx} {ss : List Say} {w : Ds} {S U : List (List Int)} {most : Nat}
def OnP (h p : Tx) (a b : List Int) : Prop := ∀ k, k < h.length → h.getD k 0 ∈ p → a.getD k 0 = b.getD k 0
/-- each kept table comes back from its cuts -/
def Back (h : Tx) (ss : List Say) (ps : List Tx) : Prop := ∀ S : List (List Int), (∀ r ∈ S, r.length = h.length) → (∀ s ∈ ss, kept h (syOf s) S) → ∀ t : List Int, t.length = h.length → (∀ p ∈ ps, ∃ r ∈ S, OnP h p r t) → t ∈ S
theorem back_head : Back h ss [h] := fun S len _ t lt m => by
  obtain ⟨r, hr, e⟩ := m h (by simp)
  rw [← row_ext (len r hr) lt fun k hk => e k hk (head_mem hk)]
  exact hr
theorem back_cut (H : Hd h) (ok : ∀ s ∈ ss, SayH h s) (few : ss.length ≤ 100) {a b : List Tx} {s : Say} (hp : p.Sublist h) (fo : FaultOk h ss p s) (B : Back h ss (a ++ p :: b)) : Back h ss (cutPs a b p s) := fun S len kp t lt m => by
  obtain ⟨lp, ne, z⟩ := fo
  have rl : ∀ c ∈ s.r, c ∉ s.l := fun c hc => by
    rcases z with ⟨d, e, h1, h2, h3⟩ | ⟨_, h1, _⟩
    · rw [e] at hc
      rw [List.mem_singleton.mp hc]
      exact h3
    · exact ((cuts_out H ok few h1).2 c hc).2
  refine B S len kp t lt fun q hq => ?_
  have rest : ∀ q ∈ a ++ b, ∃ r ∈ S, OnP h q r t := fun q hq => m q (by simp only [cutPs, List.mem_append, List.mem_cons]; rcases List.mem_append.mp hq with y | y; exact .inl (.inl y); exact .inr y)
  have hq : q ∈ a ∨ q = p ∨ q ∈ b := by simpa using hq
  rcases hq with hq | rfl | hq
  · exact rest q (List.mem_append_left _ hq)
  · obtain ⟨x, hx, ex⟩ := m (unionL s.l s.r) (by simp [cutPs])
    obtain ⟨y, hy, ey⟩ := m (q.filter fun c => !decide (c ∈ s.r)) (by simp [cutPs])
    have lx := len x hx
    have ly := len y hy
    have onl : ∀ k, k < h.length → h.getD k 0 ∈ s.l → x.getD k 0 = t.getD k 0 ∧ y.getD k 0 = t.getD k 0 := fun k hk hl => ⟨ex k hk (mem_unionL.mpr (.inl hl)), ey k hk (List.mem_filter.mpr ⟨lp.subset hl, by rw [decide_eq_false (show h.getD k 0 ∉ s.r from fun y => rl _ y hl)]; rfl⟩)⟩
    have ag : cellsL x h s.l = cellsL y h s.l := (agree_iff lx ly).mpr fun k hk hl => by
      obtain ⟨e1, e2⟩ := onl k hk hl
      rw [e1, e2]
    rcases z with ⟨c, e, h1, h2, h3⟩ | ⟨_, h1, _⟩
    · have tk := (agree_iff lx ly).mp (told_kept len H ok few kp x hx y hy ag)
      refine ⟨y, hy, fun k hk hm => ?_⟩
      by_cases c1 : h.getD k 0 ∈ s.r
      · rw [← ex k hk (mem_unionL.mpr (.inr c1))]
        have : h.getD k 0 = c := by rw [e] at c1; exact List.mem_singleton.mp c1
        exact (tk k hk (by rw [this]; exact h1)).symm
      · exact ey k hk (List.mem_filter.mpr ⟨hm, by rw [decide_eq_false c1]; rfl⟩)
    · obtain ⟨bl, hb, eb⟩ := (cutsF_mem.mp h1).2
      have kb := blocks_kept len ok kp (finF_ok (l := s.l) H ok few) bl hb x hx y hy ag
      refine ⟨_, kb, fun k hk hm => ?_⟩
      rw [wanted_get lx ly hk]
      by_cases c1 : h.getD k 0 ∈ s.l ++ bl
      · rw [if_pos c1]
        rcases List.mem_append.mp c1 with c2 | c2
        · exact (onl k hk c2).1
        · exact ex k hk (mem_unionL.mpr (.inr (by rw [← eb]; exact mem_commonL.mpr ⟨c2, hm⟩)))
      · rw [if_neg c1]
        refine ey k hk (List.mem_filter.mpr ⟨hm, ?_⟩)
        have : h.getD k 0 ∉ s.r := fun y => by
          rw [← eb] at y
          exact c1 (List.mem_append_right _ (mem_commonL.mp y).1)
        rw [decide_eq_false this]
        rfl
  · exact rest q (List.mem_append_right _ hq)
theorem longest {P : Tx → Prop} : ∀ (n : Nat) {xs : List Tx}, (∃ x ∈ xs, P x ∧ n ≤ x.length + xs.length) → (∀ x ∈ xs, x.length ≤ 1000) → ∃ y ∈ xs, P y ∧ ∀ o ∈ xs, P o → o.length ≤ y.length := by
  intro n xs ⟨x, hx, px, _⟩ hl
  have key : ∀ d : Nat, ∀ x ∈ xs, P x → 1000 - x.length ≤ d → ∃ y ∈ xs, P y ∧ ∀ o ∈ xs, P o → o.length ≤ y.length := by
    intro d
    induction d with
    | zero =>
      intro x hx px hd
      exact ⟨x, hx, px, fun o ho _ => by have := hl o ho; omega⟩
    | succ d ih =>
      intro x hx px hd
      by_cases c : ∀ o ∈ xs, P o → o.length ≤ x.length
      · exact ⟨x, hx, px, c⟩
      · obtain ⟨o, ho, po, lt⟩ : ∃ o ∈ xs, P o ∧ x.length < o.length := Classical.byContradiction fun n => c fun o ho po => by
          rcases Nat.lt_or_ge x.length o.length with z | z
          · exact absurd ⟨o, ho, po, z⟩ n
          · exact z
        exact ih o ho po (by omega)
  exact key 1000 x hx px (by omega)
theorem idx_le {y : Tx} : ∀ {xs : List Tx} {j : Nat} (hj : j < xs.length), xs[j] = y → xs.idxOf y ≤ j
  | x :: xs, 0, _, e => by
    have e : x = y := e
    rw [e, List.idxOf_cons_self]
    exact Nat.zero_le _
  | x :: xs, j + 1, hj, e => by
    have ih := idx_le (xs := xs) (j := j) (by simpa using hj) e
    rw [List.idxOf_cons]
    cases (x == y) with
    | true => exact Nat.zero_le _
    | false => exact Nat.succ_le_succ ih
theorem go_cover (H : Hd h) {xs : List Tx} (hs : ∀ x ∈ xs, x.Sublist h) {x : Tx} (hx : x ∈ xs) : ∃ y ∈ goF xs, ∀ c ∈ x, c ∈ y := by
  have hi := H.hi
  obtain ⟨y, hy, py, mx⟩ := longest (P := fun o => ∀ c ∈ x, c ∈ o) 0 ⟨x, hx, fun c hc => hc, Nat.zero_le _⟩ fun q hq => by have := (hs q hq).length_le; omega
  have hlt := List.idxOf_lt_length_of_mem hy
  refine ⟨y, ?_, py⟩
  unfold goF
  rw [List.mem_map]
  refine ⟨(y, xs.idxOf y), List.mem_filter.mpr ⟨?_, ?_⟩, rfl⟩
  · rw [List.mem_zipIdx_iff_getElem?]
    simp only
    rw [List.getElem?_eq_getElem hlt, List.getElem_idxOf]
  · unfold goB
    simp only [Bool.and_eq_true, decide_eq_true_eq, Bool.not_eq_true', decide_eq_false_iff_not]
    refine ⟨List.filter_eq_nil_iff.mpr fun o ho => ?_, fun m => ?_⟩
    · simp only [Bool.and_eq_true, Bool.not_eq_true', decide_eq_false_iff_not, not_and, Decidable.not_not]
      intro wi
      have sub := withinL_iff.mp wi
      have le := mx o ho fun c hc => sub c (py c hc)
      have ny : Mi.Ris y := H.ris.sublist (hs y hy)
      have no : Mi.Ris o := H.ris.sublist (hs o ho)
      refine (ris_ext ny no fun c => ⟨sub c, fun hc => ?_⟩).symm
      refine Classical.byContradiction fun n => ?_
      have := Tg.nd_in (xs := c :: y) (ys := o) (List.nodup_cons.mpr ⟨n, ny.nodup⟩) fun d hd => (List.mem_cons.mp hd).elim (fun e => e ▸ hc) (sub d)
      simp only [List.length_cons] at this
      omega
    · obtain ⟨j, hj, ej⟩ := List.mem_iff_getElem.mp m
      rw [List.length_take] at hj
      rw [List.getElem_take] at ej
      have : xs.idxOf y ≤ j := by
        exact idx_le (by omega) ej
      omega
theorem back_go (H : Hd h) {xs : List Tx} (hs : ∀ x ∈ xs, x.Sublist h) (B : Back h ss xs) : Back h ss (goF xs) := fun S len kp t lt m => B S len kp t lt fun x hx => by
  obtain ⟨y, hy, sub⟩ := go_cover H hs hx
  obtain ⟨r, hr, e⟩ := m y hy
  exact ⟨r, hr, fun k hk hm => e k hk (sub _ hm)⟩
theorem Spl.back {r : List Tx} (H : Hd h) (ok : ∀ s ∈ ss, SayH h s) (few : ss.length ≤ 100) (sp : Spl h ss f [h] r) : Back h ss r ∧ (∀ q ∈ r, q.Sublist h) := by
  refine sp.ind (fun ps => Back h ss ps ∧ ∀ q ∈ ps, q.Sublist h) (fun a b p s i e => ?_) ⟨back_head, fun q hq => by rw [List.mem_singleton.mp hq]; exact List.Sublist.refl _⟩
  have cf := (cut_facts H ok few i.2 e).1
  exact ⟨back_go H cf (back_cut H ok few (i.2 p (by simp)) (fault_ok e) i.1), fun q hq => cf q ((goF_sub _).subset hq)⟩
theorem goF_nd (xs : List Tx) : (goF xs).Nodup := by
  unfold goF
  have pz : (xs.zipIdx 0).Pairwise (fun a b : Tx × Nat => a.2 < b.2) := List.pairwise_iff_getElem.mpr fun i j hi hj hij => by simpa using hij
  refine List.pairwise_map.mpr (List.Pairwise.imp_of_mem ?_ (List.Pairwise.sublist List.filter_sublist pz))
  intro a b ha hb lt e
  have gb := (List.mem_filter.mp hb).2
  have ma := List.mem_zipIdx' (List.mem_filter.mp ha).1
  have mb := List.mem_zipIdx' (List.mem_filter.mp hb).1
  unfold goB at gb
  simp only [Bool.and_eq_true, decide_eq_true_eq, Bool.not_eq_true', decide_eq_false_iff_not] at gb
  refine gb.2 ?_
  rw [← e]
  exact List.mem_iff_getElem.mpr ⟨a.2, by rw [List.length_take]; omega, by rw [List.getElem_take]; exact ma.2.symm⟩
theorem Spl.nd {r : List Tx} (sp : Spl h ss f [h] r) : r.Nodup := sp.ind (fun ps => ps.Nodup) (fun a b p s _ _ => goF_nd _) (by simp)
end
end Mi
end
section
/-! Pairs of a set and what it tells: growing by them, the needed ones. -/
namespace Mi
open PySem L2 Dn
section
variable {h l : Tx} {ss : List Say} {w : Ds}
abbrev Pr := Tx × Tx
def ClB (ps : List Pr) (X : Nat → Prop) : Prop := ∀ q ∈ ps, (∀ d ∈ q.1, X d) → ∀ d ∈ q.2, X d
def PrOk (h : Tx) (ps : List Pr) : Prop := ∀ q ∈ ps, q.1.Sublist h ∧ q.2.Sublist h
theorem ClB.mono {ps qs : List Pr} {X : Nat → Prop} (s : ∀ q ∈ qs, q ∈ ps) (c : ClB ps X) : ClB qs X := fun q hq => c q (s q hq)
/-! ### needed pairs -/
/-- without q the pairs do not give it -/
def NR (left : List Pr) (q : Pr) : Prop := ∃ X : Nat → Prop, ClB (left.filter fun o => !decide (o = q)) X ∧ (∀ d ∈ q.1, X d) ∧ ¬ ∀ d ∈ q.2, X d
theorem NR.sub {a b : List Pr} {q : Pr} (s : ∀ x ∈ b, x ∈ a) (n : NR a q) : NR b q := by
  obtain ⟨X, c, x1, x2⟩ := n
  exact ⟨X, c.mono fun x hx => List.mem_filter.mpr ⟨s x (List.mem_filter.mp hx).1, (List.mem_filter.mp hx).2⟩, x1, x2⟩
end
end Mi
end
section
/-! The parts made of the needed pairs: third form, what is told stays, they come back. -/
namespace Mi
open PySem L2 Dn
section
variable {h l p : Tx} {ss : List Say} {w : Ds} {N : List Pr}
/-- the needed pairs -/
structure Ned (h : Tx) (ss : List Say) (N : List Pr) : Prop where
  ok : PrOk h N
  one : ∀ q ∈ N, ∃ c ∈ h, q.2 = [c] ∧ c ∉ q.1 ∧ c ∈ toldF h ss q.1 ∧ ∀ y : Tx, y.Sublist h → (∀ d ∈ y, d ∈ q.1) → c ∈ toldF h ss y → q.1 = y
  cl : ∀ X : Nat → Prop, ClB N X → ∀ l : Tx, l.Sublist h → (∀ d ∈ l, X d) → ∀ d ∈ toldF h ss l, X d
  nr : ∀ q ∈ N, NR N q
/-! ### the parts -/
/-- third form of a part -/
def Thd (h : Tx) (ss : List Say) (p : Tx) : Prop := ∀ l : Tx, l.Sublist p → (∀ c ∈ p, c ∈ toldF h ss l) ∨ ∀ c ∈ p, c ∈ toldF h ss l → c ∉ l → ∃ k ∈ partKeys h ss p, c ∈ k
theorem keyt {x : Tx} (hx : x ∈ keysF h ss) : toldF h ss x = h := of_decide_eq_true (List.mem_filter.mp ((leastL_sub _).subset hx)).2
theorem keys {x : Tx} (H : Hd h) (hx : x ∈ keysF h ss) : x.Sublist h := isSub_h H (keysF_sub x hx)
/-! ### what the parts answer -/
structure Joi (h : Tx) (ss : List Say) (N : List Pr) (r : List Tx) : Prop where
  sub : ∀ p ∈ r, p.Sublist h
  ne : ∀ p ∈ r, p ≠ []
  third : ∀ p ∈ r, Thd h ss p
  pr : ∀ q ∈ N, ∃ p ∈ r, (∀ d ∈ q.1, d ∈ p) ∧ ∀ d ∈ q.2, d ∈ p
  key : ∃ p ∈ r, ∃ k ∈ keysF h ss, ∀ d ∈ k, d ∈ p
theorem Joi.go {r : List Tx} (H : Hd h) (j : Joi h ss N r) : Joi h ss N (goF r) := by
  have s : ∀ p ∈ goF r, p ∈ r := fun p hp => (goF_sub r).subset hp
  refine ⟨fun p hp => j.sub p (s p hp), fun p hp => j.ne p (s p hp), fun p hp => j.third p (s p hp), fun q hq => ?_, ?_⟩
  · obtain ⟨p, hp, a, b⟩ := j.pr q hq
    obtain ⟨y, hy, sb⟩ := go_cover H j.sub hp
    exact ⟨y, hy, fun d hd => sb d (a d hd), fun d hd => sb d (b d hd)⟩
  · obtain ⟨p, hp, k, hk, a⟩ := j.key
    obtain ⟨y, hy, sb⟩ := go_cover H j.sub hp
    exact ⟨y, hy, k, hk, fun d hd => sb d (a d hd)⟩
theorem Joi.cover {r : List Tx} (H : Hd h) (n : Ned h ss N) (j : Joi h ss N r) : ∀ c ∈ h, ∃ p ∈ r, c ∈ p := fun c hc => by
  obtain ⟨p, hp, k, hk, a⟩ := j.key
  refine n.cl (fun d => ∃ p ∈ r, d ∈ p) (fun q hq _ d hd => ?_) k (keys H hk) (fun d hd => ⟨p, hp, a d hd⟩) c (by rw [keyt hk]; exact hc)
  obtain ⟨p', hp', _, b⟩ := j.pr q hq
  exact ⟨p', hp', b d hd⟩
theorem Joi.back {r : List Tx} (H : Hd h) (ok : ∀ s ∈ ss, SayH h s) (few : ss.length ≤ 100) (n : Ned h ss N) (j : Joi h ss N r) : Back h ss r := fun S len kp t lt m => by
  obtain ⟨p0, hp0, k0, hk0, a0⟩ := j.key
  obtain ⟨r0, hr0, e0⟩ := m p0 hp0
  have l0 := len r0 hr0
  have all := n.cl (fun d => ∀ k, k < h.length → h.getD k 0 = d → r0.getD k 0 = t.getD k 0) (fun q hq mq d hd k hk ek => by
    obtain ⟨p, hp, a, b⟩ := j.pr q hq
    obtain ⟨x, hx, ex⟩ := m p hp
    have lx := len x hx
    obtain ⟨c, _, e, _, tc, _⟩ := n.one q hq
    have ag : cellsL r0 h q.1 = cellsL x h q.1 := (agree_iff l0 lx).mpr fun k hk hm => by
      rw [mq _ hm k hk rfl, ex k hk (a _ hm)]
    have tk := (agree_iff l0 lx).mp (told_kept len H ok few kp r0 hr0 x hx ag)
    have dt : d ∈ toldF h ss q.1 := by rw [e] at hd; rw [List.mem_singleton.mp hd]; exact tc
    rw [tk k hk (by rw [ek]; exact dt), ex k hk (by rw [ek]; exact b d hd)]) k0 (keys H hk0) (fun d hd k hk ek => e0 k hk (by rw [ek]; exact a0 d hd))
  have : r0 = t := row_ext l0 lt fun k hk => all (h.getD k 0) (by rw [keyt hk0]; exact head_mem hk) k hk rfl
  rw [← this]
  exact hr0
theorem commonL_mono {a b c : Tx} (m : ∀ d ∈ b, d ∈ c) : ∀ d ∈ commonL a b, d ∈ commonL a c := fun d hd => mem_commonL.mpr ⟨(mem_commonL.mp hd).1, m d (mem_commonL.mp hd).2⟩
/-- what stays under growing is closed under each part -/
theorem round_closed (H : Hd h) (ok : ∀ s ∈ ss, SayH h s) (few : ss.length ≤ 100) : ∀ (ps : List Tx) {g s : Tx}, s.Sublist h → (∀ d ∈ g, d ∈ s) → ∀ p ∈ ps, p.Sublist h → ∀ d ∈ commonL p (toldF h ss (commonL p g)), d ∈ roundP h ss ps s
  | [], _, _, _, _, p, hp => nomatch hp
  | q :: ps, g, s, hs, gs, p, hp => fun ph d hd => by
    show d ∈ roundP h ss ps (growP h ss s q)
    rcases List.mem_cons.mp hp with e | m
    · subst e
      refine roundP_low ps (growP_sub s p) d (mem_commonL.mpr ⟨ph.subset (mem_commonL.mp hd).1, List.mem_append_right _ ?_⟩)
      exact mem_commonL.mpr ⟨(mem_commonL.mp hd).1, toldF_mono H ok few (commonL_mono gs) d (mem_commonL.mp hd).2⟩
    · exact round_closed H ok few ps (growP_sub s q) (fun d hd => growP_low hs (gs d hd)) p m ph d hd
theorem iterP_low : ∀ (ps : List Tx) (n : Nat) {s : Tx}, s.Sublist h → ∀ c ∈ s, c ∈ iterP h ss ps n s
  | ps, 0, s, hs, c, hc => hc
  | ps, n + 1, s, hs, c, hc => iterP_low ps n (roundP_sub ps hs) c (roundP_low ps hs c hc)
theorem Joi.grown {r : List Tx} (H : Hd h) (ok : ∀ s ∈ ss, SayH h s) (few : ss.length ≤ 100) (n : Ned h ss N) (j : Joi h ss N r) (hl : l.Sublist h) : ∀ d ∈ toldF h ss l, d ∈ grownF h ss r l := by
  have gs : (grownF h ss r l).Sublist h := iterP_sub r _ hl
  have fix : roundP h ss r (grownF h ss r l) = grownF h ss r l := iter_done H r (h.length + 1) hl (by omega)
  refine n.cl (· ∈ grownF h ss r l) (fun q hq m d hd => ?_) l hl (iterP_low r _ hl)
  obtain ⟨p, hp, a, b⟩ := j.pr q hq
  obtain ⟨c, _, e, _, tc, _⟩ := n.one q hq
  rw [← fix]
  refine round_closed H ok few r gs (fun _ z => z) p hp (j.sub p hp) d (mem_commonL.mpr ⟨b d hd, ?_⟩)
  have dt : d ∈ toldF h ss q.1 := by rw [e] at hd; rw [List.mem_singleton.mp hd]; exact tc
  exact toldF_mono H ok few (fun u hu => mem_commonL.mpr ⟨a u hu, m u hu⟩) d dt
/-! ### the greatest ones stand apart -/
end
end Mi
end
section
/-! joined_up: the parts of a book. -/
namespace Mi
open PySem L2 Dn
end Mi
end
section
/-! What the law looks at: a parting, third form, what is kept, what is lost. -/
namespace Mi
open PySem L2 Dn
section
variable {h l : Tx} {ss : List Say} {ps : List Tx} {w : Ds} {N : List Pr}
/-! ### third form, as the law looks -/
theorem word_asc {s : Say} (a : SayH h s) : Asc s.w := by rcases a.wd with e | e <;> rw [e]; exact tells_asc; exact parts_asc
end
end Mi
end
section
/-! Two tables joined on the columns that they share. -/
namespace Mi
open PySem L2 Dn
end Mi
end
section
/-! paired, joined. -/
namespace Mi
open PySem L2 Dn
end Mi
end
section
/-! Tables joined one after another; the cuts of a table. -/
namespace Mi
open PySem L2 Dn
end Mi
end
section
/-! Two cuts joined: all crossings. -/
namespace Mi
open PySem L2 Dn
section
variable {A B h : Tx} {S : List (List Int)} {w : Ds}
theorem okRows_len {rs : List (List Int)} {n : Nat} (len : ∀ r ∈ rs, r.length = n) (few : rs.length < 60000) : okRows rs = true := by
  unfold okRows
  have l1 := addAll_len rs []
  simp only [List.length_nil, Nat.zero_add] at l1
  simp only [Bool.and_eq_true, decide_eq_true_eq, Bool.or_eq_true]
  refine ⟨⟨by omega, ?_⟩, by rw [sz_line]; omega⟩
  by_cases z : n = 0
  · right
    refine List.all_eq_true.mpr fun r hr => ?_
    have := len r hr
    rw [z] at this
    rw [List.length_eq_zero_iff.mp this]
    rfl
  · left
    refine List.all_eq_true.mpr fun r hr => ?_
    have := len r hr
    cases r with
    | nil => exact absurd this.symm z
    | cons a r => rfl
end
end Mi
end
section
namespace Qk04
open PySem L2 Dn Mi
/-! _law_cells -/
abbrev F__law_cells (B : Bs) : Fc := { toBs := B, N := ["_law_line", "_law_head_here", "_law_low", "_law_k"], sc := defScope s__law_cells, lv := 0, calm := true, top := true, cd := none, qual := "_law_cells" ++ ".<locals>." }
theorem nd__law_cells (B : Bs) : (F__law_cells B).N.Nodup := (by decide +kernel : (["_law_line", "_law_head_here", "_law_low", "_law_k"] : List Str).Nodup)
/-! _law_crossed -/
abbrev F__law_crossed (B : Bs) : Fc := { toBs := B, N := ["_law_one", "_law_other", "_law_head_here", "_law_taken", "_law_k"], sc := defScope s__law_crossed, lv := 0, calm := true, top := true, cd := none, qual := "_law_crossed" ++ ".<locals>." }
theorem nd__law_crossed (B : Bs) : (F__law_crossed B).N.Nodup := (by decide +kernel : (["_law_one", "_law_other", "_law_head_here", "_law_taken", "_law_k"] : List Str).Nodup)
/-! _law_clash -/
abbrev F__law_clash (B : Bs) : Fc := { toBs := B, N := ["_law_heap_here", "_law_head_here", "_law_saying_here", "_law_word", "_law_low", "_law_high", "_law_k", "_law_j", "_law_one", "_law_other", "_law_unlike", "_law_mix"], sc := defScope s__law_clash, lv := 1, calm := true, top := true, cd := none, qual := "_law_clash" ++ ".<locals>." }
theorem nd__law_clash (B : Bs) : (F__law_clash B).N.Nodup := (by decide +kernel : (["_law_heap_here", "_law_head_here", "_law_saying_here", "_law_word", "_law_low", "_law_high", "_law_k", "_law_j", "_law_one", "_law_other", "_law_unlike", "_law_mix"] : List Str).Nodup)
/-! _law_draw -/
abbrev F__law_draw (B : Bs) : Fc := { toBs := B, N := ["_law_d", "_law_many", "_law_cell", "_law_got"], sc := defScope s__law_draw, lv := 0, calm := true, top := true, cd := none, qual := "_law_draw" ++ ".<locals>." }
theorem nd__law_draw (B : Bs) : (F__law_draw B).N.Nodup := (by decide +kernel : (["_law_d", "_law_many", "_law_cell", "_law_got"] : List Str).Nodup)
/-! _law_letters -/
abbrev F__law_letters (B : Bs) : Fc := { toBs := B, N := [], sc := defScope s__law_letters, lv := 0, calm := true, top := true, cd := none, qual := "_law_letters" ++ ".<locals>." }
/-! _law_head_of -/
abbrev F__law_head_of (B : Bs) : Fc := { toBs := B, N := ["_law_d", "_law_many", "_law_head_here", "_law_at", "_law_spare_signs", "_law_k", "_law_skip"], sc := defScope s__law_head_of, lv := 1, calm := true, top := true, cd := none, qual := "_law_head_of" ++ ".<locals>." }
theorem nd__law_head_of (B : Bs) : (F__law_head_of B).N.Nodup := (by decide +kernel : (["_law_d", "_law_many", "_law_head_here", "_law_at", "_law_spare_signs", "_law_k", "_law_skip"] : List Str).Nodup)
/-! _law_head -/
abbrev F__law_head (B : Bs) : Fc := { toBs := B, N := ["_law_d"], sc := defScope s__law_head, lv := 2, calm := true, top := true, cd := none, qual := "_law_head" ++ ".<locals>." }
/-! _law_heap -/
abbrev F__law_heap (B : Bs) : Fc := { toBs := B, N := ["_law_d", "_law_head_here", "_law_most", "_law_wide", "_law_k", "_law_sign"], sc := defScope s__law_heap, lv := 1, calm := true, top := true, cd := none, qual := "_law_heap" ++ ".<locals>." }
theorem nd__law_heap (B : Bs) : (F__law_heap B).N.Nodup := (by decide +kernel : (["_law_d", "_law_head_here", "_law_most", "_law_wide", "_law_k", "_law_sign"] : List Str).Nodup)
/-! _law_rising -/
abbrev F__law_rising (B : Bs) : Fc := { toBs := B, N := ["_law_heap_here", "_law_line"], sc := defScope s__law_rising, lv := 0, calm := true, top := true, cd := none, qual := "_law_rising" ++ ".<locals>." }
theorem nd__law_rising (B : Bs) : (F__law_rising B).N.Nodup := (by decide +kernel : (["_law_heap_here", "_law_line"] : List Str).Nodup)
/-! _law_side -/
abbrev F__law_side (B : Bs) : Fc := { toBs := B, N := ["_law_d", "_law_head_here", "_law_odds", "_law_sign"], sc := defScope s__law_side, lv := 1, calm := true, top := true, cd := none, qual := "_law_side" ++ ".<locals>." }
theorem nd__law_side (B : Bs) : (F__law_side B).N.Nodup := (by decide +kernel : (["_law_d", "_law_head_here", "_law_odds", "_law_sign"] : List Str).Nodup)
/-! _law_saying -/
abbrev F__law_saying (B : Bs) : Fc := { toBs := B, N := ["_law_d", "_law_head_here", "_law_word", "_law_low", "_law_high"], sc := defScope s__law_saying, lv := 2, calm := true, top := true, cd := none, qual := "_law_saying" ++ ".<locals>." }
theorem nd__law_saying (B : Bs) : (F__law_saying B).N.Nodup := (by decide +kernel : (["_law_d", "_law_head_here", "_law_word", "_law_low", "_law_high"] : List Str).Nodup)
/-! _law_start -/
abbrev F__law_start (B : Bs) : Fc := { toBs := B, N := ["_law_script"], sc := defScope s__law_start, lv := 0, calm := true, top := true, cd := none, qual := "_law_start" ++ ".<locals>." }
/-! _law_truth -/
abbrev F__law_truth (B : Bs) : Fc := { toBs := B, N := ["_law_x", "_law_due"], sc := defScope s__law_truth, lv := 0, calm := true, top := true, cd := none, qual := "_law_truth" ++ ".<locals>." }
/-! cells_of -/
abbrev F_cells_of (B : Bs) : Fc := { toBs := B, N := ["row", "columns", "part", "cell", "sign"], sc := defScope s_cells_of, lv := 0, calm := true, top := true, cd := none, qual := "cells_of" ++ ".<locals>." }
theorem nd_cells_of (B : Bs) : (F_cells_of B).N.Nodup := (by decide +kernel : (["row", "columns", "part", "cell", "sign"] : List Str).Nodup)
/-! ordered -/
abbrev F_ordered (B : Bs) : Fc := { toBs := B, N := ["signs"], sc := defScope s_ordered, lv := 0, calm := true, top := true, cd := none, qual := "ordered" ++ ".<locals>." }
/-! union -/
abbrev F_union (B : Bs) : Fc := { toBs := B, N := ["one", "other"], sc := defScope s_union, lv := 1, calm := true, top := true, cd := none, qual := "union" ++ ".<locals>." }
/-! wanted -/
abbrev F_wanted (B : Bs) : Fc := { toBs := B, N := ["one", "other", "columns", "taken", "a", "b", "sign"], sc := defScope s_wanted, lv := 0, calm := true, top := true, cd := none, qual := "wanted" ++ ".<locals>." }
theorem nd_wanted (B : Bs) : (F_wanted B).N.Nodup := (by decide +kernel : (["one", "other", "columns", "taken", "a", "b", "sign"] : List Str).Nodup)
/-! clash_of_parts -/
abbrev F_clash_of_parts (B : Bs) : Fc := { toBs := B, N := ["rows", "columns", "left", "right", "there", "taken", "one", "other", "lacking", "row"], sc := defScope s_clash_of_parts, lv := 2, calm := true, top := true, cd := none, qual := "clash_of_parts" ++ ".<locals>." }
theorem nd_clash_of_parts (B : Bs) : (F_clash_of_parts B).N.Nodup := (by decide +kernel : (["rows", "columns", "left", "right", "there", "taken", "one", "other", "lacking", "row"] : List Str).Nodup)
/-! clash_of_tells -/
abbrev F_clash_of_tells (B : Bs) : Fc := { toBs := B, N := ["rows", "columns", "left", "right", "at", "one", "other"], sc := defScope s_clash_of_tells, lv := 1, calm := true, top := true, cd := none, qual := "clash_of_tells" ++ ".<locals>." }
theorem nd_clash_of_tells (B : Bs) : (F_clash_of_tells B).N.Nodup := (by decide +kernel : (["rows", "columns", "left", "right", "at", "one", "other"] : List Str).Nodup)
/-! rising -/
abbrev F_rising (B : Bs) : Fc := { toBs := B, N := ["rows", "row"], sc := defScope s_rising, lv := 0, calm := true, top := true, cd := none, qual := "rising" ++ ".<locals>." }
theorem nd_rising (B : Bs) : (F_rising B).N.Nodup := (by decide +kernel : (["rows", "row"] : List Str).Nodup)
/-! without -/
abbrev F_without (B : Bs) : Fc := { toBs := B, N := ["one", "other", "sign"], sc := defScope s_without, lv := 0, calm := true, top := true, cd := none, qual := "without" ++ ".<locals>." }
theorem nd_without (B : Bs) : (F_without B).N.Nodup := (by decide +kernel : (["one", "other", "sign"] : List Str).Nodup)
/-! clash -/
abbrev F_clash (B : Bs) : Fc := { toBs := B, N := ["rows", "columns", "saying", "word", "left", "right"], sc := defScope s_clash, lv := 3, calm := true, top := true, cd := none, qual := "clash" ++ ".<locals>." }
theorem nd_clash (B : Bs) : (F_clash B).N.Nodup := (by decide +kernel : (["rows", "columns", "saying", "word", "left", "right"] : List Str).Nodup)
/-! keeps -/
abbrev F_keeps (B : Bs) : Fc := { toBs := B, N := ["rows", "columns", "saying"], sc := defScope s_keeps, lv := 4, calm := true, top := true, cd := none, qual := "keeps" ++ ".<locals>." }
/-! law -/
abbrev F_law (B : Bs) : Fc := { toBs := B, N := ["_law_script", "_law_d", "_law_head_here", "_law_k", "_law_heap_here", "_law_saying_here", "_law_due", "_law_handed", "_law_kept"], sc := defScope s_law, lv := 5, calm := true, top := true, cd := none, qual := "law" ++ ".<locals>.", gd := true }
theorem nd_law (B : Bs) : (F_law B).N.Nodup := (by decide +kernel : (["_law_script", "_law_d", "_law_head_here", "_law_k", "_law_heap_here", "_law_saying_here", "_law_due", "_law_handed", "_law_kept"] : List Str).Nodup)
structure Hy (B : Bs) : Prop where
  kin : B.K.In B.base
  ns : B.base.Ns mainGlobals B.mg
  c : He.SaysD fa fn B.K
  tabs : ∀ p ∈ tf, LamX.TabB B.base B.mg (He.cT B.K p).1 (He.cT B.K p).2
  tb : B.tb = tbs B.K
  ex : ex B.K = true
  cls : B.cls = clsOf B.K excs
  dic : (ts.map fun t => He.dicW B.K (t.1 B.K)) = ts.map fun t => some (He.keysIn B.w.params t.2)
section
variable {B : Bs} (Y : Hy B)
include Y
theorem fr_abs : B.mg "abs" = none := He.free_ok Y.kin Y.ns (Y.c.fact 24 (f := .free "abs") rfl)
theorem fr_bool : B.mg "bool" = none := He.free_ok Y.kin Y.ns (Y.c.fact 25 (f := .free "bool") rfl)
theorem fr_enumerate : B.mg "enumerate" = none := He.free_ok Y.kin Y.ns (Y.c.fact 26 (f := .free "enumerate") rfl)
theorem fr_isinstance : B.mg "isinstance" = none := He.free_ok Y.kin Y.ns (Y.c.fact 27 (f := .free "isinstance") rfl)
theorem fr_len : B.mg "len" = none := He.free_ok Y.kin Y.ns (Y.c.fact 28 (f := .free "len") rfl)
theorem fr_list : B.mg "list" = none := He.free_ok Y.kin Y.ns (Y.c.fact 29 (f := .free "list") rfl)
theorem fr_min : B.mg "min" = none := He.free_ok Y.kin Y.ns (Y.c.fact 30 (f := .free "min") rfl)
theorem fr_range : B.mg "range" = none := He.free_ok Y.kin Y.ns (Y.c.fact 31 (f := .free "range") rfl)
theorem fr_repr : B.mg "repr" = none := He.free_ok Y.kin Y.ns (Y.c.fact 32 (f := .free "repr") rfl)
theorem fr_set : B.mg "set" = none := He.free_ok Y.kin Y.ns (Y.c.fact 33 (f := .free "set") rfl)
theorem fr_sorted : B.mg "sorted" = none := He.free_ok Y.kin Y.ns (Y.c.fact 34 (f := .free "sorted") rfl)
theorem fr_tuple : B.mg "tuple" = none := He.free_ok Y.kin Y.ns (Y.c.fact 35 (f := .free "tuple") rfl)
theorem fr_zip : B.mg "zip" = none := He.free_ok Y.kin Y.ns (Y.c.fact 36 (f := .free "zip") rfl)
theorem con_TELLS {F : Fc} {p : PySem.Pos} (hF : F.toBs = B) (hg : F.sc.names.lookup ("TELLS" : Str) = some .globalImplicit) : DE F (.Name "TELLS" p) (gOk (.str "tells")) := by
  subst hF
  exact let ⟨t, h⟩ := He.str_ok Y.kin Y.ns (Y.c.fact 37 (f := .str "TELLS" "tells") rfl); de_glob hg h (v := .str "tells") ⟨t, rfl⟩ fun _ _ _ _ => .str _
end
end Qk04
end
section
namespace Qk04
open PySem L2 Dn Mi
theorem sc__law_cells : FnScope ["_law_line", "_law_head_here", "_law_low", "_law_k"] ["_law_line", "_law_head_here", "_law_low"] (defScope s__law_cells) := ⟨rfl, rfl, rfl, by decide +kernel, rfl, by decide +kernel, by decide +kernel⟩
section
variable {B : Bs} (Y : Hy B)
include Y
theorem d__law_cells : DB (F__law_cells B) (defBody s__law_cells) g__law_cells :=
  (db_one (ds_ret (de_tuple (by kernel_rfl) (fr_tuple Y) (dl_cons (de_frz (df_lc [("_law_k", 3)] rfl (nd__law_cells B) (di_range1 (by kernel_rfl) (fr_range Y) (dl_cons (de_len (by kernel_rfl) (fr_len Y) (dl_cons (de_var 1 rfl (.inr (.inl (by kernel_rfl)))) dl_nil)) dl_nil)) (by kernel_rfl) (dg_name 3 (nd__law_cells B) rfl (.inl (by kernel_rfl)) (.inr (by kernel_rfl))) (dts_one (dt_cmp c_in (de_ix (de_var 1 rfl (.inr (.inl (by kernel_rfl)))) (de_var 3 rfl (.inl (by kernel_rfl)))) (de_var 2 rfl (.inr (.inl (by kernel_rfl)))))) (de_ix (de_var 0 rfl (.inr (.inl (by kernel_rfl)))) (de_var 3 rfl (.inl (by kernel_rfl)))) (by decide))) dl_nil))))
theorem k__law_cells : FkA B 1 "_law_cells" 3 [] m__law_cells := by
  obtain ⟨fd, Fu⟩ := Y.c.def_ 0 (d := dd__law_cells) rfl
  exact fk_of (ps := ["_law_line", "_law_head_here", "_law_low"]) Fu (He.glo_ok Y.kin Y.ns (Y.c.fact 0 (f := .glo "_law_cells") rfl)) (fn_den 0 none Fu sc__law_cells (fun _ h => nomatch h) (d__law_cells Y)) (Fu.bindsN fun _ _ _ _ _ _ us hl => by match us, hl with | [_, _, _], _ => rfl)
end
theorem sc__law_crossed : FnScope ["_law_one", "_law_other", "_law_head_here", "_law_taken", "_law_k"] ["_law_one", "_law_other", "_law_head_here", "_law_taken"] (defScope s__law_crossed) := ⟨rfl, rfl, rfl, by decide +kernel, rfl, by decide +kernel, by decide +kernel⟩
section
variable {B : Bs} (Y : Hy B)
include Y
theorem d__law_crossed : DB (F__law_crossed B) (defBody s__law_crossed) g__law_crossed :=
  (db_one (ds_ret (de_tuple (by kernel_rfl) (fr_tuple Y) (dl_cons (de_frz (df_lc [("_law_k", 4)] rfl (nd__law_crossed B) (di_range1 (by kernel_rfl) (fr_range Y) (dl_cons (de_len (by kernel_rfl) (fr_len Y) (dl_cons (de_var 2 rfl (.inr (.inl (by kernel_rfl)))) dl_nil)) dl_nil)) (by kernel_rfl) (dg_name 4 (nd__law_crossed B) rfl (.inl (by kernel_rfl)) (.inr (by kernel_rfl))) dts_nil (de_if (dt_cmp c_in (de_ix (de_var 2 rfl (.inr (.inl (by kernel_rfl)))) (de_var 4 rfl (.inl (by kernel_rfl)))) (de_var 3 rfl (.inr (.inl (by kernel_rfl))))) (de_ix (de_var 0 rfl (.inr (.inl (by kernel_rfl)))) (de_var 4 rfl (.inl (by kernel_rfl)))) (de_ix (de_var 1 rfl (.inr (.inl (by kernel_rfl)))) (de_var 4 rfl (.inl (by kernel_rfl))))) (by decide))) dl_nil))))
theorem k__law_crossed : FkA B 1 "_law_crossed" 4 [] m__law_crossed := by
  obtain ⟨fd, Fu⟩ := Y.c.def_ 1 (d := dd__law_crossed) rfl
  exact fk_of (ps := ["_law_one", "_law_other", "_law_head_here", "_law_taken"]) Fu (He.glo_ok Y.kin Y.ns (Y.c.fact 1 (f := .glo "_law_crossed") rfl)) (fn_den 0 none Fu sc__law_crossed (fun _ h => nomatch h) (d__law_crossed Y)) (Fu.bindsN fun _ _ _ _ _ _ us hl => by match us, hl with | [_, _, _, _], _ => rfl)
end
theorem sc__law_clash : FnScope ["_law_heap_here", "_law_head_here", "_law_saying_here", "_law_word", "_law_low", "_law_high", "_law_k", "_law_j", "_law_one", "_law_other", "_law_unlike", "_law_mix"] ["_law_heap_here", "_law_head_here", "_law_saying_here"] (defScope s__law_clash) := ⟨rfl, rfl, rfl, by decide +kernel, rfl, by decide +kernel, by decide +kernel⟩
section
variable {B : Bs} (Y : Hy B)
include Y
theorem db__law_clash_0 : DB (F__law_clash B) (bodyAt (defBody s__law_clash) [(.inl 1), (.inl 0)]) b__law_clash_0 :=
  (db_cons (ds_set 8 (nd__law_clash B) rfl (.inl (by kernel_rfl)) (.inl rfl) (de_ix (de_var 0 rfl (.inl (by kernel_rfl))) (de_var 6 rfl (.inl (by kernel_rfl))))) (db_cons (ds_set 9 (nd__law_clash B) rfl (.inl (by kernel_rfl)) (.inl rfl) (de_ix (de_var 0 rfl (.inl (by kernel_rfl))) (de_var 7 rfl (.inl (by kernel_rfl))))) (db_one (ds_if (dt_cmp c_eq (de_call (k__law_cells Y) (show 1 ≤ 1 from by decide) (by kernel_rfl) (dl_cons (de_var 8 rfl (.inl (by kernel_rfl))) (dl_cons (de_var 1 rfl (.inl (by kernel_rfl))) (dl_cons (de_var 4 rfl (.inl (by kernel_rfl))) dl_nil)))) (de_call (k__law_cells Y) (show 1 ≤ 1 from by decide) (by kernel_rfl) (dl_cons (de_var 9 rfl (.inl (by kernel_rfl))) (dl_cons (de_var 1 rfl (.inl (by kernel_rfl))) (dl_cons (de_var 4 rfl (.inl (by kernel_rfl))) dl_nil))))) (db_cons (ds_set 10 (nd__law_clash B) rfl (.inl (by kernel_rfl)) (.inl rfl) (de_cmp c_ne (de_call (k__law_cells Y) (show 1 ≤ 1 from by decide) (by kernel_rfl) (dl_cons (de_var 8 rfl (.inl (by kernel_rfl))) (dl_cons (de_var 1 rfl (.inl (by kernel_rfl))) (dl_cons (de_var 5 rfl (.inl (by kernel_rfl))) dl_nil)))) (de_call (k__law_cells Y) (show 1 ≤ 1 from by decide) (by kernel_rfl) (dl_cons (de_var 9 rfl (.inl (by kernel_rfl))) (dl_cons (de_var 1 rfl (.inl (by kernel_rfl))) (dl_cons (de_var 5 rfl (.inl (by kernel_rfl))) dl_nil)))))) (db_cons (ds_if (dt_w (dw_and (dt_cmp c_eq (de_var 3 rfl (.inl (by kernel_rfl))) de_str) (dw_and (dt_cmp c_gt (de_var 7 rfl (.inl (by kernel_rfl))) (de_var 6 rfl (.inl (by kernel_rfl)))) (dw_and1 (dt_val (de_var 10 rfl (.inl (by kernel_rfl)))))))) (db_one (ds_ret (de_tup (dl_cons (de_var 8 rfl (.inl (by kernel_rfl))) (dl_cons (de_var 9 rfl (.inl (by kernel_rfl))) dl_nil))))) db_nil) (db_cons (ds_set 11 (nd__law_clash B) rfl (.inl (by kernel_rfl)) (.inl rfl) (de_call (k__law_crossed Y) (show 1 ≤ 1 from by decide) (by kernel_rfl) (dl_cons (de_var 8 rfl (.inl (by kernel_rfl))) (dl_cons (de_var 9 rfl (.inl (by kernel_rfl))) (dl_cons (de_var 1 rfl (.inl (by kernel_rfl))) (dl_cons (de_op k_add (de_var 4 rfl (.inl (by kernel_rfl))) (de_var 5 rfl (.inl (by kernel_rfl)))) dl_nil)))))) (db_one (ds_if (dt_w (dw_and (dt_cmp c_eq (de_var 3 rfl (.inl (by kernel_rfl))) de_str) (dw_and1 (dt_cmp c_notIn (de_var 11 rfl (.inl (by kernel_rfl))) (de_var 0 rfl (.inl (by kernel_rfl))))))) (db_one (ds_ret (de_tup (dl_cons (de_var 8 rfl (.inl (by kernel_rfl))) (dl_cons (de_var 9 rfl (.inl (by kernel_rfl))) (dl_cons (de_var 11 rfl (.inl (by kernel_rfl))) dl_nil)))))) db_nil))))) db_nil))))
theorem db__law_clash_1 : DB (F__law_clash B) (bodyAt (defBody s__law_clash) [(.inl 1)]) b__law_clash_1 :=
  (db_one (ds_for rfl (di_range1 (by kernel_rfl) (fr_range Y) (dl_cons (de_len (by kernel_rfl) (fr_len Y) (dl_cons (de_var 0 rfl (.inl (by kernel_rfl))) dl_nil)) dl_nil)) (dg_name 7 (nd__law_clash B) rfl (.inl (by kernel_rfl)) (.inl rfl)) (db__law_clash_0 Y)))
theorem d__law_clash : DB (F__law_clash B) (defBody s__law_clash) g__law_clash :=
  (db_cons (ds_asg (de_var 2 rfl (.inl (by kernel_rfl))) (dg_tup rfl (dgs_cons (dg_name 3 (nd__law_clash B) rfl (.inl (by kernel_rfl)) (.inl rfl)) (dgs_cons (dg_name 4 (nd__law_clash B) rfl (.inl (by kernel_rfl)) (.inl rfl)) (dgs_cons (dg_name 5 (nd__law_clash B) rfl (.inl (by kernel_rfl)) (.inl rfl)) dgs_nil))))) (db_cons (ds_for rfl (di_range1 (by kernel_rfl) (fr_range Y) (dl_cons (de_len (by kernel_rfl) (fr_len Y) (dl_cons (de_var 0 rfl (.inl (by kernel_rfl))) dl_nil)) dl_nil)) (dg_name 6 (nd__law_clash B) rfl (.inl (by kernel_rfl)) (.inl rfl)) (db__law_clash_1 Y)) (db_one (ds_ret de_non))))
theorem k__law_clash : FkA B 2 "_law_clash" 3 [] m__law_clash := by
  obtain ⟨fd, Fu⟩ := Y.c.def_ 2 (d := dd__law_clash) rfl
  exact fk_of (ps := ["_law_heap_here", "_law_head_here", "_law_saying_here"]) Fu (He.glo_ok Y.kin Y.ns (Y.c.fact 2 (f := .glo "_law_clash") rfl)) (fn_den 1 none Fu sc__law_clash (fun _ h => nomatch h) (d__law_clash Y)) (Fu.bindsN fun _ _ _ _ _ _ us hl => by match us, hl with | [_, _, _], _ => rfl)
end
theorem sc__law_draw : FnScope ["_law_d", "_law_many", "_law_cell", "_law_got"] ["_law_d", "_law_many"] (defScope s__law_draw) := ⟨rfl, rfl, rfl, by decide +kernel, rfl, by decide +kernel, by decide +kernel⟩
section
variable {B : Bs} (Y : Hy B)
include Y
theorem d__law_draw : DB (F__law_draw B) (defBody s__law_draw) g__law_draw :=
  (db_cons (ds_if (dt_cmp c_gt (de_ix (de_var 0 rfl (.inl (by kernel_rfl))) de_int) de_int) (db_cons (ds_set 3 (nd__law_draw B) rfl (.inl (by kernel_rfl)) (.inl rfl) (de_op k_mod (de_ix (de_var 0 rfl (.inl (by kernel_rfl))) de_int) (de_var 1 rfl (.inl (by kernel_rfl))))) (db_cons (ds_wd 0 rfl (.inl (by kernel_rfl)) (de_op k_div (de_ix (de_var 0 rfl (.inl (by kernel_rfl))) de_int) (de_var 1 rfl (.inl (by kernel_rfl)))) (by decide)) (db_one (ds_ret (de_var 3 rfl (.inl (by kernel_rfl))))))) db_nil) (db_cons (ds_set 2 (nd__law_draw B) rfl (.inl (by kernel_rfl)) (.inl rfl) (de_if (dt_cmp c_gt (de_len (by kernel_rfl) (fr_len Y) (dl_cons (de_ix (de_var 0 rfl (.inl (by kernel_rfl))) de_int) dl_nil)) de_int) (de_ix (de_ix (de_var 0 rfl (.inl (by kernel_rfl))) de_int) (de_op k_mod (de_ix (de_var 0 rfl (.inl (by kernel_rfl))) de_int) (de_len (by kernel_rfl) (fr_len Y) (dl_cons (de_ix (de_var 0 rfl (.inl (by kernel_rfl))) de_int) dl_nil)))) de_int)) (db_cons (ds_wd 0 rfl (.inl (by kernel_rfl)) (de_op k_add (de_ix (de_var 0 rfl (.inl (by kernel_rfl))) de_int) de_int) (by decide)) (db_cons (ds_if (dt_cmp c_ge (de_abs (by kernel_rfl) (fr_abs Y) (dl_cons (de_var 2 rfl (.inl (by kernel_rfl))) dl_nil)) (de_op k_pow de_int de_int)) (db_cons (ds_wd 0 rfl (.inl (by kernel_rfl)) (de_op k_div (de_abs (by kernel_rfl) (fr_abs Y) (dl_cons (de_var 2 rfl (.inl (by kernel_rfl))) dl_nil)) (de_var 1 rfl (.inl (by kernel_rfl)))) (by decide)) (db_one (ds_ret (de_op k_mod (de_abs (by kernel_rfl) (fr_abs Y) (dl_cons (de_var 2 rfl (.inl (by kernel_rfl))) dl_nil)) (de_var 1 rfl (.inl (by kernel_rfl))))))) db_nil) (db_cons (ds_wd 0 rfl (.inl (by kernel_rfl)) (de_op k_mod (de_op k_add (de_op k_add (de_op k_mul (de_ix (de_var 0 rfl (.inl (by kernel_rfl))) de_int) de_int) (de_op k_mod (de_var 2 rfl (.inl (by kernel_rfl))) de_int)) (de_ix (de_var 0 rfl (.inl (by kernel_rfl))) de_int)) de_int) (by decide)) (db_one (ds_ret (de_op k_mod (de_op k_div (de_ix (de_var 0 rfl (.inl (by kernel_rfl))) de_int) de_int) (de_var 1 rfl (.inl (by kernel_rfl)))))))))))
theorem k__law_draw : FkA B 1 "_law_draw" 2 [] m__law_draw := by
  obtain ⟨fd, Fu⟩ := Y.c.def_ 3 (d := dd__law_draw) rfl
  exact fk_of (ps := ["_law_d", "_law_many"]) Fu (He.glo_ok Y.kin Y.ns (Y.c.fact 3 (f := .glo "_law_draw") rfl)) (fn_den 0 none Fu sc__law_draw (fun _ h => nomatch h) (d__law_draw Y)) (Fu.bindsN fun _ _ _ _ _ _ us hl => by match us, hl with | [_, _], _ => rfl)
end
theorem sc__law_letters : FnScope [] [] (defScope s__law_letters) := ⟨rfl, rfl, rfl, by decide +kernel, rfl, by decide +kernel, by decide +kernel⟩
section
variable {B : Bs} (Y : Hy B)
include Y
theorem d__law_letters : DB (F__law_letters B) (defBody s__law_letters) g__law_letters :=
  (db_one (ds_ret de_str))
theorem k__law_letters : FkA B 1 "_law_letters" 0 [] m__law_letters := by
  obtain ⟨fd, Fu⟩ := Y.c.def_ 4 (d := dd__law_letters) rfl
  exact fk_of (ps := []) Fu (He.glo_ok Y.kin Y.ns (Y.c.fact 4 (f := .glo "_law_letters") rfl)) (fn_den 0 none Fu sc__law_letters (fun _ h => nomatch h) (d__law_letters Y)) (Fu.bindsN fun _ _ _ _ _ _ us hl => by match us, hl with | [], _ => rfl)
end
theorem sc__law_head_of : FnScope ["_law_d", "_law_many", "_law_head_here", "_law_at", "_law_spare_signs", "_law_k", "_law_skip"] ["_law_d", "_law_many"] (defScope s__law_head_of) := ⟨rfl, rfl, rfl, by decide +kernel, rfl, by decide +kernel, by decide +kernel⟩
section
variable {B : Bs} (Y : Hy B)
include Y
theorem db__law_head_of_0 : DB (F__law_head_of B) (bodyAt (defBody s__law_head_of) [(.inl 1)]) b__law_head_of_0 :=
  (db_cons (ds_set 6 (nd__law_head_of B) rfl (.inl (by kernel_rfl)) (.inl rfl) (de_call (k__law_draw Y) (show 1 ≤ 1 from by decide) (by kernel_rfl) (dl_cons (de_var 0 rfl (.inl (by kernel_rfl))) (dl_cons (de_op k_add (de_if (dt_cmp c_eq (de_var 5 rfl (.inl (by kernel_rfl))) de_int) (de_var 4 rfl (.inl (by kernel_rfl))) (de_min2 rfl (by kernel_rfl) (fr_min Y) (dl_cons (de_var 4 rfl (.inl (by kernel_rfl))) (dl_cons de_int dl_nil)))) de_int) dl_nil)))) (db_cons (ds_set 4 (nd__law_head_of B) rfl (.inl (by kernel_rfl)) (.inl rfl) (de_op k_sub (de_var 4 rfl (.inl (by kernel_rfl))) (de_var 6 rfl (.inl (by kernel_rfl))))) (db_cons (ds_set 2 (nd__law_head_of B) rfl (.inl (by kernel_rfl)) (.inl rfl) (de_op k_add (de_var 2 rfl (.inl (by kernel_rfl))) (de_ix (de_call0 (k__law_letters Y) (show 1 ≤ 1 from by decide) (by kernel_rfl)) (de_op k_add (de_var 3 rfl (.inl (by kernel_rfl))) (de_var 6 rfl (.inl (by kernel_rfl))))))) (db_one (ds_set 3 (nd__law_head_of B) rfl (.inl (by kernel_rfl)) (.inl rfl) (de_op k_add (de_op k_add (de_var 3 rfl (.inl (by kernel_rfl))) (de_var 6 rfl (.inl (by kernel_rfl)))) de_int))))))
theorem d__law_head_of : DB (F__law_head_of B) (defBody s__law_head_of) g__law_head_of :=
  (db_cons (ds_par3 2 3 4 rfl (nd__law_head_of B) rfl rfl rfl (by decide) (by decide) (by decide) (by kernel_rfl) (by kernel_rfl) (by kernel_rfl) (dl_cons de_str (dl_cons de_int (dl_cons (de_op k_sub de_int (de_var 1 rfl (.inl (by kernel_rfl)))) dl_nil))) (fun env h => by obtain ⟨⟩ := env; cases h; rfl)) (db_cons (ds_for rfl (di_range1 (by kernel_rfl) (fr_range Y) (dl_cons (de_var 1 rfl (.inl (by kernel_rfl))) dl_nil)) (dg_name 5 (nd__law_head_of B) rfl (.inl (by kernel_rfl)) (.inl rfl)) (db__law_head_of_0 Y)) (db_one (ds_ret (de_var 2 rfl (.inl (by kernel_rfl)))))))
theorem k__law_head_of : FkA B 2 "_law_head_of" 2 [] m__law_head_of := by
  obtain ⟨fd, Fu⟩ := Y.c.def_ 5 (d := dd__law_head_of) rfl
  exact fk_of (ps := ["_law_d", "_law_many"]) Fu (He.glo_ok Y.kin Y.ns (Y.c.fact 5 (f := .glo "_law_head_of") rfl)) (fn_den 1 none Fu sc__law_head_of (fun _ h => nomatch h) (d__law_head_of Y)) (Fu.bindsN fun _ _ _ _ _ _ us hl => by match us, hl with | [_, _], _ => rfl)
end
theorem sc__law_head : FnScope ["_law_d"] ["_law_d"] (defScope s__law_head) := ⟨rfl, rfl, rfl, by decide +kernel, rfl, by decide +kernel, by decide +kernel⟩
section
variable {B : Bs} (Y : Hy B)
include Y
theorem d__law_head : DB (F__law_head B) (defBody s__law_head) g__law_head :=
  (db_one (ds_retC (k__law_head_of Y) (show 2 ≤ 2 from by decide) (by kernel_rfl) (dl_cons (de_var 0 rfl (.inl (by kernel_rfl))) (dl_cons (de_op k_add de_int (de_call (k__law_draw Y) (show 1 ≤ 2 from by decide) (by kernel_rfl) (dl_cons (de_var 0 rfl (.inl (by kernel_rfl))) (dl_cons (de_ix (de_frz (df_lst (dl_cons de_int (dl_cons de_int (dl_cons de_int dl_nil))))) (de_call (k__law_draw Y) (show 1 ≤ 2 from by decide) (by kernel_rfl) (dl_cons (de_var 0 rfl (.inl (by kernel_rfl))) (dl_cons de_int dl_nil)))) dl_nil)))) dl_nil))))
theorem k__law_head : FkA B 3 "_law_head" 1 [] m__law_head := by
  obtain ⟨fd, Fu⟩ := Y.c.def_ 6 (d := dd__law_head) rfl
  exact fk_of (ps := ["_law_d"]) Fu (He.glo_ok Y.kin Y.ns (Y.c.fact 6 (f := .glo "_law_head") rfl)) (fn_den 2 none Fu sc__law_head (fun _ h => nomatch h) (d__law_head Y)) (Fu.bindsN fun _ _ _ _ _ _ us hl => by match us, hl with | [_], _ => rfl)
end
theorem sc__law_heap : FnScope ["_law_d", "_law_head_here", "_law_most", "_law_wide", "_law_k", "_law_sign"] ["_law_d", "_law_head_here", "_law_most"] (defScope s__law_heap) := ⟨rfl, rfl, rfl, by decide +kernel, rfl, by decide +kernel, by decide +kernel⟩
section
variable {B : Bs} (Y : Hy B)
include Y
theorem d__law_heap : DB (F__law_heap B) (defBody s__law_heap) g__law_heap :=
  (db_cons (ds_set 3 (nd__law_heap B) rfl (.inr (by kernel_rfl)) (.inl rfl) (de_ix (de_frz (df_lst (dl_cons de_int (dl_cons de_int (dl_cons de_int (dl_cons de_int (dl_cons de_int dl_nil))))))) (de_call (k__law_draw Y) (show 1 ≤ 1 from by decide) (by kernel_rfl) (dl_cons (de_var 0 rfl (.inr (.inl (by kernel_rfl)))) (dl_cons de_int dl_nil))))) (db_one (ds_retF (df_lc [("_law_k", 4)] rfl (nd__law_heap B) (di_range1 (by kernel_rfl) (fr_range Y) (dl_cons (de_call (k__law_draw Y) (show 1 ≤ 1 from by decide) (by kernel_rfl) (dl_cons (de_var 0 rfl (.inr (.inl (by kernel_rfl)))) (dl_cons (de_op k_add (de_var 2 rfl (.inl (by kernel_rfl))) de_int) dl_nil))) dl_nil)) (by kernel_rfl) (dg_name 4 (nd__law_heap B) rfl (.inl (by kernel_rfl)) (.inr (by kernel_rfl))) dts_nil (de_tuple (by kernel_rfl) (fr_tuple Y) (dl_cons (de_frz (df_lc [("_law_sign", 5)] rfl (nd__law_heap B) (di_any (de_var 1 rfl (.inr (.inl (by kernel_rfl))))) (by kernel_rfl) (dg_name 5 (nd__law_heap B) rfl (.inl (by kernel_rfl)) (.inr (by kernel_rfl))) dts_nil (de_call (k__law_draw Y) (show 1 ≤ 1 from by decide) (by kernel_rfl) (dl_cons (de_var 0 rfl (.inr (.inl (by kernel_rfl)))) (dl_cons (de_var 3 rfl (.inr (.inl (by kernel_rfl)))) dl_nil))) (by decide))) dl_nil)) (by decide)))))
theorem k__law_heap : FkA B 2 "_law_heap" 3 [] m__law_heap := by
  obtain ⟨fd, Fu⟩ := Y.c.def_ 7 (d := dd__law_heap) rfl
  exact fk_of (ps := ["_law_d", "_law_head_here", "_law_most"]) Fu (He.glo_ok Y.kin Y.ns (Y.c.fact 7 (f := .glo "_law_heap") rfl)) (fn_den 1 none Fu sc__law_heap (fun _ h => nomatch h) (d__law_heap Y)) (Fu.bindsN fun _ _ _ _ _ _ us hl => by match us, hl with | [_, _, _], _ => rfl)
end
theorem sc__law_rising : FnScope ["_law_heap_here", "_law_line"] ["_law_heap_here"] (defScope s__law_rising) := ⟨rfl, rfl, rfl, by decide +kernel, rfl, by decide +kernel, by decide +kernel⟩
section
variable {B : Bs} (Y : Hy B)
include Y
theorem d__law_rising : DB (F__law_rising B) (defBody s__law_rising) g__law_rising :=
  (db_one (ds_retF (df_srtST rfl (by kernel_rfl) (fr_sorted Y) (by kernel_rfl) (fr_set Y) (dl_cons (de_frz (df_lc [("_law_line", 1)] rfl (nd__law_rising B) (di_any (de_var 0 rfl (.inl (by kernel_rfl)))) (by kernel_rfl) (dg_name 1 (nd__law_rising B) rfl (.inl (by kernel_rfl)) (.inr (by kernel_rfl))) dts_nil (de_tuple (by kernel_rfl) (fr_tuple Y) (dl_cons (de_var 1 rfl (.inl (by kernel_rfl))) dl_nil)) (by decide))) dl_nil))))
theorem k__law_rising : FkA B 1 "_law_rising" 1 [] m__law_rising := by
  obtain ⟨fd, Fu⟩ := Y.c.def_ 8 (d := dd__law_rising) rfl
  exact fk_of (ps := ["_law_heap_here"]) Fu (He.glo_ok Y.kin Y.ns (Y.c.fact 8 (f := .glo "_law_rising") rfl)) (fn_den 0 none Fu sc__law_rising (fun _ h => nomatch h) (d__law_rising Y)) (Fu.bindsN fun _ _ _ _ _ _ us hl => by match us, hl with | [_], _ => rfl)
end
theorem sc__law_side : FnScope ["_law_d", "_law_head_here", "_law_odds", "_law_sign"] ["_law_d", "_law_head_here"] (defScope s__law_side) := ⟨rfl, rfl, rfl, by decide +kernel, rfl, by decide +kernel, by decide +kernel⟩
section
variable {B : Bs} (Y : Hy B)
include Y
theorem d__law_side : DB (F__law_side B) (defBody s__law_side) g__law_side :=
  (db_cons (ds_set 2 (nd__law_side B) rfl (.inr (by kernel_rfl)) (.inl rfl) (de_ix (de_frz (df_lst (dl_cons de_int (dl_cons de_int (dl_cons de_int dl_nil))))) (de_call (k__law_draw Y) (show 1 ≤ 1 from by decide) (by kernel_rfl) (dl_cons (de_var 0 rfl (.inr (.inl (by kernel_rfl)))) (dl_cons de_int dl_nil))))) (db_one (ds_ret (de_join de_str (de_frz (df_lc [("_law_sign", 3)] rfl (nd__law_side B) (di_any (de_var 1 rfl (.inl (by kernel_rfl)))) (by kernel_rfl) (dg_name 3 (nd__law_side B) rfl (.inl (by kernel_rfl)) (.inr (by kernel_rfl))) (dts_one (dt_cmp c_eq (de_call (k__law_draw Y) (show 1 ≤ 1 from by decide) (by kernel_rfl) (dl_cons (de_var 0 rfl (.inr (.inl (by kernel_rfl)))) (dl_cons (de_var 2 rfl (.inr (.inl (by kernel_rfl)))) dl_nil))) de_int)) (de_var 3 rfl (.inl (by kernel_rfl))) (by decide)))))))
theorem k__law_side : FkA B 2 "_law_side" 2 [] m__law_side := by
  obtain ⟨fd, Fu⟩ := Y.c.def_ 9 (d := dd__law_side) rfl
  exact fk_of (ps := ["_law_d", "_law_head_here"]) Fu (He.glo_ok Y.kin Y.ns (Y.c.fact 9 (f := .glo "_law_side") rfl)) (fn_den 1 none Fu sc__law_side (fun _ h => nomatch h) (d__law_side Y)) (Fu.bindsN fun _ _ _ _ _ _ us hl => by match us, hl with | [_, _], _ => rfl)
end
theorem sc__law_saying : FnScope ["_law_d", "_law_head_here", "_law_word", "_law_low", "_law_high"] ["_law_d", "_law_head_here"] (defScope s__law_saying) := ⟨rfl, rfl, rfl, by decide +kernel, rfl, by decide +kernel, by decide +kernel⟩
section
variable {B : Bs} (Y : Hy B)
include Y
theorem d__law_saying : DB (F__law_saying B) (defBody s__law_saying) g__law_saying :=
  (db_cons (ds_set 2 (nd__law_saying B) rfl (.inl (by kernel_rfl)) (.inl rfl) (de_ix (de_frz (df_lst (dl_cons de_str (dl_cons de_str (dl_cons de_str dl_nil))))) (de_call (k__law_draw Y) (show 1 ≤ 2 from by decide) (by kernel_rfl) (dl_cons (de_var 0 rfl (.inl (by kernel_rfl))) (dl_cons de_int dl_nil))))) (db_cons (ds_set 3 (nd__law_saying B) rfl (.inl (by kernel_rfl)) (.inl rfl) (de_call (k__law_side Y) (show 2 ≤ 2 from by decide) (by kernel_rfl) (dl_cons (de_var 0 rfl (.inl (by kernel_rfl))) (dl_cons (de_var 1 rfl (.inl (by kernel_rfl))) dl_nil)))) (db_cons (ds_set 4 (nd__law_saying B) rfl (.inl (by kernel_rfl)) (.inl rfl) (de_call (k__law_side Y) (show 2 ≤ 2 from by decide) (by kernel_rfl) (dl_cons (de_var 0 rfl (.inl (by kernel_rfl))) (dl_cons (de_var 1 rfl (.inl (by kernel_rfl))) dl_nil)))) (db_cons (ds_if (dt_w (dw_and (dt_cmp c_eq (de_var 4 rfl (.inl (by kernel_rfl))) de_str) (dw_and1 (dt_cmp c_eq (de_call (k__law_draw Y) (show 1 ≤ 2 from by decide) (by kernel_rfl) (dl_cons (de_var 0 rfl (.inl (by kernel_rfl))) (dl_cons de_int dl_nil))) de_int)))) (db_one (ds_set 4 (nd__law_saying B) rfl (.inl (by kernel_rfl)) (.inl rfl) (de_ix (de_var 1 rfl (.inl (by kernel_rfl))) (de_call (k__law_draw Y) (show 1 ≤ 2 from by decide) (by kernel_rfl) (dl_cons (de_var 0 rfl (.inl (by kernel_rfl))) (dl_cons (de_len (by kernel_rfl) (fr_len Y) (dl_cons (de_var 1 rfl (.inl (by kernel_rfl))) dl_nil)) dl_nil)))))) db_nil) (db_one (ds_ret (de_tup (dl_cons (de_var 2 rfl (.inl (by kernel_rfl))) (dl_cons (de_var 3 rfl (.inl (by kernel_rfl))) (dl_cons (de_var 4 rfl (.inl (by kernel_rfl))) dl_nil))))))))))
theorem k__law_saying : FkA B 3 "_law_saying" 2 [] m__law_saying := by
  obtain ⟨fd, Fu⟩ := Y.c.def_ 10 (d := dd__law_saying) rfl
  exact fk_of (ps := ["_law_d", "_law_head_here"]) Fu (He.glo_ok Y.kin Y.ns (Y.c.fact 10 (f := .glo "_law_saying") rfl)) (fn_den 2 none Fu sc__law_saying (fun _ h => nomatch h) (d__law_saying Y)) (Fu.bindsN fun _ _ _ _ _ _ us hl => by match us, hl with | [_, _], _ => rfl)
end
theorem sc__law_start : FnScope ["_law_script"] ["_law_script"] (defScope s__law_start) := ⟨rfl, rfl, rfl, by decide +kernel, rfl, by decide +kernel, by decide +kernel⟩
section
variable {B : Bs} (Y : Hy B)
include Y
theorem d__law_start : DB (F__law_start B) (defBody s__law_start) g__law_start :=
  (db_one (ds_retF (df_lst (dl_cons (de_var 0 rfl (.inl (by kernel_rfl))) (dl_cons de_int (dl_cons de_int (dl_cons de_int dl_nil)))))))
theorem k__law_start : FkA B 1 "_law_start" 1 [] m__law_start := by
  obtain ⟨fd, Fu⟩ := Y.c.def_ 11 (d := dd__law_start) rfl
  exact fk_of (ps := ["_law_script"]) Fu (He.glo_ok Y.kin Y.ns (Y.c.fact 11 (f := .glo "_law_start") rfl)) (fn_den 0 none Fu sc__law_start (fun _ h => nomatch h) (d__law_start Y)) (Fu.bindsN fun _ _ _ _ _ _ us hl => by match us, hl with | [_], _ => rfl)
end
theorem sc__law_truth : FnScope ["_law_x", "_law_due"] ["_law_x", "_law_due"] (defScope s__law_truth) := ⟨rfl, rfl, rfl, by decide +kernel, rfl, by decide +kernel, by decide +kernel⟩
section
variable {B : Bs} (Y : Hy B)
include Y
theorem d__law_truth : DB (F__law_truth B) (defBody s__law_truth) g__law_truth :=
  (db_one (ds_ret (de_and (de_isi (de_var 0 rfl (.inl (by kernel_rfl))) (by kernel_rfl) (fr_isinstance Y) (by kernel_rfl) (fr_bool Y) (by kernel_rfl)) (de_one (de_cmp c_eq (de_var 0 rfl (.inl (by kernel_rfl))) (de_var 1 rfl (.inl (by kernel_rfl))))))))
theorem k__law_truth : FkA B 1 "_law_truth" 2 [] m__law_truth := by
  obtain ⟨fd, Fu⟩ := Y.c.def_ 12 (d := dd__law_truth) rfl
  exact fk_of (ps := ["_law_x", "_law_due"]) Fu (He.glo_ok Y.kin Y.ns (Y.c.fact 12 (f := .glo "_law_truth") rfl)) (fn_den 0 none Fu sc__law_truth (fun _ h => nomatch h) (d__law_truth Y)) (Fu.bindsN fun _ _ _ _ _ _ us hl => by match us, hl with | [_, _], _ => rfl)
end
theorem sc_cells_of : FnScope ["row", "columns", "part", "cell", "sign"] ["row", "columns", "part"] (defScope s_cells_of) := ⟨rfl, rfl, rfl, by decide +kernel, rfl, by decide +kernel, by decide +kernel⟩
section
variable {B : Bs} (Y : Hy B)
include Y
theorem d_cells_of : DB (F_cells_of B) (defBody s_cells_of) g_cells_of :=
  (db_one (ds_ret (de_tuple (by kernel_rfl) (fr_tuple Y) (dl_cons (de_frz (df_lc [("cell", 3), ("sign", 4)] rfl (nd_cells_of B) (di_zip2 (by kernel_rfl) (fr_zip Y) (dl_cons (de_var 0 rfl (.inl (by kernel_rfl))) (dl_cons (de_var 1 rfl (.inl (by kernel_rfl))) dl_nil))) (by kernel_rfl) (dg_tup rfl (dgs_cons (dg_name 3 (nd_cells_of B) rfl (.inl (by kernel_rfl)) (.inr (by kernel_rfl))) (dgs_cons (dg_name 4 (nd_cells_of B) rfl (.inl (by kernel_rfl)) (.inr (by kernel_rfl))) dgs_nil))) (dts_one (dt_cmp c_in (de_var 4 rfl (.inl (by kernel_rfl))) (de_var 2 rfl (.inr (.inl (by kernel_rfl)))))) (de_var 3 rfl (.inl (by kernel_rfl))) (by decide))) dl_nil))))
theorem k_cells_of : FkA B 1 "cells_of" 3 [] m_cells_of := by
  obtain ⟨fd, Fu⟩ := Y.c.def_ 13 (d := dd_cells_of) rfl
  exact fk_of (ps := ["row", "columns", "part"]) Fu (He.glo_ok Y.kin Y.ns (Y.c.fact 13 (f := .glo "cells_of") rfl)) (fn_den 0 none Fu sc_cells_of (fun _ h => nomatch h) (d_cells_of Y)) (Fu.bindsN fun _ _ _ _ _ _ us hl => by match us, hl with | [_, _, _], _ => rfl)
end
theorem sc_ordered : FnScope ["signs"] ["signs"] (defScope s_ordered) := ⟨rfl, rfl, rfl, by decide +kernel, rfl, by decide +kernel, by decide +kernel⟩
section
variable {B : Bs} (Y : Hy B)
include Y
theorem d_ordered : DB (F_ordered B) (defBody s_ordered) g_ordered :=
  (db_one (ds_ret (de_join de_str (de_frz (df_srtX rfl (by kernel_rfl) (fr_sorted Y) (by kernel_rfl) (fr_set Y) (dl_cons (de_var 0 rfl (.inl (by kernel_rfl))) dl_nil))))))
theorem k_ordered : FkA B 1 "ordered" 1 [] m_ordered := by
  obtain ⟨fd, Fu⟩ := Y.c.def_ 14 (d := dd_ordered) rfl
  exact fk_of (ps := ["signs"]) Fu (He.glo_ok Y.kin Y.ns (Y.c.fact 14 (f := .glo "ordered") rfl)) (fn_den 0 none Fu sc_ordered (fun _ h => nomatch h) (d_ordered Y)) (Fu.bindsN fun _ _ _ _ _ _ us hl => by match us, hl with | [_], _ => rfl)
end
theorem sc_union : FnScope ["one", "other"] ["one", "other"] (defScope s_union) := ⟨rfl, rfl, rfl, by decide +kernel, rfl, by decide +kernel, by decide +kernel⟩
section
variable {B : Bs} (Y : Hy B)
include Y
theorem d_union : DB (F_union B) (defBody s_union) g_union :=
  (db_one (ds_retC (k_ordered Y) (show 1 ≤ 1 from by decide) (by kernel_rfl) (dl_cons (de_op k_add (de_var 0 rfl (.inl (by kernel_rfl))) (de_var 1 rfl (.inl (by kernel_rfl)))) dl_nil)))
theorem k_union : FkA B 2 "union" 2 [] m_union := by
  obtain ⟨fd, Fu⟩ := Y.c.def_ 15 (d := dd_union) rfl
  exact fk_of (ps := ["one", "other"]) Fu (He.glo_ok Y.kin Y.ns (Y.c.fact 15 (f := .glo "union") rfl)) (fn_den 1 none Fu sc_union (fun _ h => nomatch h) (d_union Y)) (Fu.bindsN fun _ _ _ _ _ _ us hl => by match us, hl with | [_, _], _ => rfl)
end
theorem sc_wanted : FnScope ["one", "other", "columns", "taken", "a", "b", "sign"] ["one", "other", "columns", "taken"] (defScope s_wanted) := ⟨rfl, rfl, rfl, by decide +kernel, rfl, by decide +kernel, by decide +kernel⟩
section
variable {B : Bs} (Y : Hy B)
include Y
theorem d_wanted : DB (F_wanted B) (defBody s_wanted) g_wanted :=
  (db_one (ds_ret (de_tuple (by kernel_rfl) (fr_tuple Y) (dl_cons (de_frz (df_lc [("a", 4), ("b", 5), ("sign", 6)] rfl (nd_wanted B) (di_zip3 (by kernel_rfl) (fr_zip Y) (dl_cons (de_var 0 rfl (.inl (by kernel_rfl))) (dl_cons (de_var 1 rfl (.inl (by kernel_rfl))) (dl_cons (de_var 2 rfl (.inl (by kernel_rfl))) dl_nil)))) (by kernel_rfl) (dg_tup rfl (dgs_cons (dg_name 4 (nd_wanted B) rfl (.inl (by kernel_rfl)) (.inr (by kernel_rfl))) (dgs_cons (dg_name 5 (nd_wanted B) rfl (.inl (by kernel_rfl)) (.inr (by kernel_rfl))) (dgs_cons (dg_name 6 (nd_wanted B) rfl (.inl (by kernel_rfl)) (.inr (by kernel_rfl))) dgs_nil)))) dts_nil (de_if (dt_cmp c_in (de_var 6 rfl (.inl (by kernel_rfl))) (de_var 3 rfl (.inr (.inl (by kernel_rfl))))) (de_var 4 rfl (.inl (by kernel_rfl))) (de_var 5 rfl (.inl (by kernel_rfl)))) (by decide))) dl_nil))))
theorem k_wanted : FkA B 1 "wanted" 4 [] m_wanted := by
  obtain ⟨fd, Fu⟩ := Y.c.def_ 16 (d := dd_wanted) rfl
  exact fk_of (ps := ["one", "other", "columns", "taken"]) Fu (He.glo_ok Y.kin Y.ns (Y.c.fact 16 (f := .glo "wanted") rfl)) (fn_den 0 none Fu sc_wanted (fun _ h => nomatch h) (d_wanted Y)) (Fu.bindsN fun _ _ _ _ _ _ us hl => by match us, hl with | [_, _, _, _], _ => rfl)
end
theorem sc_clash_of_parts : FnScope ["rows", "columns", "left", "right", "there", "taken", "one", "other", "lacking", "row"] ["rows", "columns", "left", "right"] (defScope s_clash_of_parts) := ⟨rfl, rfl, rfl, by decide +kernel, rfl, by decide +kernel, by decide +kernel⟩
section
variable {B : Bs} (Y : Hy B)
include Y
theorem db_clash_of_parts_0 : DB (F_clash_of_parts B) (bodyAt (defBody s_clash_of_parts) [(.inl 2), (.inl 0)]) b_clash_of_parts_0 :=
  (db_one (ds_if (dt_cmp c_eq (de_call (k_cells_of Y) (show 1 ≤ 2 from by decide) (by kernel_rfl) (dl_cons (de_var 6 rfl (.inl (by kernel_rfl))) (dl_cons (de_var 1 rfl (.inl (by kernel_rfl))) (dl_cons (de_var 2 rfl (.inl (by kernel_rfl))) dl_nil)))) (de_call (k_cells_of Y) (show 1 ≤ 2 from by decide) (by kernel_rfl) (dl_cons (de_var 7 rfl (.inl (by kernel_rfl))) (dl_cons (de_var 1 rfl (.inl (by kernel_rfl))) (dl_cons (de_var 2 rfl (.inl (by kernel_rfl))) dl_nil))))) (db_cons (ds_set 8 (nd_clash_of_parts B) rfl (.inl (by kernel_rfl)) (.inl rfl) (de_call (k_wanted Y) (show 1 ≤ 2 from by decide) (by kernel_rfl) (dl_cons (de_var 6 rfl (.inl (by kernel_rfl))) (dl_cons (de_var 7 rfl (.inl (by kernel_rfl))) (dl_cons (de_var 1 rfl (.inl (by kernel_rfl))) (dl_cons (de_var 5 rfl (.inl (by kernel_rfl))) dl_nil)))))) (db_one (ds_if (dt_lend (dt_cmp c_notInK (de_var 8 rfl (.inl (by kernel_rfl))) (de_var 4 rfl (.inl (by kernel_rfl))))) (db_one (ds_ret (de_tup (dl_cons (de_var 6 rfl (.inl (by kernel_rfl))) (dl_cons (de_var 7 rfl (.inl (by kernel_rfl))) (dl_cons (de_var 8 rfl (.inl (by kernel_rfl))) dl_nil)))))) db_nil))) db_nil))
theorem db_clash_of_parts_1 : DB (F_clash_of_parts B) (bodyAt (defBody s_clash_of_parts) [(.inl 2)]) b_clash_of_parts_1 :=
  (db_one (ds_for rfl (di_any (de_var 0 rfl (.inl (by kernel_rfl)))) (dg_name 7 (nd_clash_of_parts B) rfl (.inl (by kernel_rfl)) (.inl rfl)) (db_clash_of_parts_0 Y)))
theorem d_clash_of_parts : DB (F_clash_of_parts B) (defBody s_clash_of_parts) g_clash_of_parts :=
  (db_cons (ds_setDct 4 [("row", 9)] rfl (nd_clash_of_parts B) rfl (by kernel_rfl) (by kernel_rfl) (by kernel_rfl) rfl (by kernel_rfl) (di_any (de_var 0 rfl (.inl (by kernel_rfl)))) (by kernel_rfl) (dg_name 9 (nd_clash_of_parts B) rfl (.inl (by kernel_rfl)) (.inr (by kernel_rfl))) dts_nil (de_var 9 rfl (.inl (by kernel_rfl))) de_bl (by decide)) (db_cons (ds_set 5 (nd_clash_of_parts B) rfl (.inl (by kernel_rfl)) (.inl rfl) (de_call (k_union Y) (show 2 ≤ 2 from by decide) (by kernel_rfl) (dl_cons (de_var 2 rfl (.inl (by kernel_rfl))) (dl_cons (de_var 3 rfl (.inl (by kernel_rfl))) dl_nil)))) (db_cons (ds_for rfl (di_any (de_var 0 rfl (.inl (by kernel_rfl)))) (dg_name 6 (nd_clash_of_parts B) rfl (.inl (by kernel_rfl)) (.inl rfl)) (db_clash_of_parts_1 Y)) (db_one (ds_ret de_non)))))
theorem k_clash_of_parts : FkA B 3 "clash_of_parts" 4 [] m_clash_of_parts := by
  obtain ⟨fd, Fu⟩ := Y.c.def_ 17 (d := dd_clash_of_parts) rfl
  exact fk_of (ps := ["rows", "columns", "left", "right"]) Fu (He.glo_ok Y.kin Y.ns (Y.c.fact 17 (f := .glo "clash_of_parts") rfl)) (fn_den 2 none Fu sc_clash_of_parts (fun _ h => nomatch h) (d_clash_of_parts Y)) (Fu.bindsN fun _ _ _ _ _ _ us hl => by match us, hl with | [_, _, _, _], _ => rfl)
end
theorem sc_clash_of_tells : FnScope ["rows", "columns", "left", "right", "at", "one", "other"] ["rows", "columns", "left", "right"] (defScope s_clash_of_tells) := ⟨rfl, rfl, rfl, by decide +kernel, rfl, by decide +kernel, by decide +kernel⟩
section
variable {B : Bs} (Y : Hy B)
include Y
theorem db_clash_of_tells_0 : DB (F_clash_of_tells B) (bodyAt (defBody s_clash_of_tells) [(.inl 0), (.inl 0)]) b_clash_of_tells_0 :=
  (db_one (ds_if (dt_cmp c_eq (de_call (k_cells_of Y) (show 1 ≤ 1 from by decide) (by kernel_rfl) (dl_cons (de_var 5 rfl (.inl (by kernel_rfl))) (dl_cons (de_var 1 rfl (.inl (by kernel_rfl))) (dl_cons (de_var 2 rfl (.inl (by kernel_rfl))) dl_nil)))) (de_call (k_cells_of Y) (show 1 ≤ 1 from by decide) (by kernel_rfl) (dl_cons (de_var 6 rfl (.inl (by kernel_rfl))) (dl_cons (de_var 1 rfl (.inl (by kernel_rfl))) (dl_cons (de_var 2 rfl (.inl (by kernel_rfl))) dl_nil))))) (db_one (ds_if (dt_cmp c_ne (de_call (k_cells_of Y) (show 1 ≤ 1 from by decide) (by kernel_rfl) (dl_cons (de_var 5 rfl (.inl (by kernel_rfl))) (dl_cons (de_var 1 rfl (.inl (by kernel_rfl))) (dl_cons (de_var 3 rfl (.inl (by kernel_rfl))) dl_nil)))) (de_call (k_cells_of Y) (show 1 ≤ 1 from by decide) (by kernel_rfl) (dl_cons (de_var 6 rfl (.inl (by kernel_rfl))) (dl_cons (de_var 1 rfl (.inl (by kernel_rfl))) (dl_cons (de_var 3 rfl (.inl (by kernel_rfl))) dl_nil))))) (db_one (ds_ret (de_tup (dl_cons (de_var 5 rfl (.inl (by kernel_rfl))) (dl_cons (de_var 6 rfl (.inl (by kernel_rfl))) dl_nil))))) db_nil)) db_nil))
theorem db_clash_of_tells_1 : DB (F_clash_of_tells B) (bodyAt (defBody s_clash_of_tells) [(.inl 0)]) b_clash_of_tells_1 :=
  (db_one (ds_for rfl (di_any (de_sl (de_var 0 rfl (.inl (by kernel_rfl))) (do_some (de_op k_add (de_var 4 rfl (.inl (by kernel_rfl))) de_int)) do_none)) (dg_name 6 (nd_clash_of_tells B) rfl (.inl (by kernel_rfl)) (.inl rfl)) (db_clash_of_tells_0 Y)))
theorem d_clash_of_tells : DB (F_clash_of_tells B) (defBody s_clash_of_tells) g_clash_of_tells :=
  (db_cons (ds_for rfl (di_enum (by kernel_rfl) (fr_enumerate Y) (dl_cons (de_var 0 rfl (.inl (by kernel_rfl))) dl_nil)) (dg_tup rfl (dgs_cons (dg_name 4 (nd_clash_of_tells B) rfl (.inl (by kernel_rfl)) (.inl rfl)) (dgs_cons (dg_name 5 (nd_clash_of_tells B) rfl (.inl (by kernel_rfl)) (.inl rfl)) dgs_nil))) (db_clash_of_tells_1 Y)) (db_one (ds_ret de_non)))
theorem k_clash_of_tells : FkA B 2 "clash_of_tells" 4 [] m_clash_of_tells := by
  obtain ⟨fd, Fu⟩ := Y.c.def_ 18 (d := dd_clash_of_tells) rfl
  exact fk_of (ps := ["rows", "columns", "left", "right"]) Fu (He.glo_ok Y.kin Y.ns (Y.c.fact 18 (f := .glo "clash_of_tells") rfl)) (fn_den 1 none Fu sc_clash_of_tells (fun _ h => nomatch h) (d_clash_of_tells Y)) (Fu.bindsN fun _ _ _ _ _ _ us hl => by match us, hl with | [_, _, _, _], _ => rfl)
end
theorem sc_rising : FnScope ["rows", "row"] ["rows"] (defScope s_rising) := ⟨rfl, rfl, rfl, by decide +kernel, rfl, by decide +kernel, by decide +kernel⟩
section
variable {B : Bs} (Y : Hy B)
include Y
theorem d_rising : DB (F_rising B) (defBody s_rising) g_rising :=
  (db_one (ds_retF (df_srtSC [("row", 1)] rfl (nd_rising B) (by kernel_rfl) (fr_sorted Y) (di_any (de_var 0 rfl (.inl (by kernel_rfl)))) (by kernel_rfl) (dg_name 1 (nd_rising B) rfl (.inl (by kernel_rfl)) (.inr (by kernel_rfl))) dts_nil (de_tuple (by kernel_rfl) (fr_tuple Y) (dl_cons (de_var 1 rfl (.inl (by kernel_rfl))) dl_nil)) (by decide))))
theorem k_rising : FkA B 1 "rising" 1 [] m_rising := by
  obtain ⟨fd, Fu⟩ := Y.c.def_ 19 (d := dd_rising) rfl
  exact fk_of (ps := ["rows"]) Fu (He.glo_ok Y.kin Y.ns (Y.c.fact 19 (f := .glo "rising") rfl)) (fn_den 0 none Fu sc_rising (fun _ h => nomatch h) (d_rising Y)) (Fu.bindsN fun _ _ _ _ _ _ us hl => by match us, hl with | [_], _ => rfl)
end
theorem sc_without : FnScope ["one", "other", "sign"] ["one", "other"] (defScope s_without) := ⟨rfl, rfl, rfl, by decide +kernel, rfl, by decide +kernel, by decide +kernel⟩
section
variable {B : Bs} (Y : Hy B)
include Y
theorem d_without : DB (F_without B) (defBody s_without) g_without :=
  (db_one (ds_ret (de_join de_str (de_frz (df_lc [("sign", 2)] rfl (nd_without B) (di_any (de_var 0 rfl (.inl (by kernel_rfl)))) (by kernel_rfl) (dg_name 2 (nd_without B) rfl (.inl (by kernel_rfl)) (.inr (by kernel_rfl))) (dts_one (dt_cmp c_notIn (de_var 2 rfl (.inl (by kernel_rfl))) (de_var 1 rfl (.inr (.inl (by kernel_rfl)))))) (de_var 2 rfl (.inl (by kernel_rfl))) (by decide))))))
theorem k_without : FkA B 1 "without" 2 [] m_without := by
  obtain ⟨fd, Fu⟩ := Y.c.def_ 20 (d := dd_without) rfl
  exact fk_of (ps := ["one", "other"]) Fu (He.glo_ok Y.kin Y.ns (Y.c.fact 20 (f := .glo "without") rfl)) (fn_den 0 none Fu sc_without (fun _ h => nomatch h) (d_without Y)) (Fu.bindsN fun _ _ _ _ _ _ us hl => by match us, hl with | [_, _], _ => rfl)
end
theorem sc_clash : FnScope ["rows", "columns", "saying", "word", "left", "right"] ["rows", "columns", "saying"] (defScope s_clash) := ⟨rfl, rfl, rfl, by decide +kernel, rfl, by decide +kernel, by decide +kernel⟩
section
variable {B : Bs} (Y : Hy B)
include Y
theorem d_clash : DB (F_clash B) (defBody s_clash) g_clash :=
  (db_cons (ds_asg (de_var 2 rfl (.inl (by kernel_rfl))) (dg_tup rfl (dgs_cons (dg_name 3 (nd_clash B) rfl (.inl (by kernel_rfl)) (.inl rfl)) (dgs_cons (dg_name 4 (nd_clash B) rfl (.inl (by kernel_rfl)) (.inl rfl)) (dgs_cons (dg_name 5 (nd_clash B) rfl (.inl (by kernel_rfl)) (.inl rfl)) dgs_nil))))) (db_cons (ds_if (dt_cmp c_eq (de_var 3 rfl (.inl (by kernel_rfl))) (con_TELLS Y rfl (by kernel_rfl))) (db_one (ds_retC (k_clash_of_tells Y) (show 2 ≤ 3 from by decide) (by kernel_rfl) (dl_cons (de_call (k_rising Y) (show 1 ≤ 3 from by decide) (by kernel_rfl) (dl_cons (de_var 0 rfl (.inl (by kernel_rfl))) dl_nil)) (dl_cons (de_var 1 rfl (.inl (by kernel_rfl))) (dl_cons (de_var 4 rfl (.inl (by kernel_rfl))) (dl_cons (de_call (k_without Y) (show 1 ≤ 3 from by decide) (by kernel_rfl) (dl_cons (de_var 5 rfl (.inl (by kernel_rfl))) (dl_cons (de_var 4 rfl (.inl (by kernel_rfl))) dl_nil))) dl_nil)))))) db_nil) (db_one (ds_retC (k_clash_of_parts Y) (show 3 ≤ 3 from by decide) (by kernel_rfl) (dl_cons (de_call (k_rising Y) (show 1 ≤ 3 from by decide) (by kernel_rfl) (dl_cons (de_var 0 rfl (.inl (by kernel_rfl))) dl_nil)) (dl_cons (de_var 1 rfl (.inl (by kernel_rfl))) (dl_cons (de_var 4 rfl (.inl (by kernel_rfl))) (dl_cons (de_var 5 rfl (.inl (by kernel_rfl))) dl_nil))))))))
theorem k_clash : FkA B 4 "clash" 3 [] m_clash := by
  obtain ⟨fd, Fu⟩ := Y.c.def_ 21 (d := dd_clash) rfl
  exact fk_of (ps := ["rows", "columns", "saying"]) Fu (He.glo_ok Y.kin Y.ns (Y.c.fact 21 (f := .glo "clash") rfl)) (fn_den 3 none Fu sc_clash (fun _ h => nomatch h) (d_clash Y)) (Fu.bindsN fun _ _ _ _ _ _ us hl => by match us, hl with | [_, _, _], _ => rfl)
end
theorem sc_keeps : FnScope ["rows", "columns", "saying"] ["rows", "columns", "saying"] (defScope s_keeps) := ⟨rfl, rfl, rfl, by decide +kernel, rfl, by decide +kernel, by decide +kernel⟩
section
variable {B : Bs} (Y : Hy B)
include Y
theorem d_keeps : DB (F_keeps B) (defBody s_keeps) g_keeps :=
  (db_one (ds_ret (de_cmp c_is (de_call (k_clash Y) (show 4 ≤ 4 from by decide) (by kernel_rfl) (dl_cons (de_var 0 rfl (.inl (by kernel_rfl))) (dl_cons (de_var 1 rfl (.inl (by kernel_rfl))) (dl_cons (de_var 2 rfl (.inl (by kernel_rfl))) dl_nil)))) de_non)))
theorem k_keeps : FkA B 5 "keeps" 3 [] m_keeps := by
  obtain ⟨fd, Fu⟩ := Y.c.def_ 22 (d := dd_keeps) rfl
  exact fk_of (ps := ["rows", "columns", "saying"]) Fu (He.glo_ok Y.kin Y.ns (Y.c.fact 22 (f := .glo "keeps") rfl)) (fn_den 4 none Fu sc_keeps (fun _ h => nomatch h) (d_keeps Y)) (Fu.bindsN fun _ _ _ _ _ _ us hl => by match us, hl with | [_, _, _], _ => rfl)
end
section
variable {B : Bs} (Y : Hy B)
include Y
theorem db_law_0 : DB (F_law B) (bodyAt (defBody s_law) [(.inl 2)]) b_law_k04_0 :=
  (db_cons (ds_setF 4 (nd_law B) rfl (.inl (by kernel_rfl)) (.inl rfl) (df_call (k__law_heap Y) (show 2 ≤ 5 from by decide) (by kernel_rfl) (dl_cons (de_var 1 rfl (.inl (by kernel_rfl))) (dl_cons (de_var 2 rfl (.inl (by kernel_rfl))) (dl_cons de_int dl_nil))))) (db_cons (ds_if (dt_lend (dt_w (dw_and (dt_cmp c_gt (de_len (by kernel_rfl) (fr_len Y) (dl_cons (de_var 4 rfl (.inl (by kernel_rfl))) dl_nil)) de_int) (dw_and1 (dt_cmp c_eq (de_call (k__law_draw Y) (show 1 ≤ 5 from by decide) (by kernel_rfl) (dl_cons (de_var 1 rfl (.inl (by kernel_rfl))) (dl_cons de_int dl_nil))) de_int))))) (db_one (ds_append 4 rfl (.inl (by kernel_rfl)) (dl_lend (dl_cons (de_ix (de_var 4 rfl (.inl (by kernel_rfl))) (de_call (k__law_draw Y) (show 1 ≤ 5 from by decide) (by kernel_rfl) (dl_cons (de_var 1 rfl (.inl (by kernel_rfl))) (dl_cons (de_len (by kernel_rfl) (fr_len Y) (dl_cons (de_var 4 rfl (.inl (by kernel_rfl))) dl_nil)) dl_nil)))) dl_nil)))) db_nil) (db_cons (ds_set 5 (nd_law B) rfl (.inl (by kernel_rfl)) (.inl rfl) (de_call (k__law_saying Y) (show 3 ≤ 5 from by decide) (by kernel_rfl) (dl_cons (de_var 1 rfl (.inl (by kernel_rfl))) (dl_cons (de_var 2 rfl (.inl (by kernel_rfl))) dl_nil)))) (db_cons (ds_set 6 (nd_law B) rfl (.inl (by kernel_rfl)) (.inl rfl) (de_lend (de_call (k__law_clash Y) (show 2 ≤ 5 from by decide) (by kernel_rfl) (dl_cons (de_call (k__law_rising Y) (show 1 ≤ 5 from by decide) (by kernel_rfl) (dl_cons (de_var 4 rfl (.inl (by kernel_rfl))) dl_nil)) (dl_cons (de_var 2 rfl (.inl (by kernel_rfl))) (dl_cons (de_var 5 rfl (.inl (by kernel_rfl))) dl_nil)))))) (db_cons (ds_set 7 (nd_law B) rfl (.inl (by kernel_rfl)) (.inl rfl) (de_frz (df_lend (df_list (by kernel_rfl) (fr_list Y) (dl_cons (de_var 4 rfl (.inl (by kernel_rfl))) dl_nil))))) (db_cons (ds_if (dt_cmp c_eq (de_call (k__law_draw Y) (show 1 ≤ 5 from by decide) (by kernel_rfl) (dl_cons (de_var 1 rfl (.inl (by kernel_rfl))) (dl_cons de_int dl_nil))) de_int) (db_one (ds_set 7 (nd_law B) rfl (.inl (by kernel_rfl)) (.inl rfl) (de_lend (de_tuple (by kernel_rfl) (fr_tuple Y) (dl_cons (de_var 4 rfl (.inl (by kernel_rfl))) dl_nil))))) db_nil) (db_cons (ds_set 8 (nd_law B) rfl (.inl (by kernel_rfl)) (.inl rfl) (de_repr rfl (by kernel_rfl) (fr_repr Y) (dl_cons (de_var 7 rfl (.inl (by kernel_rfl))) dl_nil))) (db_cons (ds_if (dt_w (dw_or (dt_cmp c_ne (de_call (k_clash Y) (show 4 ≤ 5 from by decide) (by kernel_rfl) (dl_cons (de_var 7 rfl (.inl (by kernel_rfl))) (dl_cons (de_var 2 rfl (.inl (by kernel_rfl))) (dl_cons (de_var 5 rfl (.inl (by kernel_rfl))) dl_nil)))) (de_var 6 rfl (.inl (by kernel_rfl)))) (dw_or1 (dt_not (dt_val (de_call (k__law_truth Y) (show 1 ≤ 5 from by decide) (by kernel_rfl) (dl_cons (de_call (k_keeps Y) (show 5 ≤ 5 from by decide) (by kernel_rfl) (dl_cons (de_var 7 rfl (.inl (by kernel_rfl))) (dl_cons (de_var 2 rfl (.inl (by kernel_rfl))) (dl_cons (de_var 5 rfl (.inl (by kernel_rfl))) dl_nil)))) (dl_cons (de_cmp c_is (de_var 6 rfl (.inl (by kernel_rfl))) de_non) dl_nil)))))))) (db_one (ds_ret de_bl)) db_nil) (db_cons (ds_if (dt_cmp c_neS (de_repr rfl (by kernel_rfl) (fr_repr Y) (dl_cons (de_var 7 rfl (.inl (by kernel_rfl))) dl_nil)) (de_var 8 rfl (.inl (by kernel_rfl)))) (db_one (ds_ret de_bl)) db_nil) (db_cons (ds_setF 4 (nd_law B) rfl (.inl (by kernel_rfl)) (.inl rfl) (df_lend (df_catL (de_var 4 rfl (.inl (by kernel_rfl))) (de_call (k__law_heap Y) (show 2 ≤ 5 from by decide) (by kernel_rfl) (dl_cons (de_var 1 rfl (.inl (by kernel_rfl))) (dl_cons (de_var 2 rfl (.inl (by kernel_rfl))) (dl_cons de_int dl_nil))))))) (db_cons (ds_set 6 (nd_law B) rfl (.inl (by kernel_rfl)) (.inl rfl) (de_lend (de_call (k__law_clash Y) (show 2 ≤ 5 from by decide) (by kernel_rfl) (dl_cons (de_call (k__law_rising Y) (show 1 ≤ 5 from by decide) (by kernel_rfl) (dl_cons (de_var 4 rfl (.inl (by kernel_rfl))) dl_nil)) (dl_cons (de_var 2 rfl (.inl (by kernel_rfl))) (dl_cons (de_var 5 rfl (.inl (by kernel_rfl))) dl_nil)))))) (db_one (ds_if (dt_lend (dt_w (dw_or (dt_cmp c_ne (de_call (k_clash Y) (show 4 ≤ 5 from by decide) (by kernel_rfl) (dl_cons (de_var 4 rfl (.inl (by kernel_rfl))) (dl_cons (de_var 2 rfl (.inl (by kernel_rfl))) (dl_cons (de_var 5 rfl (.inl (by kernel_rfl))) dl_nil)))) (de_var 6 rfl (.inl (by kernel_rfl)))) (dw_or1 (dt_cmp c_isNot (de_call (k_clash Y) (show 4 ≤ 5 from by decide) (by kernel_rfl) (dl_cons (de_frz (df_lst dl_nil)) (dl_cons (de_var 2 rfl (.inl (by kernel_rfl))) (dl_cons (de_var 5 rfl (.inl (by kernel_rfl))) dl_nil)))) de_non))))) (db_one (ds_ret de_bl)) db_nil)))))))))))))
theorem d_law0 : DS (F_law B) ((defBody s_law).headD (.Pass ⟨0, 0, 0, 0⟩)) g0_law_k04 :=
  (ds_setF 1 (nd_law B) rfl (.inl (by kernel_rfl)) (.inl rfl) (df_call (k__law_start Y) (show 1 ≤ 5 from by decide) (by kernel_rfl) (dl_cons (de_var 0 rfl (.inl (by kernel_rfl))) dl_nil)))
theorem d_law : DB (F_law B) (defBody s_law).tail g_law_k04 :=
  (db_cons (ds_set 2 (nd_law B) rfl (.inl (by kernel_rfl)) (.inl rfl) (de_call (k__law_head Y) (show 3 ≤ 5 from by decide) (by kernel_rfl) (dl_cons (de_var 1 rfl (.inl (by kernel_rfl))) dl_nil))) (db_cons (ds_for rfl (di_range1 (by kernel_rfl) (fr_range Y) (dl_cons de_int dl_nil)) (dg_name 3 (nd_law B) rfl (.inl (by kernel_rfl)) (.inl rfl)) (db_law_0 Y)) (db_one (ds_ret de_bl))))
end
end Qk04
end
section
/-! The head's look off a tree made of the heap: for tops that are proved in pieces. -/
open PySem PySem.W PySem.Calls PyProof.Rows
/-- the head's look at addresses that are written out -/
def Dn.obsL (as : List Addr) (fa : List He.Fa) (fn : List He.DefD) (ts : List He.Tab) (tf : List He.Defn) (ex : PySem.W.Frag → Bool) (g : Addr → Option Obj) : He.AlX := (He.obsT fa fn ts (He.frT g as), (ex (He.frT g as) && He.tabsB g tf (He.frT g as)))
def Dn.hookL (as : List Addr) (fa : List He.Fa) (fn : List He.DefD) (ts : List He.Tab) (tf : List He.Defn) (ex : PySem.W.Frag → Bool) : PySem.W.Hook where
  α := He.AlX
  obs := fun s => Dn.obsL as fa fn ts tf ex s.heap.get?
  val := fun w => He.valX fn ts w
  says := fun w h => ∃ K : PySem.W.Frag, K.In h ∧ He.SaysX fa fn ts tf ex w h K
  of := fun _ _ e => ⟨_, He.frT_in, Dn.saysY (congrArg (fun z : He.AlX => z.1) e) (congrArg (fun z : He.AlX => z.2) e)⟩
  keeps := fun _ _ _ ⟨K, hK, c⟩ k => ⟨K, PySem.W.Frag.In.keeps hK k, ⟨c.t, c.more, c.hd, c.out, fun p hp => k _ _ (c.empty p hp)⟩⟩
def Dn.obsHL (as : List Addr) (fa : List He.Fa) (fn : List He.DefD) (ts : List He.Tab) (tf : List He.Defn) (ex : PySem.W.Frag → Bool) (s : PySem.Shared) : He.AlX := match HandSHeadRun.treeOf s with
  | some x => Dn.obsL as fa fn ts tf ex (HandSHeadRun.getT x)
  | none => Dn.obsL as fa fn ts tf ex s.heap.get?
theorem Dn.obsHL_eq {as : List Addr} {fa : List He.Fa} {fn : List He.DefD} {ts : List He.Tab} {tf : List He.Defn} {ex : PySem.W.Frag → Bool} (s : PySem.Shared) : Dn.obsHL as fa fn ts tf ex s = (Dn.hookL as fa fn ts tf ex).obs s := by
  unfold Dn.obsHL
  split
  · rename_i x h
    have e := (HandSHeadRun.treeOf_eq h).1
    have eg : HandSHeadRun.getT x = s.heap.get? := funext fun a => by rw [HandSHeadRun.getT_eq, e]
    rw [eg]
    rfl
  · rfl
def Dn.hookT (as : List Addr) (fa : List He.Fa) (fn : List He.DefD) (ts : List He.Tab) (tf : List He.Defn) (ex : PySem.W.Frag → Bool) : PySem.W.Hook where
  α := He.AlX
  obs := fun s => Dn.obsHL as fa fn ts tf ex s
  val := fun w => He.valX fn ts w
  says := fun w h => ∃ K : PySem.W.Frag, K.In h ∧ He.SaysX fa fn ts tf ex w h K
  of := fun w s e => (Dn.hookL as fa fn ts tf ex).of w s ((Dn.obsHL_eq s).symm.trans e)
  keeps := (Dn.hookL as fa fn ts tf ex).keeps
end
section
namespace Qk04
open PySem L2 Dn Mi
def Math : Prop := ∀ ns : List Int, ns.length ≤ 63 → (∀ z ∈ ns, Builtin.Int.intBits z ≤ 1048576) → ∃ w', g_law_k04 ((.dat (.scr ns) :: List.replicate 8 .un).set 1 (.dat .wd)) (w0 ns) = .ret (.bl true) w'
theorem facts (math : Math) {w : World} {K : PySem.W.Frag} {h : Heap} {mg : Str → Option Value} {f : Addr} (X : K.In h) (G : h.Ns mainGlobals mg) (hfa : mg ("law" : Str) = some (.ref f)) (c : He.SaysX fa fn ts tf ex w h K) :
    LawG (PySem.Challenge.rw_saidonce_k04_first_clash) w K (L2.CX (PySem.Challenge.rw_saidonce_k04_first_clash).prog w) 6 63 "_law_script" mg f := by
  have e := hfa.symm.trans (He.glo_ok X G (c.t.d.fact 23 (f := .glo "law") rfl))
  cases e
  obtain ⟨fd, Fu⟩ := c.t.d.def_ 23 (d := dd_law) rfl
  refine ⟨fd, Dn.spLaw K 63 [], fun s v => ?_, fun H a ns hl hb hs => ⟨a, ns, rfl, hl, hb, (fun p hp => nomatch hp), hs, fun _ => rfl⟩, fun base hK hns => ?_⟩
  · have b := FunD.bindsA (ps := ["_law_script"]) Fu fun _ _ _ _ _ _ us hl => by match us, hl with | [_], _ => rfl
    exact b s [v] rfl
  · have Y : Hy ⟨(PySem.Challenge.rw_saidonce_k04_first_clash).prog, w, K, mg, base, clsOf K excs, tbs K⟩ := ⟨hK, hns, c.t.d, (fun p hp => nomatch hp), rfl, c.more, rfl, congrArg (fun z : He.AlT => z.2) c.t⟩
    exact law_fnG (N := ["_law_script", "_law_d", "_law_head_here", "_law_k", "_law_heap_here", "_law_saying_here", "_law_due", "_law_handed", "_law_kept"]) (x := "_law_script") (n := 63) 5 none 1 Fu ⟨rfl, rfl, rfl, by decide +kernel, rfl, by decide +kernel, by decide +kernel⟩ (fun _ h => nomatch h) (d_law0 Y) (d_law Y)
      rfl (fun ns w => by kernel_rfl) (by decide) (by decide) math
end Qk04
def Qk04.ads0 : List PySem.Addr := [3, 6, 4, 21, 28, 33, 38, 43, 48, 55, 60, 67, 74, 81, 88, 95, 102, 109, 116, 121, 128, 133, 138, 143, 148]
def Qk04.ads1 : List PySem.Addr := [155, 162, 0, 20, 27, 32, 37, 42, 47, 54, 59, 66, 73, 80, 87, 94, 101, 108, 115, 120, 127, 132, 137, 142, 147]
def Qk04.ads2 : List PySem.Addr := [154, 161, 15, 16, 17, 18, 19, 22, 23, 24, 25, 26, 29, 30, 31, 34, 35, 36, 39, 40, 41, 44, 45, 46, 49]
def Qk04.ads3 : List PySem.Addr := [50, 51, 52, 53, 56, 57, 58, 61, 62, 63, 64, 65, 68, 69, 70, 71, 72, 75, 76, 77, 78, 79, 82, 83, 84]
def Qk04.ads4 : List PySem.Addr := [85, 86, 89, 90, 91, 92, 93, 96, 97, 98, 99, 100, 103, 104, 105, 106, 107, 110, 111, 112, 113, 114, 117, 118, 119]
def Qk04.ads5 : List PySem.Addr := [122, 123, 124, 125, 126, 129, 130, 131, 134, 135, 136, 139, 140, 141, 144, 145, 146, 149, 150, 151, 152, 153, 156, 157, 158]
def Qk04.ads6 : List PySem.Addr := [159, 160]
def Qk04.ads : List PySem.Addr := Qk04.ads0 ++ (Qk04.ads1 ++ (Qk04.ads2 ++ (Qk04.ads3 ++ (Qk04.ads4 ++ (Qk04.ads5 ++ (Qk04.ads6 ++ [PySem.cStatics]))))))
def Qk04.hkT : PySem.W.Hook := Dn.hookT Qk04.ads Qk04.fa Qk04.fn Qk04.ts Qk04.tf Qk04.ex
end
section
/-! k04 -/
namespace Qk04
open PySem L2 Dn Mi
section
variable {ns : List Int} {h : Tx} {w : Ds} {s : Sy}
abbrev F (ns : List Int) (h : Tx) (k3 k4 k5 k6 k7 k8 : Sl) : Dn.Env := [.dat (.scr ns), .dat .wd, .dat (T h), k3, k4, k5, k6, k7, k8]
abbrev Rd (rs : List (List Int)) : Dt := .lst (rs.map rowD)
def Rs (h : Tx) (rs : List (List Int)) : Prop := ∀ r ∈ rs, r.length = h.length ∧ Cl r
/-- the law's clash of a drawn table -/
theorem due_eq {rs : List (List Int)} {k3 k5' k6 k7 k8 : Sl} (H : Hd h) (g : Rs h rs) (few : rs.length ≤ 20) (hl : s.l.length ≤ 6) (hr : s.r.length ≤ 6) (e5 : k5' = .dat s.d) :
    sSet 6 (gLend (gCall 3 [] m__law_clash (gCons (gCall 1 [] m__law_rising (gCons (gVar 4) gNil)) (gCons (gVar 2) (gCons (gVar 5) gNil))))) (F ns h k3 (.own (.lst (rs.map rowD))) k5' k6 k7 k8) w = .nx (F ns h k3 (.own (.lst (rs.map rowD))) k5' (.dat (clashD h s (sortRows rs))) k7 k8) w := by
  subst e5
  have hi := H.hi
  have len : ∀ r ∈ rs, r.length = h.length := fun r hr => (g r hr).1
  have lenS : ∀ r ∈ sortRows rs, r.length = h.length := fun r hr => len r (mem_sortRows.mp hr)
  have sl := sortRows_len rs
  have c := m__law_clash_eq (w := w) (s := s) lenS (by omega) (by omega) (by omega) (by omega)
  rw [clash_same lenS] at c
  have v := gCall_dat (na := 3) (env := lendA (F ns h k3 (.own (.lst (rs.map rowD))) (.dat s.d) k6 k7 k8)) (gaC (d := Rd (sortRows rs)) (gCall_own (na := 1) (m := m__law_rising) (ga1 (g := gVar 4) (d := Rd rs) rfl) (m__law_rising_eq (okRows_len len (by omega)))) (gaC (d := T h) (ga := gVar 2) rfl (gaC (d := s.d) (ga := gVar 5) rfl gaN))) c
  refine sSet_ok (hi := by show 6 < 9; decide) (gLend_ok v ?_)
  -- pairs and triples of rows are flat
  unfold clashD
  split
  · cases clashT h s.l (withoutL s.r s.l) (sortRows rs) with
    | none => rfl
    | some p => exact flats_rows [p.1, p.2]
  · cases clashP h s.l (unionL s.l s.r) (sortRows rs) (sortRows rs) with
    | none => rfl
    | some p => exact flats_rows [p.1, p.2.1, p.2.2]
theorem oNe_clash (rows : List (List Int)) : oNe (clashD h s rows) (clashD h s rows) = some (.bl false) := by
  unfold clashD
  split
  · cases clashT h s.l (withoutL s.r s.l) rows with
    | none => exact oNe_same (n := 0) .non
    | some p => exact oNe_same (n := 2) (.tup fun x hx => by rcases List.mem_cons.mp hx with rfl | hx; exact pl_row _; rw [List.mem_singleton.mp hx]; exact pl_row _)
  · cases clashP h s.l (unionL s.l s.r) rows rows with
    | none => exact oNe_same (n := 0) .non
    | some p => exact oNe_same (n := 2) (.tup fun x hx => by
        rcases List.mem_cons.mp hx with rfl | hx
        · exact pl_row _
        · rcases List.mem_cons.mp hx with rfl | hx
          · exact pl_row _
          · rw [List.mem_singleton.mp hx]; exact pl_row _)
theorem isNon_clash {rows : List (List Int)} : isNon (clashD h s rows) = keepsB h s rows := by
  unfold clashD keepsB
  split
  · cases clashT h s.l (withoutL s.r s.l) rows <;> rfl
  · cases clashP h s.l (unionL s.l s.r) rows rows <;> rfl
theorem Rs.tbl {rs : List (List Int)} (H : Hd h) (g : Rs h rs) (few : rs.length ≤ 20) : Tbl h rs := ⟨fun r hr => (g r hr).1, by omega, by have := H.hi; omega⟩
theorem m__law_heap_Rs {many : Nat} (hw : Wk w) (H : Hd h) (hm : many ≤ 10) : ∃ (rs : List (List Int)) (w' : Ds), m__law_heap [.wd, T h, .int (many : Int)] w = .own (.lst (rs.map rowD)) w' ∧ rs.length ≤ many ∧ Rs h rs ∧ Wk w' := by
  have hi := H.hi
  obtain ⟨rs, w', e, l, g, hw'⟩ := m__law_heap_rng (many := many) hw (by omega : h.length ≤ 4000) (by omega)
  exact ⟨rs, w', e, l, fun r hr => ⟨(g r hr).1, (g r hr).2⟩, hw'⟩
theorem turn (H : Hd h) (hw : Wk w) {k3 k4 k5 k6 k7 k8 : Sl} : ∃ k4' k5' k6' k7' k8' w', Wk w' ∧ b_law_k04_0 (F ns h k3 k4 k5 k6 k7 k8) w = .nx (F ns h k3 k4' k5' k6' k7' k8') w' := by
  have hi := H.hi
  obtain ⟨r0, w1, e1, l0, g0, hw1⟩ := m__law_heap_Rs (many := 9) hw H (by decide)
  have s4 : sSetF 4 (gCallF 3 [] m__law_heap (gCons (gVar 1) (gCons (gVar 2) (gCons (gOk (.int 9)) gNil)))) (F ns h k3 k4 k5 k6 k7 k8) w = .nx (F ns h k3 (.own (.lst (r0.map rowD))) k5 k6 k7 k8) w1 := sSetF_ok (hi := by show 4 < 9; decide) (gCallF_own (gaC (d := .wd) rfl (gaC (d := T h) rfl (gaC rfl gaN))) e1)
  -- a row twice
  have twice : ∃ (rs : List (List Int)) (w2 : Ds), Wk w2 ∧ rs.length ≤ 10 ∧ Rs h rs ∧ sIf (gLendT (gAnd (gTst (gBin oGt (gArgs oLen (gCons (gVar 4) gNil)) (gOk (.int 1)))) (gTst (gBin oEq (gCall 2 [] m__law_draw (gCons (gVar 1) (gCons (gOk (.int 2)) gNil))) (gOk (.int 0)))))) (sLm 4 fApp (gLendL (gCons (gIx (gVar 4) (gCall 2 [] m__law_draw (gCons (gVar 1) (gCons (gArgs oLen (gCons (gVar 4) gNil)) gNil)))) gNil))) sSkip (F ns h k3 (.own (.lst (r0.map rowD))) k5 k6 k7 k8) w1 = .nx (F ns h k3 (.own (.lst (rs.map rowD))) k5 k6 k7 k8) w2 := by
    let E : Dn.Env := F ns h k3 (.own (.lst (r0.map rowD))) k5 k6 k7 k8
    let L : Dn.Env := lendA E
    have v4 : ∀ w, gVar 4 L w = .ok (Rd r0) w := fun w => rfl
    have t1 : (gTst (gBin oGt (gArgs oLen (gCons (gVar 4) gNil)) (gOk (.int 1)))) L w1 = .ok (decide ((1 : Int) < (r0.length : Int))) w1 := gTst_ok (gBin_ok (a := .int (r0.length : Int)) (b := .int 1) (gArgs_ok (ga1 (v4 w1)) ((oLen_lst (by rw [List.length_map]; omega)).trans (by rw [List.length_map]))) rfl (oGt_int _ _))
    by_cases c1 : 1 < r0.length
    · obtain ⟨q, w2, e2, _, _, hw2⟩ := draw_at (env := L) (i := 1) (n := 2) hw1 (by decide) (by decide) rfl
      have t2 := gTst_ok (gBin_ok (f := oEq) (gb := gOk (.int 0)) e2 rfl (oEq_int q 0))
      have t := gLendT_ok (env := E) (gAnd_t (t1.trans (by rw [decide_eq_true (by omega)])) t2)
      by_cases hq : q = 0
      · obtain ⟨r, hr, w3, e3, hw3⟩ := pickR (R := r0) (i := 4) (env := L) hw2 rfl v4 (fun z => by rw [z] at c1; simp at c1) (by omega)
        refine ⟨r0 ++ [r], w3, hw3, by simp; omega, fun x hx => ?_, sIf_t (w1 := w2) (t.trans (by rw [decide_eq_true hq])) ?_⟩
        · rcases List.mem_append.mp hx with hx | hx
          · exact g0 x hx
          · rw [List.mem_singleton.mp hx]; exact g0 r hr
        · refine (app_ok (ds := r0.map rowD) (e := rowD r) (w1 := w3) rfl (gLendL_ok (env := E) (ga1 e3) (flats_rows [r])) (by rw [List.length_map]; omega)).trans ?_
          show OutS.nx [_, _, _, _, Sl.own (Ow.lst (r0.map rowD ++ [rowD r])), _, _, _, _] w3 = OutS.nx [_, _, _, _, Sl.own (Ow.lst ((r0 ++ [r]).map rowD)), _, _, _, _] w3
          rw [List.map_append (l₁ := r0), List.map_cons, List.map_nil]
      · exact ⟨r0, w2, hw2, by omega, g0, sIf_f (w1 := w2) (t.trans (by rw [decide_eq_false hq])) rfl⟩
    · exact ⟨r0, w1, hw1, by omega, g0, sIf_f (w1 := w1) (gLendT_ok (env := E) (gAnd_f (t1.trans (by rw [decide_eq_false (by omega)])))) rfl⟩
  obtain ⟨rs, w2, hw2, lr, gr, st⟩ := twice
  obtain ⟨s, w3, e3, sl, sr, hw3⟩ := m__law_saying_eq hw2 (by have := H.lo; omega) (by omega) H.asc
  have ll := sl.length_le
  have lr' := sr.length_le
  have s5 : sSet 5 (gCall 2 [] m__law_saying (gCons (gVar 1) (gCons (gVar 2) gNil))) (F ns h k3 (.own (.lst (rs.map rowD))) k5 k6 k7 k8) w2 = .nx (F ns h k3 (.own (.lst (rs.map rowD))) (.dat s.d) k6 k7 k8) w3 := sSet_ok (hi := by show 5 < 9; decide) (gCall_dat (ga2 (d := .wd) (d' := T h) rfl rfl) e3)
  have s6 := due_eq (ns := ns) (w := w3) (s := s) (k3 := k3) (k5' := .dat s.d) (k6 := k6) (k7 := k7) (k8 := k8) H gr (by omega) (by omega) (by omega) rfl
  let C : Dt := clashD h s (sortRows rs)
  let E (k7 k8 : Sl) : Dn.Env := F ns h k3 (.own (.lst (rs.map rowD))) (.dat s.d) (.dat C) k7 k8
  have s7 : sSet 7 (gFrz (gLendF (gArgsF oList (gCons (gVar 4) gNil)))) (E k7 k8) w3 = .nx (E (.dat (Rd rs)) k8) w3 := sSet_ok (hi := by show 7 < 9; decide) (gFrz_lst (gLendF_lst (gArgsF_ok (ga1 (d := Rd rs) rfl) rfl) (flats_rows rs)))
  obtain ⟨q, w4, e4, _, _, hw4⟩ := draw_at (env := E (.dat (Rd rs)) k8) (i := 1) (n := 2) hw3 (by decide) (by decide) rfl
  have t7 := gTst_ok (gBin_ok (f := oEq) (gb := gOk (.int 0)) e4 rfl (oEq_int q 0))
  have handed : ∃ dd : Dt, srcD dd = some (rs.map rowD) ∧ (∃ t, oRepr [dd] = some (.str t)) ∧ sIf (gTst (gBin oEq (gCall 2 [] m__law_draw (gCons (gVar 1) (gCons (gOk (.int 2)) gNil))) (gOk (.int 0)))) (sSet 7 (gLend (gArgs oTuple (gCons (gVar 4) gNil)))) sSkip (E (.dat (Rd rs)) k8) w3 = .nx (E (.dat dd) k8) w4 := by
    by_cases hq : q = 0
    · exact ⟨.tup (rs.map rowD), rfl, repr_rowsT gr (by omega) (by omega), sIf_t (w1 := w4) (t7.trans (by rw [decide_eq_true hq])) (sSet_ok (hi := by show 7 < 9; decide) (gLend_ok (gArgs_ok (ga1 (d := Rd rs) rfl) (oTuple_lst _)) (flats_rows rs)))⟩
    · exact ⟨Rd rs, rfl, repr_rowsL gr (by omega) (by omega), sIf_f (w1 := w4) (t7.trans (by rw [decide_eq_false hq])) rfl⟩
  obtain ⟨dd, hd, ⟨tx, ht⟩, st7⟩ := handed
  have s8 : sSet 8 (gArgs oRepr (gCons (gVar 7) gNil)) (E (.dat dd) k8) w4 = .nx (E (.dat dd) (.dat (.str tx))) w4 := sSet_ok (hi := by show 8 < 9; decide) (gArgs_ok (ga1 (d := dd) rfl) ht)
  let E8 : Dn.Env := E (.dat dd) (.dat (.str tx))
  have tb := gr.tbl H (by omega)
  have cl := m_clash_eq' (w := w4) (s := s) (h := h) hd tb (by omega) (by omega)
  have kp := m_keeps_eq' (w := w4) (s := s) (h := h) hd tb (by omega) (by omega)
  have ga : (gCons (gVar 7) (gCons (gVar 2) (gCons (gVar 5) gNil))) E8 w4 = .ok [dd, T h, s.d] w4 := gaC (d := dd) rfl (gaC (d := T h) rfl (gaC (d := s.d) rfl gaN))
  have c9 : sIf (gOr (gTst (gBin oNe (gCall 3 [] m_clash (gCons (gVar 7) (gCons (gVar 2) (gCons (gVar 5) gNil)))) (gVar 6))) (gNot (gTst (gCall 2 [] m__law_truth (gCons (gCall 3 [] m_keeps (gCons (gVar 7) (gCons (gVar 2) (gCons (gVar 5) gNil)))) (gCons (gBin oIs (gVar 6) (gOk .non)) gNil)))))) (sRet (gOk (.bl false))) sSkip E8 w4 = .nx E8 w4 :=
    sIf_f (w1 := w4) (gOr_ok (a := false) (b := false) (gTst_ok (gBin_ok (a := C) (b := C) (gCall_dat ga cl) rfl (oNe_clash _))) (gNot_ok (a := true) (gTst_ok (gCall_dat (ga2 (d := .bl (keepsB h s (sortRows rs))) (d' := .bl (keepsB h s (sortRows rs))) (gCall_dat ga kp) (gBin_ok (a := C) (b := .non) rfl rfl (by show some (Dt.bl (isNon C)) = _; rw [show isNon C = keepsB h s (sortRows rs) from isNon_clash]))) (m__law_truth_eq.trans (by simp)))))) rfl
  have c10 : sIf (gTst (gBin oNeS (gArgs oRepr (gCons (gVar 7) gNil)) (gVar 8))) (sRet (gOk (.bl false))) sSkip E8 w4 = .nx E8 w4 := sIf_f (w1 := w4) (gTst_ok (gBin_ok (a := .str tx) (b := .str tx) (gArgs_ok (ga1 (d := dd) rfl) ht) rfl (by show some (Dt.bl (!decide (tx = tx))) = _; simp))) rfl
  obtain ⟨r5, w5, e5, l5, g5, hw5⟩ := m__law_heap_Rs (many := 2) hw4 H (by decide)
  let rs2 := rs ++ r5
  have gr2 : Rs h rs2 := fun r hr => (List.mem_append.mp hr).elim (gr r) (g5 r)
  have lr2 : rs2.length ≤ 12 := by simp only [rs2, List.length_append]; omega
  have s11 : sSetF 4 (gLendF (gCatF (gVar 4) (gCall 3 [] m__law_heap (gCons (gVar 1) (gCons (gVar 2) (gCons (gOk (.int 2)) gNil)))))) E8 w4 = .nx (F ns h k3 (.own (.lst (rs2.map rowD))) (.dat s.d) (.dat C) (.dat dd) (.dat (.str tx))) w5 := by
    refine (sSetF_ok (hi := by show 4 < 9; decide) (d := .lst (rs2.map rowD)) (w1 := w5) (gLendF_lst ?_ (flats_rows rs2))).trans rfl
    show gCatF _ _ (lendA E8) w4 = _
    unfold gCatF
    show (Out.bind (Out.ok (Rd rs) w4) _) = _
    simp only [Out.bind]
    rw [show gCall 3 [] m__law_heap (gCons (gVar 1) (gCons (gVar 2) (gCons (gOk (.int 2)) gNil))) (lendA E8) w4 = .ok (Rd r5) w5 from gCall_own (gaC (d := .wd) rfl (gaC (d := T h) rfl (gaC rfl gaN))) e5]
    simp only
    rw [if_pos (by rw [sz_line, List.length_map, List.length_map]; omega), ← List.map_append]
  have s12 := due_eq (ns := ns) (w := w5) (s := s) (k3 := k3) (k5' := .dat s.d) (k6 := .dat C) (k7 := .dat dd) (k8 := .dat (.str tx)) H gr2 (by omega) (by omega) (by omega) rfl
  let C2 : Dt := clashD h s (sortRows rs2)
  let E12 : Dn.Env := F ns h k3 (.own (.lst (rs2.map rowD))) (.dat s.d) (.dat C2) (.dat dd) (.dat (.str tx))
  have cl2 := m_clash_eq (w := w5) (s := s) (h := h) (gr2.tbl H (by omega)) (by omega) (by omega)
  have cl0 := m_clash_eq (w := w5) (s := s) (h := h) (rs := []) ⟨(fun r hr => nomatch hr), by decide, by omega⟩ (by omega) (by omega)
  have n0 : clashD h s (sortRows []) = .non := by
    have : sortRows [] = [] := List.eq_nil_iff_forall_not_mem.mpr fun r hr => nomatch (mem_sortRows.mp hr)
    rw [this]
    unfold clashD
    split <;> rfl
  rw [n0] at cl0
  have c13 : sIf (gLendT (gOr (gTst (gBin oNe (gCall 3 [] m_clash (gCons (gVar 4) (gCons (gVar 2) (gCons (gVar 5) gNil)))) (gVar 6))) (gTst (gBin oIsNot (gCall 3 [] m_clash (gCons (gFrz (gLst gNil)) (gCons (gVar 2) (gCons (gVar 5) gNil)))) (gOk .non))))) (sRet (gOk (.bl false))) sSkip E12 w5 = .nx E12 w5 :=
    sIf_f (w1 := w5) (gLendT_ok (a := false) (gOr_ok (a := false) (b := false) (gTst_ok (gBin_ok (a := C2) (b := C2) (gCall_dat (gaC (d := Rd rs2) rfl (gaC (d := T h) (ga := gVar 2) rfl (gaC (d := s.d) (ga := gVar 5) rfl gaN))) cl2) rfl (oNe_clash _)))
      (gTst_ok (gBin_ok (a := .non) (b := .non) (gCall_dat (gaC (d := .lst []) (gFL gaN (by simp)) (gaC (d := T h) (ga := gVar 2) rfl (gaC (d := s.d) (ga := gVar 5) rfl gaN))) cl0) rfl rfl)))) rfl
  exact ⟨_, _, _, _, _, w5, hw5, sSeq_nx s4 (sSeq_nx st (sSeq_nx s5 (sSeq_nx s6 (sSeq_nx s7 (sSeq_nx st7 (sSeq_nx s8 (sSeq_nx c9 (sSeq_nx c10 (sSeq_nx s11 (sSeq_nx s12 c13))))))))))⟩
end
theorem math : Math := fun ns hl _ => by
  have hw : Wk (w0 ns) := ⟨hl⟩
  obtain ⟨h, w2, e2, H, hw2⟩ := m__law_head_eq hw
  let E0 (k2 : Sl) : Dn.Env := [.dat (.scr ns), .dat .wd, k2, .un, .un, .un, .un, .un, .un]
  have a2 : sSet 2 (gCall 1 [] m__law_head (gCons (gVar 1) gNil)) (E0 .un) (w0 ns) = .nx (F ns h .un .un .un .un .un .un) w2 := sSet_ok (hi := by show 2 < 9; decide) (gCall_dat (ga1 (d := .wd) rfl) e2)
  obtain ⟨e5, w5, f5, _⟩ := forG_inv (b := bName 3) (body := b_law_k04_0) (fun _ _ env w => (∃ k3 k4 k5 k6 k7 k8, env = F ns h k3 k4 k5 k6 k7 k8) ∧ Wk w) (fun k : Nat => Dt.int (k : Int)) (List.range 6) (by
    intro pre x post env w hx ⟨⟨k3, k4, k5, k6, k7, k8, he⟩, hw⟩
    subst he
    obtain ⟨k4', k5', k6', k7', k8', w', hw', z⟩ := turn (ns := ns) (k3 := .dat (.int (x : Int))) (k4 := k4) (k5 := k5) (k6 := k6) (k7 := k7) (k8 := k8) H hw
    exact ⟨F ns h (.dat (.int (x : Int))) k4 k5 k6 k7 k8, rfl, .inl ⟨_, w', z, ⟨_, _, _, _, _, _, rfl⟩, hw'⟩⟩)
    (env := F ns h .un .un .un .un .un .un) (w := w2) ⟨⟨_, _, _, _, _, _, rfl⟩, hw2⟩
  exact ⟨w5, sSeq_nx a2 (sSeq_nx (sFor_ok (gIts_ok (ga1 rfl) (oRng1_nat 6 (by decide))) f5) (sRet_ok rfl))⟩
end Qk04
end
section
open PySem PySem.W PySem.Calls PyProof.Rows
theorem Qk04.done : PySem.Challenge.rw_saidonce_k04_first_clash.Holds := by
  w_on; o_law
  o_head Qk04.hkT
  case hw => w_witness2
  case hc =>
    refine Dn.walkG (l := PySem.Challenge.rw_saidonce_k04_first_clash) (n := 63) (k := 6) (x := "_law_script") (CX := fun w => L2.CX (PySem.Challenge.rw_saidonce_k04_first_clash).prog w) rfl (by decide) (by kernel_rfl) ⟨rfl, by decide, by decide⟩ ?F (fun _ _ _ _ _ z => ?_)
    · intro w mg fa h Y G hmg0
      obtain ⟨K, KX, c⟩ := Y
      have hmg : mg ("law" : PySem.Str) = some (.ref fa) := by
        have e : (HandSHeadRun.topDef (OpenLaw.row PySem.Challenge.rw_saidonce_k04_first_clash).prog 27).name = ("law" : PySem.Str) := by kernel_rfl
        rw [← e]
        exact hmg0
      exact ⟨K, KX, Qk04.facts Qk04.math KX G hmg c⟩
    · obtain ⟨a, B, H', cls, d, _, _, _, _, _, _, _, h⟩ := z
      exact h
end
theorem PySem.Challenge.cw_saidonce_k04_first_clash_holds : PySem.Challenge.rw_saidonce_k04_first_clash.Holds := by
  exact Qk04.done
