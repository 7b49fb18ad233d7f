import PyProof.Rows.All
import Wide.All
import OpenK.AllK
import Wide.FinOn
import HandS.ForMost
import HandS.Wide
import HandS.IsInst
import HandS.TupAny
import HandS.Walk
import HandS.SetKeys
import HandS.ExcValue
import KE.KUnpackStar
import KE.KRevSl
import KE.GoesZip
import KE.GoesMore
import HandS.Set
import HandS.More
import HandS.SetBool
import HandS.Strs
import HandS.ForExc
import HandS.Text
import HandS.DictTup
import PyProof.ListStr
import KE.LtSeq
import HandS.Conv
import HandS.ForDict
import HandS.Comp
import HandS.ExcInit
import HandS.ExcIs
import HandS.ExcField
import HandS.ClsMeth
import HandS.Zip
import HandS.TupSets
import HandS.TryOnly
import HandS.DeepEq
import PyProof.InstEq
import HandS.OwnEq
import HandS.Dict
import PyProof.EqKinds
import PyProof.SeqRoads2
import PyProof.FactsAll.dict
import HandS.TupMul
import HandS.DictEq
import PyProof.DictUpdate
import HandS.MakeKwOnly
import HandS.Finally
import PySem.Challenge.RW_tongueyard_k56_layouts_made
set_option Elab.async false
set_option linter.all false
set_option maxRecDepth 100000
/-! own rules over the hand layer: powers of wide ints, a starred name behind one name, texts and tuples turned round -/
namespace Ty
open PySem PySem.Spec PyProof.Rows L2
section
variable {X : Cx}
/-- a ** b of wide ints: few bits in all -/
def CPowW (i j : Int) : Prop := 0 ≤ j ∧ (i.natAbs.log2 + 1) * j.toNat ≤ 1000000
theorem bits_le_log (i : Int) : Builtin.Int.intBits i ≤ i.natAbs.log2 + 1 := by
  unfold Builtin.Int.intBits
  split <;> omega
theorem op_powW : OpR X (binaryOp .Pow) (rI CPowW fun i j => .int (i ^ j.toNat)) := opI fun i j t u s Q E hc q => by
  obtain ⟨h0, h1⟩ := hc
  refine pow_int h0 ?_ q
  have e : j = ((j.toNat : Nat) : Int) := by omega
  have h2 : Builtin.Int.intBits i * j.toNat ≤ 1000000 := Nat.le_trans (Nat.mul_le_mul_right _ (bits_le_log i)) h1
  have h3 : ((Builtin.Int.intBits i : Nat) : Int) * ((j.toNat : Nat) : Int) ≤ 1000000 := by
    have := Int.ofNat_le.mpr h2
    simpa using this
  rw [← e] at h3
  omega
theorem powW_of {i : Int} {k n : Nat} (h : i.natAbs < 2 ^ n) (h0 : 0 < n) (hk : n * k ≤ 1000000) : CPowW i (k : Int) := by
  refine ⟨by omega, ?_⟩
  have x := PySem.Flt.log2_lt_of h0 h
  have : (i.natAbs.log2 + 1) * ((k : Int)).toNat ≤ n * k := by
    rw [Int.toNat_natCast]
    exact Nat.mul_le_mul_right _ x
  omega
/-- where something is tracked there is an object -/
theorem there {P : Program} {w : World} {H : Hp} {h : Heap} {a : Addr} {o : HO} (x : ObjOk P w H h a o) : ∃ u, h.get? a = some u := by
  cases o with
  | lst xs => obtain ⟨_, _, _, _, e⟩ := x; exact ⟨_, e⟩
  | tup xs => obtain ⟨_, _, _, q, e, _⟩ := x; exact ⟨q, e⟩
  | dK kvs => obtain ⟨_, _, _, _, q, _, _, e, _⟩ := x; exact ⟨q, e⟩
  | dT kvs => obtain ⟨_, _, _, _, q, _, _, e, _⟩ := x; exact ⟨q, e⟩
  | set S n => obtain ⟨q, _, _, _, e, _⟩ := x; exact ⟨q, e⟩
  | ins C dx fs => obtain ⟨_, _, _, e, _⟩ := x; exact ⟨_, e⟩
  | own y => exact x
  | xd fs => obtain ⟨_, ⟨q, _, _, e, _⟩, _⟩ := x; exact ⟨q, e⟩
  | rng lo hi => obtain ⟨_, _, _, e⟩ := x; exact ⟨_, e⟩
  | frz ob u => exact ⟨ob, x.1⟩
  | tbl ps => exact ⟨_, (show h.get? a = some _ from x)⟩
  | met f y => exact ⟨_, (show h.get? a = some _ from x)⟩
  | ext φ => exact x.2.1
/-- a new object where the heap had none: all that stood stands, the new one is tracked -/
theorem laidG {pins : List (Addr × Obj)} {σ : L2.St} {H : Hp} {s : Shared} {g : Heap} {o : HO} {ob : Obj} {tk : Nat} (I : Inv X pins σ H s) (k : ∀ b u, s.heap.get? b = some u → g.get? b = some u)
    (new : ObjOk X.prog X.w (upd H g.objs.size o) (g.push ob) g.objs.size o) : H g.objs.size = none ∧ Inv X pins σ (upd H g.objs.size o) { s with heap := g.push ob, toks := tk } := by
  have hp : s.heap.get? g.objs.size = none := by
    cases e : s.heap.get? g.objs.size with
    | none => rfl
    | some u => exact absurd (Heap.lt_size (k _ _ e)) (Nat.lt_irrefl _)
  have hn : H g.objs.size = none := by
    cases e : H g.objs.size with
    | none => rfl
    | some u =>
      obtain ⟨q, eq⟩ := there (I.hok _ _ e)
      rw [hp] at eq
      cases eq
  exact ⟨hn, I.laidN (t' := tk) (fun b u e => Heap.get?_push_of_some _ (k b u e)) hp hn new⟩
/-- a tuple of one item or more, drawn into its first item and a new list of the others -/
theorem unpack_head {prog : Program} {w : World} {A : Around} {E : Value → Shared → Prop} {s : Shared} {t : Addr} {x : Value} {xs : List Value} {Q : List Value → Shared → Prop} (hh : A.handled = none)
    (ht : IsTup s.heap t (x :: xs).toArray) (hz : xs.length ≤ 16000)
    (h : ∀ (g : Heap) (tk : Nat), (∀ b o, s.heap.get? b = some o → g.get? b = some o) → Q [x, .ref g.objs.size] { s with heap := g.push { cls := .type "list", data := .seq xs.toArray }, toks := tk }) :
    wpAny (model prog w) A (unpackItems (.ref t) 2 (some 1)) Q E s := by
  have hlt : t < s.heap.objs.size := by obtain ⟨o, ho, _⟩ := ht; exact Heap.lt_size ho
  have hne : t ≠ s.heap.objs.size := Nat.ne_of_lt hlt
  have hsz : (x :: xs).toArray.size = xs.length + 1 := by simp
  unfold unpackItems
  refine wpAny_bind ?_
  unfold notIterableAtAll
  refine wpAny_bind (wpAny_specialOf ht.typeIs slot_tuple_iter.lookup (wpAny_pure ?_))
  simp only [Bool.false_eq_true, if_false]
  refine wpAny_bind (wpAny_holding (iter_tuple ht ?_))
  refine wpAny_bind (wpAny_holding (draw_tuple hne 1 0 _ _ ⟨_, Heap.get?_push_size _ rfl, rfl, rfl⟩ (ht.push _) (by omega) fun g1 it1 same1 => ?_))
  have ht1 : IsTup g1 t (x :: xs).toArray := (ht.push _).extBut same1.extBut hne
  have ht1' := ht1
  have it1' := it1
  obtain ⟨ot, hot, _⟩ := ht1'
  obtain ⟨oi, hoi, _⟩ := it1'
  show wpAny _ _ (if ([x] : List Value).length < 1 then _ else _) _ _ _
  rw [if_neg (show ¬ ([x] : List Value).length < 1 from Nat.lt_irrefl 1)]
  refine wpAny_bind (wpAny_holding (PySem.W.kun_collect (s := { s with heap := g1 }) (T := "tuple_iterator") (.inr (.inr (.inr rfl))) (Walks.tuple (A := A.in1) hh s.heap.objs.size t hne (x :: xs).toArray) (fun j u st => st.1.typeIs) (k := 1) (by omega) ⟨it1, ht1⟩ (Heap.lt_size hoi) (Heap.lt_size hot) (fun g2 tk kp => ?_) (by rw [sizeLine_eq]; omega)))
  show wpAny _ _ (if xs.length < 0 then _ else _) _ _ _
  rw [if_neg (by omega)]
  show wpAny _ _ (newList (xs.take (xs.length - 0)) >>= fun d => pure ([x] ++ [d] ++ xs.drop (xs.length - 0))) _ _ _
  rw [Nat.sub_zero, List.take_length, List.drop_length]
  have kp2 : ∀ b o, s.heap.get? b = some o → g2.get? b = some o := fun b o e =>
    have hb : b ≠ s.heap.objs.size := Nat.ne_of_lt (Heap.lt_size e)
    kp b o hb (same1.extBut b o hb (Heap.get?_push_of_some _ e))
  exact wpAny_bind (wpAny_newList (wpAny_pure (h g2 tk kp2)) (by rw [sizeLine_eq]; omega))
/-- (name, *names) = a tuple of one item or more -/
def gStar1 (K : PySem.W.Frag) (g : TG) (g2 : TG) : TG := fun v σ H Q => ∃ a x xs, v = .ref a ∧ SqT K H a (x :: xs) ∧ xs.length ≤ 16000 ∧
  ∀ D, H D = none → g x σ (upd H D (.lst xs)) fun σ1 H1 => g2 (.ref D) σ1 H1 Q
theorem pg_star1 {e1 e2 : Expr} {g g2 : TG} {k : Nat} {sp pos : Pos} (hc : X.calm = true) (h1 : PG X e1 g) (h2 : PG X e2 g2)
    (hs : assignEach [e1, .Starred e2 sp] X.env = [(false, assign e1 X.env), (true, assign e2 X.env)] := by rfl) : PG X (.Tuple [e1, .Starred e2 sp] k pos) (gStar1 X.K g g2) := by
  refine ⟨fun pins s σ H v u Q I r hw => ?_⟩
  obtain ⟨a, x, xs, rfl, hq, hl, hw⟩ := hw
  cases r
  obtain ⟨its, rv, ht, hz⟩ := I.tuple hq
  cases rv with
  | @cons _ u1 _ us r1 rr =>
    have hlen := Paired.length rr
    rw [assign_Tuple]
    refine wpAny_bind (wpAny_standAt ?_)
    unfold unpack
    rw [hs]
    refine wpAny_bind (wpAny_holding (unpack_head (I.ok.hd hc) ht (by omega) fun g1 tk kp => ?_))
    obtain ⟨hn, I1⟩ := laidG (o := .lst xs) (ob := { cls := .type "list", data := .seq us.toArray }) (tk := tk) I kp ⟨by rw [sizeLine_eq]; omega, us, 0, rr, Heap.get?_push_size _ rfl⟩
    refine assignInOrder_cons (thn (h1.run pins _ σ _ x u1 _ I1 r1 (hw _ hn)) fun _ s1 ⟨σ1, H1, J1, q1⟩ => ?_)
    exact assignInOrder_cons (thn (h2.run pins s1 σ1 H1 (.ref g1.objs.size) _ Q J1 rfl q1) fun _ s2 ⟨σ2, H2, J2, q2⟩ => assignInOrder_nil ⟨σ2, H2, J2, q2⟩)
end
end Ty
namespace Ty
open PySem PySem.Spec PyProof.Rows L2
section
variable {X : Cx}
/-- the turned text -/
def revS (z : Str) : Str := ⟨z.cps.toList.reverse.toArray⟩
theorem revS_is (z : Str) (u : Tok) : Txt.sliceBy z none none (-1, u) = revS z := by
  have h := step_rev_list z u
  apply str_of_list
  rw [h]
  show _ = z.cps.toList.reverse.toArray.toList
  rw [List.toList_toArray]
  apply List.ext_getElem
  · simp [Str.length]
  · intro i h1 h2
    have h3 : i < z.cps.size := by simpa using h2
    have h4 : z.cps.size - 1 - i < z.cps.size := by omega
    simp [Str.length, Array.getD, h4]
/-- the parts of [::-1], evaluated -/
theorem part_back {σ : L2.St} {H : Hp} {pins : List (Addr × Obj)} {s : Shared} {k : Nat} {p1 p2 : Pos} (I : Inv X pins σ H s) {Q : Value → Shared → Prop}
    (h : ∀ (vs : Value) (u : Tok) (s4 : Shared), vs = .int (-1) u → Inv X pins σ H s4 → Q vs s4) : wpAny (model X.prog X.w) X.A (evalPart (some (.UnaryOp .USub (.Constant (.int 1) k p1) p2)) X.env) Q X.xe s := by
  have hst : PO X (some (.UnaryOp .USub (.Constant (.int 1) k p1) p2)) (tPart (tUn (rU fun i => .int (-i)) (tC (.int 1)))) := po_some (pe_un un_neg pe_int)
  refine thn (hst.run pins s σ H (fun o H4 => o = some (-1) ∧ H4 = H) I ⟨1, rfl, -1, rfl, rfl, rfl⟩) fun v s4 hv => ?_
  obtain ⟨o, H4, I4, ps, rfl, rfl⟩ := hv
  cases ps with
  | int i t => exact h _ t s4 rfl I4
/-- e[::-1] of a text -/
def tRevS (te : TE) : TE := fun σ H Q => te σ H fun x H1 => ∃ z, x = .str z ∧ z.length ≤ sizeLine ∧ Q (.str (revS z)) H1
theorem pe_revS {e : Expr} {te : TE} {k : Nat} {p1 p2 p3 pos : Pos} (he : PE X e te) : PE X (.Subscript e (.Slice none none (some (.UnaryOp .USub (.Constant (.int 1) k p1) p2)) p3) pos) (tRevS te) := by
  refine ⟨fun pins s σ H Q I h => ?_⟩
  refine Subscript_ (thn (he.run pins s σ H _ I h) fun v s1 hv => ?_)
  obtain ⟨x, H1, I1, r1, z, rfl, hz, q⟩ := hv
  obtain ⟨t, rfl⟩ := r1
  refine wpAny_Slice (thn (po_none.run pins s1 σ H1 (fun o H2 => o = none ∧ H2 = H1) I1 ⟨rfl, rfl⟩) fun vl s2 hv => ?_)
  obtain ⟨o1, H2, I2, pl, rfl, rfl⟩ := hv
  refine thn (po_none.run pins s2 σ H2 (fun o H3 => o = none ∧ H3 = H2) I2 ⟨rfl, rfl⟩) fun vu s3 hv => ?_
  obtain ⟨o2, H3, I3, pu, rfl, rfl⟩ := hv
  refine part_back I3 fun vs u s4 ev I4 => ?_
  subst ev
  cases pl
  cases pu
  have I5 : Inv X pins σ H3 { s4 with heap := s4.heap.push { cls := .type "slice", data := .fields #[.none, .none, .int (-1) u] } } := I4.kept (t' := s4.toks) fun b ob q => Heap.get?_push_of_some _ q
  refine tail_any (ops := [.ref s4.heap.objs.size, .str z t]) (typeIs_str _ z t) F.slot_str_getitem.lookup ?_ (by with_unfolding_all rfl)
  refine wpAny_getItem_str_slice (l := none) (u := none) (st := some (-1, u)) ⟨_, Heap.get?_push_size _ rfl, rfl, rfl⟩ rfl ?_
  refine post_val_or_str ⟨?_, fun t' c => ?_⟩
  · exact Nat.le_trans (Txt.sliceBy_le z none none (-1, u) (show (-1 : Int) ≠ 0 by decide)) hz
  · exact ⟨.str (revS z), H3, I5.tok c, ⟨t', by rw [← revS_is z u]; rfl⟩, q⟩
/-! ### a tuple turned round -/
theorem filterMap_same {α β : Type} {f g : α → Option β} : ∀ (l : List α), (∀ x ∈ l, f x = g x) → l.filterMap f = l.filterMap g
  | [], _ => rfl
  | x :: l, h => by
    rw [List.filterMap_cons, List.filterMap_cons, h x List.mem_cons_self, filterMap_same l fun y hy => h y (List.mem_cons_of_mem _ hy)]
theorem places_back (n : Nat) : Builtin.Slice.slicePlaces ((n : Int) - 1) (-1) (-1) = n := by
  unfold Builtin.Slice.slicePlaces
  rw [if_neg (by decide)]
  by_cases h : (n : Int) - 1 > -1
  · rw [if_pos h]
    have e : (-(-1 : Int)) = 1 := rfl
    rw [e, Int.ediv_one]
    omega
  · rw [if_neg h]
    omega
theorem pick_back {α : Type} (l : List α) : ((List.range l.length).filterMap fun (k : Nat) => l.toArray[((l.length : Int) - 1 + (k : Int) * (-1)).toNat]?) = l.reverse := by
  have e : ((List.range l.length).filterMap fun (k : Nat) => l.toArray[((l.length : Int) - 1 + (k : Int) * (-1)).toNat]?) = ((List.range l.length).map fun k => l.length - 1 - k).filterMap (l[·]?) := by
    rw [List.filterMap_map]
    refine filterMap_same _ fun k hk => ?_
    have hk' := List.mem_range.mp hk
    have : ((l.length : Int) - 1 + (k : Int) * (-1)).toNat = l.length - 1 - k := by omega
    rw [this]
    simp
  have z := PySem.W.krv_all l.toArray
  rw [e, PySem.W.krv_range, List.filterMap_reverse]
  have z2 : (List.range l.length).filterMap (l[·]?) = l := by
    simpa using z
  rw [z2]
theorem getItem_tuple_back {prog : Program} {w : World} {A : Around} {E : Value → Shared → Prop} {s : Shared} {t sl : Addr} {items : List Value} {u : Tok} {Q : Value → Shared → Prop} (ht : IsTup s.heap t items.toArray) (hs : s.heap.IsSliceOf sl .none .none (.int (-1) u))
    (h : Q (.ref s.heap.objs.size) { s with heap := s.heap.push { cls := .type "tuple", data := .seq items.reverse.toArray } }) (hsz : items.length ≤ sizeLine) : wpAny (model prog w) A (getItem (.ref t) (.ref sl)) Q E s := by
  obtain ⟨os, hos, hcs, hds⟩ := id hs
  have hTs : s.TypeIs (.ref sl) "slice" := ⟨os, hos, hcs⟩
  unfold getItem
  try with_reducible refine wpAny_holding ?_
  refine wpAny_bind (wpAny_sequenceKey ht.typeIs (by decide) ?_)
  refine wpAny_bind (wpAny_callSpecial?_slot (name := Str.ofString "__getitem__") ht.typeIs PyProof.Rows.slot_tuple_getitem
    (wpAny_call_entry PyProof.Rows.slot_tuple_getitem ht.typeIs entry_tuple_getitem ?_ (args_tuple_getitem _ _)))
  show wpAny _ _ (Builtin.Tuple.tupleItemsOf (.ref t) >>= _) _ _ s
  refine wpAny_bind (tupleItemsOf_ ht ?_)
  refine wpAny_bind (wpAny_typeOf hTs ?_)
  rw [if_pos (by decide)]
  have hap : wpAny (model prog w) A.in1 (Builtin.Slice.sliceApplied (.ref sl) (pure (items.toArray.size : Int))) (fun r s' => r = ((items.length : Int) - 1, -1, items.length) ∧ s' = s) E s := by
    unfold Builtin.Slice.sliceApplied Builtin.Slice.sliceFields
    refine wpAny_bind (wpAny_bind (wpAny_field hos hds (x := .none) rfl (wpAny_bind (wpAny_field hos hds (x := .none) rfl (wpAny_bind (wpAny_field hos hds (x := .int (-1) u) rfl (wpAny_pure ?_)))))))
    refine wpAny_bind (HT.slicePart_ (.int (-1) u) ?_)
    show wpAny _ _ (if ((-1 : Int) == 0) = true then _ else _) _ _ s
    rw [if_neg (by decide)]
    refine wpAny_bind (HT.slicePart_ .none (wpAny_bind (HT.slicePart_ .none (wpAny_bind (wpAny_pure (wpAny_pure ⟨?_, rfl⟩))))))
    show (((items.toArray.size : Int) - 1, (-1 : Int), Builtin.Slice.slicePlaces ((items.toArray.size : Int) - 1) (-1) (-1)) : Int × Int × Nat) = _
    rw [List.size_toArray, places_back]
  refine wpAny_bind (wpAny_mono hap (fun r s' hr => ?_) fun _ _ x => x)
  obtain ⟨rfl, rfl⟩ := hr
  show wpAny _ _ (if (((items.length : Int) - 1 == 0 && (-1 : Int) == 1 && items.length == items.toArray.size) = true) then _ else _) _ _ s'
  rw [if_neg (by simp)]
  rw [show ((List.range items.length).filterMap fun (k : Nat) => items.toArray[((items.length : Int) - 1 + (k : Int) * (-1)).toNat]?) = items.reverse from pick_back items]
  have hsz' : sizeOk (.seq items.reverse.toArray) := by
    show items.reverse.toArray.size ≤ sizeLine
    rw [List.size_toArray, List.length_reverse]
    exact hsz
  first
    | exact wpAny_bind (m := Builtin.Tuple.tupleExact _) (wpAny_newObj_type (wpAny_pure ⟨_, rfl, wpAny_pure h⟩) hsz')
    | exact wpAny_bind (m := Builtin.Tuple.tupleExact _) (wpAny_newObj_type (wpAny_bind (wpAny_pure (wpAny_pure ⟨_, rfl, wpAny_pure h⟩))) hsz')
end
end Ty
namespace Ty
open PySem PySem.Spec PyProof.Rows L2
/-! ### zip of two texts, walked by a target of several names -/
def ItzS (x y : Str) : It :=
  ⟨fun i _ => i < min x.cps.size y.cps.size,
    fun i H v H' => ∃ T c d, v = .ref T ∧ H T = none ∧ H' = upd H T (.tup [.str ⟨#[c]⟩, .str ⟨#[d]⟩]) ∧ x.cps[i]? = some c ∧ y.cps[i]? = some d,
    fun i _ => i = min x.cps.size y.cps.size⟩
/-- the zip's cells at turn i -/
def zsAt (z TI TO i1 i2 : Addr) (x y : Str) (t u : Tok) (i : Nat) (h : Heap) : Prop :=
  IsZip h z TI TO .none ∧ IsTupOf2 h TI (.ref i1) (.ref i2) ∧ (∃ a1 a2, IsTupOf2 h TO a1 a2) ∧ h.IsStrIter i1 (strIterType x) x t i ∧ h.IsStrIter i2 (strIterType y) y u i
theorem zs_walks {P : Program} {w : World} {A : Around} (hh : A.handled = none) {z TI TO i1 i2 : Addr} (S : ZipSep2 z TI TO i1 i2 [i1] [i2]) (x y : Str) (t u : Tok) :
    WalksT P w A z (z :: TI :: TO :: ([i1] ++ [i2])) [z, TO, i1, i2] (min x.cps.size y.cps.size)
      (fun i vals => ∃ v1 v2, (∃ c k, x.cps[i]? = some c ∧ v1 = .str ⟨#[c]⟩ k) ∧ (∃ c k, y.cps[i]? = some c ∧ v2 = .str ⟨#[c]⟩ k) ∧ vals = #[v1, v2]) (zsAt z TI TO i1 i2 x y t u)
      (fun i T h => IsZip h z TI TO (rawInt T) ∧ IsTupOf2 h TI (.ref i1) (.ref i2) ∧ (∃ a1 a2, IsTupOf2 h TO a1 a2) ∧ h.IsStrIter i1 (strIterType x) x t (i + 1) ∧ h.IsStrIter i2 (strIterType y) y u (i + 1) ∧ T ≠ z ∧ T ≠ TO ∧ T ≠ i1 ∧ T ≠ i2) :=
  WalksT.zipD2 S (Draws.text (A := A.in1) hh i1 x t) (Draws.text (A := A.in1) hh i2 y u)
theorem five_le {n c : Nat} (h : c = n + 4 ∨ c = n + 2 ∨ c = n + 3 ∨ c = n ∨ c = n + 1) : n ≤ c := by omega
theorem sep_nat (n : Nat) : ZipSep2 (n + 4) (n + 2) (n + 3) n (n + 1) [n] [n + 1] := by
  constructor <;> simp <;> omega
theorem sep_new (n : Addr) : ZipSep2 (n + 4) (n + 2) (n + 3) n (n + 1) [n] [n + 1] := sep_nat n
theorem turn_zipS {P : Program} {w : World} {K : PySem.W.Frag} {elts : List Expr} {kk : Nat} {tpos : Pos} {z TI TO i1 i2 : Addr} (S : ZipSep2 z TI TO i1 i2 [i1] [i2]) (x y : Str) (t u : Tok) :
    Turn P w K (.Tuple elts kk tpos) (ItzS x y) (z :: TI :: TO :: ([i1] ++ [i2])) z (zsAt z TI TO i1 i2 x y t u) where
  mem := List.mem_cons_self
  obj := fun i h st c hc => by
    obtain ⟨hz, hTI, ⟨a, b, hTO⟩, ⟨o1, e1, _, d1⟩, ⟨o2, e2, _, d2⟩⟩ := st
    have hc' : c = z ∨ c = TI ∨ c = TO ∨ c = i1 ∨ c = i2 := by simpa using hc
    rcases hc' with rfl | rfl | rfl | rfl | rfl
    · exact ⟨_, hz, fun v q => nomatch q⟩
    · exact ⟨_, hTI, fun v q => nomatch q⟩
    · exact ⟨_, hTO, fun v q => nomatch q⟩
    · exact ⟨o1, e1, fun v q => by rw [d1] at q; cases q⟩
    · exact ⟨o2, e2, fun v q => by rw [d2] at q; cases q⟩
  keep := fun i h h' st k => by
    obtain ⟨hz, hTI, ⟨a, b, hTO⟩, ⟨o1, e1, r1⟩, ⟨o2, e2, r2⟩⟩ := st
    exact ⟨k z (by simp) _ hz, k TI (by simp) _ hTI, ⟨a, b, k TO (by simp) _ hTO⟩, ⟨o1, k i1 (by simp) _ e1, r1⟩, ⟨o2, k i2 (by simp) _ e2, r2⟩⟩
  item := by
    intro X hP hw hK hc i pins s σ H E I hf st hg
    subst hP hw hK
    have W := zs_walks (P := X.prog) (w := X.w) (A := X.A) (I.ok.hd hc) S x y t u
    refine W.item i s _ _ hg st fun T vals g tk pt hT isT mid kp => ⟨_, rfl, ?_⟩
    refine W.go elts kk tpos i T { s with heap := g, toks := tk } _ _ mid fun g2 st2 kp2 => ?_
    obtain ⟨v1, v2, ⟨c, k1, ec, rfl⟩, ⟨d, k2, ed, rfl⟩, rfl⟩ := pt
    have hap := W.apart i T g mid
    have sub : ∀ b, b ∉ (z :: TI :: TO :: ([i1] ++ [i2])) → b ∉ [z, TO, i1, i2] := fun b hb q => hb (W.sub b q)
    obtain ⟨oT, eT, cT, nT, dT⟩ := isT
    have new : ObjOk X.prog X.w (upd H T (.tup [.str ⟨#[c]⟩, .str ⟨#[d]⟩])) g2 T (.tup [.str ⟨#[c]⟩, .str ⟨#[d]⟩]) :=
      ⟨by show 2 ≤ sizeLine; decide, [.str ⟨#[c]⟩ k1, .str ⟨#[d]⟩ k2], .cons ⟨k1, rfl⟩ (.cons ⟨k2, rfl⟩ .nil), oT, kp2 T oT hap eT, cT, nT, dT⟩
    have I1 := I.turnedNew (t' := tk) (h' := g2) (fun b o hb e => kp2 b o (sub b hb) (kp b o (sub b hb) e)) hf hT new
    refine ⟨.ref T, _, I1, rfl, ⟨T, c, d, rfl, I.hok.fresh hT, rfl, ec, ed⟩, st2, fun b hb => ?_⟩
    have hlt : b < s.heap.objs.size := by
      obtain ⟨hz, hTI, ⟨a1, a2, hTO⟩, ⟨o1, e1, _⟩, ⟨o2, e2, _⟩⟩ := st
      have hb' : b = z ∨ b = TI ∨ b = TO ∨ b = i1 ∨ b = i2 := by simpa using hb
      rcases hb' with rfl | rfl | rfl | rfl | rfl
      · exact Heap.lt_size hz
      · exact Heap.lt_size hTI
      · exact Heap.lt_size hTO
      · exact Heap.lt_size e1
      · exact Heap.lt_size e2
    rw [upd_ne (Nat.ne_of_lt (Nat.lt_of_lt_of_le hlt hT))]
    exact (hf b hb).1
  done := by
    intro X hP hw hK hc i pins s σ H E I hf st hg
    subst hP hw hK
    have W := zs_walks (P := X.prog) (w := X.w) (A := X.A) (I.ok.hd hc) S x y t u
    have hg' : i = min x.cps.size y.cps.size := hg
    subst hg'
    exact W.done s _ _ st fun g tk kp => ⟨rfl, I.turnedL (t' := tk) (fun b o hb e => kp b o (fun q => hb (W.sub b q)) e) hf⟩
  self := fun A i s Q E st h => wpAny_pyIter_zip st.1 h
def iZipS (ta : TA) : TI := fun σ H R => ta σ H fun vs H1 => ∃ x y, vs = [.str x, .str y] ∧ R (ItzS x y) H1
theorem pi_zipS {X : Cx} {e e2 : Expr} {ta : TA} {p pos tpos : Pos} {elts : List Expr} {kk : Nat} (hg : Gl X "zip") (hm : X.mg "zip" = none) (ha : PA X [e, e2] ta)
    (hs : starEach [e, e2] X.env = (false, eval e X.env) :: starEach [e2] X.env := by rfl) (hpl : (backTo pos (starEach [e2] X.env)).any (·.1) = false := by rfl) :
    PI X (.Tuple elts kk tpos) (.Call (.Name "zip" p) [e, e2] [] pos) (iZipS ta) := by
  refine ⟨fun pins s σ H R I h => ?_⟩
  refine Call_ (ld_blt I hg hm PyProof.Rows.boot_zip (PyProof.Rows.callWith_type1 (thn (ha.run pos pins s σ H _ I h) fun us s1 hv => ?_) hs hpl))
  obtain ⟨vs, H1, I1, r1, x, y, rfl, q⟩ := hv
  obtain ⟨u1, u2, rfl, q1, q2⟩ := vals2 r1
  obtain ⟨t, rfl⟩ := q1
  obtain ⟨u, rfl⟩ := q2
  refine zip_begins2 (begins_text x t) (begins_text y u) trivial trivial fun g hz hTI hTO h1 h2 hsz kp => wpAny_pyIter_zip hz ?_
  have I2 : Inv X pins σ H1 { s1 with heap := g } := I1.kept (t' := s1.toks) kp
  have S : ZipSep2 (s1.heap.objs.size + 4) (s1.heap.objs.size + 2) (s1.heap.objs.size + 3) s1.heap.objs.size (s1.heap.objs.size + 1) [s1.heap.objs.size] [s1.heap.objs.size + 1] := sep_new _
  refine ⟨s1.heap.objs.size + 4, _, _, _, H1, rfl, I2, turn_zipS S x y t u, ⟨hz, hTI, ⟨_, _, hTO⟩, ⟨_, h1, rfl, rfl⟩, ⟨_, h2, rfl, rfl⟩⟩, fun c hc => ?_, q⟩
  have hle : s1.heap.objs.size ≤ c := by
    have hc' : c = s1.heap.objs.size + 4 ∨ c = s1.heap.objs.size + 2 ∨ c = s1.heap.objs.size + 3 ∨ c = s1.heap.objs.size ∨ c = s1.heap.objs.size + 1 := by simpa using hc
    exact five_le hc'
  exact I1.fpOk hle (I1.hok.fresh hle)
end Ty
/-! sets of keys of any kind as they are made from a list, and sorted: own text -/
namespace Ty
open PySem PySem.Spec PyProof.Rows L2
section
variable {P : Program} {w : World} {K : Type} [DecidableEq K] [BEq K] [LawfulBEq K]
/-- an entry of a key -/
def EntOf (knd : PySem.KeyKind P w K) (e : Int × Value) (k : K) : Prop := knd.is k e.2 = true ∧ e.1 = knd.hash k ∧ e.2.scannable = true
theorem paired_perm {α β : Type} {R : α → β → Prop} {l l' : List α} (p : l'.Perm l) : ∀ {ks : List β}, Paired R l ks → ∃ ks', Paired R l' ks' ∧ ks'.Perm ks := by
  induction p with
  | nil => exact fun h => ⟨_, h, .refl _⟩
  | cons x _ ih =>
    intro ks h
    cases h with
    | cons r t =>
      obtain ⟨ks', h1, h2⟩ := ih t
      exact ⟨_, .cons r h1, h2.cons _⟩
  | swap x y l =>
    intro ks h
    cases h with
    | cons r t =>
      cases t with
      | cons r' t' => exact ⟨_, .cons r' (.cons r t'), .swap ..⟩
  | trans _ _ ih1 ih2 =>
    intro ks h
    obtain ⟨k1, h1, p1⟩ := ih2 h
    obtain ⟨k2, h2, p2⟩ := ih1 h1
    exact ⟨k2, h2, p2.trans p1⟩
theorem paired_left {α β : Type} {R : α → β → Prop} : ∀ {l : List α} {ks : List β}, Paired R l ks → ∀ x ∈ l, ∃ k ∈ ks, R x k
  | _, _, .nil, _, h => nomatch h
  | _, _, .cons r t, x, h => by
    rcases List.mem_cons.mp h with e | h
    · subst e
      exact ⟨_, List.mem_cons_self, r⟩
    · obtain ⟨k, h1, h2⟩ := paired_left t x h
      exact ⟨k, List.mem_cons_of_mem _ h1, h2⟩
theorem paired_right {α β : Type} {R : α → β → Prop} : ∀ {l : List α} {ks : List β}, Paired R l ks → ∀ k ∈ ks, ∃ x ∈ l, R x k
  | _, _, .nil, _, h => nomatch h
  | _, _, .cons r t, x, h => by
    rcases List.mem_cons.mp h with e | h
    · subst e
      exact ⟨_, List.mem_cons_self, r⟩
    · obtain ⟨k, h1, h2⟩ := paired_right t x h
      exact ⟨k, List.mem_cons_of_mem _ h1, h2⟩
/-- the set at a has just the keys L, each once -/
def SetG (knd : PySem.KeyKind P w K) (h : Heap) (a : Addr) (L : List K) : Prop :=
  ∃ o es ep t ks, h.get? a = some o ∧ o.ExactSet ∧ o.data = .set es ep t ∧ Paired (EntOf knd) es.toList ks ∧ ks.Perm L ∧ L.Nodup ∧ es.size < scanBound ∧ t.fits es.size = true ∧ Ris t.place.toList ∧
    (w.params.followText "set-order" = true ∨ t.led = true)
variable {knd : PySem.KeyKind P w K}
theorem SetG.at {h h' : Heap} {a : Addr} {L : List K} (R : SetG knd h a L) (k : ∀ o, h.get? a = some o → h'.get? a = some o) : SetG knd h' a L := by
  obtain ⟨o, es, ep, t, ks, ho, r⟩ := R
  exact ⟨o, es, ep, t, ks, k o ho, r⟩
theorem ents_elems {l : List (Int × Value)} {ks : List K} (p : Paired (EntOf knd) l ks) : ElemsOf knd l := fun e he => by
  obtain ⟨k, _, h1, h2, h3⟩ := paired_left p e he
  exact ⟨⟨k, h1, h2⟩, h3⟩
/-- one more key -/
def addK (L : List K) (k : K) : List K := if k ∈ L then L else k :: L
section
variable {A : Around} {E : Value → Shared → Prop} {s : Shared} {a : Addr} {L : List K}
theorem setG_tail {g : Bool → Sem Unit} (hg : ∀ (b : Bool) (s₁ : Shared) (Q' : Unit → Shared → Prop), Q' () s₁ → wpAny (model P w) A (g b) Q' E s₁)
    {o : Obj} {es : Array (Int × Value)} {ep : Nat} {t : SetTable} (ho : s.heap.get? a = some o) (hex : o.ExactSet) (hd : o.data = .set es ep t)
    {es1 : Array (Int × Value)} {t2 : SetTable} {ks : List K} (g1 : Paired (EntOf knd) es1.toList ks) (pm1 : ks.Perm L) (nd : L.Nodup)
    (hb1 : es1.size < scanBound) (hf2 : t2.fits es1.size = true) (hr : Ris t2.place.toList) (hl : w.params.followText "set-order" = true ∨ t2.led = true) {wasDummy : Bool} {R : Option Bool → Shared → Prop}
    (hR : ∀ h', Heap.SameBut a s.heap h' → SetG knd h' a L → R (some true) { s with heap := h' }) :
    wpAny (model P w) A (do
        storeSet a es1 t2
        if (!wasDummy && t2.tooFull) = true then do
            g (relayAll t2 es1 (SetTable.grown es1.size)).2.2
            storeSet a (relayAll t2 es1 (SetTable.grown es1.size)).1 (relayAll t2 es1 (SetTable.grown es1.size)).2.1
            pure (some true)
          else pure (some true)) R E s := by
  have at1 := store_at (es' := es1) (t' := t2) ho hd
  have same1 := Heap.SameBut.update s.heap a (Obj.putSet es1 t2)
  refine wpAny_bind (wpAny_storeSet_of ho hd ?_ (fits_of_scanBound hb1))
  by_cases hc : (!wasDummy && t2.tooFull) = true
  · rw [if_pos hc]
    have pm := relayAll_perm t2 es1 (SetTable.grown es1.size)
    have f3 := relayAll_fits t2 es1 (SetTable.grown es1.size)
    have r3 := relayAll_ris t2 es1 (SetTable.grown es1.size)
    have l3 := relayAll_led t2 es1 (SetTable.grown es1.size)
    generalize relayAll t2 es1 (SetTable.grown es1.size) = Z at pm f3 r3 l3 ⊢
    have sz : Z.1.size = es1.size := by rw [← Array.length_toList, pm.length_eq, Array.length_toList]
    have b2 : Z.1.size < scanBound := by rw [sz]; exact hb1
    obtain ⟨ks2, q1, q2⟩ := paired_perm pm g1
    refine wpAny_bind (hg _ _ _ (wpAny_bind (wpAny_storeSet_of at1 rfl (wpAny_pure (hR _ (same1.trans (Heap.SameBut.update _ a _)) ?_)) (fits_of_scanBound b2))))
    exact ⟨_, Z.1, _, Z.2.1, ks2, store_at (es' := Z.1) (t' := Z.2.1) at1 rfl, hex, rfl, q1, q2.trans pm1, nd, b2, f3, r3, hl.imp id fun z => by rw [l3]; exact z⟩
  · rw [if_neg hc]
    exact wpAny_pure (hR _ same1 ⟨_, es1, _, t2, ks, at1, hex, rfl, g1, pm1, nd, hb1, hf2, hr, hl⟩)
theorem setG_add_hashed {k : K} {x : Value} {Q : Bool → Shared → Prop} (hkey : knd.is k x = true) (hsc : x.scannable = true) (R : SetG knd s.heap a L) (room : L.length + 1 < scanBound)
    (hQ : ∀ h' b, Heap.SameBut a s.heap h' → SetG knd h' a (addK L k) → Q b { s with heap := h' }) :
    wpAny (model P w) A (setAddHashed a x (knd.hash k)) Q E s := by
  obtain ⟨o, es, ep, t, ks, ho, hex, hd, g, pm0, nd, hb, hf, hr, hl⟩ := R
  have hel : ElemsOf knd es.toList := ents_elems g
  have hlen : es.size = L.length := by rw [← Array.length_toList, Paired.length g, pm0.length_eq]
  unfold setAddHashed setAddHashedIn
  refine wpAny_holding (wpAny_bind (wpAny_setState_of ho hd hf ?_))
  dsimp only
  rw [byScan_of hsc hb hel]
  simp only [↓reduceIte]
  unfold setAddByScan
  refine wpAny_bind ?_
  refine wpAny_bind (wpAny_rule ?_)
  refine wpAny_bind (wpAny_setScan_of hkey ho hd hf hel ?_)
  cases hfi : List.findIdx? (fun e => knd.is k e.2) es.toList with
  | some j =>
    dsimp only
    obtain ⟨hj, pj, _⟩ := List.findIdx?_eq_some_iff_getElem.mp hfi
    obtain ⟨k', hk', e1, _⟩ := paired_left g es.toList[j] (List.getElem_mem hj)
    have ek : k' = k := knd.inj _ _ _ e1 pj
    subst ek
    refine wpAny_pure (wpAny_pure (hQ s.heap _ (Heap.SameBut.refl a s.heap) ?_))
    unfold addK
    rw [if_pos (pm0.mem_iff.mp hk')]
    exact ⟨o, es, ep, t, ks, ho, hex, hd, g, pm0, nd, hb, hf, hr, hl⟩
  | none =>
    dsimp only
    have hnk : k ∉ L := fun z => by
      obtain ⟨e, he, q, _⟩ := paired_right g k (pm0.mem_iff.mpr z)
      have c := List.findIdx?_eq_none_iff.mp hfi e he
      rw [q] at c
      cases c
    have eL : addK L k = k :: L := if_neg hnk
    have hgw : ∀ (b : Bool) {s₁ : Shared} {Q' : Unit → Shared → Prop}, Q' () s₁ → wpAny (model P w) A (match b with | true => rule "set.scan.the-table-gave-way" | false => pure ()) Q' E s₁ :=
      fun b s₁ Q' q => by cases b <;> first | exact wpAny_pure q | exact wpAny_rule q
    have pm := layNew_perm t es (knd.hash k) x
    have f1 := layNew_fits t es (knd.hash k) x
    have r1 := layNew_ris t es (knd.hash k) x hr
    have l1 := layNew_led t es (knd.hash k) x
    generalize layNew t es (knd.hash k) x = Z at pm f1 r1 l1 ⊢
    obtain ⟨es1, t1, wasDummy, gave⟩ := Z
    dsimp only at pm f1 r1 l1 ⊢
    rw [Array.toList_push] at pm
    obtain ⟨ks1, g1, p1⟩ := paired_perm (pm.trans (List.perm_append_singleton _ _)) (Paired.cons (⟨hkey, rfl, hsc⟩ : EntOf knd (knd.hash k, x) k) g)
    have pL : ks1.Perm (addK L k) := by rw [eL]; exact p1.trans (pm0.cons k)
    have ndL : (addK L k).Nodup := by rw [eL]; exact List.nodup_cons.mpr ⟨hnk, nd⟩
    have hb1 : es1.size < scanBound := by
      have : es1.size = L.length + 1 := by rw [← Array.length_toList, Paired.length g1, p1.length_eq, List.length_cons, pm0.length_eq]
      omega
    have hled : w.params.followText "set-order" = true ∨ t1.led = true := hl.imp id fun z => by rw [l1]; exact z
    refine wpAny_bind (hgw _ ?_)
    split
    · refine wpAny_bind ?_
      rw [hashByValue_scannable 8 hsc]
      refine wpAny_pure ?_
      refine setG_tail ?_ ho hex hd g1 pL ndL hb1 ?_ ?_ ?_ fun h' sb r => ?_
      · intro b s₁ Q' q; cases b <;> first | exact wpAny_pure q | exact wpAny_rule q
      · first | (split <;> first | exact f1 | exact SetTable.fits_plain_off f1) | exact f1
      · first | (split <;> exact r1) | exact r1
      · first | (split <;> exact hled) | exact hled
      · dsimp only; exact wpAny_pure (hQ h' _ sb r)
    · refine wpAny_bind (wpAny_pure ?_)
      simp only [↓reduceIte]
      refine setG_tail ?_ ho hex hd g1 pL ndL hb1 f1 r1 hled fun h' sb r => ?_
      · intro b s₁ Q' q; cases b <;> first | exact wpAny_pure q | exact wpAny_rule q
      · dsimp only; exact wpAny_pure (hQ h' _ sb r)
/-- the keys of a list, one after another put in -/
def gather (L : List K) (ks : List K) : List K := ks.foldl addK L
theorem addK_len (L : List K) (k : K) : (addK L k).length ≤ L.length + 1 := by
  unfold addK
  split
  · omega
  · simp
theorem mem_addK {L : List K} {k j : K} : j ∈ addK L k ↔ j ∈ L ∨ j = k := by
  unfold addK
  split
  · rename_i h
    exact ⟨.inl, fun z => z.elim id fun e => e ▸ h⟩
  · rw [List.mem_cons]
    exact Or.comm
theorem mem_gather {j : K} : ∀ {ks L : List K}, j ∈ gather L ks ↔ j ∈ L ∨ j ∈ ks
  | [], L => by simp [gather]
  | k :: ks, L => by
    show j ∈ gather (addK L k) ks ↔ _
    rw [mem_gather, mem_addK, List.mem_cons, or_assoc]
theorem gather_len : ∀ (ks L : List K), (gather L ks).length ≤ L.length + ks.length
  | [], L => by simp [gather]
  | k :: ks, L => by
    have h1 := gather_len ks (addK L k)
    have h2 := addK_len L k
    show (gather (addK L k) ks).length ≤ _
    rw [List.length_cons]
    omega
theorem setG_loop {R : Result → Shared → Prop} {I : Addr} {fp wr : List Addr} {G : Array GenState → Array GenState → Prop} {n : Nat} {Pv : Nat → Value → Prop} {St : Nat → Shared → Prop} (W : WalksS P w A.in1 I fp wr G n Pv St) (T : Addr) (hT : T ∉ fp)
    (ks : List K) (hn : ks.length = n) (hval : ∀ i v, Pv i v → ∃ k, ks[i]? = some k ∧ knd.is k v = true ∧ v.scannable = true) :
    ∀ (m i : Nat) (L : List K) (s : Shared), n - i = m → i ≤ n → St i s → L.length + m + 1 < scanBound → SetG knd s.heap T L →
      (∀ s', Moved (T :: wr) G s s' → SetG knd s'.heap T (gather L (ks.drop i)) → R (.ok (.ret .none)) s') →
      codeAny (model P w) A (.builtin "set.update.loop" ⟨[.ref T, .ref I], []⟩) R s := by
  have hTw : T ∉ wr := fun h => hT (W.sub _ h)
  have up : ∀ b ∈ wr, b ∈ T :: wr := fun b hb => List.mem_cons_of_mem _ hb
  intro m
  induction m with
  | zero =>
    intro i L s hm hi st hb hS hR
    obtain rfl : i = n := by omega
    refine codeAny_builtin F.entry_set_update_loop ?_
    rw [Around.under_plainId F.plain_set_update_loop _]
    show wpAny _ A.in1 (pyNext (.ref I) >>= _) _ _ s
    refine wpAny_bind (W.done s _ _ st fun s' mv => ?_)
    show wpAny _ A.in1 (ret Value.none) _ _ s'
    refine wpAny_pure (hR s' (mv.mono up) ?_)
    rw [List.drop_of_length_le (by omega)]
    exact hS.at fun o e => mv.heap T o hTw e
  | succ m ih =>
    intro i L s hm hi st hb hS hR
    have hlt : i < n := by omega
    refine codeAny_builtin F.entry_set_update_loop ?_
    rw [Around.under_plainId F.plain_set_update_loop _]
    show wpAny _ A.in1 (pyNext (.ref I) >>= _) _ _ s
    refine wpAny_bind (W.item i s _ _ hlt st fun v s1 hP st1 mv => ?_)
    obtain ⟨k, ek, hkey, hsc⟩ := hval i v hP
    have hS1 : SetG knd s1.heap T L := hS.at fun o e => mv.heap T o hTw e
    show wpAny _ A.in1 (holding [v] (setAdd T v) >>= _) _ _ s1
    refine wpAny_bind (wpAny_holding ?_)
    unfold setAdd
    refine wpAny_holding (wpAny_bind (knd.pyHash hkey ?_))
    refine setG_add_hashed (s := { s1 with toks := s1.toks + 1 }) hkey hsc hS1 (by omega) fun g b sb hS2 => ?_
    have hb2 := addK_len L k
    refine wpAny_pure ⟨plainId_quiet F.plain_set_update_loop _, ih (i + 1) (addK L k) _ (by omega) hlt (W.frame _ s1 _ _ st1 (Nat.le_succ _) fun c hc o e => ?_) (by omega) hS2 fun s2 mv2 hS3 => ?_⟩
    · rw [sb.2 c (fun h : c = T => hT (by rw [← h]; exact hc))]; exact e
    · refine hR s2 (Moved.trans W.gtrans ((mv.mono up).then_heap (Nat.le_succ _) fun c o hc e => ?_) mv2) ?_
      · rw [sb.2 c (fun h : c = T => hc (by rw [h]; exact List.mem_cons_self))]; exact e
      · have ed : ks.drop i = k :: ks.drop (i + 1) := by
          obtain ⟨hi', ek'⟩ := List.getElem?_eq_some_iff.mp ek
          rw [← ek']
          exact List.drop_eq_getElem_cons hi'
        rw [ed]
        exact hS3
end
end
end Ty
namespace Ty
open PySem PySem.Spec PyProof.Rows L2
section
variable {P : Program} {w : World} {K : Type} [DecidableEq K] [BEq K] [LawfulBEq K] {knd : PySem.KeyKind P w K}
variable {A : Around} {E : Value → Shared → Prop} {s : Shared}
theorem paired_at {α β : Type} {R : α → β → Prop} : ∀ {l : List α} {ks : List β}, Paired R l ks → ∀ (i : Nat) (x : α), l[i]? = some x → ∃ k, ks[i]? = some k ∧ R x k
  | _, _, .nil, i, x, h => by simp at h
  | _, _, .cons r t, 0, x, h => by
    simp at h
    subst h
    exact ⟨_, rfl, r⟩
  | _, _, .cons r t, i + 1, x, h => paired_at t i x (by simpa using h)
theorem setG_fresh {h : Heap} {a : Addr} (ho : h.get? a = some { cls := .type "set", dict := none, data := .set #[] 0 (.fresh 0 0 (!w.params.followText "set-order")) }) : SetG knd h a [] :=
  ⟨_, #[], 0, _, [], ho, ⟨rfl, rfl, rfl⟩, rfl, .nil, .refl _, .nil, by decide, rfl, List.Pairwise.nil, by
    show _ ∨ (!w.params.followText "set-order") = true
    cases w.params.followText "set-order"
    · exact .inr rfl
    · exact .inl rfl⟩
abbrev newSet (w : World) : Obj := { cls := .type "set", dict := none, data := .set #[] 0 (.fresh 0 0 (!w.params.followText "set-order")) }
theorem code_new_set1 (b : Value) {Q₁ : Value → Shared → Prop} (h : Q₁ (.ref s.heap.objs.size) { s with heap := s.heap.push (newSet w) }) :
    codeAny (model P w) A (.call (.builtin "set.__new__") ⟨[.type "set", b], []⟩) (wants Q₁ E) s := by
  refine codeAny_of_tree ?_
  show wpAny _ A.in1 (do checkBuiltinCall "set.__new__" ⟨[.type "set", b], []⟩; again (.builtin "set.__new__" ⟨[.type "set", b], []⟩)) _ _ s
  refine wpAny_bind (wpAny_of_eq (F.newCall_set_1 b) (wpAny_pure ⟨plainId_quiet F.plain_set_new _, codeAny_builtin F.entry_set_new ?_⟩))
  rw [Around.under_plainId F.plain_set_new _]
  unfold Builtin.«set.__new__» Builtin.Frozenset.newClass
  have hsub := sub_set_self
  obtain ⟨hp, g, d, tk, os⟩ := s
  dsimp only
  wp_walk
  refine wpAny_askSetting (wpAny_pure ?_)
  dsimp only
  simp only [newObj]
  exact wpAny_bind (wpAny_alloc (wpAny_pure (wpAny_pure h)))
set_option maxHeartbeats 3200000 in
/-- set(a list of keys) -/
theorem call_setL {l : Addr} {items : List Value} {ks : List K} {Q : Value → Shared → Prop} (hh : A.handled = none) (hl : s.heap.IsList l items.toArray) (hk : Paired (fun v k => knd.is k v = true ∧ v.scannable = true) items ks) (hb : items.length + 1 < scanBound)
    (h : ∀ (g : Heap) (tk : Nat), SetG knd g s.heap.objs.size (gather [] ks) → (∀ b o, s.heap.get? b = some o → g.get? b = some o) → Q (.ref s.heap.objs.size) { s with heap := g, toks := tk }) :
    wpAny (model P w) A (call (.type "set") [.ref l]) Q E s := by
  obtain ⟨c, tl, hmro⟩ := F.called_set.mro
  have hmade := F.called_set.made
  have hsub := F.called_set.sub
  refine wpAny_call (codeAny_of_tree ?_)
  show wpAny _ _ (callAny (.type "set") _) _ _ _
  refine wpAny_pure ⟨Code.quiet_builtin _ (by decide +kernel), codeAny_builtin F.entry_type_call ?_⟩
  rw [Around.under_plain (weight_type_call_type "set" [.ref l] []) rfl]
  have h1 := F.called_set.notType
  have h2 := F.called_set.canCreate
  have hct := F.typeCall_set_1 (.ref l)
  repeat (any_goals (first | assumption | wp_step))
  refine codeAny_mono (code_new_set1 (.ref l) (E := E) (Q₁ := fun obj s₁ => obj = .ref s.heap.objs.size ∧ s₁ = { s with heap := s.heap.push (newSet w) }) ⟨rfl, rfl⟩) fun r s₁ hr => ?_
  cases r with
  | error e => exact hr
  | ok fl =>
    cases fl with
    | next => exact hr.elim
    | brk => exact hr.elim
    | cont => exact hr.elim
    | ret obj =>
      obtain ⟨rfl, rfl⟩ := hr
      have hS : (s.heap.push (newSet w)).get? s.heap.objs.size = some (newSet w) := Heap.get?_push_size _ rfl
      have hT : Shared.TypeIs { s with heap := s.heap.push (newSet w) } (.ref s.heap.objs.size) "set" := ⟨_, hS, rfl⟩
      have hli := F.called_set.init.lookup
      have hbi := F.called_set.init.bind (.ref s.heap.objs.size)
      repeat (any_goals (first | assumption | wp_step))
      refine codeAny_mono (codeAny_call_builtin (R := wants (fun r s₂ => r = .none ∧ ∃ g tk, s₂ = { s with heap := g, toks := tk } ∧ SetG knd g s.heap.objs.size (gather [] ks) ∧ (∀ b o, s.heap.get? b = some o → g.get? b = some o)) E)
        F.called_set.init.plain F.entry_set_init (check_set_init_1 hT ?_)) fun r₂ s₂ hr₂ => ?_
      · obtain ⟨⟨ocls, odict, odata, oslots⟩, hol, hcl, nl, hdl⟩ := hl
        simp only at hcl hdl
        subst hcl hdl
        have hol' : (s.heap.push (newSet w)).get? l = some { cls := .type "list", dict := odict, data := .seq items.toArray nl, slots := oslots } := Heap.get?_push_of_some _ hol
        have hsls := F.sub_list_set
        have hslf := F.sub_list_frozenset
        have hne : (Value.type "list" == Value.type "dict") = false := by decide
        have hl1 : (s.heap.push (newSet w)).IsList l items.toArray := ⟨_, hol', rfl, nl, rfl⟩
        unfold Builtin.«set.__init__» noKeywords Builtin.Frozenset.updateFrom
        generalize hPI : pyIter = PI
        wp_walk
        subst hPI
        refine wpAny_pyIter_list hl1 (wpAny_bind (wpAny_runValue ?_))
        have hlS : l < s.heap.objs.size := Heap.lt_size hol
        have hh3 : A.in1.in1.in1.handled = none := by simp [hh]
        have z1 : (s.heap.push (newSet w)).objs.size = s.heap.objs.size + 1 := Heap.size_push ..
        have hneI : l ≠ (s.heap.push (newSet w)).objs.size := by rw [z1]; exact Nat.ne_of_lt (Nat.lt_succ_of_lt hlS)
        have hSf : s.heap.objs.size ∉ [(s.heap.push (newSet w)).objs.size, l] := by
          rw [z1]
          simp only [List.mem_cons, List.not_mem_nil, or_false, not_or]
          exact ⟨Nat.ne_of_lt (Nat.lt_succ_self _), Nat.ne_of_gt hlS⟩
        have hlen := Paired.length hk
        have hval : ∀ (i : Nat) (v : Value), items.toArray[i]? = some v → ∃ k, ks[i]? = some k ∧ knd.is k v = true ∧ v.scannable = true := fun i v hv => paired_at hk i v (by simpa using hv)
        refine setG_loop ((Walks.list hh3 _ l hneI items.toArray).toS) s.heap.objs.size hSf ks (by simp [hlen]) hval items.length 0 [] _ (by simp) (Nat.zero_le _)
          ⟨⟨_, Heap.get?_push_size _ rfl, rfl, rfl⟩, hl1.push _⟩ (by simpa using hb) (setG_fresh (Heap.get?_push_of_some _ hS)) fun s' hm hS' => ?_
        obtain ⟨g, g', d', tk', os'⟩ := s'
        have eg : g' = s.gens := hm.gens
        have ed : d' = s.drawn := hm.drawn
        have eo : os' = s.os := hm.os
        subst eg ed eo
        show wpAny _ _ _ _ _ _
        refine wpAny_pure ?_
        show wpAny _ _ (ret Value.none) _ _ _
        refine wpAny_pure ⟨rfl, g, tk', rfl, hS', fun b o e => ?_⟩
        have hb0 : b < s.heap.objs.size := Heap.lt_size e
        have hb1 : b ≠ s.heap.objs.size := Nat.ne_of_lt hb0
        have hb2 : b ≠ (s.heap.push (newSet w)).objs.size := by rw [z1]; exact Nat.ne_of_lt (Nat.lt_succ_of_lt hb0)
        exact hm.heap b o (by simp only [List.mem_cons, List.not_mem_nil, or_false, not_or]; exact ⟨hb1, hb2⟩) (Heap.get?_push_of_some _ (Heap.get?_push_of_some _ e))
      · cases r₂ with
        | error e => exact hr₂
        | ok fl₂ =>
          cases fl₂ with
          | next => exact hr₂.elim
          | brk => exact hr₂.elim
          | cont => exact hr₂.elim
          | ret r =>
            obtain ⟨rfl, g, tk, rfl, hS', hk'⟩ := hr₂
            repeat (any_goals (first | assumption | wp_step))
            exact h _ _ hS' hk'
end
end Ty
namespace Ty
open PySem PySem.Spec PyProof.Rows L2
/-- a set of texts, in the abstract heap -/
def SetTx (P : Program) (w : World) (a : Addr) (L : List Str) : HO := .ext fun h => SetG (PySem.strKind P w) h a L
section
variable {P : Program} {w : World} {A : Around} {E : Value → Shared → Prop} {s : Shared}
theorem strs_scan : ∀ {xs : List Str} {us : List Value}, Vals (xs.map V.str) us → Paired (fun v k => (PySem.strKind P w).is k v = true ∧ v.scannable = true) us xs
  | [], _, h => by
    cases h
    exact .nil
  | x :: xs, _, h => by
    cases h with
    | cons r t =>
      obtain ⟨k, rfl⟩ := r
      exact .cons ⟨by show Value.isStrOf x (.str x k) = true; simp [Value.isStrOf], rfl⟩ (strs_scan t)
theorem strs_are : ∀ {es : List (Int × Value)} {ks : List Str}, Paired (EntOf (PySem.strKind P w)) es ks → StrsAre (es.map (·.2)) ks
  | [], _, h => by
    cases h
    exact .nil
  | e :: es, _, h => by
    cases h with
    | @cons _ k _ ks r t =>
      obtain ⟨u, hu⟩ := Value.isStrOf_shape (x := k) (v := e.2) r.1
      rw [List.map_cons, hu]
      exact .cons k u (strs_are t)
theorem strs_perm {l l' : List Value} (p : l'.Perm l) : ∀ {ks : List Str}, StrsAre l ks → ∃ ks', StrsAre l' ks' ∧ ks'.Perm ks := by
  induction p with
  | nil => exact fun h => ⟨_, h, .refl _⟩
  | cons x _ ih =>
    intro ks h
    cases h with
    | cons k u t =>
      obtain ⟨ks', h1, h2⟩ := ih t
      exact ⟨_, .cons k u h1, h2.cons _⟩
  | swap x y l =>
    intro ks h
    cases h with
    | cons k u t =>
      cases t with
      | cons k' u' t' => exact ⟨_, .cons k' u' (.cons k u t'), .swap ..⟩
  | trans _ _ ih1 ih2 =>
    intro ks h
    obtain ⟨k1, h1, p1⟩ := ih2 h
    obtain ⟨k2, h2, p2⟩ := ih1 h1
    exact ⟨k2, h2, p2.trans p1⟩
/-- sorted(a set of texts) -/
theorem sorted_setTx {a : Addr} {L : List Str} {Q : Value → Shared → Prop} (R : SetG (PySem.strKind P w) s.heap a L) (hh : A.handled = none) (h64 : L.length < 64)
    (hQ : ∀ s' p (out : Array Value) (c : Nat) (ys : List Str), (∀ b o, s.heap.get? b = some o → s'.heap.get? b = some o) → s'.gens = s.gens → s'.os = s.os → s.heap.objs.size ≤ p →
      s'.heap.get? p = some (seqObj "list" out c) → StrsAre out.toList ys → ys.Perm L → sortedS ys = true → Q (.ref p) s') :
    wpAny (model P w) A (call (.builtin "sorted") [.ref a]) Q E s := by
  obtain ⟨o, es, ep, t, ks, ho, hex, hd, g, pk, nd, hb, hf, hr, hl⟩ := R
  refine Calls.call_function_entry kind_sorted plain_sorted entry_sorted (args_sorted1 _) ?_
  unfold Builtin.«sorted»
  refine wpAny_bind (m := checkCount "sorted" 1 1 _) (wpAny_pure ?_)
  refine wpAny_bind (collect_set (A := A.in1) hh ⟨o, ho, hex.1, hd⟩ hf hb hr hl fun s1 vs k1 hz g1 o1 pm => ?_)
  obtain ⟨k2, hS, pk2⟩ := strs_perm pm (strs_are g)
  have hvl : vs.length < 64 := by
    have e1 := pm.length_eq
    rw [List.length_map, Paired.length g, pk.length_eq] at e1
    omega
  refine wpAny_bind (wpAny_newList ?_ (by rw [sizeLine_eq]; omega))
  have hoL : (s1.heap.push (seqObj "list" vs.toArray 0)).get? s1.heap.objs.size = some (seqObj "list" vs.toArray 0) := Heap.get?_push_size _ rfl
  refine wpAny_bind (wpAny_holding (wpAny_call_entry PyProof.Rows.slot_list_sort ⟨_, hoL, rfl⟩ PyProof.Rows.entry_list_sort
    (list_sort_treeK strKind_oneLt hoL hS.keysOf (fun v₁ v₂ rest e => keyKind_strs (by rw [← e]; exact hS)) hvl fun st' hp hs => ?_) (PyProof.Rows.args_list_sort _)))
  obtain ⟨ys, q1, q2, q3⟩ := sorted_out_str hS hp hs
  obtain ⟨c, hc⟩ := PyProof.Rows.sortedHeap_at (vs := vs) (out := (arrOf st').map (·.2)) hoL
  refine ⟨_, rfl, wpAny_pure ⟨_, rfl, hQ _ s1.heap.objs.size _ c ys (fun b u e => ?_) g1 o1 hz hc q1 ((q2.trans pk2).trans pk) q3⟩⟩
  have q := k1 b u e
  have hlt := Heap.lt_size q
  rw [PyProof.Rows.sortedHeap_old (Nat.ne_of_lt hlt) (by rw [Heap.size_push]; exact Nat.lt_succ_of_lt hlt)]
  exact Heap.get?_push_of_some _ q
end
section
variable {X : Cx}
/-- set(a list of texts) -/
def rSetTx (K : PySem.W.Frag) (P : Program) (w : World) : List V → Hp → VK → Prop := fun vs H Q => ∃ (l : Addr) (xs : List Str), vs = [.ref l] ∧ SqL K H l (xs.map V.str) ∧ xs.length + 1 < scanBound ∧
  ∀ p, H p = none → Q (.ref p) (upd H p (SetTx P w p (gather [] xs)))
theorem cr_setTx (hc : X.calm = true) : CallR X (.type "set") (rSetTx X.K X.prog X.w) := by
  intro pins s σ H vs us Q I r h
  obtain ⟨l, xs, rfl, hq, hb, q⟩ := h
  obtain ⟨u, rfl, rx⟩ := vals1 r
  cases rx
  obtain ⟨its, rv, hl, _⟩ := I.list hq
  have hlen := rv.length
  rw [List.length_map] at hlen
  refine call_setL (knd := PySem.strKind X.prog X.w) (I.ok.hd hc) hl.isList (strs_scan rv) (by rw [← hlen]; exact hb) fun g tk hS kp => ?_
  have new : ObjOk X.prog X.w (upd H s.heap.objs.size (SetTx X.prog X.w s.heap.objs.size (gather [] xs))) g s.heap.objs.size (SetTx X.prog X.w s.heap.objs.size (gather [] xs)) := by
    have ⟨o, _, _, _, _, ho, _⟩ := hS
    exact ⟨hS, ⟨o, ho⟩, fun h1 h2 p k => p.at k⟩
  exact ⟨.ref _, _, I.laid (t' := tk) kp (Nat.le_refl _) new, rfl, q _ (I.hok.fresh (Nat.le_refl _))⟩
/-- sorted(a set of texts) -/
def rSortedTx (P : Program) (w : World) : List V → Hp → VK → Prop := fun vs H Q => ∃ (a : Addr) (L : List Str), vs = [.ref a] ∧ H a = some (SetTx P w a L) ∧ L.length < 64 ∧
  ∀ ys p, ys.Perm L → sortedS ys = true → H p = none → Q (.ref p) (upd H p (.lst (ys.map V.str)))
theorem cr_sortedTx (hc : X.calm = true) : CallR X (.builtin "sorted") (rSortedTx X.prog X.w) := by
  intro pins s σ H vs us Q I r h
  obtain ⟨a, L, rfl, ha, h64, q⟩ := h
  obtain ⟨u, rfl, rx⟩ := vals1 r
  cases rx
  have hS : SetG (PySem.strKind X.prog X.w) s.heap a L := (I.hok a _ ha).1
  refine sorted_setTx hS (I.ok.hd hc) h64 fun s' p out c ys kp eg eo hp hat h1 h2 h3 => ?_
  obtain ⟨g, g', d', t', o'⟩ := s'
  have eg : g' = s.gens := eg
  have eo : o' = s.os := eo
  subst eg eo
  have hlen : (ys.map V.str).length ≤ sizeLine := by
    rw [List.length_map, h2.length_eq, sizeLine_eq]
    omega
  have I1 : Inv X pins σ (upd H p (.lst (ys.map V.str))) { s with heap := g, toks := t' } := I.laid (t' := t') (fun b o e => kp b o e) hp ⟨hlen, out.toList, c, vals_of_strs h1, by simpa [seqObj] using hat⟩
  exact ⟨.ref p, _, ⟨I1.ok, I1.os, I1.bare, I1.base, I1.loc, I1.cell, I1.free, I1.freeC, I1.pin, I1.hok, I1.len⟩, rfl, q ys p h2 h3 (I.hok.fresh hp)⟩
end
end Ty
namespace Ty
open PySem PySem.Spec PyProof.Rows L2
/-! ### data in the abstract heap, apart from the jar's address -/
mutual
/-- v reads as d; none of its lists lies at j -/
inductive Rep (j : Addr) (H : Hp) : V → PyData → Prop
  | non : Rep j H .non .none
  | bl (b : Bool) : Rep j H (.bl b) (.bool b)
  | int (i : Int) : Rep j H (.int i) (.int i)
  | str (x : Str) : Rep j H (.str x) (.str x)
  | lst {a : Addr} {xs : List V} {ds : List PyData} : a ≠ j → sysModules < a → H a = some (.lst xs) → Reps j H xs ds → Rep j H (.ref a) (.list ds)
  | tup {a : Addr} {xs : List V} {ds : List PyData} : a ≠ j → H a = some (.tup xs) → Reps j H xs ds → Rep j H (.ref a) (.tuple ds)
  | dct {a : Addr} : a ≠ j → H a = some (.dK []) → Rep j H (.ref a) (.dict [])
inductive Reps (j : Addr) (H : Hp) : List V → List PyData → Prop
  | nil : Reps j H [] []
  | cons {v : V} {vs : List V} {d : PyData} {ds : List PyData} : Rep j H v d → Reps j H vs ds → Reps j H (v :: vs) (d :: ds)
end
/-- all that is tracked apart from j stands -/
def Keep (j : Addr) (H H' : Hp) : Prop := ∀ b o, b ≠ j → H b = some o → H' b = some o
theorem Keep.refl {j : Addr} {H : Hp} : Keep j H H := fun _ _ _ h => h
theorem Keep.trans {j : Addr} {H H1 H2 : Hp} (a : Keep j H H1) (b : Keep j H1 H2) : Keep j H H2 := fun c o n h => b c o n (a c o n h)
theorem Keep.of_same {j : Addr} {H H' : Hp} (s : Same H H') : Keep j H H' := fun b o _ h => s b o h
theorem same_new {H : Hp} {p : Addr} (h : H p = none) (o : HO) : Same H (upd H p o) := fun b u q => by rw [upd_ne (ne_of_none q h)]; exact q
theorem keep_new {j : Addr} {H : Hp} {p : Addr} (h : H p = none) (o : HO) : Keep j H (upd H p o) := .of_same (same_new h o)
theorem keep_jar {j : Addr} {H : Hp} (o : HO) : Keep j H (upd H j o) := fun b u n q => by rw [upd_ne n]; exact q
section
variable {j : Addr} {H H' : Hp}
mutual
theorem Rep.keep (k : Keep j H H') : ∀ (d : PyData) (v : V), Rep j H v d → Rep j H' v d
  | .none, _, h => by cases h; exact .non
  | .bool _, _, h => by cases h; exact .bl _
  | .int _, _, h => by cases h; exact .int _
  | .str _, _, h => by cases h; exact .str _
  | .list ds, _, h => by
    cases h with
    | lst n g e r => exact .lst n g (k _ _ n e) (Reps.keep k ds _ r)
  | .tuple ds, _, h => by
    cases h with
    | tup n e r => exact .tup n (k _ _ n e) (Reps.keep k ds _ r)
  | .dict _, _, h => by
    cases h with
    | dct n e => exact .dct n (k _ _ n e)
theorem Reps.keep (k : Keep j H H') : ∀ (ds : List PyData) (vs : List V), Reps j H vs ds → Reps j H' vs ds
  | [], _, h => by cases h; exact .nil
  | d :: ds, _, h => by
    cases h with
    | cons r t => exact .cons (Rep.keep k d _ r) (Reps.keep k ds _ t)
end
theorem Reps.length : ∀ {vs : List V} {ds : List PyData}, Reps j H vs ds → vs.length = ds.length
  | _, _, .nil => rfl
  | _, _, .cons _ t => by rw [List.length_cons, List.length_cons, Reps.length t]
theorem Reps.get : ∀ {vs : List V} {ds : List PyData} {i : Nat} {v : V}, Reps j H vs ds → vs[i]? = some v → ∃ d, ds[i]? = some d ∧ Rep j H v d
  | _, _, _, _, .nil, e => by simp at e
  | _, _, 0, _, .cons r _, e => by simp at e; subst e; exact ⟨_, rfl, r⟩
  | _, _, i + 1, v, .cons _ t, e => by
    obtain ⟨d, h1, h2⟩ := Reps.get (i := i) (v := v) t (by simpa using e)
    exact ⟨d, by simpa using h1, h2⟩
theorem Reps.append : ∀ {vs ws : List V} {ds es : List PyData}, Reps j H vs ds → Reps j H ws es → Reps j H (vs ++ ws) (ds ++ es)
  | _, _, _, _, .nil, t => t
  | _, _, _, _, .cons r q, t => .cons r (Reps.append q t)
theorem Reps.take : ∀ {vs : List V} {ds : List PyData} (n : Nat), Reps j H vs ds → Reps j H (vs.take n) (ds.take n)
  | _, _, 0, _ => .nil
  | _, _, _ + 1, .nil => .nil
  | _, _, n + 1, .cons r t => .cons r (Reps.take n t)
theorem Reps.drop : ∀ {vs : List V} {ds : List PyData} (n : Nat), Reps j H vs ds → Reps j H (vs.drop n) (ds.drop n)
  | _, _, 0, r => r
  | _, _, _ + 1, .nil => .nil
  | _, _, n + 1, .cons _ t => Reps.drop n t
theorem Reps.reverse : ∀ {vs : List V} {ds : List PyData}, Reps j H vs ds → Reps j H vs.reverse ds.reverse
  | _, _, .nil => .nil
  | _, _, .cons r t => by
    rw [List.reverse_cons, List.reverse_cons]
    exact Reps.append (Reps.reverse t) (.cons r .nil)
end
section
variable {X : Cx} {pins : List (Addr × Obj)} {σ : L2.St} {H : Hp} {s : Shared} {j : Addr}
mutual
theorem Rep.reads (I : Inv X pins σ H s) : ∀ (d : PyData) (v : V) (u : Value), Rep j H v d → RelV v u → ∃ as, Reads s.heap u d as ∧ sysModules ∉ as
  | .none, _, _, h, r => by
    cases h
    cases r
    exact ⟨_, Reads.none, by simp⟩
  | .bool b, _, _, h, r => by
    cases h
    cases r
    exact ⟨_, Reads.bool b, by simp⟩
  | .int i, _, _, h, r => by
    cases h
    obtain ⟨t, rfl⟩ := r
    exact ⟨_, Reads.int i t, by simp⟩
  | .str x, _, _, h, r => by
    cases h
    obtain ⟨t, rfl⟩ := r
    exact ⟨_, Reads.str x t, by simp⟩
  | .list ds, _, _, h, r => by
    cases h with
    | lst n g e q =>
      cases r
      obtain ⟨z, its, m, rv, ho⟩ := I.hok _ _ e
      obtain ⟨as, hr, hn⟩ := Reps.reads I ds _ its q rv
      exact ⟨_, Reads.list ho rfl rfl (by simpa using hr), by simp only [List.mem_cons, not_or]; exact ⟨Nat.ne_of_lt g, hn⟩⟩
  | .tuple ds, _, _, h, r => by
    cases h with
    | tup n e q =>
      cases r
      obtain ⟨z, its, rv, o, ho, hc, m, hd⟩ := I.hok _ _ e
      obtain ⟨as, hr, hn⟩ := Reps.reads I ds _ its q rv
      exact ⟨_, Reads.tuple ho hc hd (by simpa using hr), hn⟩
  | .dict _, _, _, h, r => by
    cases h with
    | @dct a n e =>
      cases r
      obtain ⟨z, hs, vs, rel, dd⟩ := I.hok _ _ e
      cases rel
      obtain ⟨o, es, ep, ho, hx, hd, _, hp, _⟩ := dd
      have he : es.toList = [] := by
        cases q : es.toList with
        | nil => rfl
        | cons e l =>
          rw [q] at hp
          cases hp
      have hn : (a == sysModules) = false := hs
      exact ⟨_, Reads.dict (kvs := []) ho hx.1 hd (by rw [he]; exact ReadsAll.nil) (by rw [he]; exact ReadsAll.nil), by
        simp only [List.append_nil, List.mem_cons, List.not_mem_nil, or_false]
        intro z
        rw [← z] at hn
        simp at hn⟩
theorem Reps.reads (I : Inv X pins σ H s) : ∀ (ds : List PyData) (vs : List V) (us : List Value), Reps j H vs ds → Vals vs us → ∃ as, ReadsAll s.heap us ds as ∧ sysModules ∉ as
  | [], _, _, h, r => by
    cases h
    cases r
    exact ⟨_, ReadsAll.nil, by simp⟩
  | d :: ds, _, _, h, r => by
    cases h with
    | cons h1 h2 =>
      cases r with
      | cons r1 r2 =>
        obtain ⟨as, q1, n1⟩ := Rep.reads I d _ _ h1 r1
        obtain ⟨bs, q2, n2⟩ := Reps.reads I ds _ _ h2 r2
        exact ⟨_, ReadsAll.cons q1 q2, by simp only [List.mem_append, not_or]; exact ⟨n1, n2⟩⟩
end
end
end Ty
namespace Ty
open PySem PySem.Spec PyProof.Rows L2
section
variable {X : Cx}
/-! ### new lists that lie behind the modules' table -/
def tLstN (t : TA) : TE := fun σ H Q => t σ H fun xs H1 => xs.length ≤ sizeLine ∧ ∀ p, H1 p = none → sysModules < p → Q (.ref p) (upd H1 p (.lst xs))
theorem pe_lstN {es : List Expr} {t : TA} {pos : Pos} (h : PA X es t) : PE X (.List es pos) (tLstN t) := by
  refine ⟨fun pins s σ H Q I hq => ?_⟩
  refine wpAny_List_spliced (thn (h.run pos pins s σ H _ I hq) fun us s1 hv => ?_)
  obtain ⟨xs, H1, I1, r, z, q⟩ := hv
  refine ⟨by rw [← r.length]; exact z, .ref s1.heap.objs.size, upd H1 s1.heap.objs.size (.lst xs), I1.laid (t' := s1.toks) (fun b u e => Heap.get?_push_of_some _ e) (Nat.le_refl _) ⟨z, us, 0, r, Heap.get?_push_size _ rfl⟩, rfl, q _ (I1.hok.fresh (Nat.le_refl _)) I1.big⟩
def rListN (K : PySem.W.Frag) : List V → Hp → VK → Prop := fun xs H Q => ∃ p ys, xs = [.ref p] ∧ SqT K H p ys ∧ ∀ l, H l = none → sysModules < l → Q (.ref l) (upd H l (.lst ys))
theorem call_listN : CallR X (.type "list") (rListN X.K) := by
  intro pins s σ H xs us Q I r h
  obtain ⟨p, ys, rfl, hq, q⟩ := h
  obtain ⟨u, rfl, rx⟩ := vals1 r
  cases rx
  obtain ⟨its, r', pl, hz⟩ := I.tuple hq
  have hlen := r'.length
  obtain ⟨o, ho, hc, n, hd⟩ := pl
  refine call_list_seq p (.inr rfl) ho hc hd (fun g c kp e => ?_) (by rw [List.size_toArray, ← hlen]; exact hz)
  exact ⟨.ref s.heap.objs.size, _, I.laid (t' := s.toks) kp (Nat.le_refl _) (show ObjOk X.prog X.w _ g _ (.lst ys) from ⟨hz, its, c, r', e⟩), rfl, q _ (I.hok.fresh (Nat.le_refl _)) I.big⟩
/-! ### str of data, where no repr is under way -/
def strD : PyData → Str
  | .str x => x
  | d => d.shown
def rStrD (j : Addr) : List V → Hp → VK → Prop := fun vs H Q => ∃ v d, vs = [v] ∧ Rep j H v d ∧ d.showable = true ∧ d.shown.length ≤ sizeLine ∧ d.depth ≤ 60 ∧ Q (.str (strD d)) H
theorem call_strD {j : Addr} (hg : X.A.guards = some []) (hu : X.A.units + 64 < cLine) : CallR X (.type "str") (rStrD j) := by
  intro pins s σ H xs us Q I r h
  obtain ⟨v, d, rfl, rp, hs, hz, hd, q⟩ := h
  obtain ⟨u, rfl, rx⟩ := vals1 r
  cases rp with
  | non => cases rx; exact PySem.P.str_of_none ⟨.str _, H, I.tok _, ⟨_, rfl⟩, q⟩
  | bl b => cases rx; exact PySem.P.str_of_bool ⟨.str _, H, I.tok _, ⟨_, rfl⟩, q⟩
  | int i => obtain ⟨t, rfl⟩ := rx; exact PySem.P.str_of_int (of_decide_eq_true hs) ⟨.str _, H, I.tok _, ⟨_, rfl⟩, q⟩
  | str x => obtain ⟨t, rfl⟩ := rx; exact PySem.P.str_of_str ⟨.str x, H, I, ⟨_, rfl⟩, q⟩
  | lst n g e rs =>
    obtain ⟨as, rd, hn⟩ := Rep.reads I _ _ _ (.lst n g e rs) rx
    cases rx
    exact str_of_reads rd hs (fun _ => hn) hg (by omega) (fun _ _ e => e) (fun g u tk kp => ⟨.str _, H, I.kept (t' := tk) kp, ⟨_, rfl⟩, q⟩) hz
  | tup n e rs =>
    obtain ⟨as, rd, hn⟩ := Rep.reads I _ _ _ (.tup n e rs) rx
    cases rx
    exact str_of_reads rd hs (fun _ => hn) hg (by omega) (fun _ _ e => e) (fun g u tk kp => ⟨.str _, H, I.kept (t' := tk) kp, ⟨_, rfl⟩, q⟩) hz
  | dct n e =>
    obtain ⟨as, rd, hn⟩ := Rep.reads I _ _ _ (.dct n e) rx
    cases rx
    exact str_of_reads rd hs (fun _ => hn) hg (by omega) (fun _ _ e => e) (fun g u tk kp => ⟨.str _, H, I.kept (t' := tk) kp, ⟨_, rfl⟩, q⟩) hz
/-! ### a tuple against the empty one -/
def rEqT0 (K : PySem.W.Frag) : R2 := fun x y H Q => ∃ a b xs, x = .ref a ∧ y = .ref b ∧ SqT K H a xs ∧ SqT K H b [] ∧ Q (.bl (decide (xs = []))) H
theorem op_eqT0 (hu : X.A.units < cLine) : OpR X (compareOp .Eq) (rEqT0 X.K) := by
  intro pins s σ H x y v u Q I rx ry h
  obtain ⟨a, b, xs, rfl, rfl, ha, hb, q⟩ := h
  cases rx
  cases ry
  obtain ⟨its, r1, p1, _⟩ := I.tuple ha
  obtain ⟨its2, r2, p2, _⟩ := I.tuple hb
  cases r2
  have hlen := r1.length
  refine SeqAt.eq_tupleAt (e := fun _ => true) p1 p2 hu (fun k h1 h2 => absurd h2 (by simp)) ⟨.bl _, H, I, rfl, ?_⟩
  have e : ((List.range (min its.toArray.size ([] : List Value).toArray.size)).all (fun _ => true) && its.toArray.size == ([] : List Value).toArray.size) = decide (xs = []) := by
    cases xs with
    | nil =>
      cases its with
      | nil => rfl
      | cons => cases hlen
    | cons =>
      cases its with
      | nil => cases hlen
      | cons => simp
  rw [e]
  exact q
end
end Ty
/-! a law's def at its one entry: the caller's surroundings are known there (no repr is under way), so a body may ask for str of data -/
namespace Ty
open PySem PySem.Spec PyProof.Rows L2
/-- what a def does when it is entered from A -/
def Enters (A : Around) (P : Program) (w : World) (K : PySem.W.Frag) (mg : Str → Option Value) (base : Heap) (f : Addr) (fd : FuncData) (ps : List Str) (sp : Sp) : Prop :=
  ∀ (outer : List Env) (s : Shared) (H : Hp) (args : Args) (us : List Value) (vs : List V) (Q : VK), Env0 P w K mg base A outer s H → BindsTo s fd args (ps.zip us) → Vals vs us → vs.length = ps.length → sp vs H Q E0 →
    codeAny (model P w) A (.call (.ref f) args) (CR CX0 outer P w H s Q E0) s
theorem enters {A : Around} {P : Program} {w : World} {K : PySem.W.Frag} {mg : Str → Option Value} {base : Heap} {x qual : Str} {st : Stmt} {f : Addr} {fd : FuncData} {N ps : List Str} {k : Nat} {sp : Sp} (F : Fun K x qual st f fd) (S : FnScope N ps (defScope st)) (hr : Room (k + 1) A)
    (body : ∀ (cdv : Value) (outer : List Env) (s : Shared) (H : Hp) (vs : List V) (Q : VK), Room k (A.deeper (envOfC qual (defScope st) s.heap.objs.size f cdv)) → sp vs H Q E0 →
      ∃ t, PSs (cxOf CX0 P w K mg base N qual (defScope st) f cdv A outer s H E0).nox (defBody st) t ∧ t { nx := fun _ H' => Q .non H', rt := Q } (start N vs) H) : Enters A P w K mg base f fd ps sp := by
  obtain ⟨oc, od, kV, doc, pm, an, cdv, ct, osl, rfl, lk, hcd⟩ := F.ex
  intro outer s H args us vs Q e0 hb rv hl hsp
  have std : K.In s.heap := e0.mod.kin.keeps fun b o e => (e0.bs b o e).1
  have nl : s.heap.NoLimit := e0.mod.nolimit.keeps fun b o e => (e0.bs b o e).1
  have slots : ∀ y ∈ ps.zip us, (defScope st).names.lookup y.1 = some .local ∨ ((defScope st).names.lookup y.1 = some .cell ∧ ((cellsFrom (s.heap.objs.size + 1) (defScope st).names []).lookup y.1).isSome = true) := by
    rintro ⟨n, v⟩ hy
    cases S.par n (List.of_mem_zip hy).1 with
    | inl h => exact .inl h
    | inr h => exact .inr ⟨h, PySem.W.cellsFrom_some _ _ _ (.inl h)⟩
  apply codeAny_call_function hr.depth (std _ _ lk) rfl S.co S.gen rfl (PySem.W.codeRec_of std hcd)
  apply hb
  apply wpAny_newFunctionEnv_cells S.kind slots
  intro env he s1 fresh
  subst he
  refine ⟨nl.keeps fresh.toInCall.keep, codeAny_func ?_⟩
  obtain ⟨t, ht, ht2⟩ := body cdv outer s H vs Q (hr.deeper _) hsp
  have inv := inv_start (CX := CX0) (E := E0) S hr.hd e0 hl rv fresh
  refine wpAny_mono (ht.nox.run [] s1 (start N vs) H _ inv ht2) ?_ fun _ _ z => z
  intro fl s' out
  cases fl with
  | ret u =>
    obtain ⟨v, _, H', J, r1, r2⟩ := out
    exact ⟨v, H', J.os, J.bare, J.base, J.hok, r1, r2⟩
  | next =>
    obtain ⟨_, H', J, r2⟩ := out
    exact ⟨.non, H', J.os, J.bare, J.base, J.hok, rfl, r2⟩
  | brk => exact out.choose_spec.choose_spec.2.elim
  | cont => exact out.choose_spec.choose_spec.2.elim
/-- the script alone -/
def Lone (a : Addr) (o : Obj) (xs : List V) : Hp := fun b => if b = a then some (.frz o (.lst xs)) else none
def Bare : Hp := fun _ => none
theorem lone_at {a : Addr} {o : Obj} {xs : List V} : Lone a o xs a = some (.frz o (.lst xs)) := if_pos rfl
theorem lone_off {a b : Addr} {o : Obj} {xs : List V} (h : b ≠ a) : Lone a o xs b = none := if_neg h
section
variable {P : Program} {w : World} {K : PySem.W.Frag} {mg mb : Str → Option Value} {fa a : Addr} {fd : FuncData} {x : Str} {sp : Sp} {s : Shared} {vs : List Value} {ns : List Int}
/-- entered over an abstract heap that tracks the script at most -/
theorem entered {H : Hp} (KX : K.In s.heap) (hns : s.heap.Ns mainGlobals mg) (hb : s.heap.Ns builtinsNs mb) (hbb : ∀ x : Str, x ≠ "__name__" → mb x = bootBuiltins x) (hlim : s.heap.NoLimit) (hg : s.gens = #[])
    (ha : s.heap.get? a = some { cls := .type "list", data := .seq vs.toArray }) (F : ∀ base : Heap, K.In base → base.Ns mainGlobals mg → Enters callerA P w K mg base fa fd [x] sp) (bind : ∀ (s : Shared) (u : Value), BindsTo s fd ⟨[u], []⟩ [(x, u)])
    (hq : sp [.ref a] H (fun v _ => v = .bl true) E0) (hok : HOk P w H s.heap) (only : ∀ b, b ≠ a → H b = none) (free : H a ≠ none → K.lookup a = none) (frz : ∀ u, H a = some u → ∃ o xs, u = .frz o (.lst xs)) :
    codeAny (model P w) callerA (.call (.ref fa) ⟨[.ref a], []⟩) (fun r s' => r = .ok (.ret (.bool true)) ∧ OldK s.heap s'.heap ∧ s'.os = s.os ∧ AllBare s'.gens) s := by
  have plain : ∀ {b : Addr} {o : Obj} {es : Array DictEntry} {ep : Nat}, s.heap.get? b = some o → o.data = .dict es ep → H b = none := by
    intro b o es ep e d
    by_cases h : b = a
    · subst h
      rw [ha] at e
      cases e
      cases (show Data.seq vs.toArray _ = Data.dict es ep from d)
    · exact only b h
  have names : ∀ {b : Addr} {m : Str → Option Value}, s.heap.Ns b m → (hidT s.heap H).Ns b m := by
    rintro b m ⟨o, es, ep, e, d, r⟩
    exact ⟨o, es, ep, hidT_get e (plain e d), d, r⟩
  have kin : K.In (hidT s.heap H) := by
    intro b o e
    refine hidT_get (KX b o e) ?_
    by_cases h : b = a
    · subst h
      cases q : H b with
      | none => rfl
      | some u =>
        have := free (by rw [q]; simp)
        rw [this] at e
        cases e
    · exact only b h
  have modl : Mod K mg (hidT s.heap H) := by
    obtain ⟨mc, l1, l2⟩ := hlim
    exact ⟨kin, names hns, ⟨mb, names hb, hbb⟩, ⟨mc, names l1, l2⟩⟩
  have e0 : Env0 P w K mg (hidT s.heap H) callerA [] s H :=
    { frames := rfl, mod := modl, bs := fun b o e => of_hidT e, bsz := Nat.le_of_eq (hidT_size _ _), funs := trivial, frf := fun b h => absurd (show b ∈ ([] : List Addr) from h) List.not_mem_nil, hok := hok, bare := .of_eq hg }
  refine codeAny_mono (F _ kin (names hns) [] s H ⟨[.ref a], []⟩ [.ref a] [.ref a] _ e0 (bind s (.ref a)) (.cons rfl .nil) rfl hq) ?_
  intro r s' out
  match r, out with
  | .error _, out => exact out.elim
  | .ok .next, out => exact out.elim
  | .ok .brk, out => exact out.elim
  | .ok .cont, out => exact out.elim
  | .ok (.ret u), ⟨v, H', os, bare, un, hok', rv, hv⟩ =>
    have hv' : v = .bl true := hv
    subst hv'
    have hu : u = Value.bool true := rv
    refine ⟨by rw [hu], OldK.of_keep fun b o e => ?_, os, bare⟩
    cases q : H b with
    | none => exact un.keep b o e q (fun z => absurd (show b ∈ ([] : List Addr) from z) List.not_mem_nil) (by simp)
    | some u =>
      have hba : b = a := by
        by_cases h : b = a
        · exact h
        · rw [only b h] at q; cases q
      subst hba
      obtain ⟨ob, xs, rfl⟩ := frz u q
      have q2 := un.frzs b ob _ q
      obtain ⟨f1, _⟩ := hok b _ q
      obtain ⟨f2, _⟩ := hok' b _ q2
      rw [e] at f1
      cases f1
      exact f2
theorem law_enter (KX : K.In s.heap) (hns : s.heap.Ns mainGlobals mg) (hb : s.heap.Ns builtinsNs mb) (hbb : ∀ x : Str, x ≠ "__name__" → mb x = bootBuiltins x) (hlim : s.heap.NoLimit) (hg : s.gens = #[])
    (ha : s.heap.get? a = some { cls := .type "list", data := .seq vs.toArray }) (hi : IntsAre vs ns) (hl : ns.length ≤ sizeLine)
    (F : ∀ base : Heap, K.In base → base.Ns mainGlobals mg → Enters callerA P w K mg base fa fd [x] sp) (bind : ∀ (s : Shared) (u : Value), BindsTo s fd ⟨[u], []⟩ [(x, u)])
    (hq : ∀ H : Hp, SqL K H a (ns.map V.int) → sp [.ref a] H (fun v _ => v = .bl true) E0) :
    codeAny (model P w) callerA (.call (.ref fa) ⟨[.ref a], []⟩) (fun r s' => r = .ok (.ret (.bool true)) ∧ OldK s.heap s'.heap ∧ s'.os = s.os ∧ AllBare s'.gens) s := by
  have rv := vals_ints hi
  cases hk : K.lookup a with
  | some o =>
    have e := KX a o hk
    rw [ha] at e
    cases e
    refine entered (H := Bare) KX hns hb hbb hlim hg ha F bind (hq _ (.inr ⟨_, vs.toArray, _, hk, rfl, rfl, rfl, ?_, by simpa using rv⟩)) (fun b u e => nomatch e) (fun _ _ => rfl) (fun h => absurd rfl h) fun u e => nomatch e
    rw [List.size_toArray, hi.length]
    exact hl
  | none =>
    refine entered (H := Lone a { cls := .type "list", data := .seq vs.toArray } (ns.map V.int)) KX hns hb hbb hlim hg ha F bind (hq _ (.inl (.inr ⟨_, lone_at⟩))) (fun b u e => ?_) (fun b h => lone_off h) (fun _ => hk) fun u e => ?_
    · by_cases h : b = a
      · subst h
        rw [lone_at] at e
        cases e
        exact ⟨ha, by rw [List.length_map]; exact hl, vs, _, rv, ha⟩
      · rw [lone_off h] at e
        cases e
    · rw [lone_at] at e
      cases e
      exact ⟨_, _, rfl⟩
end
/-- the head of a law whose def is entered so -/
theorem walk_enter {l : PySem.W.OpenLaw} {n : Nat} {q : Program} {loose : List Str} {XP : (Str → Option Value) → Heap → Prop} {YP : World → Heap → Prop} {d : DefRec} {K : Params → PySem.W.Frag} {sp : World → Sp} {x : Str}
    (hn : l.most = some n) (hn2 : n ≤ sizeLine) (hdf : d.params.defaults = []) (hY : ∀ (w : World) (h : Heap), YP w h → (K w.params).In h)
    (F : ∀ (w : World) (mg : Str → Option Value) (fa : Addr) (h : Heap), (K w.params).In h → h.Ns mainGlobals mg → mg d.name = some (.ref fa) →
      ∃ fd : FuncData, (∀ (s : Shared) (u : Value), BindsTo s fd ⟨[u], []⟩ [(x, u)]) ∧ ∀ base : Heap, (K w.params).In base → base.Ns mainGlobals mg → Enters callerA l.prog w (K w.params) mg base fa fd [x] (sp w))
    (hsp : ∀ (w : World) (H : Hp) (a : Addr) (ns : List Int), ns.length ≤ n → SqL (K w.params) H a (ns.map V.int) → sp w [.ref a] H (fun v _ => v = .bl true) E0) :
    PySem.W.WalkO q loose XP YP l.row.toRowW d [] (fun f vs => PySem.call f vs) := by
  refine Att.attach_call hn hdf fun w s₀ s₁ mg mb fa o pm cd doc a vs ns G Y ho hd hcd hmg hobj hints hlen hg => ?_
  obtain ⟨fd, hb, hF⟩ := F w mg fa _ (hY w _ Y) G.T.g hmg
  exact law_enter (hY w _ Y) G.T.g G.T.b G.T.builtins G.T.nolimit hg hobj hints (Nat.le_trans hlen hn2) hF hb fun H hS => hsp w H a ns hlen hS
end Ty
set_option maxHeartbeats 2000000
/-! sets of whole numbers: {e for a in xs for b in ys} (the library's walk of the list's two clauses, turned to a set), set(a list) -/
namespace Se
open PySem PySem.Spec PyProof.Rows L2
section
variable {X : Cx}
/-- set.add of a number -/
theorem addI_ok {pins : List (Addr × Obj)} {σ : L2.St} {H : Hp} {s : Shared} {E : Value → Shared → Prop} {D : Addr} {S : Int → Bool} {n : Nat} {y : Int} {tk : Tok} {Q : Value → Shared → Prop} (I : Inv X pins σ H s) (hD : H D = some (SetO X.w D S n)) (room : n + 1 < scanBound)
    (h : ∀ s', Inv X pins σ (upd H D (SetO X.w D (fun j => S j || decide (j = y)) (if S y = true then n else n + 1))) s' → Q .none s') : wpAny (model X.prog X.w) X.A (call (.builtin "set.add") [.ref D, .int y tk]) Q E s := by
  refine setR_add (setO_get I hD) room fun g sb new => ?_
  have at_ : ∃ u, g.get? D = some u := by
    have ⟨o, _, _, _, ho, _⟩ := new
    exact ⟨o, ho⟩
  exact h _ (I.write (e := D) (t' := s.toks + 1) (by rw [hD]; trivial) (.inl rfl) (fun b u hb hu => (sb.2 b hb).trans hu) at_ (setO_new new))
end
theorem setTurn_out (elt t0 i0 t1 i1 : Expr) (ifs0 ifs1 : List Expr) (scope : Scope) (pos : Pos) (it acc : Value) (env : Env) :
    compTurn (.SetComp elt [⟨t0, i0, ifs0, 0⟩, ⟨t1, i1, ifs1, 0⟩] scope pos) 0 it acc env = (do
      standAt i0.pos
      match ← pyNext it with
      | none => pure (.done .next)
      | some v =>
        letOwnedTupleGo t0 it v
        assign t0 env v
        let mut ok := true
        for c in ifs0 do
          if ok then ok ← isTrue c env (eval c env)
        if ok then
          let x ← eval i1 env
          standAt i1.pos
          let x ← foldedSetIterable i1 env x
          let _ ← runOwn (.compStart (.SetComp elt [⟨t0, i0, ifs0, 0⟩, ⟨t1, i1, ifs1, 0⟩] scope pos) 1 (← holding [x] (pyIter x)) acc env) env
        again (.compLoop (.SetComp elt [⟨t0, i0, ifs0, 0⟩, ⟨t1, i1, ifs1, 0⟩] scope pos) 0 it acc env)) := by rfl
theorem setTurn_in (elt t0 i0 t1 i1 : Expr) (ifs0 ifs1 : List Expr) (scope : Scope) (pos : Pos) (it acc : Value) (env : Env) :
    compTurn (.SetComp elt [⟨t0, i0, ifs0, 0⟩, ⟨t1, i1, ifs1, 0⟩] scope pos) 1 it acc env = (do
      standAt i1.pos
      match ← pyNext it with
      | none => pure (.done .next)
      | some v =>
        letOwnedTupleGo t1 it v
        assign t1 env v
        let mut ok := true
        for c in ifs1 do
          if ok then ok ← isTrue c env (eval c env)
        if ok then
          (do let v ← eval elt env; standAt elt.pos; let _ ← call (.builtin "set.add") [acc, v])
        again (.compLoop (.SetComp elt [⟨t0, i0, ifs0, 0⟩, ⟨t1, i1, ifs1, 0⟩] scope pos) 1 it acc env)) := by rfl
section
variable {prog : Program} {w : World} {A : Around} {R : Result → Shared → Prop} {s : Shared} {elt t0 i0 t1 i1 : Expr} {ifs0 ifs1 : List Expr} {scope : Scope} {pos : Pos} {it acc : Value} {env : Env}
/-- the loop of the first clause -/
theorem setLoop_out (hs : ∀ x, foldedSetIterable i1 env x = pure x) (I : Nat → Shared → Prop)
    (turn : ∀ n s, I n s → wpAny (model prog w) A (pyNext it) (fun r s₁ => match r with
      | none => R (.ok .next) s₁
      | some v => wpAny (model prog w) A (letOwnedTupleGo t0 it v) (fun _ s₁' => wpAny (model prog w) A (assign t0 env v) (fun _ s₂ =>
          wpAny (model prog w) A (forIn ifs0 true fun c r => if r = true then do let ok ← isTrue c env (eval c env); pure (ForInStep.yield ok) else pure (ForInStep.yield r)) (fun ok s₃ =>
            if ok = true then wpAny (model prog w) A (eval i1 env) (fun x s₄ => wpAny (model prog w) A (pyIter x) (fun it1 s₅ =>
              codeAny (model prog w) A (.compStart (.SetComp elt [⟨t0, i0, ifs0, 0⟩, ⟨t1, i1, ifs1, 0⟩] scope pos) 1 it1 acc env) (fun r s' => match r with
                | .ok _ => ∃ m, m < n ∧ I m s'
                | .error _ => False) s₅) (notedBy (model prog w) A env fun e s' => R (.error e) s') s₄) (notedBy (model prog w) A env fun e s' => R (.error e) s') s₃
            else ∃ m, m < n ∧ I m s₃) (notedBy (model prog w) A env fun e s' => R (.error e) s') s₂) (notedBy (model prog w) A env fun e s' => R (.error e) s') s₁') (notedBy (model prog w) A env fun e s' => R (.error e) s') s₁) (notedBy (model prog w) A env fun e s' => R (.error e) s') s)
    (n : Nat) (h : I n s) :
    codeAny (model prog w) A (.compLoop (.SetComp elt [⟨t0, i0, ifs0, 0⟩, ⟨t1, i1, ifs1, 0⟩] scope pos) 0 it acc env) R s := by
  refine codeAny_loop rfl I (fun n s hI => ?_) n h
  show wpAny _ A ((compTurn (.SetComp elt [⟨t0, i0, ifs0, 0⟩, ⟨t1, i1, ifs1, 0⟩] scope pos) 0 it acc env).onRaise (fun x => do noteFrame x env; theTreesLotGoes x)) _ _ s
  refine wpAny_noted ?_
  rw [setTurn_out]
  refine wpAny_bind (wpAny_standAt (wpAny_bind (wpAny_mono (turn n s hI) (fun r s₁ h₁ => ?_) fun _ _ h' => h')))
  cases r with
  | none => exact wpAny_pure h₁
  | some v =>
    refine wpAny_bind (wpAny_mono h₁ (fun _ s₁' h₁' => ?_) fun _ _ h' => h')
    refine wpAny_bind (wpAny_mono h₁' (fun _ s₂ h₂ => wpAny_bind (wpAny_mono h₂ (fun ok s₃ h₃ => ?_) fun _ _ h' => h')) fun _ _ h' => h')
    cases ok with
    | false => exact wpAny_pure ⟨rfl, h₃⟩
    | true =>
      refine wpAny_bind (wpAny_mono h₃ (fun x s₄ h₄ => ?_) fun _ _ h' => h')
      refine wpAny_bind (wpAny_standAt (wpAny_bind (wpAny_of_eq (hs x) (wpAny_bind (wpAny_holding (wpAny_mono h₄ (fun it1 s₅ h₅ => ?_) fun _ _ h' => h'))))))
      refine wpAny_bind (wpAny_runOwn ?_)
      rw [Around.mark_none]
      refine codeAny_mono h₅ fun r s' hr => ?_
      cases r with
      | ok f =>
        first
          | exact wpAny_pure ⟨rfl, hr⟩
          | exact wpAny_bind (wpAny_pure (wpAny_pure ⟨rfl, hr⟩))
      | error e => exact hr.elim
/-- the loop of the second -/
theorem setLoop_in (I : Nat → Shared → Prop)
    (turn : ∀ n s, I n s → wpAny (model prog w) A (pyNext it) (fun r s₁ => match r with
      | none => R (.ok .next) s₁
      | some v => wpAny (model prog w) A (letOwnedTupleGo t1 it v) (fun _ s₁' => wpAny (model prog w) A (assign t1 env v) (fun _ s₂ =>
          wpAny (model prog w) A (forIn ifs1 true fun c r => if r = true then do let ok ← isTrue c env (eval c env); pure (ForInStep.yield ok) else pure (ForInStep.yield r)) (fun ok s₃ =>
            if ok = true then wpAny (model prog w) A (eval elt env) (fun x s₄ =>
              wpAny (model prog w) A (call (.builtin "set.add") [acc, x]) (fun _ s₅ => ∃ m, m < n ∧ I m s₅) (notedBy (model prog w) A env fun e s' => R (.error e) s') s₄) (notedBy (model prog w) A env fun e s' => R (.error e) s') s₃
            else ∃ m, m < n ∧ I m s₃) (notedBy (model prog w) A env fun e s' => R (.error e) s') s₂) (notedBy (model prog w) A env fun e s' => R (.error e) s') s₁') (notedBy (model prog w) A env fun e s' => R (.error e) s') s₁) (notedBy (model prog w) A env fun e s' => R (.error e) s') s)
    (n : Nat) (h : I n s) :
    codeAny (model prog w) A (.compLoop (.SetComp elt [⟨t0, i0, ifs0, 0⟩, ⟨t1, i1, ifs1, 0⟩] scope pos) 1 it acc env) R s := by
  refine codeAny_loop rfl I (fun n s hI => ?_) n h
  show wpAny _ A ((compTurn (.SetComp elt [⟨t0, i0, ifs0, 0⟩, ⟨t1, i1, ifs1, 0⟩] scope pos) 1 it acc env).onRaise (fun x => do noteFrame x env; theTreesLotGoes x)) _ _ s
  refine wpAny_noted ?_
  rw [setTurn_in]
  refine wpAny_bind (wpAny_standAt (wpAny_bind (wpAny_mono (turn n s hI) (fun r s₁ h₁ => ?_) fun _ _ h' => h')))
  cases r with
  | none => exact wpAny_pure h₁
  | some v =>
    refine wpAny_bind (wpAny_mono h₁ (fun _ s₁' h₁' => ?_) fun _ _ h' => h')
    refine wpAny_bind (wpAny_mono h₁' (fun _ s₂ h₂ => wpAny_bind (wpAny_mono h₂ (fun ok s₃ h₃ => ?_) fun _ _ h' => h')) fun _ _ h' => h')
    cases ok with
    | false => exact wpAny_pure ⟨rfl, h₃⟩
    | true =>
      exact wpAny_bind (wpAny_bind (wpAny_mono h₃ (fun x s₄ h₄ => wpAny_bind (wpAny_standAt (wpAny_bind (wpAny_mono h₄ (fun _ s₅ h₅ => wpAny_pure (wpAny_pure ⟨rfl, h₅⟩)) fun _ _ h' => h')))) fun _ _ h' => h'))
/-- the second clause's start -/
theorem setStart_in (h0 : codeAny (model prog w) A (.compLoop (.SetComp elt [⟨t0, i0, ifs0, 0⟩, ⟨t1, i1, ifs1, 0⟩] scope pos) 1 it acc env) R s)
    (h : wpAny (model prog w) A (pyIter it) (fun it' s' => codeAny (model prog w) A (.compLoop (.SetComp elt [⟨t0, i0, ifs0, 0⟩, ⟨t1, i1, ifs1, 0⟩] scope pos) 1 it' acc env) R s')
      (notedBy (model prog w) A env fun x s' => R (.error x) s') s) :
    codeAny (model prog w) A (.compStart (.SetComp elt [⟨t0, i0, ifs0, 0⟩, ⟨t1, i1, ifs1, 0⟩] scope pos) 1 it acc env) R s := by
  refine codeAny_of_tree ?_
  show wpAny _ _ ((compStart (.SetComp elt [⟨t0, i0, ifs0, 0⟩, ⟨t1, i1, ifs1, 0⟩] scope pos) 1 it acc env).onRaise (fun x => do noteFrame x env; standAt theWindowsPlace)) _ _ s
  refine wpAny_notedAt ?_
  unfold compStart
  show wpAny _ _ (ask >>= _) _ _ s
  refine wpAny_bind (wpAny_askSetting (wpAny_ite ?_))
  split
  · first
      | exact wpAny_bind (wpAny_pure (wpAny_pure (And.intro rfl h0)))
      | exact wpAny_pure (And.intro rfl h0)
  · first
      | exact wpAny_bind (wpAny_rule (wpAny_bind (wpAny_standAt (wpAny_bind (wpAny_mono h (fun it' s' h' => wpAny_pure (And.intro rfl h')) fun _ _ x => x)))))
      | (refine wpAny_bind (wpAny_rule ?_); show wpAny _ _ (standAt i1.pos >>= _) _ _ s; exact wpAny_bind (wpAny_standAt (wpAny_bind (wpAny_mono h (fun it' s' h' => wpAny_pure (And.intro rfl h')) fun _ _ x => x))))
end
section
variable {X : Cx}
/-- {elt for tg in iter if .. for tg1 in iter1 if ..}, elt a whole number; as tLc2, the new thing at D a set -/
def tSc2 (X : Cx) (wi : TI) (g : TG) (tt : TT) (wi1 : TI) (g1 : TG) (tt1 : TT) (te : TE) (vs vs1 : List Nat) : TE := fun σ H Q => wi σ H fun J H1 => ∀ D, H1 D = none → ∃ W : Nat → Nat → Hp → Prop, (∃ m, W 0 m (upd H1 D (SetO X.w D (fun _ => false) 0))) ∧ ∀ i m H, W i m H →
  (J.stop i H ∧ Q (.ref D) H) ∨ (J.go i H ∧ ∃ Nx : Hp → Prop, (∀ H', Nx H' → ∃ m', m' < m ∧ W (i + 1) m' H') ∧ ∀ x H', J.yld i H x H' → g x (wipe σ vs) H' fun σ2 H2 => wipe σ2 vs = wipe σ vs ∧ tt σ2 H2 fun b H3 =>
    if b = true then wi1 σ2 H3 fun J1 H4 => ∃ W1 : Nat → Nat → Hp → Prop, (∃ m, W1 0 m H4) ∧ ∀ j k H, W1 j k H →
      (J1.stop j H ∧ Nx H) ∨ (J1.go j H ∧ ∃ Nx1 : Hp → Prop, (∀ H', Nx1 H' → ∃ k', k' < k ∧ W1 (j + 1) k' H') ∧ ∀ x H', J1.yld j H x H' → g1 x (wipe σ2 vs1) H' fun σ3 H5 => wipe σ3 vs1 = wipe σ2 vs1 ∧ tt1 σ3 H5 fun b H6 =>
        if b = true then te σ3 H6 fun y H7 => ∃ (c : Int) (S : Int → Bool) (n : Nat), y = .int c ∧ H7 D = some (SetO X.w D S n) ∧ n + 1 < scanBound ∧ Nx1 (upd H7 D (SetO X.w D (fun j => S j || decide (j = c)) (if S c = true then n else n + 1))) else Nx1 H6)
    else Nx H3)
theorem sc2_core {pins : List (Addr × Obj)} {s : Shared} {σ : L2.St} {H : Hp} {Q : VK} {elt tg iter tg1 iter1 : Expr} {ifs ifs1 : List Expr} {scope : Scope} {own : List (Str × Nat)} {vs1 : List Nat} {pos pos' : Pos} {wi wi1 : TI} {g g1 : TG} {tt tt1 : TT} {te : TE} {use : Option (Value → Sem Unit)} {Qf : Value → Shared → Prop}
    (hc : X.calm = true) (hN : X.N.Nodup) (I : Inv X pins σ H s) (hi : PI X tg iter wi) (ok : BlkOk X.N X.env.scope scope own) (hv : ∀ i ∈ vs1, i ∈ own.map (·.2))
    (hg : ∀ (s : Shared) (H : Hp) (C : Addr) (cl : List (Str × Addr)) (fp : List Addr), PG (X.blk s H scope (compEnvC scope cl C X.env) fp) tg g) (ht : ∀ (s : Shared) (H : Hp) (C : Addr) (cl : List (Str × Addr)) (fp : List Addr), PTs (X.blk s H scope (compEnvC scope cl C X.env) fp) ifs tt)
    (he : ∀ (s : Shared) (H : Hp) (C : Addr) (cl : List (Str × Addr)) (fp : List Addr), PE (X.blk s H scope (compEnvC scope cl C X.env) fp) elt te) (hs : ∀ x, foldedSetIterable iter X.env x = pure x)
    (hi1 : ∀ (s : Shared) (H : Hp) (C : Addr) (cl : List (Str × Addr)) (fp : List Addr), PI (X.blk s H scope (compEnvC scope cl C X.env) fp) tg1 iter1 wi1)
    (hg1 : ∀ (s : Shared) (H : Hp) (C : Addr) (cl : List (Str × Addr)) (fp : List Addr), PG (X.blk s H scope (compEnvC scope cl C X.env) fp) tg1 g1)
    (ht1 : ∀ (s : Shared) (H : Hp) (C : Addr) (cl : List (Str × Addr)) (fp : List Addr), PTs (X.blk s H scope (compEnvC scope cl C X.env) fp) ifs1 tt1)
    (hs1 : ∀ env x, foldedSetIterable iter1 env x = pure x)
    (h : tSc2 X wi g tt wi1 g1 tt1 te (own.map (·.2)) vs1 σ H Q)
    (hRR : ∀ D C s' m H', Inv X pins σ H' s' → Q (.ref D) H' → s'.heap.Ns C m → FpOk X pins H' C → compPost (model X.prog X.w) X.A X.xe use Qf (.ref D) C (.ok .next) s') :
    wpAny (model X.prog X.w) X.A (comprehension (.SetComp elt [⟨tg, iter, ifs, 0⟩, ⟨tg1, iter1, ifs1, 0⟩] scope pos) scope X.env pos' (newSet (.type "set")) false (eval iter X.env) use) Qf X.xe s := by
  have hfree : ∀ y ∈ scope.names, y.2 = .free → ∃ c, X.env.cells.lookup y.1 = some c := fun y hy e => by
    rcases ok.free y hy e with k | k
    · exact I.ok.has _ (.inl k)
    · exact I.ok.has _ (.inr k)
  refine wpAny_comprehension_free (use := use) rfl hs (closure_ok hfree) ok.kind (fun y hy e => by rw [ok.uniq y hy, e])
    (thn (hi.run pins s σ H _ I h) fun xv s1 hx => thn hx fun itv s2 h2 => ?_)
  obtain ⟨it, fp, tn, J, H2, e, I2, T, st2, f2, q⟩ := h2
  subst e
  refine PpSet.newSet_ok (newEnv_comp ?_)
  generalize hD : s2.heap.objs.size = D
  have hDn : H2 D = none := I2.hok.fresh (Nat.le_of_eq hD)
  obtain ⟨W, ⟨m0, w0⟩, turn⟩ := q D hDn
  -- the new list
  generalize hs3 : ({ s2 with heap := s2.heap.push { cls := .type "set", dict := none, data := .set #[] 0 (.fresh 0 0 (!X.w.params.followText "set-order")) } } : Shared) = s3
  have I3 : Inv X pins σ (upd H2 D (SetO X.w D (fun _ => false) 0)) s3 := by
    rw [← hs3]
    refine I2.laid (t' := s2.toks) (fun b o e => Heap.get?_push_of_some _ e) (Nat.le_of_eq hD) ?_
    rw [← hD]
    exact setO_new (setR_fresh X.w)
  have h3 : s3.heap = s2.heap.push { cls := .type "set", dict := none, data := .set #[] 0 (.fresh 0 0 (!X.w.params.followText "set-order")) } := by rw [← hs3]
  have sz : ∀ b ∈ fp, b < s2.heap.objs.size := fun b hb => by
    obtain ⟨o, e, _⟩ := T.obj _ _ st2 b hb
    exact Heap.lt_size e
  have f3 : ∀ b ∈ fp, FpOk X pins (upd H2 D (SetO X.w D (fun _ => false) 0)) b ∧ b < s3.heap.objs.size := fun b hb => by
    have hlt := sz b hb
    refine ⟨⟨?_, (f2 b hb).2⟩, by rw [h3, Heap.size_push]; exact Nat.lt_succ_of_lt hlt⟩
    rw [upd_ne (by rw [← hD]; exact Nat.ne_of_lt hlt)]
    exact (f2 b hb).1
  have st3 : tn 0 s3.heap := T.keep _ _ _ st2 fun b _ o e => by rw [h3]; exact Heap.get?_push_of_some _ e
  have I4 := block_start I3 ok hN f3
  have pg := hg s3 (upd H2 D (SetO X.w D (fun _ => false) 0)) s3.heap.objs.size (cellsFrom (s3.heap.objs.size + 1) scope.names (cloFrom X.env.cells scope.names [])) fp
  have pt := ht s3 (upd H2 D (SetO X.w D (fun _ => false) 0)) s3.heap.objs.size (cellsFrom (s3.heap.objs.size + 1) scope.names (cloFrom X.env.cells scope.names [])) fp
  have pe := he s3 (upd H2 D (SetO X.w D (fun _ => false) 0)) s3.heap.objs.size (cellsFrom (s3.heap.objs.size + 1) scope.names (cloFrom X.env.cells scope.names [])) fp
  have pi1 := hi1 s3 (upd H2 D (SetO X.w D (fun _ => false) 0)) s3.heap.objs.size (cellsFrom (s3.heap.objs.size + 1) scope.names (cloFrom X.env.cells scope.names [])) fp
  have pg1 := hg1 s3 (upd H2 D (SetO X.w D (fun _ => false) 0)) s3.heap.objs.size (cellsFrom (s3.heap.objs.size + 1) scope.names (cloFrom X.env.cells scope.names [])) fp
  have pt1 := ht1 s3 (upd H2 D (SetO X.w D (fun _ => false) 0)) s3.heap.objs.size (cellsFrom (s3.heap.objs.size + 1) scope.names (cloFrom X.env.cells scope.names [])) fp
  show codeAny _ _ (.compStart (.SetComp elt [⟨tg, iter, ifs, 0⟩, ⟨tg1, iter1, ifs1, 0⟩] scope pos) 0 (.ref it) (.ref D) (compEnvC scope (cellsFrom (s3.heap.objs.size + 1) scope.names (cloFrom X.env.cells scope.names [])) s3.heap.objs.size X.env)) (compPost (model X.prog X.w) X.A X.xe use Qf (.ref D) s3.heap.objs.size) { s3 with heap := pushCells (s3.heap.push { cls := .type "dict", data := .dict #[] }) scope.names }
  have nfp : ∀ b ∈ fp, (upd H2 D (SetO X.w D (fun _ => false) 0)) b = none := fun b hb => (f3 b hb).1.1
  generalize hce : compEnvC scope (cellsFrom (s3.heap.objs.size + 1) scope.names (cloFrom X.env.cells scope.names [])) s3.heap.objs.size X.env = ce at I4 pg pt pe pi1 pg1 pt1 ⊢
  have cL : ce.locals = s3.heap.objs.size := by subst hce; rfl
  generalize hH3 : upd H2 D (SetO X.w D (fun _ => false) 0) = H3 at I3 I4 pg pt pe pi1 pg1 pt1 w0 nfp f3
  generalize hs4 : ({ s3 with heap := pushCells (s3.heap.push { cls := .type "dict", data := .dict #[] }) scope.names } : Shared) = s4 at I4 ⊢
  have st4 : tn 0 s4.heap := T.keep _ _ _ st3 fun b _ o e => by rw [← hs4]; exact pushCells_keeps _ _ _ _ (Heap.get?_push_of_some _ e)
  have stat : ∀ {σ' : L2.St} {H' : Hp} {s' : Shared}, Inv (X.blk s3 H3 scope ce fp) [] σ' H' s' → (∀ b ∈ fp, H' b = none) → ∀ b ∈ fp, FpOk (X.blk s3 H3 scope ce fp) [] H' b := fun {σ' H' s'} I' hn b hb =>
    ⟨hn b hb, (I'.ok.exf b hb).1, I'.ok.exfs b hb, .inl hb, fun x c e => (I'.ok.exf b hb).2 x c e, fun p hp => absurd (show p ∈ ([] : List (Addr × Obj)) ++ [] from hp) (by simp)⟩
  have loop : codeAny (model X.prog X.w) X.A (.compLoop (.SetComp elt [⟨tg, iter, ifs, 0⟩, ⟨tg1, iter1, ifs1, 0⟩] scope pos) 0 (.ref it) (.ref D) ce) (compPost (model X.prog X.w) X.A X.xe use Qf (.ref D) s3.heap.objs.size) s4 := by
    refine setLoop_out (hs1 ce) (fun n s' => ∃ i H', Inv (X.blk s3 H3 scope ce fp) [] (wipe σ (own.map (·.2))) H' s' ∧ tn i s'.heap ∧ (∀ b ∈ fp, H' b = none) ∧ W i n H') ?_ m0 ⟨0, H3, I4, st4, nfp, w0⟩
    rintro n s5 ⟨i, H5, I5, st5, n5, w5⟩
    rcases turn i n H5 w5 with ⟨stop, qq⟩ | ⟨go, Nx, hNx, step⟩
    · have td := T.done (X.blk s3 H3 scope ce fp) rfl rfl rfl hc i [] s5 _ H5 (fun _ _ => False) I5 (stat I5 n5) st5 stop
      refine thnF td fun r s6 ⟨hr, I6⟩ => ?_
      subst hr
      -- back in the def's context
      have I7 : Inv X pins σ H5 s6 := I3.call' (ch := fp) I6.os I6.base I6.hok I6.bare fun b hb => ⟨(f3 b hb).1.2.2.2.1, (f3 b hb).1.2.1, (f3 b hb).1.2.2.2.2.1, (f3 b hb).1.2.2.2.2.2⟩
      have nC : H5 s3.heap.objs.size = none := by
        have z : H5 ce.locals = none := I6.free
        rw [cL] at z
        exact z
      obtain ⟨m, hn, _⟩ := I6.loc
      have hn : s6.heap.Ns ce.locals m := hn
      rw [cL] at hn
      exact hRR D s3.heap.objs.size s6 m H5 I7 qq hn (I3.fpOk (Nat.le_refl _) nC)
    · have ti := T.item (X.blk s3 H3 scope ce fp) rfl rfl rfl hc i [] s5 _ H5 (fun _ _ => False) I5 (stat I5 n5) st5 go
      refine thnF ti fun r s6 ⟨u, hr, h6⟩ => ?_
      subst hr
      refine thnF h6 fun _ s7 ⟨x, H7, I7, r7, y7, st7, n7⟩ => ?_
      have I7' := I7.pinned (stat I7 n7) (T.obj _ _ st7)
      refine thnF (pg.run _ s7 _ H7 x u _ I7' r7 (step x H7 y7)) fun _ s8 ⟨σ8, H8, I8, hw8, q8⟩ => ?_
      refine thnF (pt.run _ s8 σ8 H8 _ I8 q8) fun b s9 ⟨H9, I9, q9⟩ => ?_
      -- the turn's end, from any slots that know what the block knew at its start
      have fin : ∀ {σ9 : L2.St} {s' : Shared} {H' : Hp}, Inv (X.blk s3 H3 scope ce fp) ([] ++ pinsAt fp s7.heap) σ9 H' s' → (wipe σ (own.map (·.2))).length = σ9.length → (∀ (j : Nat) v, (wipe σ (own.map (·.2)))[j]? = some (some v) → σ9[j]? = some (some v)) → Nx H' →
          ∃ m, m < n ∧ ∃ i H', Inv (X.blk s3 H3 scope ce fp) [] (wipe σ (own.map (·.2))) H' s' ∧ tn i s'.heap ∧ (∀ b ∈ fp, H' b = none) ∧ W i m H' := fun {σ9 s' H'} I' hl hk nx => by
        obtain ⟨m', hm, w'⟩ := hNx H' nx
        have pin' : ∀ b ∈ fp, ∀ o, s7.heap.get? b = some o → s'.heap.get? b = some o ∧ H' b = none := fun b hb o e =>
          let z := I'.pin (b, o) (List.mem_append_right _ (List.mem_append_right _ (mem_pinsAt hb e)))
          ⟨z.1, z.2.1⟩
        refine ⟨m', hm, i + 1, H', (I'.unpinned (pins := [])).weak hl hk, T.keep _ _ _ st7 fun b hb o e => (pin' b hb o e).1, fun b hb => ?_, w'⟩
        obtain ⟨o, e, _⟩ := T.obj _ _ st7 b hb
        exact (pin' b hb o e).2
      have hl8 : (wipe σ (own.map (·.2))).length = σ8.length := by rw [← hw8, wipe_length]
      have hk8 : ∀ (j : Nat) v, (wipe σ (own.map (·.2)))[j]? = some (some v) → σ8[j]? = some (some v) := fun j v e => by
        rw [← hw8] at e
        exact (wipe_some e).1
      have hk9 : ∀ (j : Nat) v, (wipe σ (own.map (·.2)))[j]? = some (some v) → (wipe σ8 vs1)[j]? = some (some v) := fun j v e => by
        rw [← hw8] at e
        obtain ⟨e1, e2⟩ := wipe_some e
        rw [wipe_out fun z => e2 (hv j z)]
        exact e1
      cases b with
      | false =>
        simp only [Bool.false_eq_true, if_false] at q9 ⊢
        exact fin I9 hl8 hk8 q9
      | true =>
        simp only [if_true] at q9 ⊢
        refine thnF (pi1.run _ s9 σ8 H9 _ I9 q9) fun xv s10 hx => thnF hx fun itv s11 h11 => ?_
        obtain ⟨it1, fp1, tn1, J1, H11, e1, I11, T1, st11, f11, W1, ⟨m1, w1⟩, turn1⟩ := h11
        subst e1
        -- the inner loop
        have stat1 : ∀ {H' : Hp}, (∀ b ∈ fp1, H' b = none) → ∀ b ∈ fp1, FpOk (X.blk s3 H3 scope ce fp) ([] ++ pinsAt fp s7.heap) H' b := fun hn b hb => ⟨hn b hb, (f11 b hb).2⟩
        have loop1 : codeAny (model X.prog X.w) X.A (.compLoop (.SetComp elt [⟨tg, iter, ifs, 0⟩, ⟨tg1, iter1, ifs1, 0⟩] scope pos) 1 (.ref it1) (.ref D) ce)
            (fun r s' => match r with
              | .ok _ => ∃ m, m < n ∧ ∃ i H', Inv (X.blk s3 H3 scope ce fp) [] (wipe σ (own.map (·.2))) H' s' ∧ tn i s'.heap ∧ (∀ b ∈ fp, H' b = none) ∧ W i m H'
              | .error _ => False) s11 := by
          refine setLoop_in (fun k s' => ∃ j H', Inv (X.blk s3 H3 scope ce fp) ([] ++ pinsAt fp s7.heap) (wipe σ8 vs1) H' s' ∧ tn1 j s'.heap ∧ (∀ b ∈ fp1, H' b = none) ∧ W1 j k H') ?_ m1 ⟨0, H11, I11.weak (wipe_length _ _) (fun j v e => (wipe_some e).1), st11, fun b hb => (f11 b hb).1, w1⟩
          rintro k s12 ⟨j, H12, I12, st12, n12, w12⟩
          rcases turn1 j k H12 w12 with ⟨stop1, nx1⟩ | ⟨go1, Nx1, hNx1, step1⟩
          · refine thnF (T1.done (X.blk s3 H3 scope ce fp) rfl rfl rfl hc j _ s12 (wipe σ8 vs1) H12 (fun _ _ => False) I12 (stat1 n12) st12 stop1) fun r s13 ⟨hr, I13⟩ => ?_
            subst hr
            exact fin I13 (hl8.trans (wipe_length σ8 vs1).symm) hk9 nx1
          · refine thnF (T1.item (X.blk s3 H3 scope ce fp) rfl rfl rfl hc j _ s12 (wipe σ8 vs1) H12 (fun _ _ => False) I12 (stat1 n12) st12 go1) fun r s13 ⟨u1, hr, h13⟩ => ?_
            subst hr
            refine thnF h13 fun _ s14 ⟨x1, H14, I14, r14, y14, st14, n14⟩ => ?_
            have I14' := I14.pinned (stat1 n14) (T1.obj _ _ st14)
            refine thnF (pg1.run _ s14 (wipe σ8 vs1) H14 x1 u1 _ I14' r14 (step1 x1 H14 y14)) fun _ s15 ⟨σ15, H15, I15, hw15, q15⟩ => ?_
            refine thnF (pt1.run _ s15 σ15 H15 _ I15 q15) fun b1 s16 ⟨H16, I16, q16⟩ => ?_
            have fin1 : ∀ {s' : Shared} {H' : Hp}, Inv (X.blk s3 H3 scope ce fp) (([] ++ pinsAt fp s7.heap) ++ pinsAt fp1 s14.heap) σ15 H' s' → Nx1 H' → ∃ m, m < k ∧ ∃ j H', Inv (X.blk s3 H3 scope ce fp) ([] ++ pinsAt fp s7.heap) (wipe σ8 vs1) H' s' ∧ tn1 j s'.heap ∧ (∀ b ∈ fp1, H' b = none) ∧ W1 j m H' := fun {s' H'} I' nx => by
              obtain ⟨m', hm, w'⟩ := hNx1 H' nx
              have pin' : ∀ b ∈ fp1, ∀ o, s14.heap.get? b = some o → s'.heap.get? b = some o ∧ H' b = none := fun b hb o e =>
                let z := I'.pin (b, o) (List.mem_append_right _ (List.mem_append_right _ (mem_pinsAt hb e)))
                ⟨z.1, z.2.1⟩
              refine ⟨m', hm, j + 1, H', I'.unpinned.weak (by rw [← hw15, wipe_length]) (fun j v e => by rw [← hw15] at e; exact (wipe_some e).1), T1.keep _ _ _ st14 fun b hb o e => (pin' b hb o e).1, fun b hb => ?_, w'⟩
              obtain ⟨o, e, _⟩ := T1.obj _ _ st14 b hb
              exact (pin' b hb o e).2
            cases b1 with
            | false =>
              simp only [Bool.false_eq_true, if_false] at q16 ⊢
              exact fin1 I16 q16
            | true =>
              simp only [if_true] at q16 ⊢
              refine thnF (pe.run _ s16 σ15 H16 _ I16 q16) fun z s17 ⟨yv, H17, I17, r17, c17, S17, n17, ey17, hD17, hz17, nx⟩ => ?_
              subst ey17
              obtain ⟨tk17, rfl⟩ := r17
              exact addI_ok (X := X.blk s3 H3 scope ce fp) I17 hD17 hz17 fun s18 I18 => fin1 I18 nx
        exact setStart_in loop1 (T1.self X.A 0 _ _ _ st11 loop1)
  exact PpSet.codeAny_compStart_set loop (T.self X.A 0 _ _ _ st4 loop)
/-- as a value -/
theorem pe_sc2 {elt tg iter tg1 iter1 : Expr} {ifs ifs1 : List Expr} {scope : Scope} {own : List (Str × Nat)} {vs1 : List Nat} {pos : Pos} {wi wi1 : TI} {g g1 : TG} {tt tt1 : TT} {te : TE} (hc : X.calm = true) (hN : X.N.Nodup) (hi : PI X tg iter wi) (ok : BlkOk X.N X.env.scope scope own) (hv : ∀ i ∈ vs1, i ∈ own.map (·.2))
    (hg : ∀ (s : Shared) (H : Hp) (C : Addr) (cl : List (Str × Addr)) (fp : List Addr), PG (X.blk s H scope (compEnvC scope cl C X.env) fp) tg g) (ht : ∀ (s : Shared) (H : Hp) (C : Addr) (cl : List (Str × Addr)) (fp : List Addr), PTs (X.blk s H scope (compEnvC scope cl C X.env) fp) ifs tt)
    (hi1 : ∀ (s : Shared) (H : Hp) (C : Addr) (cl : List (Str × Addr)) (fp : List Addr), PI (X.blk s H scope (compEnvC scope cl C X.env) fp) tg1 iter1 wi1)
    (hg1 : ∀ (s : Shared) (H : Hp) (C : Addr) (cl : List (Str × Addr)) (fp : List Addr), PG (X.blk s H scope (compEnvC scope cl C X.env) fp) tg1 g1) (ht1 : ∀ (s : Shared) (H : Hp) (C : Addr) (cl : List (Str × Addr)) (fp : List Addr), PTs (X.blk s H scope (compEnvC scope cl C X.env) fp) ifs1 tt1)
    (he : ∀ (s : Shared) (H : Hp) (C : Addr) (cl : List (Str × Addr)) (fp : List Addr), PE (X.blk s H scope (compEnvC scope cl C X.env) fp) elt te) (hs : ∀ x, foldedSetIterable iter X.env x = pure x := by intro _; rfl) (hs1 : ∀ env x, foldedSetIterable iter1 env x = pure x := by intro _ _; rfl) :
    PE X (.SetComp elt [⟨tg, iter, ifs, 0⟩, ⟨tg1, iter1, ifs1, 0⟩] scope pos) (tSc2 X wi g tt wi1 g1 tt1 te (own.map (·.2)) vs1) := by
  refine ⟨fun pins s σ H Q I h => ?_⟩
  rw [PpSet.eval_SetComp]
  refine sc2_core hc hN I hi ok hv hg ht he hs hi1 hg1 ht1 hs1 h fun D C s' m H' I' q hn f => ⟨m, hn, fun h'' sb => ?_⟩
  obtain ⟨f0, f1, f2, f3, f4, f5⟩ := f
  exact ⟨.ref D, H', I'.turned (t' := s'.toks) (fun b o hb e => (sb.2 b hb).trans e) f0 f1 f3 f4 f5, rfl, q⟩
end
/-! ### set(a list of numbers) -/
section
variable {P : Program} {w : World}
theorem ints_scan : ∀ {xs : List Int} {us : List Value}, Vals (xs.map V.int) us → Paired (fun v k => (PySem.intKind P w).is k v = true ∧ v.scannable = true) us xs
  | [], _, h => by
    cases h
    exact .nil
  | x :: xs, _, h => by
    cases h with
    | cons r t =>
      obtain ⟨k, rfl⟩ := r
      exact .cons ⟨intKind_is _ _ _ _, rfl⟩ (ints_scan t)
theorem ents_keys : ∀ {l : List (Int × Value)} {ks : List Int}, Paired (Ty.EntOf (PySem.intKind P w)) l ks → l.map keyOf = ks ∧ ∀ e, e ∈ l → GoodE e
  | _, _, .nil => ⟨rfl, fun e h => by cases h⟩
  | _, _, @Paired.cons _ _ _ e k _ _ r t => by
    obtain ⟨tk, hv⟩ := Value.isInt_shape r.1
    obtain ⟨h1, h2⟩ := ents_keys t
    refine ⟨?_, fun e' he => ?_⟩
    · rw [List.map_cons, h1]
      unfold keyOf
      rw [hv]
    · rcases List.mem_cons.mp he with q | q
      · rw [q]
        exact ⟨k, tk, hv, r.2.1⟩
      · exact h2 e' q
theorem setR_of {h : Heap} {a : Addr} {L : List Int} (g : Ty.SetG (PySem.intKind P w) h a L) : SetR w h a (fun k => decide (k ∈ L)) L.length := by
  obtain ⟨o, es, ep, t, ks, ho, hx, hd, pr, pm, nd, hb, hf, hr, hl⟩ := g
  obtain ⟨e1, e2⟩ := ents_keys pr
  refine ⟨o, es, ep, t, ho, hx, hd, e2, by rw [e1]; exact pm.nodup_iff.mpr nd, fun k => ?_, hb, hf, ?_, hr, hl⟩
  · rw [e1, decide_eq_true_eq]
    exact pm.mem_iff.symm
  · rw [← Array.length_toList, Paired.length pr, pm.length_eq]
end
section
variable {X : Cx}
def rSetI (K : PySem.W.Frag) (w : World) : List V → Hp → VK → Prop := fun vs H Q => ∃ (l : Addr) (xs : List Int), vs = [.ref l] ∧ SqL K H l (xs.map V.int) ∧ xs.length + 1 < scanBound ∧
  ∀ p, H p = none → Q (.ref p) (upd H p (SetO w p (fun k => decide (k ∈ Ty.gather [] xs)) (Ty.gather [] xs).length))
theorem cr_setI (hc : X.calm = true) : CallR X (.type "set") (rSetI X.K X.w) := by
  intro pins s σ H vs us Q I r h
  obtain ⟨l, xs, rfl, hq, hb, q⟩ := h
  obtain ⟨u, rfl, rx⟩ := vals1 r
  cases rx
  obtain ⟨its, rv, hl, _⟩ := I.list hq
  have hlen := rv.length
  rw [List.length_map] at hlen
  refine Ty.call_setL (knd := PySem.intKind X.prog X.w) (I.ok.hd hc) hl.isList (ints_scan rv) (by rw [← hlen]; exact hb) fun g tk hS kp => ?_
  exact ⟨.ref _, _, I.laid (t' := tk) kp (Nat.le_refl _) (setO_new (setR_of hS)), rfl, q _ (I.hok.fresh (Nat.le_refl _))⟩
end
end Se
set_option maxHeartbeats 2000000
/-! list.extend of a tuple and of a text, list(text), (number, text) < (number, text) -/
namespace Se
open PySem PySem.Spec PyProof.Rows L2
open PySem.AutoSeq1 (wpAny_loadPart')
theorem ext_tup (l : Addr) (items : Array Value) (n : Nat) (b : Addr) (items2 : Array Value) (n2 : Nat) (dd : Option Addr) (sl : Array (Option Value)) (hs0 : ¬(!items.isEmpty && Builtin.List.listTooLong (items.size + items2.size)) = true) (hs1 : items.size ≤ sizeLine) (hs2 : items.size + items2.size ≤ sizeLine + 1) :
    Meets (Builtin.«list.extend» ⟨[.ref l, .ref b], []⟩) (fun _ R s => s.heap.get? l = some { cls := .type "list", dict := none, data := .seq items n, slots := #[] } ∧ s.heap.get? b = some { cls := .type "tuple", dict := dd, data := .seq items2 n2, slots := sl } ∧ R (.ok (.ret Value.none)) { s with heap := s.heap.update l (Obj.mapSeq fun x => x ++ items2), toks := s.toks }) :=
  .of_wp fun prog w A R s h => by
    obtain ⟨hp, g, d, tk, os⟩ := s
    obtain ⟨hl, hb, h⟩ := h
    have f1 := AutoSeq1.idx_int
    have f2 := AutoSeq1.sub_tuple_tuple
    have f3 := AutoSeq1.sub_list_list
    have f4 := AutoSeq1.sub_tuple_list
    have f5 := AutoSeq1.sub_list_tuple
    have hz' : (items ++ items2).size ≤ sizeLine + 1 := by rw [Array.size_append]; exact hs2
    wp_walk using (wpAny_updateSeq hl rfl (hz := hs1) (_hz' := hz')), wpAny_loadPart' hl, wpAny_loadPart' hb
    exact ⟨_, rfl, h⟩
section
variable {X : Cx}
/-- xs.extend(a tuple) -/
def rExtT (K : PySem.W.Frag) : V → List V → Hp → VK → Prop := fun x vs H Q => ∃ l b xs zs, x = .ref l ∧ vs = [.ref b] ∧ H l = some (.lst xs) ∧ SqT K H b zs ∧ xs.length + zs.length ≤ sizeLine ∧ Q .non (upd H l (.lst (xs ++ zs)))
theorem mt_extT : MtM X "list.extend" (rExtT X.K) := by
  intro pins s σ H x vs v us Q I rx rv h
  obtain ⟨l, b, xs, zs, rfl, rfl, hH, hB, hz, q⟩ := h
  cases rx
  obtain ⟨u, rfl, ru⟩ := rv.one
  cases ru
  obtain ⟨z, its, n, r, hl, e⟩ := I.lstM hH
  obtain ⟨its2, r2, ⟨⟨cls, dd, dt, sl⟩, ho, hc, n2, hd⟩, _⟩ := I.tuple hB
  simp only at hc hd
  subst hc hd
  have hl2 := r2.length
  have hsz : its.toArray.size + its2.toArray.size ≤ sizeLine := by rw [List.size_toArray, List.size_toArray]; omega
  have hlong : ¬ (!its.toArray.isEmpty && Builtin.List.listTooLong (its.toArray.size + its2.toArray.size)) = true := by
    rw [notLongL hsz, Bool.and_false]
    exact Bool.false_ne_true
  refine call_meets F.slot_list_extend ⟨_, e, rfl⟩ F.entry_list_extend (F.args_list_extend_2 _ _) (ext_tup l its.toArray n b its2.toArray n2 dd sl hlong (by rw [List.size_toArray]; omega) (by omega)) ⟨e, ho, ?_⟩
  refine ⟨.non, _, I.lset (its' := its ++ its2) hH e (by simp) (r.append r2) ?_, rfl, q⟩
  rw [List.length_append]
  omega
end
/-! ### xs.extend(a text) -/
/-- behind the base, the walked items -/
def Behind (P : Nat → Value → Prop) (base acc : Array Value) (i : Nat) : Prop := ∃ more : List Value, acc = base ++ more.toArray ∧ more.length = i ∧ ∀ (j : Nat) v, more[j]? = some v → P j v
theorem Behind.push {P : Nat → Value → Prop} {base acc : Array Value} {i : Nat} {x : Value} (h : Behind P base acc i) (hx : P i x) : Behind P base (acc.push x) (i + 1) := by
  obtain ⟨more, rfl, hl, hp⟩ := h
  refine ⟨more ++ [x], by simp, by rw [List.length_append, hl]; rfl, fun j v hj => ?_⟩
  by_cases c : j < more.length
  · rw [List.getElem?_append_left c] at hj
    exact hp j v hj
  · rw [List.getElem?_append_right (by omega)] at hj
    have : j - more.length = 0 := by
      rcases Nat.eq_zero_or_pos (j - more.length) with z | z
      · exact z
      · rw [List.getElem?_eq_none (by simp; omega)] at hj
        cases hj
    rw [this] at hj
    injection hj with hj
    rw [← hj]
    have : j = i := by omega
    rw [this]; exact hx
theorem Behind.size {P : Nat → Value → Prop} {base acc : Array Value} {i : Nat} (h : Behind P base acc i) : acc.size = base.size + i := by
  obtain ⟨more, rfl, hl, _⟩ := h
  rw [Array.size_append, ← hl]
  simp
section
variable {prog : Program} {w : World} {A : Around} {R : Result → Shared → Prop} {I : Addr} {fp wr : List Addr} {G : Array GenState → Array GenState → Prop} {n : Nat} {P : Nat → Value → Prop} {St : Nat → Shared → Prop}
theorem ext_loop (W : WalksS prog w A.in1 I fp wr G n P St) (base : Array Value) (hn : base.size + n ≤ sizeLine) (S : Addr) (hSf : S ∉ fp) (res : Value) :
    ∀ (k i : Nat) (s : Shared) (acc : Array Value) (c : Nat), n - i = k → i ≤ n → St i s → s.heap.get? S = some { cls := .type "list", dict := none, data := .seq acc c, slots := #[] } → Behind P base acc i →
    (∀ s' acc' c', Moved (S :: wr) G s s' → s'.heap.get? S = some { cls := .type "list", dict := none, data := .seq acc' c', slots := #[] } → Behind P base acc' n → R (.ok (.ret res)) s') →
    codeAny (model prog w) A (.builtin "list.extend.loop" ⟨[.ref S, .ref I, res], []⟩) R s := by
  have hSw : S ∉ wr := fun h => hSf (W.sub _ h)
  have up : ∀ b ∈ wr, b ∈ S :: wr := fun b hb => List.mem_cons_of_mem _ hb
  intro k
  induction k with
  | zero =>
    intro i s acc c hk hi hst hS hacc hR
    obtain rfl : i = n := by omega
    refine codeAny_builtin PySem.F.entry_extend_loop ?_
    rw [Around.under_plainId PySem.F.plain_extend_loop _]
    show wpAny _ A.in1 (pyNext (.ref I) >>= _) _ _ s
    refine wpAny_bind (W.done s _ _ hst fun s' hm => ?_)
    exact wpAny_pure (hR s' acc c (hm.mono up) (hm.heap S _ hSw hS) hacc)
  | succ k ih =>
    intro i s acc c hk hi hst hS hacc hR
    have hlt : i < n := by omega
    have hz := hacc.size
    refine codeAny_builtin PySem.F.entry_extend_loop ?_
    rw [Around.under_plainId PySem.F.plain_extend_loop _]
    show wpAny _ A.in1 (pyNext (.ref I) >>= _) _ _ s
    refine wpAny_bind (W.item i s _ _ hlt hst fun v s' hP hst' hm => ?_)
    have hS' := hm.heap S _ hSw hS
    show wpAny _ A.in1 (updateSeq S (·.push v) >>= _) _ _ _
    refine wpAny_bind ?_
    refine wpAny_updateSeq hS' rfl (wpAny_pure ⟨plainId_quiet PySem.F.plain_extend_loop _, ih (i + 1) _ (acc.push v) _ (by omega) hlt (W.frame _ s' _ s'.toks hst' (Nat.le_refl _) fun b hb o e => ?_) (Heap.get?_update_self _ hS' rfl) (hacc.push hP) fun s'' acc' c' hm'' hS'' hacc' => ?_⟩)
      (by omega) (by show (acc.push v).size ≤ sizeLine + 1; rw [Array.size_push]; omega)
    · exact (Heap.get?_update_other _ _ (fun h : S = b => hSf (by rw [h]; exact hb))).trans e
    · refine hR s'' acc' c' (Moved.trans W.gtrans ((hm.mono up).then_heap (by first | exact Nat.le_refl _ | exact Nat.le_succ _ | omega) fun b o hb e => ?_) hm'') hS'' hacc'
      exact (Heap.get?_update_other _ _ (fun h : S = b => hb (by rw [h]; exact List.mem_cons_self))).trans e
end
section
variable {prog : Program} {w : World} {A : Around} {E : Value → Shared → Prop} {s : Shared}
theorem ext_str {R : Result → Shared → Prop} (hh : A.handled = none) (x : Str) (t : Tok) (S : Addr) (base : Array Value) (c₀ : Nat) (hS : s.heap.get? S = some { cls := .type "list", data := .seq base c₀ }) (hn : base.size + x.cps.size ≤ sizeLine)
    (hR : ∀ h' tk acc' c', (∀ b o, b ≠ S → s.heap.get? b = some o → h'.get? b = some o) → h'.get? S = some { cls := .type "list", dict := none, data := .seq acc' c', slots := #[] } →
      Behind (SignAt x) base acc' x.cps.size → R (.ok (.ret .none)) { s with heap := h', toks := tk }) :
    wpAny (model prog w) A.in1 (Builtin.List.listExtendWith (.ref S) (.str x t) .none)
      (fun fin s' => match fin with | .done f => R (.ok f) s' | .again c' => c'.quiet = true ∧ codeAny (model prog w) A c' R s') (fun e s' => R (.error e) s') s := by
  have hSI : S ≠ s.heap.objs.size := Nat.ne_of_lt (Heap.lt_size hS)
  have hSf : S ∉ [s.heap.objs.size] := fun hm => hSI (List.mem_singleton.mp hm)
  unfold Builtin.List.listExtendWith
  refine wpAny_bind (wpAny_typeOf (T := "str") (v := .str x t) rfl ?_)
  have h1 : Builtin.List.listSameRef (.ref S) (.str x t) = false := rfl
  have h2 : (Value.type "str" == Value.type "list") = false := by decide
  have h3 : (Value.type "str" == Value.type "tuple") = false := by decide
  simp only [h1, h2, h3, Bool.or_false, Bool.false_eq_true, if_false]
  refine wpAny_bind (wpAny_pyIter_str fun o St W hst => ?_)
  refine wpAny_bind (wpAny_holding ?_)
  unfold Builtin.List.listLengthHint
  refine wpAny_bind (wpAny_specialOf (T := "str") (v := .str x t) rfl PySem.F.str_len ?_)
  wp_delta
  refine wpAny_bind (wpAny_isInstance (T := "str") (v := .str x t) (b := true) rfl (by rw [isSubtype_type]; kernel_rfl) ?_)
  show wpAny _ _ (typeOf (Value.str x t) >>= _) _ _ _
  refine wpAny_bind (wpAny_typeOf (T := "str") (v := .str x t) rfl ?_)
  refine wpAny_pure ?_
  rw [if_neg (by decide)]
  refine wpAny_pure ⟨plainId_quiet PySem.F.plain_extend_loop _, ext_loop (W A.in1 hh).toS base hn _ hSf _ x.cps.size 0 _ _ _ rfl (Nat.zero_le _) hst (Heap.get?_push_of_some _ hS) ⟨[], by simp, rfl, fun j v h => by simp at h⟩ fun s' acc' c' hm hS' hacc => ?_⟩
  rw [Moved.eq_with hm]
  refine hR s'.heap s'.toks acc' c' (fun b ob hb e => hm.heap b ob (fun hmem => ?_) (Heap.get?_push_of_some _ e)) hS' hacc
  rcases List.mem_cons.mp hmem with e' | hmem
  · exact hb e'
  · exact absurd (Heap.lt_size e) (by rw [List.mem_singleton.mp hmem]; exact Nat.lt_irrefl _)
end
/-- the signs of a text, each as a text -/
def signsV (x : Str) : List V := x.cps.toList.map fun c => V.str ⟨#[c]⟩
theorem signs_vals {x : Str} {more : List Value} (hl : more.length = x.cps.size) (h : ∀ (j : Nat) v, more[j]? = some v → SignAt x j v) : Vals (signsV x) more := by
  have main : ∀ (l : List Nat) (m : List Value), m.length = l.length → (∀ (j : Nat) v, m[j]? = some v → ∃ c u, l[j]? = some c ∧ v = .str ⟨#[c]⟩ u) → Vals (l.map fun c => V.str ⟨#[c]⟩) m := by
    intro l
    induction l with
    | nil => intro m hm _; rw [List.length_eq_zero_iff.mp hm]; exact .nil
    | cons c l ih =>
      intro m hm hv
      cases m with
      | nil => simp at hm
      | cons v m =>
        obtain ⟨c', u, e1, e2⟩ := hv 0 v rfl
        injection e1 with e1
        subst e1 e2
        exact .cons ⟨u, rfl⟩ (ih m (by simpa using hm) fun j v hj => hv (j + 1) v hj)
  refine main _ _ (by rw [hl]; exact Array.length_toList.symm) fun j v hj => ?_
  obtain ⟨c, u, e1, e2⟩ := h j v hj
  exact ⟨c, u, by rw [Array.getElem?_toList]; exact e1, e2⟩
section
variable {X : Cx}
def rExtS : V → List V → Hp → VK → Prop := fun x vs H Q => ∃ l xs z, x = .ref l ∧ vs = [.str z] ∧ H l = some (.lst xs) ∧ xs.length + z.length ≤ sizeLine ∧ Q .non (upd H l (.lst (xs ++ signsV z)))
theorem mt_extS (hc : X.calm = true) : MtM X "list.extend" rExtS := by
  intro pins s σ H x vs v us Q I rx rv h
  obtain ⟨l, xs, zt, rfl, rfl, hH, hz, q⟩ := h
  cases rx
  obtain ⟨u, rfl, t, rfl⟩ := rv.one
  obtain ⟨z, its, n, r, hl, e⟩ := I.lstM hH
  have hz' : its.toArray.size + zt.cps.size ≤ sizeLine := by rw [List.size_toArray, ← hl]; exact hz
  refine wpAny_call (codeAny_call_builtin F.slot_list_extend.plain F.entry_list_extend (F.slot_list_extend.check _ _ _ _ _ _ _ _ ⟨_, e, rfl⟩ (F.args_list_extend_2 _ _) ?_))
  show wpAny _ _ (Builtin.List.listExtendWith (.ref l) (.str zt t) .none) _ _ _
  refine ext_str (A := X.A) (R := wants (EP X pins σ Q) X.xe) (I.ok.hd hc) zt t l its.toArray n e hz' fun g tk acc' c' hk hS' hacc => ?_
  obtain ⟨more, rfl, hl2, hp⟩ := hacc
  have hv := signs_vals hl2 hp
  refine ⟨.non, upd H l (.lst (xs ++ signsV zt)), I.write (x := l) (e := l) (t' := tk) (by rw [hH]; trivial) (.inl rfl) (fun b u hb hu => hk b u hb hu) ⟨_, hS'⟩ ⟨?_, its ++ more, c', r.append hv, by simpa using hS'⟩, rfl, q⟩
  rw [List.length_append]
  unfold signsV
  rw [List.length_map]
  have : zt.cps.toList.length = zt.length := Array.length_toList
  omega
/-- list(a text) -/
def rListS : List V → Hp → VK → Prop := fun xs H Q => ∃ z, xs = [.str z] ∧ z.length ≤ sizeLine ∧ ∀ p, H p = none → Q (.ref p) (upd H p (.lst (signsV z)))
theorem call_listS (hc : X.calm = true) : CallR X (.type "list") rListS := by
  intro pins s σ H xs us Q I r h
  obtain ⟨z, rfl, hz, q⟩ := h
  obtain ⟨u, rfl, t, rfl⟩ := vals1 r
  refine call_list_str (I.ok.hd hc) z t (fun g tk acc' c' hk hS' hacc => ?_) hz
  have hv : Vals (signsV z) acc'.toList := signs_vals (by rw [Array.length_toList]; exact hacc.1) fun j v hj => hacc.2 j v (by rw [← Array.getElem?_toList]; exact hj)
  refine ⟨.ref _, _, I.laid (t' := tk) (o := .lst (signsV z)) hk (Nat.le_refl _) ⟨?_, acc'.toList, c', hv, by simpa using hS'⟩, rfl, q _ (I.hok.fresh (Nat.le_refl _))⟩
  unfold signsV
  rw [List.length_map]
  exact (show z.cps.toList.length = z.length from Array.length_toList) ▸ hz
/-- (n, x) < (m, y) -/
def ltNS (n m : Int) (x y : Str) : Bool := if n = m then decide (x.cps.toList < y.cps.toList) else decide (n < m)
def rLtNS (K : PySem.W.Frag) : R2 := fun a b H Q => ∃ p q n m x y, a = .ref p ∧ b = .ref q ∧ SqT K H p [.int n, .str x] ∧ SqT K H q [.int m, .str y] ∧ Q (.bl (ltNS n m x y)) H
theorem op_ltNS (hu : X.A.units < cLine) : OpR X (compareOp .Lt) (rLtNS X.K) := by
  intro pins s σ H a b v u Q I rx ry h
  obtain ⟨p, q', n, m, x, y, rfl, rfl, hp, hq, q⟩ := h
  cases rx
  cases ry
  obtain ⟨its, r1, t1, _⟩ := I.tuple hp
  obtain ⟨its2, r2, t2, _⟩ := I.tuple hq
  cases r1 with
  | cons a1 b1 =>
  cases b1 with
  | cons a2 b2 =>
  cases b2
  cases r2 with
  | cons c1 d1 =>
  cases d1 with
  | cons c2 d2 =>
  cases d2
  obtain ⟨k1, rfl⟩ := a1
  obtain ⟨k2, rfl⟩ := a2
  obtain ⟨k3, rfl⟩ := c1
  obtain ⟨k4, rfl⟩ := c2
  have main := SeqAt.RcLt.tuples (A := X.A) (s := s) (e := fun j => if j = 0 then decide (n = m) else decide (x = y)) (r := fun j => if j = 0 then decide (n < m) else decide (x.cps.toList < y.cps.toList)) t1 t2 hu
    (fun j h1 h2 => by
      match j, h1 with
      | 0, _ =>
        have e := eqAt_V (A := X.A.in1) (s := s) (y := .int n) (x := .int m) (u := .int n k1) (v := .int m k3) ⟨k1, rfl⟩ ⟨k3, rfl⟩ rfl rfl
        have e2 : eqV (.int n) (.int m) = decide (n = m) := by
          show (n == m) = _
          by_cases c : n = m
          · rw [c]; simp
          · rw [decide_eq_false c]; exact beq_eq_false_iff_ne.mpr c
        rw [e2] at e
        exact e
      | 1, _ =>
        have e := eqAt_V (A := X.A.in1) (s := s) (y := .str x) (x := .str y) (u := .str x k2) (v := .str y k4) ⟨k2, rfl⟩ ⟨k4, rfl⟩ rfl rfl
        have e2 : eqV (.str x) (.str y) = decide (x = y) := by
          show (x == y) = _
          by_cases c : x = y
          · rw [c]; simp
          · rw [decide_eq_false c]; exact beq_eq_false_iff_ne.mpr c
        rw [e2] at e
        exact e)
    (fun j h1 h2 _ => by
      match j, h1 with
      | 0, _ => exact fun prog w E Q h => HT.rcLt_int _ _ _ _ _ _ prog w E Q h
      | 1, _ => exact fun prog w E Q h => DT.rcLt_str _ _ _ _ _ _ prog w E Q h)
  have ev : SeqAt.firstLt (fun j => if j = 0 then decide (n = m) else decide (x = y)) (fun j => if j = 0 then decide (n < m) else decide (x.cps.toList < y.cps.toList)) (decide ((#[Value.int n k1, Value.str x k2]).size < (#[Value.int m k3, Value.str y k4]).size)) (List.range (min (#[Value.int n k1, Value.str x k2]).size (#[Value.int m k3, Value.str y k4]).size)) = ltNS n m x y := by
    show SeqAt.firstLt _ _ false [0, 1] = _
    unfold ltNS
    by_cases c : n = m
    · rw [if_pos c, SeqAt.firstLt_yes (by simp [c])]
      by_cases c2 : x = y
      · rw [SeqAt.firstLt_yes (by simp [c2]), c2]
        simp [SeqAt.firstLt]
      · rw [SeqAt.firstLt_no (by simp [c2])]
        simp
    · rw [if_neg c, SeqAt.firstLt_no (by simp [c])]
      simp
  refine main X.prog X.w X.xe _ ?_
  exact fin_bl I q ev.symm
end
end Se
/-! what patterns spell: plain mathematics -/
namespace Pa
open PySem
inductive Pat
  | sg (x : Str)
  | em
  | th (a b : Pat)
  | oo (a b : Pat)
  | ag (a : Pat)
  | mo (a : Pat)
  | mb (a : Pat)
/-- a row of patterns spells a word in so many steps -/
inductive D : List Pat → List Nat → Nat → Prop
  | nil : D [] [] 0
  | sg {x : Str} {c : Nat} {k : List Pat} {w : List Nat} {n : Nat} : c ∈ x.cps.toList → D k w n → D (.sg x :: k) (c :: w) (n + 1)
  | em {k : List Pat} {w : List Nat} {n : Nat} : D k w n → D (.em :: k) w (n + 1)
  | th {a b : Pat} {k : List Pat} {w : List Nat} {n : Nat} : D (a :: b :: k) w n → D (.th a b :: k) w (n + 1)
  | o1 {a b : Pat} {k : List Pat} {w : List Nat} {n : Nat} : D (a :: k) w n → D (.oo a b :: k) w (n + 1)
  | o2 {a b : Pat} {k : List Pat} {w : List Nat} {n : Nat} : D (b :: k) w n → D (.oo a b :: k) w (n + 1)
  | a0 {a : Pat} {k : List Pat} {w : List Nat} {n : Nat} : D k w n → D (.ag a :: k) w (n + 1)
  | a1 {a : Pat} {k : List Pat} {w : List Nat} {n : Nat} : D (a :: .ag a :: k) w n → D (.ag a :: k) w (n + 1)
  | mo {a : Pat} {k : List Pat} {w : List Nat} {n : Nat} : D (a :: .ag a :: k) w n → D (.mo a :: k) w (n + 1)
  | m0 {a : Pat} {k : List Pat} {w : List Nat} {n : Nat} : D k w n → D (.mb a :: k) w (n + 1)
  | m1 {a : Pat} {k : List Pat} {w : List Nat} {n : Nat} : D (a :: k) w n → D (.mb a :: k) w (n + 1)
theorem D.app {s t : List Pat} {u v : List Nat} {n m : Nat} (h : D s u n) (g : D t v m) : D (s ++ t) (u ++ v) (n + m) := by
  induction h with
  | nil => rw [Nat.zero_add]; exact g
  | sg hc _ ih => rw [Nat.add_right_comm]; exact .sg hc ih
  | em _ ih => rw [Nat.add_right_comm]; exact .em ih
  | th _ ih => rw [Nat.add_right_comm]; exact .th ih
  | o1 _ ih => rw [Nat.add_right_comm]; exact .o1 ih
  | o2 _ ih => rw [Nat.add_right_comm]; exact .o2 ih
  | a0 _ ih => rw [Nat.add_right_comm]; exact .a0 ih
  | a1 _ ih => rw [Nat.add_right_comm]; exact .a1 ih
  | mo _ ih => rw [Nat.add_right_comm]; exact .mo ih
  | m0 _ ih => rw [Nat.add_right_comm]; exact .m0 ih
  | m1 _ ih => rw [Nat.add_right_comm]; exact .m1 ih
theorem D.parts : ∀ {n : Nat} {s t : List Pat} {w : List Nat}, D (s ++ t) w n → ∃ u v i j, w = u ++ v ∧ n = i + j ∧ D s u i ∧ D t v j
  | n, [], t, w, h => ⟨[], w, 0, n, rfl, (Nat.zero_add n).symm, .nil, h⟩
  | 0, p :: s, t, w, h => by cases h
  | n + 1, p :: s, t, w, h => by
    have h' : D (p :: (s ++ t)) w (n + 1) := h
    cases h' with
    | sg hc h1 =>
      obtain ⟨u, v, i, j, rfl, rfl, g1, g2⟩ := D.parts (s := s) h1
      exact ⟨_ :: u, v, i + 1, j, rfl, by omega, .sg hc g1, g2⟩
    | em h1 =>
      obtain ⟨u, v, i, j, rfl, rfl, g1, g2⟩ := D.parts (s := s) h1
      exact ⟨u, v, i + 1, j, rfl, by omega, .em g1, g2⟩
    | @th a b _ _ _ h1 =>
      obtain ⟨u, v, i, j, rfl, rfl, g1, g2⟩ := D.parts (s := a :: b :: s) h1
      exact ⟨u, v, i + 1, j, rfl, by omega, .th g1, g2⟩
    | @o1 a b _ _ _ h1 =>
      obtain ⟨u, v, i, j, rfl, rfl, g1, g2⟩ := D.parts (s := a :: s) h1
      exact ⟨u, v, i + 1, j, rfl, by omega, .o1 g1, g2⟩
    | @o2 a b _ _ _ h1 =>
      obtain ⟨u, v, i, j, rfl, rfl, g1, g2⟩ := D.parts (s := b :: s) h1
      exact ⟨u, v, i + 1, j, rfl, by omega, .o2 g1, g2⟩
    | a0 h1 =>
      obtain ⟨u, v, i, j, rfl, rfl, g1, g2⟩ := D.parts (s := s) h1
      exact ⟨u, v, i + 1, j, rfl, by omega, .a0 g1, g2⟩
    | @a1 a _ _ _ h1 =>
      obtain ⟨u, v, i, j, rfl, rfl, g1, g2⟩ := D.parts (s := a :: .ag a :: s) h1
      exact ⟨u, v, i + 1, j, rfl, by omega, .a1 g1, g2⟩
    | @mo a _ _ _ h1 =>
      obtain ⟨u, v, i, j, rfl, rfl, g1, g2⟩ := D.parts (s := a :: .ag a :: s) h1
      exact ⟨u, v, i + 1, j, rfl, by omega, .mo g1, g2⟩
    | m0 h1 =>
      obtain ⟨u, v, i, j, rfl, rfl, g1, g2⟩ := D.parts (s := s) h1
      exact ⟨u, v, i + 1, j, rfl, by omega, .m0 g1, g2⟩
    | @m1 a _ _ _ h1 =>
      obtain ⟨u, v, i, j, rfl, rfl, g1, g2⟩ := D.parts (s := a :: s) h1
      exact ⟨u, v, i + 1, j, rfl, by omega, .m1 g1, g2⟩
def LS (s : List Pat) (w : List Nat) : Prop := ∃ n, D s w n
def L (p : Pat) (w : List Nat) : Prop := LS [p] w
theorem LS.app {s t : List Pat} {w : List Nat} : LS (s ++ t) w ↔ ∃ u v, w = u ++ v ∧ LS s u ∧ LS t v :=
  ⟨fun ⟨_, h⟩ => by obtain ⟨u, v, i, j, e, _, g1, g2⟩ := h.parts; exact ⟨u, v, e, ⟨i, g1⟩, ⟨j, g2⟩⟩, fun ⟨u, v, e, ⟨i, g1⟩, ⟨j, g2⟩⟩ => ⟨i + j, e ▸ g1.app g2⟩⟩
theorem LS.cons {p : Pat} {k : List Pat} {w : List Nat} : LS (p :: k) w ↔ ∃ u v, w = u ++ v ∧ L p u ∧ LS k v := LS.app (s := [p]) (t := k)
theorem LS.nil {w : List Nat} : LS [] w ↔ w = [] := ⟨fun ⟨_, h⟩ => by cases h; rfl, fun e => by rw [e]; exact ⟨0, .nil⟩⟩
theorem L_sg {x : Str} {w : List Nat} : L (.sg x) w ↔ ∃ c, c ∈ x.cps.toList ∧ w = [c] :=
  ⟨fun ⟨_, h⟩ => by cases h with | sg hc h => cases h; exact ⟨_, hc, rfl⟩, fun ⟨c, hc, e⟩ => by rw [e]; exact ⟨_, .sg hc .nil⟩⟩
theorem L_em {w : List Nat} : L .em w ↔ w = [] := ⟨fun ⟨_, h⟩ => by cases h with | em h => cases h; rfl, fun e => by rw [e]; exact ⟨_, .em .nil⟩⟩
theorem L_th {a b : Pat} {w : List Nat} : L (.th a b) w ↔ ∃ u v, w = u ++ v ∧ L a u ∧ L b v :=
  ⟨fun ⟨_, h⟩ => by cases h with | th h => exact LS.cons.mp ⟨_, h⟩, fun h => by obtain ⟨n, g⟩ := LS.cons.mpr h; exact ⟨_, .th g⟩⟩
theorem L_oo {a b : Pat} {w : List Nat} : L (.oo a b) w ↔ L a w ∨ L b w :=
  ⟨fun ⟨_, h⟩ => by
    cases h with
    | o1 h => exact .inl ⟨_, h⟩
    | o2 h => exact .inr ⟨_, h⟩, fun h => h.elim (fun ⟨n, g⟩ => ⟨_, .o1 g⟩) (fun ⟨n, g⟩ => ⟨_, .o2 g⟩)⟩
theorem L_mb {a : Pat} {w : List Nat} : L (.mb a) w ↔ w = [] ∨ L a w :=
  ⟨fun ⟨_, h⟩ => by
    cases h with
    | m0 h => cases h; exact .inl rfl
    | m1 h => exact .inr ⟨_, h⟩, fun h => h.elim (fun e => by rw [e]; exact ⟨_, .m0 .nil⟩) (fun ⟨n, g⟩ => ⟨_, .m1 g⟩)⟩
theorem L_mo {a : Pat} {w : List Nat} : L (.mo a) w ↔ ∃ u v, w = u ++ v ∧ L a u ∧ L (.ag a) v :=
  ⟨fun ⟨_, h⟩ => by cases h with | mo h => exact LS.cons.mp ⟨_, h⟩, fun h => by obtain ⟨n, g⟩ := LS.cons.mpr h; exact ⟨_, .mo g⟩⟩
theorem L_ag {a : Pat} {w : List Nat} : L (.ag a) w ↔ w = [] ∨ L (.mo a) w := by
  rw [L_mo]
  exact ⟨fun ⟨_, h⟩ => by
    cases h with
    | a0 h => cases h; exact .inl rfl
    | a1 h => exact .inr (LS.cons.mp ⟨_, h⟩), fun h => h.elim (fun e => by rw [e]; exact ⟨_, .a0 .nil⟩) (fun h => by obtain ⟨n, g⟩ := LS.cons.mpr h; exact ⟨_, .a1 g⟩)⟩
theorem ag_ind {a : Pat} {C : List Nat → Prop} (h0 : C []) (h1 : ∀ u v, L a u → L (.ag a) v → C v → C (u ++ v)) : ∀ w, L (.ag a) w → C w := by
  have main : ∀ (n : Nat) (w : List Nat), D [.ag a] w n → C w := by
    intro n
    induction n using Nat.strongRecOn with
    | ind n ih =>
      intro w h
      cases h with
      | a0 h => cases h; exact h0
      | a1 h =>
        obtain ⟨u, v, i, j, rfl, e, g1, g2⟩ := D.parts (s := [a]) (t := [.ag a]) h
        exact h1 u v ⟨i, g1⟩ ⟨j, g2⟩ (ih j (by omega) v g2)
  exact fun w ⟨n, h⟩ => main n w h
theorem ag_end {a : Pat} {v : List Nat} (hv : L a v) : ∀ u, L (.ag a) u → L (.ag a) (u ++ v) :=
  ag_ind (by
    rw [List.nil_append]
    exact L_ag.mpr (.inr (L_mo.mpr ⟨v, [], (List.append_nil v).symm, hv, L_ag.mpr (.inl rfl)⟩))) fun x y hx _ ih => by
    rw [List.append_assoc]
    exact L_ag.mpr (.inr (L_mo.mpr ⟨x, y ++ v, rfl, hx, ih⟩))
/-! ### places of a text -/
def seg (t : List Nat) (b e : Nat) : List Nat := (t.drop b).take (e - b)
theorem seg_len {t : List Nat} {b e : Nat} (h1 : b ≤ e) (h2 : e ≤ t.length) : (seg t b e).length = e - b := by
  unfold seg
  rw [List.length_take, List.length_drop]; omega
theorem seg_cat {t : List Nat} {b m e : Nat} (h1 : b ≤ m) (h2 : m ≤ e) : seg t b m ++ seg t m e = seg t b e := by
  unfold seg
  have e1 : t.drop m = (t.drop b).drop (m - b) := by rw [List.drop_drop]; congr 1; omega
  have e2 : e - b = (m - b) + (e - m) := by omega
  rw [e1, e2, List.take_add]
theorem seg_split {t : List Nat} {b e : Nat} {u v : List Nat} (h1 : b ≤ e) (h2 : e ≤ t.length) (h : seg t b e = u ++ v) : ∃ m, b ≤ m ∧ m ≤ e ∧ seg t b m = u ∧ seg t m e = v := by
  have hl := seg_len h1 h2
  rw [h, List.length_append] at hl
  refine ⟨b + u.length, by omega, by omega, ?_⟩
  have c := seg_cat (t := t) (b := b) (m := b + u.length) (e := e) (by omega) (by omega)
  rw [h] at c
  have l1 := seg_len (t := t) (b := b) (e := b + u.length) (by omega) (by omega)
  exact List.append_inj c (by omega)
theorem seg_nil {t : List Nat} {b : Nat} : seg t b b = [] := by
  unfold seg
  rw [Nat.sub_self, List.take_zero]
/-- from b to e the text is spelled -/
def E (t : List Nat) (p : Pat) (b e : Nat) : Prop := b ≤ e ∧ e ≤ t.length ∧ L p (seg t b e)
theorem E_sg {t : List Nat} {x : Str} {b e : Nat} : E t (.sg x) b e ↔ ∃ c, t[b]? = some c ∧ c ∈ x.cps.toList ∧ e = b + 1 := by
  constructor
  · rintro ⟨h1, h2, h⟩
    obtain ⟨c, hc, ec⟩ := L_sg.mp h
    have hl := seg_len h1 h2
    rw [ec] at hl
    have hl' : 1 = e - b := hl
    refine ⟨c, ?_, hc, by omega⟩
    have h0 : (seg t b e)[0]? = some c := by rw [ec]; rfl
    unfold seg at h0
    rw [List.getElem?_take_of_lt (by omega), List.getElem?_drop] at h0
    exact h0
  · rintro ⟨c, h0, hc, rfl⟩
    have hb := (List.getElem?_eq_some_iff.mp h0).1
    refine ⟨by omega, by omega, L_sg.mpr ⟨c, hc, ?_⟩⟩
    unfold seg
    have : b + 1 - b = 1 := by omega
    rw [this, List.drop_eq_getElem_cons hb, (List.getElem?_eq_some_iff.mp h0).2]
    rfl
theorem E_em {t : List Nat} {b e : Nat} : E t .em b e ↔ e = b ∧ b ≤ t.length := by
  constructor
  · rintro ⟨h1, h2, h⟩
    have hl := seg_len h1 h2
    rw [L_em.mp h] at hl
    have hl' : 0 = e - b := hl
    omega
  · rintro ⟨rfl, h⟩
    exact ⟨Nat.le_refl _, h, L_em.mpr seg_nil⟩
theorem E_th {t : List Nat} {p q : Pat} {b e : Nat} : E t (.th p q) b e ↔ ∃ m, E t p b m ∧ E t q m e := by
  constructor
  · rintro ⟨h1, h2, h⟩
    obtain ⟨u, v, e1, hu, hv⟩ := L_th.mp h
    obtain ⟨m, m1, m2, rfl, rfl⟩ := seg_split h1 h2 e1
    exact ⟨m, ⟨m1, by omega, hu⟩, ⟨m2, h2, hv⟩⟩
  · rintro ⟨m, ⟨m1, m2, hu⟩, ⟨m3, m4, hv⟩⟩
    exact ⟨by omega, m4, L_th.mpr ⟨_, _, (seg_cat m1 m3).symm, hu, hv⟩⟩
theorem E_oo {t : List Nat} {p q : Pat} {b e : Nat} : E t (.oo p q) b e ↔ E t p b e ∨ E t q b e := by
  unfold E
  rw [L_oo]
  constructor
  · rintro ⟨h1, h2, h | h⟩
    · exact .inl ⟨h1, h2, h⟩
    · exact .inr ⟨h1, h2, h⟩
  · rintro (⟨h1, h2, h⟩ | ⟨h1, h2, h⟩)
    · exact ⟨h1, h2, .inl h⟩
    · exact ⟨h1, h2, .inr h⟩
theorem nil_seg {t : List Nat} {b e : Nat} (h1 : b ≤ e) (h2 : e ≤ t.length) : seg t b e = [] ↔ e = b := by
  constructor
  · intro h
    have hl := seg_len h1 h2
    rw [h] at hl
    have hl' : 0 = e - b := hl
    omega
  · rintro rfl; exact seg_nil
theorem E_mb {t : List Nat} {p : Pat} {b e : Nat} : E t (.mb p) b e ↔ (e = b ∧ b ≤ t.length) ∨ E t p b e := by
  unfold E
  rw [L_mb]
  constructor
  · rintro ⟨h1, h2, h | h⟩
    · have := (nil_seg h1 h2).mp h
      exact .inl ⟨this, by omega⟩
    · exact .inr ⟨h1, h2, h⟩
  · rintro (⟨rfl, h⟩ | ⟨h1, h2, h⟩)
    · exact ⟨Nat.le_refl _, h, .inl seg_nil⟩
    · exact ⟨h1, h2, .inr h⟩
theorem E_ag {t : List Nat} {p : Pat} {b e : Nat} : E t (.ag p) b e ↔ (e = b ∧ b ≤ t.length) ∨ E t (.mo p) b e := by
  unfold E
  rw [L_ag]
  constructor
  · rintro ⟨h1, h2, h | h⟩
    · have := (nil_seg h1 h2).mp h
      exact .inl ⟨this, by omega⟩
    · exact .inr ⟨h1, h2, h⟩
  · rintro (⟨rfl, h⟩ | ⟨h1, h2, h⟩)
    · exact ⟨Nat.le_refl _, h, .inl seg_nil⟩
    · exact ⟨h1, h2, .inr h⟩
theorem E_mo1 {t : List Nat} {p : Pat} {b e : Nat} (h : E t p b e) : E t (.mo p) b e :=
  ⟨h.1, h.2.1, L_mo.mpr ⟨_, [], (List.append_nil _).symm, h.2.2, L_ag.mpr (.inl rfl)⟩⟩
theorem E_mo_end {t : List Nat} {p : Pat} {b m e : Nat} (h : E t (.mo p) b m) (g : E t p m e) : E t (.mo p) b e := by
  obtain ⟨h1, h2, h⟩ := h
  obtain ⟨g1, g2, g⟩ := g
  refine ⟨by omega, g2, ?_⟩
  rw [← seg_cat (t := t) h1 g1]
  obtain ⟨u, v, e, hu, hv⟩ := L_mo.mp h
  rw [e, List.append_assoc]
  exact L_mo.mpr ⟨u, _, rfl, hu, ag_end g v hv⟩
theorem E_mo_least {t : List Nat} {p : Pat} {b e : Nat} {S : Nat → Prop} (h1 : ∀ m, E t p b m → S m) (h2 : ∀ m n, S m → E t p m n → S n) (h : E t (.mo p) b e) : S e := by
  obtain ⟨g1, g2, h⟩ := h
  obtain ⟨u, v, e1, hu, hv⟩ := L_mo.mp h
  obtain ⟨m, m1, m2, rfl, rfl⟩ := seg_split g1 g2 e1
  have key : ∀ w, L (.ag p) w → ∀ m, S m → m ≤ e → seg t m e = w → S e := by
    refine ag_ind (fun m sm hm ew => ?_) fun x y hx hy ih m sm hm ew => ?_
    · rw [(nil_seg hm g2).mp ew]; exact sm
    · obtain ⟨k, k1, k2, rfl, rfl⟩ := seg_split hm g2 ew
      exact ih k (h2 m k sm ⟨k1, by omega, hx⟩) k2 rfl
  exact key _ hv m (h1 m ⟨m1, by omega, hu⟩) m2 rfl
theorem E_all {t : List Nat} {p : Pat} : E t p 0 t.length ↔ L p t := by
  unfold E seg
  rw [List.drop_zero, Nat.sub_zero, List.take_length]
  exact ⟨fun h => h.2.2, fun h => ⟨Nat.zero_le _, Nat.le_refl _, h⟩⟩
/-! ### the least text, the only text -/
def slt (u v : List Nat) : Prop := u.length < v.length ∨ (u.length = v.length ∧ u < v)
theorem lt_same_len : ∀ {a b c d : List Nat}, a.length = b.length → ¬ a < b → ¬ c < d → ¬ a ++ c < b ++ d
  | [], [], c, d, _, _, h => h
  | x :: a, y :: b, c, d, hl, h1, h2 => by
    intro h
    have hl' : a.length = b.length := by simpa using hl
    rw [List.cons_append, List.cons_append] at h
    rcases List.cons_lt_cons_iff.mp h with h3 | ⟨h4, h3⟩
    · exact h1 (List.cons_lt_cons_iff.mpr (.inl h3))
    · exact lt_same_len hl' (fun z => h1 (List.cons_lt_cons_iff.mpr (.inr ⟨h4, z⟩))) h2 h3
  | [], _ :: _, _, _, hl, _, _ => by simp at hl
  | _ :: _, [], _, _, hl, _, _ => by simp at hl
theorem slt_app {u v l m : List Nat} (h1 : ¬ slt u l) (h2 : ¬ slt v m) : ¬ slt (u ++ v) (l ++ m) := by
  unfold slt at *
  rw [List.length_append, List.length_append]
  rintro (h | ⟨e, h⟩)
  · have a1 : ¬ u.length < l.length := fun z => h1 (.inl z)
    have a2 : ¬ v.length < m.length := fun z => h2 (.inl z)
    omega
  · have a1 : ¬ u.length < l.length := fun z => h1 (.inl z)
    have a2 : ¬ v.length < m.length := fun z => h2 (.inl z)
    exact lt_same_len (by omega) (fun z => h1 (.inr ⟨by omega, z⟩)) (fun z => h2 (.inr ⟨by omega, z⟩)) h
theorem slt_tri {u v : List Nat} (h : ¬ slt u v) : v = u ∨ slt v u := by
  unfold slt at *
  rcases Nat.lt_trichotomy u.length v.length with c | c | c
  · exact absurd (.inl c) h
  · rcases Decidable.em (v < u) with z | z
    · exact .inr (.inr ⟨c.symm, z⟩)
    · exact .inl (List.le_antisymm (List.not_lt.mp fun w => h (.inr ⟨c, w⟩)) (List.not_lt.mp z))
  · exact .inr (.inl c)
theorem slt_trans {u v w : List Nat} (h1 : slt u v) (h2 : slt v w) : slt u w := by
  unfold slt at *
  rcases h1 with h1 | ⟨e1, h1⟩
  · rcases h2 with h2 | ⟨e2, h2⟩ <;> exact .inl (by omega)
  · rcases h2 with h2 | ⟨e2, h2⟩
    · exact .inl (by omega)
    · exact .inr ⟨by omega, List.lt_trans h1 h2⟩
/-- patterns whose signs rise -/
def Wf : Pat → Prop
  | .sg x => x.cps.toList ≠ [] ∧ x.cps.toList.Pairwise (· < ·) ∧ (∀ c, c ∈ x.cps.toList → c < 128)
  | .em => True
  | .th a b => Wf a ∧ Wf b
  | .oo a b => Wf a ∧ Wf b
  | .ag a => Wf a
  | .mo a => Wf a
  | .mb a => Wf a
noncomputable section
open Classical
def lesser (u v : List Nat) : List Nat := if slt v u then v else u
def least : Pat → List Nat
  | .sg x => x.cps.toList.take 1
  | .em => []
  | .th a b => least a ++ least b
  | .oo a b => lesser (least a) (least b)
  | .ag _ => []
  | .mo a => least a
  | .mb _ => []
def only : Pat → Option (List Nat)
  | .sg x => if x.cps.toList.length = 1 then some x.cps.toList else none
  | .em => some []
  | .th a b => match only a, only b with
    | some u, some v => some (u ++ v)
    | _, _ => none
  | .oo a b => if only a = only b then only a else none
  | .ag a => if only a = some [] then some [] else none
  | .mo a => if only a = some [] then some [] else none
  | .mb a => if only a = some [] then some [] else none
theorem not_slt_nil {w : List Nat} : ¬ slt w [] := by
  unfold slt
  rintro (h | ⟨h, g⟩)
  · exact absurd h (Nat.not_lt_zero _)
  · exact absurd g (List.not_lt_nil w)
theorem least_ok : ∀ {p : Pat}, Wf p → L p (least p) ∧ ∀ w, L p w → ¬ slt w (least p)
  | .sg x, h => by
    obtain ⟨h0, h1, _⟩ := h
    have e : least (.sg x) = x.cps.toList.take 1 := rfl
    cases ex : x.cps.toList with
    | nil => exact absurd ex h0
    | cons c l =>
      rw [ex] at h1 e
      have e' : least (.sg x) = [c] := e
      rw [e']
      refine ⟨L_sg.mpr ⟨c, by rw [ex]; exact List.mem_cons_self, rfl⟩, fun w hw => ?_⟩
      obtain ⟨d, hd, rfl⟩ := L_sg.mp hw
      rw [ex] at hd
      unfold slt
      rintro (h | ⟨_, h⟩)
      · exact absurd h (Nat.lt_irrefl _)
      · rcases List.mem_cons.mp hd with z | z
        · rw [z] at h; exact absurd h (List.lt_irrefl _)
        · have := (List.pairwise_cons.mp h1).1 d z
          rcases List.cons_lt_cons_iff.mp h with q | ⟨_, q⟩
          · omega
          · exact absurd q (List.lt_irrefl _)
  | .em, _ => ⟨L_em.mpr rfl, fun w _ => not_slt_nil⟩
  | .th a b, h => by
    obtain ⟨a1, a2⟩ := least_ok h.1
    obtain ⟨b1, b2⟩ := least_ok h.2
    refine ⟨L_th.mpr ⟨_, _, rfl, a1, b1⟩, fun w hw => ?_⟩
    obtain ⟨u, v, rfl, hu, hv⟩ := L_th.mp hw
    exact slt_app (a2 u hu) (b2 v hv)
  | .oo a b, h => by
    obtain ⟨a1, a2⟩ := least_ok h.1
    obtain ⟨b1, b2⟩ := least_ok h.2
    have e : least (.oo a b) = lesser (least a) (least b) := rfl
    rw [e]
    unfold lesser
    by_cases c : slt (least b) (least a)
    · rw [if_pos c]
      refine ⟨L_oo.mpr (.inr b1), fun w hw z => ?_⟩
      rcases L_oo.mp hw with q | q
      · exact a2 w q (slt_trans z c)
      · exact b2 w q z
    · rw [if_neg c]
      refine ⟨L_oo.mpr (.inl a1), fun w hw z => ?_⟩
      rcases L_oo.mp hw with q | q
      · exact a2 w q z
      · rcases slt_tri c with y | y
        · rw [y] at z; exact b2 w q z
        · exact b2 w q (slt_trans z y)
  | .ag a, _ => ⟨L_ag.mpr (.inl rfl), fun w _ => not_slt_nil⟩
  | .mo a, h => by
    obtain ⟨a1, a2⟩ := least_ok (p := a) h
    have e : least (.mo a) = least a := rfl
    rw [e]
    refine ⟨L_mo.mpr ⟨_, [], (List.append_nil _).symm, a1, L_ag.mpr (.inl rfl)⟩, fun w hw => ?_⟩
    obtain ⟨u, v, rfl, hu, hv⟩ := L_mo.mp hw
    have := slt_app (v := v) (m := []) (a2 u hu) not_slt_nil
    rw [List.append_nil] at this
    exact this
  | .mb a, _ => ⟨L_mb.mpr (.inl rfl), fun w _ => not_slt_nil⟩
theorem only_least : ∀ {p : Pat} {x : List Nat}, only p = some x → least p = x
  | .sg y, x, h => by
    have e : only (.sg y) = if y.cps.toList.length = 1 then some y.cps.toList else none := rfl
    rw [e] at h
    by_cases c : y.cps.toList.length = 1
    · rw [if_pos c] at h
      injection h with h
      show y.cps.toList.take 1 = x
      rw [← h, List.take_of_length_le (by omega)]
    · rw [if_neg c] at h; cases h
  | .em, x, h => by
    injection h with h
  | .th a b, x, h => by
    have e : only (.th a b) = match only a, only b with
      | some u, some v => some (u ++ v)
      | _, _ => none := rfl
    rw [e] at h
    cases ea : only a with
    | none => rw [ea] at h; cases h
    | some u =>
      cases eb : only b with
      | none => rw [ea, eb] at h; cases h
      | some v =>
        rw [ea, eb] at h
        injection h with h
        show least a ++ least b = x
        rw [only_least ea, only_least eb, h]
  | .oo a b, x, h => by
    have e : only (.oo a b) = if only a = only b then only a else none := rfl
    rw [e] at h
    by_cases c : only a = only b
    · rw [if_pos c] at h
      show lesser (least a) (least b) = x
      unfold lesser
      rw [only_least h, only_least (c ▸ h)]
      split <;> rfl
    · rw [if_neg c] at h; cases h
  | .ag a, x, h => by
    have e : only (.ag a) = if only a = some [] then some [] else none := rfl
    rw [e] at h
    by_cases c : only a = some []
    · rw [if_pos c] at h; injection h with h
    · rw [if_neg c] at h; cases h
  | .mo a, x, h => by
    have e : only (.mo a) = if only a = some [] then some [] else none := rfl
    rw [e] at h
    by_cases c : only a = some []
    · rw [if_pos c] at h
      injection h with h
      show least a = x
      rw [only_least c, h]
    · rw [if_neg c] at h; cases h
  | .mb a, x, h => by
    have e : only (.mb a) = if only a = some [] then some [] else none := rfl
    rw [e] at h
    by_cases c : only a = some []
    · rw [if_pos c] at h; injection h with h
    · rw [if_neg c] at h; cases h
/-- one text, the only one, or two -/
def Two (p : Pat) (ts : List (List Nat)) : Prop := (∃ x, only p = some x ∧ ts = [x]) ∨ (only p = none ∧ ts.length = 2 ∧ ts.Nodup)
end
end Pa
set_option maxHeartbeats 2000000
namespace Pa
open PySem PySem.Spec PyProof.Rows L2 Ty
abbrev top (i : Nat) : Stmt := PySem.Challenge.pw_tongueyard_k56_layouts_made.main.body.getD i (.Pass ⟨0, 0, 0, 0⟩)
def inner (i : Nat) : Stmt → Stmt
  | .ClassDef _ _ _ body _ _ _ _ _ _ _ => body.getD i (.Pass ⟨0, 0, 0, 0⟩)
  | s => s
abbrev sName : Stmt := top 17
abbrev sTold : Stmt := top 19
abbrev sSpells : Stmt := top 21
abbrev sNone : Stmt := top 22
abbrev sSignsIn : Stmt := top 30
abbrev lPurse : Stmt := top 33
abbrev lDrawn : Stmt := top 34
abbrev lLaw : Stmt := top 45
abbrev lRefused : Stmt := top 42
abbrev sInit : Stmt := inner 0 (top 20)
abbrev sEnds : Stmt := inner 1 (top 20)
abbrev sAnew : Stmt := inner 2 (top 20)
abbrev sAgain : Stmt := inner 3 (top 20)
abbrev gInit : Stmt := inner 0 (top 31)
abbrev gFew : Stmt := inner 1 (top 31)
abbrev gKinds : Stmt := inner 2 (top 31)
abbrev gRules : Stmt := inner 3 (top 31)
abbrev gLabel : Stmt := inner 4 (top 31)
abbrev gSymbols : Stmt := inner 5 (top 31)
abbrev gBars : Stmt := inner 6 (top 31)
abbrev gBegin : Stmt := inner 9 (top 31)
abbrev gBarsOf : Stmt := inner 10 (top 31)
abbrev gRowOf : Stmt := inner 13 (top 31)
abbrev gRuleOf : Stmt := inner 14 (top 31)
abbrev gIsKind : Stmt := inner 15 (top 31)
abbrev gPatternOf : Stmt := inner 16 (top 31)
abbrev gIsLabel : Stmt := inner 18 (top 31)
abbrev lKindsD : Stmt := top 35
abbrev lRulesD : Stmt := top 36
abbrev lMarks : Stmt := top 39
abbrev lMarksR : Stmt := top 40
abbrev lSpoilt : Stmt := top 41
abbrev lNoLabel : Stmt := top 43
abbrev lRight : Stmt := top 44
abbrev sSteps : Stmt := top 10
abbrev sMarksR : Stmt := top 11
abbrev yInit : Stmt := inner 0 (top 12)
abbrev yMarksOf : Stmt := inner 1 (top 12)
abbrev yAll : Stmt := inner 2 (top 12)
abbrev yEq : Stmt := inner 3 (top 12)
abbrev gLabels : Stmt := inner 11 (top 31)
abbrev gEq : Stmt := inner 21 (top 31)
abbrev sNoLabel : Stmt := inner 0 (top 4)
abbrev sNoLayout : Stmt := inner 0 (top 5)
abbrev sNoGrammar : Stmt := inner 0 (top 3)
def Jar (j : Addr) (H : Hp) (C : Nat) : Prop := ∃ a b c : Int, H j = some (.lst [.int a, .int b, .int c]) ∧ b.natAbs < 2 ^ 100 ∧ 0 ≤ c ∧ c ≤ (C : Int)
theorem Jar.mono {j : Addr} {H : Hp} {C D : Nat} (h : Jar j H C) (l : C ≤ D) : Jar j H D := by
  obtain ⟨a, b, c, h1, h2, h3, h4⟩ := h
  exact ⟨a, b, c, h1, h2, h3, by omega⟩
theorem Jar.keep {j : Addr} {H H' : Hp} {C : Nat} (h : Jar j H C) (s : Same H H') : Jar j H' C := by
  obtain ⟨a, b, c, h1, h2⟩ := h
  exact ⟨a, b, c, s _ _ h1, h2⟩
theorem Jar.ne {j p : Addr} {H : Hp} {C : Nat} (h : Jar j H C) (n : H p = none) : p ≠ j := by
  obtain ⟨a, b, c, h1, _⟩ := h
  intro e
  rw [e, h1] at n
  cases n
def Acc (H1 : Hp) (D : Addr) (ys : List V) (H : Hp) : Prop := Same H1 H ∧ H D = some (.lst ys)
theorem Acc.nil {H : Hp} {D : Addr} (n : H D = none) : Acc H D [] (upd H D (.lst [])) := ⟨same_new n _, upd_same⟩
theorem Acc.push {H1 H : Hp} {D : Addr} {ys : List V} (a : Acc H1 D ys H) (n : H1 D = none) (y : V) : Acc H1 D (ys ++ [y]) (upd H D (.lst (ys ++ [y]))) :=
  ⟨fun b o e => by rw [upd_ne (ne_of_none e n)]; exact a.1 b o e, upd_same⟩
theorem Acc.same {H1 H H' : Hp} {D : Addr} {ys : List V} (a : Acc H1 D ys H) (s : Same H H') : Acc H1 D ys H' := ⟨a.1.trans s, s _ _ a.2⟩
theorem at_zero {α : Type} {x : α} {xs : List α} : atI (x :: xs) 0 = some x := by
  have : (0 : Int) < (((x :: xs).length : Nat) : Int) := by rw [List.length_cons]; omega
  unfold atI ixN
  rw [if_pos (Int.le_refl 0), if_pos this]
  rfl
theorem join_one : ∀ l : List Nat, Txt.join "" (l.map fun c => (⟨#[c]⟩ : Str)) = ⟨l.toArray⟩ := by
  intro l
  rw [TL.join_eq]
  induction l with
  | nil => rfl
  | cons c l ih =>
    cases l with
    | nil => rfl
    | cons d l =>
      show (⟨#[c]⟩ : Str) ++ "" ++ Str.join "" ((d :: l).map fun c => (⟨#[c]⟩ : Str)) = _
      rw [ih]
      refine str_of_list ?_
      rw [Str.cps_append, Array.toList_append, Str.cps_append, Array.toList_append]
      rfl
theorem sIx_one {n : Nat} : HT.sIx (n + 1) 0 (some 1) = 1 := by
  unfold HT.sIx
  simp
theorem cut_tail {v : V} {vs : List V} : cutV (v :: vs) (some 1) none = vs := by
  unfold cutV
  rw [List.length_cons, sIx_one]
  show List.take (vs.length + 1 - 1) (List.drop 1 (v :: vs)) = vs
  rw [Nat.add_sub_cancel]
  exact List.take_length
section
variable {X : Cx}
theorem same_refl {H : Hp} : Same H H := fun b o h => h
theorem new_ne {H H' : Hp} {p j : Addr} (s : Same H H') (hp : H' p = none) (hj : H j ≠ none) : p ≠ j := by
  intro e
  subst e
  cases q : H p with
  | none => exact hj q
  | some o => rw [s _ _ q] at hp; cases hp
theorem at_in {α : Type} {l : List α} {i : Int} (h0 : 0 ≤ i) (h1 : i < (l.length : Nat)) : ∃ x, atI l i = some x ∧ l[i.toNat]? = some x := by
  have h2 : i.toNat < l.length := by omega
  refine ⟨l[i.toNat], ?_, List.getElem?_eq_getElem h2⟩
  unfold atI ixN
  rw [if_pos h0, if_pos h1]
  exact List.getElem?_eq_getElem h2
theorem Jar.some {j : Addr} {H : Hp} {C : Nat} (h : Jar j H C) : H j ≠ none := by
  obtain ⟨a, b, c, h1, _⟩ := h
  rw [h1]
  simp
end
theorem Keep.lst {j p : Addr} {H H' : Hp} {xs : List V} (k : Keep j H H') (n : p ≠ j) (e : H p = some (.lst xs)) : H' p = some (.lst xs) := k _ _ n e
def Ones (ys : List Str) : Prop := ∀ y, y ∈ ys → ∃ c, c < 128 ∧ y = ⟨#[c]⟩
theorem Ones.codes : ∀ {ys : List Str}, Ones ys → ∃ l : List Nat, ys = l.map (fun c => (⟨#[c]⟩ : Str)) ∧ ∀ c, c ∈ l → c < 128
  | [], _ => ⟨[], rfl, fun _ h => by cases h⟩
  | y :: ys, h => by
    obtain ⟨c, hc, rfl⟩ := h y List.mem_cons_self
    obtain ⟨l, rfl, hl⟩ := Ones.codes (ys := ys) fun z hz => h z (List.mem_cons_of_mem _ hz)
    exact ⟨c :: l, rfl, fun d hd => by
      rcases List.mem_cons.mp hd with e | e
      · rw [e]; exact hc
      · exact hl d e⟩
theorem ones_sum : ∀ l : List Nat, ((l.map (fun c => (⟨#[c]⟩ : Str))).map (·.length)).sum = l.length
  | [] => rfl
  | c :: l => by
    rw [List.map_cons, List.map_cons, List.sum_cons, ones_sum l, List.length_cons]
    show 1 + _ = _
    omega
theorem cut_to {xs : List V} {b : Nat} : cutV xs none (some (b : Nat)) = xs.take b := by
  unfold cutV
  rw [HT.sIx_nat]
  show List.take (min b xs.length - 0) (List.drop 0 xs) = _
  rw [Nat.sub_zero, List.drop_zero]
  by_cases h : b ≤ xs.length
  · rw [Nat.min_eq_left h]
  · rw [Nat.min_eq_right (by omega), List.take_length, List.take_of_length_le (by omega)]
theorem cut_from {xs : List V} {b : Nat} : cutV xs (some (b : Nat)) none = xs.drop b := by
  unfold cutV
  rw [HT.sIx_nat]
  show List.take (xs.length - min b xs.length) _ = _
  rw [List.take_of_length_le (by rw [List.length_drop]; exact Nat.le_refl _)]
  by_cases h : b ≤ xs.length
  · rw [Nat.min_eq_left h]
  · rw [Nat.min_eq_right (by omega), List.drop_length, List.drop_eq_nil_of_le (by omega)]
theorem not_in {j a b : Addr} (h1 : a ≠ j) (h2 : b ≠ j) : j ∉ [a, b] := by simp [Ne.symm h1, Ne.symm h2]
theorem not_in1 {j a : Addr} (h1 : a ≠ j) : j ∉ [a] := by simp [Ne.symm h1]
structure Good (j : Addr) (H0 H : Hp) (C : Nat) : Prop where
  jar : Jar j H C
  keep : Keep j H0 H
theorem Good.same {j : Addr} {H0 H H' : Hp} {C : Nat} (g : Good j H0 H C) (s : Same H H') : Good j H0 H' C := ⟨g.jar.keep s, g.keep.trans (Keep.of_same s)⟩
theorem Good.on {j : Addr} {H0 H H' : Hp} {C C' : Nat} (g : Good j H0 H C) (k : Keep j H H') (jr : Jar j H' C') : Good j H0 H' C' := ⟨jr, g.keep.trans k⟩
theorem Good.new {j : Addr} {H0 H : Hp} {C : Nat} (g : Good j H0 H C) {p : Addr} (hp : H p = none) (o : HO) : Good j H0 (upd H p o) C := g.same (same_new hp o)
theorem Good.got {j p : Addr} {H0 H : Hp} {C : Nat} (g : Good j H0 H C) {as : List Addr} (n : ∀ j, H j ≠ none → j ∉ as → p ≠ j) (h : j ∉ as) : p ≠ j := n j g.jar.some h
theorem _root_.Pa.Jar.upd {j p : Addr} {H : Hp} {C : Nat} {o : HO} (h : Jar j H C) (n : p ≠ j) : Jar j (upd H p o) C := by
  obtain ⟨a, b, c, h1, h2⟩ := h
  exact ⟨a, b, c, by rw [upd_ne (Ne.symm n)]; exact h1, h2⟩
theorem _root_.Ty.Keep.upd {j p : Addr} {H H' : Hp} {o : HO} (k : Keep j H H') (n : H p = none) : Keep j H (upd H' p o) := fun b u nb e => by
  rw [upd_ne (ne_of_none e n)]
  exact k b u nb e
theorem same_upd {H H' : Hp} {p : Addr} {o : HO} (s : Same H H') (n : H p = none) : Same H (upd H' p o) := fun b u e => by
  rw [upd_ne (ne_of_none e n)]
  exact s b u e
theorem new_back {j p : Addr} {H H' : Hp} (k : Keep j H H') (n : p ≠ j) (h : H' p = none) : H p = none := by
  cases e : H p with
  | none => rfl
  | some o => rw [k p o n e] at h; cases h
def Tk (H H' : Hp) : Prop := ∀ c xs, H c = some (.tup xs) → H' c = some (.tup xs)
theorem Tk.trans {H H1 H2 : Hp} (a : Tk H H1) (b : Tk H1 H2) : Tk H H2 := fun c xs e => b c xs (a c xs e)
theorem Tk.of_same {H H' : Hp} (s : Same H H') : Tk H H' := fun c xs e => s _ _ e
theorem Tk.of_keep {j : Addr} {H H' : Hp} {C : Nat} (jr : Jar j H C) (k : Keep j H H') : Tk H H' := by
  obtain ⟨x, y, z, h, _⟩ := jr
  exact fun c xs e => k c _ (fun q => by rw [q, h] at e; cases e) e
theorem Tk.lst {H : Hp} {a : Addr} {xs : List V} {o : HO} (e : H a = some (.lst xs)) : Tk H (upd H a o) :=
  fun c ys h => by rw [upd_ne (fun q => by rw [q, e] at h; cases h)]; exact h
theorem paired_imp {α β : Type} {P Q : α → β → Prop} (f : ∀ x y, P x y → Q x y) : ∀ {l : List α} {m : List β}, Paired P l m → Paired Q l m
  | _, _, .nil => .nil
  | _, _, .cons h t => .cons (f _ _ h) (paired_imp f t)
theorem paired_snoc {α β : Type} {P : α → β → Prop} : ∀ {l : List α} {m : List β} {x : α} {y : β}, Paired P l m → P x y → Paired P (l ++ [x]) (m ++ [y])
  | _, _, _, _, .nil, h => .cons h .nil
  | _, _, _, _, .cons h t, h2 => .cons h (paired_snoc t h2)
theorem paired_app {α β : Type} {P : α → β → Prop} : ∀ {l l' : List α} {m m' : List β}, Paired P l m → Paired P l' m' → Paired P (l ++ l') (m ++ m')
  | _, _, _, _, .nil, h => h
  | _, _, _, _, .cons h t, h2 => .cons h (paired_app t h2)
theorem paired_get {α β : Type} {P : α → β → Prop} : ∀ {l : List α} {m : List β}, Paired P l m → ∀ (i : Nat) (x : α), l[i]? = some x → ∃ y, m[i]? = some y ∧ P x y
  | _, _, .nil, i, x, h => by simp at h
  | _, _, .cons r t, 0, x, h => by
    simp at h
    subst h
    exact ⟨_, rfl, r⟩
  | _, _, .cons r t, i + 1, x, h => paired_get t i x (by simpa using h)
theorem paired_rev {α β : Type} {P : α → β → Prop} : ∀ {l : List α} {m : List β}, Paired P l m → ∀ (i : Nat) (y : β), m[i]? = some y → ∃ x, l[i]? = some x ∧ P x y
  | _, _, .nil, i, x, h => by simp at h
  | _, _, .cons r t, 0, x, h => by
    simp at h
    subst h
    exact ⟨_, rfl, r⟩
  | _, _, .cons r t, i + 1, x, h => paired_rev t i x (by simpa using h)
/-- a while by what holds between two turns, told with what falls -/
theorem while_inv {c : TT} {tb : TS} {D : Ends} {σ : L2.St} {H : Hp} (Pv : Nat → L2.St → Hp → Prop) (h0 : ∃ m, Pv m σ H)
    (hs : ∀ m σ H, Pv m σ H → c σ H fun b H1 => if b = true then ∃ N : L2.St → Hp → Prop, (∀ σ' H', N σ' H' → ∃ m', m' < m ∧ Pv m' σ' H') ∧ tb { D with nx := N, ct := N, bk := D.nx } σ H1 else D.nx σ H1) : tWhile c tb D σ H := ⟨Pv, h0, hs⟩
/-! ### any list against an empty one -/
def rEqL0 (ne : Bool) : R2 := fun x y H Q => ∃ (a b : Addr) (xs : List V), x = .ref a ∧ y = .ref b ∧ H a = some (.lst xs) ∧ H b = some (.lst []) ∧ Q (.bl (if ne then !xs.isEmpty else xs.isEmpty)) H
section
variable {X : Cx}
theorem op_eqL0 (hu : X.A.units + 64 < cLine) : OpR X (compareOp .Eq) (rEqL0 false) := by
  intro pins s σ H x y v u Q I rx ry h
  obtain ⟨a, b, xs, rfl, rfl, ha, hb, q⟩ := h
  cases xs with
  | nil => exact op_eqD hu pins s σ H _ _ v u Q I rx ry ⟨.list [], .list [], .lst (SqL.of ha) .nil, .lst (SqL.of hb) .nil, rfl, rfl, q⟩
  | cons z zs =>
    obtain rfl : v = Value.ref a := rx
    obtain rfl : u = Value.ref b := ry
    obtain ⟨hz1, its, n1, rv1, ho1⟩ := I.hok a _ ha
    obtain ⟨hz2, its2, n2, rv2, ho2⟩ := I.hok b _ hb
    have l1 : its.length = zs.length + 1 := by rw [← rv1.length, List.length_cons]
    have l2 : its2.length = 0 := by rw [← rv2.length, List.length_nil]
    refine PySem.P.eq_list_lengths ho1 ho2 ?_ (by omega) ⟨.bl false, H, I, rfl, q⟩
    rw [List.size_toArray, List.size_toArray, l1, l2]
    exact bne_iff_ne.mpr (by omega)
theorem op_neL0 (hu : X.A.units + 64 < cLine) : OpR X (compareOp .NotEq) (rEqL0 true) := by
  intro pins s σ H x y v u Q I rx ry h
  obtain ⟨a, b, xs, rfl, rfl, ha, hb, q⟩ := h
  cases xs with
  | nil => exact op_neD hu pins s σ H _ _ v u Q I rx ry ⟨.list [], .list [], .lst (SqL.of ha) .nil, .lst (SqL.of hb) .nil, rfl, rfl, q⟩
  | cons z zs =>
    obtain rfl : v = Value.ref a := rx
    obtain rfl : u = Value.ref b := ry
    obtain ⟨hz1, its, n1, rv1, ho1⟩ := I.hok a _ ha
    obtain ⟨hz2, its2, n2, rv2, ho2⟩ := I.hok b _ hb
    have l1 : its.length = zs.length + 1 := by rw [← rv1.length, List.length_cons]
    have l2 : its2.length = 0 := by rw [← rv2.length, List.length_nil]
    refine SeqAt.RcNeAt.lists_lengths (A := X.A) (s := s) ⟨_, ho1, rfl, n1, rfl⟩ ⟨_, ho2, rfl, n2, rfl⟩ ?_ (by omega) X.prog X.w _ _ ?_
    · rw [List.size_toArray, List.size_toArray, l1, l2]
      exact bne_iff_ne.mpr (by omega)
    · exact ⟨.bl true, H, I, rfl, q⟩
end
/-! ### patterns in the heap -/
def wordP : Pat → Str
  | .sg _ => "signs"
  | .em => "empty"
  | .th _ _ => "then"
  | .oo _ _ => "or"
  | .ag _ => "again"
  | .mo _ => "more"
  | .mb _ => "maybe"
def partsP : Pat → List Pat
  | .sg _ => []
  | .em => []
  | .th a b => [a, b]
  | .oo a b => [a, b]
  | .ag a => [a]
  | .mo a => [a]
  | .mb a => [a]
def signsP : Pat → Str
  | .sg x => x
  | _ => Str.empty
def sizeP : Pat → Nat
  | .sg _ => 1
  | .em => 1
  | .th a b => sizeP a + sizeP b + 1
  | .oo a b => sizeP a + sizeP b + 1
  | .ag a => sizeP a + 1
  | .mo a => sizeP a + 1
  | .mb a => sizeP a + 1
def deepP : Pat → Nat
  | .sg _ => 1
  | .em => 1
  | .th a b => max (deepP a) (deepP b) + 1
  | .oo a b => max (deepP a) (deepP b) + 1
  | .ag a => deepP a + 1
  | .mo a => deepP a + 1
  | .mb a => deepP a + 1
def RP (H : Hp) : Pat → V → Prop
  | .sg x, v => ∃ a, v = .ref a ∧ H a = some (.tup [.str "signs", .str x])
  | .em, v => ∃ a, v = .ref a ∧ H a = some (.tup [.str "empty"])
  | .th p q, v => ∃ a u w, v = .ref a ∧ H a = some (.tup [.str "then", u, w]) ∧ RP H p u ∧ RP H q w
  | .oo p q, v => ∃ a u w, v = .ref a ∧ H a = some (.tup [.str "or", u, w]) ∧ RP H p u ∧ RP H q w
  | .ag p, v => ∃ a u, v = .ref a ∧ H a = some (.tup [.str "again", u]) ∧ RP H p u
  | .mo p, v => ∃ a u, v = .ref a ∧ H a = some (.tup [.str "more", u]) ∧ RP H p u
  | .mb p, v => ∃ a u, v = .ref a ∧ H a = some (.tup [.str "maybe", u]) ∧ RP H p u
theorem RP.tk {H H' : Hp} (k : Tk H H') : ∀ {p : Pat} {v : V}, RP H p v → RP H' p v
  | .sg x, v, h => by obtain ⟨a, e, h⟩ := h; exact ⟨a, e, k _ _ h⟩
  | .em, v, h => by obtain ⟨a, e, h⟩ := h; exact ⟨a, e, k _ _ h⟩
  | .th p q, v, h => by obtain ⟨a, u, w, e, h, r1, r2⟩ := h; exact ⟨a, u, w, e, k _ _ h, RP.tk k r1, RP.tk k r2⟩
  | .oo p q, v, h => by obtain ⟨a, u, w, e, h, r1, r2⟩ := h; exact ⟨a, u, w, e, k _ _ h, RP.tk k r1, RP.tk k r2⟩
  | .ag p, v, h => by obtain ⟨a, u, e, h, r1⟩ := h; exact ⟨a, u, e, k _ _ h, RP.tk k r1⟩
  | .mo p, v, h => by obtain ⟨a, u, e, h, r1⟩ := h; exact ⟨a, u, e, k _ _ h, RP.tk k r1⟩
  | .mb p, v, h => by obtain ⟨a, u, e, h, r1⟩ := h; exact ⟨a, u, e, k _ _ h, RP.tk k r1⟩
def RPs (H : Hp) (vs : List V) (ps : List Pat) : Prop := Paired (fun v p => RP H p v) vs ps
theorem RPs.tk {H H' : Hp} {vs : List V} {ps : List Pat} (r : RPs H vs ps) (k : Tk H H') : RPs H' vs ps := paired_imp (fun _ _ r => r.tk k) r
theorem word_ne {p : Pat} (h : ∀ x, p ≠ .sg x := by intro x e; cases e) : wordP p ≠ "signs" := by
  cases p with
  | sg x => exact absurd rfl (h x)
  | em => exact (by decide +kernel : ("empty" : Str) ≠ "signs")
  | th a b => exact (by decide +kernel : ("then" : Str) ≠ "signs")
  | oo a b => exact (by decide +kernel : ("or" : Str) ≠ "signs")
  | ag a => exact (by decide +kernel : ("again" : Str) ≠ "signs")
  | mo a => exact (by decide +kernel : ("more" : Str) ≠ "signs")
  | mb a => exact (by decide +kernel : ("maybe" : Str) ≠ "signs")
/-- one layer of a pattern -/
theorem RP.open {H : Hp} : ∀ {p : Pat} {v : V}, RP H p v → ∃ a vs, v = .ref a ∧ H a = some (.tup (.str (wordP p) :: vs)) ∧ ((∃ x, p = .sg x ∧ vs = [.str x]) ∨ (wordP p ≠ "signs" ∧ signsP p = Str.empty ∧ RPs H vs (partsP p)))
  | .sg x, v, h => by obtain ⟨a, e, h⟩ := h; exact ⟨a, _, e, h, .inl ⟨x, rfl, rfl⟩⟩
  | .em, v, h => by obtain ⟨a, e, h⟩ := h; exact ⟨a, _, e, h, .inr ⟨(by decide +kernel), rfl, .nil⟩⟩
  | .th p q, v, h => by obtain ⟨a, u, w, e, h, r1, r2⟩ := h; exact ⟨a, _, e, h, .inr ⟨word_ne, rfl, .cons r1 (.cons r2 .nil)⟩⟩
  | .oo p q, v, h => by obtain ⟨a, u, w, e, h, r1, r2⟩ := h; exact ⟨a, _, e, h, .inr ⟨word_ne, rfl, .cons r1 (.cons r2 .nil)⟩⟩
  | .ag p, v, h => by obtain ⟨a, u, e, h, r1⟩ := h; exact ⟨a, _, e, h, .inr ⟨word_ne, rfl, .cons r1 .nil⟩⟩
  | .mo p, v, h => by obtain ⟨a, u, e, h, r1⟩ := h; exact ⟨a, _, e, h, .inr ⟨word_ne, rfl, .cons r1 .nil⟩⟩
  | .mb p, v, h => by obtain ⟨a, u, e, h, r1⟩ := h; exact ⟨a, _, e, h, .inr ⟨word_ne, rfl, .cons r1 .nil⟩⟩
theorem dec_str (x y : Str) : decide (V.str x = V.str y) = decide (x = y) := by
  by_cases h : x = y
  · rw [h]; simp
  · rw [decide_eq_false h, decide_eq_false fun e => h (V.str.inj e)]
theorem dec_int (n m : Int) : decide (V.int n = V.int m) = decide (n = m) := by
  by_cases h : n = m
  · rw [h]; simp
  · rw [decide_eq_false h, decide_eq_false fun e => h (V.int.inj e)]
end Pa
set_option maxHeartbeats 2000000
namespace Pa
open PySem PySem.Spec PyProof.Rows L2 Ty
/-! ### parts_told -/
def Fwd (rows : List Pat) (kids : List Nat) (ps : List Pat) : Prop := Paired (fun k q => rows[k]? = some q) kids ps
def natsV (ks : List Nat) : List V := ks.map fun k : Nat => V.int (k : Nat)
def Node (ne : Addr → Prop) (H : Hp) (rows : List Pat) (v : V) (p : Pat) : Prop := ∃ a b kids, v = .ref a ∧ H a = some (.tup [.str (wordP p), .str (signsP p), .ref b]) ∧ H b = some (.lst (natsV kids)) ∧ Fwd rows kids (partsP p) ∧ ne b
theorem Node.at {ne : Addr → Prop} {H H' : Hp} {rows rows' : List Pat} {v : V} {p : Pat} (n : Node ne H rows v p) (k1 : Tk H H') (k2 : ∀ c xs, ne c → H c = some (.lst xs) → H' c = some (.lst xs)) (hr : ∀ (k : Nat) (q : Pat), rows[k]? = some q → rows'[k]? = some q) : Node ne H' rows' v p := by
  obtain ⟨a, b, kids, e, h1, h2, h3, h4⟩ := n
  exact ⟨a, b, kids, e, k1 _ _ h1, k2 _ _ h4 h2, paired_imp (fun k q => hr k q) h3, h4⟩
theorem Node.mono {ne ne' : Addr → Prop} {H : Hp} {rows : List Pat} {v : V} {p : Pat} (n : Node ne H rows v p) (h : ∀ c, ne c → ne' c) : Node ne' H rows v p := by
  obtain ⟨a, b, kids, e, h1, h2, h3, h4⟩ := n
  exact ⟨a, b, kids, e, h1, h2, h3, h _ h4⟩
theorem size_pos (p : Pat) : 1 ≤ sizeP p := by cases p <;> (unfold sizeP; omega)
def sumP (ps : List Pat) : Nat := (ps.map sizeP).sum
theorem sumP_cons (p : Pat) (ps : List Pat) : sumP (p :: ps) = sizeP p + sumP ps := by unfold sumP; rw [List.map_cons, List.sum_cons]
theorem sumP_app (ps qs : List Pat) : sumP (ps ++ qs) = sumP ps + sumP qs := by unfold sumP; rw [List.map_append, List.sum_append]
theorem size_parts : ∀ p : Pat, sizeP p = sumP (partsP p) + 1
  | .sg _ => rfl
  | .em => rfl
  | .th a b => by show sizeP a + sizeP b + 1 = (sizeP a + (sizeP b + 0)) + 1; omega
  | .oo a b => by show sizeP a + sizeP b + 1 = (sizeP a + (sizeP b + 0)) + 1; omega
  | .ag a => rfl
  | .mo a => rfl
  | .mb a => rfl
theorem sumP_len : ∀ ps : List Pat, ps.length ≤ sumP ps
  | [] => Nat.le_refl _
  | p :: ps => by
    have := sumP_len ps
    have := size_pos p
    rw [sumP_cons, List.length_cons]; omega
theorem fwd_new (rows : List Pat) : ∀ (ps : List Pat) (k : Nat) (rest : List Pat), k = rows.length → Fwd (rows ++ (ps ++ rest)) ((List.range ps.length).map (k + ·)) ps
  | [], k, rest, _ => .nil
  | p :: ps, k, rest, hk => by
    rw [List.length_cons, List.range_succ_eq_map, List.map_cons, List.map_map]
    refine .cons ?_ ?_
    · subst hk
      rw [Nat.add_zero, List.getElem?_append_right (Nat.le_refl _), Nat.sub_self]
      rfl
    · have h := fwd_new (rows ++ [p]) ps (k + 1) rest (by rw [List.length_append, hk]; rfl)
      rw [List.append_assoc] at h
      have e : ((fun x => k + x) ∘ Nat.succ) = (fun x => k + 1 + x) := by
        funext x
        show k + (x + 1) = k + 1 + x
        omega
      rw [e]
      exact h
theorem rgV_nats (k n : Nat) : rgV (k : Int) ((k : Int) + (n : Int)) = natsV ((List.range n).map (k + ·)) := by
  unfold rgV natsV
  have e : ((k : Int) + (n : Int) - (k : Int)).toNat = n := by omega
  rw [e, List.map_map]
  exact List.map_congr_left fun i _ => rfl
def spTold : Sp := fun vs H Q _ => ∃ v p, vs = [v] ∧ RP H p v ∧ sizeP p ≤ 1000 ∧ ∀ fl nv rows H', H fl = none → Same H H' → H' fl = some (.lst nv) → Paired (Node (fun b => H b = none) H' rows) nv rows → rows[0]? = some p → rows.length ≤ 1000 → Q (.ref fl) H'
theorem scTold : FnScope ["pattern", "rows", "found", "word", "parts"] ["pattern"] (defScope sTold) := ⟨rfl, rfl, rfl, by decide +kernel, rfl, by decide +kernel, by decide +kernel⟩
section
variable {P : Program} {w : World} {K : PySem.W.Frag} {mg : Str → Option Value} {base : Heap} {f g : Addr} {fd gd : FuncData}
theorem ok_told (F : Fun K "parts_told" "parts_told" sTold f fd) (ml : mg "len" = none) (mll : mg "list" = none) (mr : mg "range" = none) : FnOk P w K mg base CX0 1 f fd ["pattern"] spTold := by
  refine F.ok scTold (fun vs H Q E h => ?_) (fun cdv A outer s H vs Q E hr h => ?_)
  · obtain ⟨v, p, rfl, _⟩ := h
    rfl
  obtain ⟨v, p, rfl, rp, hz, q⟩ := h
  refine ⟨_, pss_cons (ps_set (i := 1) scTold.nd rfl (.inl rfl) (pe_lst (pa_cons (pv 0) pa_nil)))
    (pss_cons (ps_set (i := 2) scTold.nd rfl (.inl rfl) (pe_lst pa_nil))
    (pss_cons (ps_while PassesOwn.never (pt_cmpR op_lt (pe_callB call_len_seq rfl ml PySem.boot_len (pa_cons (pv 2) pa_nil)) (pe_callB call_len_seq rfl ml PySem.boot_len (pa_cons (pv 1) pa_nil)) (nomark _))
      (pss_cons (ps_asg (pe_ix ix_list (pv 1) (pe_callB call_len_seq rfl ml PySem.boot_len (pa_cons (pv 2) pa_nil)) (fun _ _ => rfl)) (pg_star1 rfl (pg_name (i := 3) scTold.nd rfl (.inl rfl)) (pg_name (i := 4) scTold.nd rfl (.inl rfl))))
      (pss_one (ps_if (pt_cmpR op_eq (pv 3) pe_str (nomark _))
        (pss_one (ps_expr (pe_bm PySem.F.plainAttrs_list PySem.F.slot_list_append PySem.F.type_list_append mt_append (pv 2) (pa_cons (pe_tup (pa_cons (pv 3) (pa_cons (pe_ix ix_list (pv 4) pe_int (fun _ _ => rfl)) (pa_cons (pe_lst pa_nil) pa_nil)))) pa_nil))))
        (pss_cons (ps_expr (pe_bm PySem.F.plainAttrs_list PySem.F.slot_list_append PySem.F.type_list_append mt_append (pv 2) (pa_cons (pe_tup (pa_cons (pv 3) (pa_cons pe_str (pa_cons
            (pe_listRg rfl rfl mll (prg_2 rfl mr (pe_callB call_len_seq rfl ml PySem.boot_len (pa_cons (pv 1) pa_nil)) (pe_op op_add (pe_callB call_len_seq rfl ml PySem.boot_len (pa_cons (pv 1) pa_nil)) (pe_callB call_len_seq rfl ml PySem.boot_len (pa_cons (pv 4) pa_nil))))) pa_nil)))) pa_nil)))
        (pss_one (ps_expr (pe_bm PySem.F.plainAttrs_list PySem.F.slot_list_extend PySem.F.type_list_extend mt_extend (pv 1) (pa_cons (pv 4) pa_nil)))))))))
    (pss_one (ps_ret (pv 2))))), ?_⟩
  refine ⟨_, rfl, (by show 1 ≤ sizeLine; decide), fun ra hra => ⟨(by show 0 ≤ sizeLine; decide), fun fa hfa => ?_⟩⟩
  have s1 := same_new hra (.lst [v])
  have s2 := same_new hfa (.lst [])
  have af : ra ≠ fa := ne_of_none upd_same hfa
  have hfaH : H fa = none := by rw [upd_ne (Ne.symm af)] at hfa; exact hfa
  refine while_inv (fun m σ H' => ∃ rows rv nv x3 x4, σ = [some v, some (.ref ra), some (.ref fa), x3, x4] ∧ H' ra = some (.lst rv) ∧ RPs H' rv rows ∧ H' fa = some (.lst nv) ∧ nv.length ≤ rows.length ∧
      Paired (Node (fun b => H b = none ∧ b ≠ ra ∧ b ≠ fa) H' rows) nv (rows.take nv.length) ∧ m = sumP (rows.drop nv.length) ∧ nv.length + m = sizeP p ∧ rows[0]? = some p ∧ Same H H')
    ⟨sizeP p, [p], [v], [], _, _, rfl, (by rw [upd_ne af]; exact upd_same), .cons (rp.tk (Tk.of_same (s1.trans s2))) .nil, upd_same, Nat.zero_le _, .nil, (by show _ = sizeP p + 0; omega), (by show 0 + _ = _; omega), rfl, s1.trans s2⟩ (fun m σ H' pv' => ?_)
  obtain ⟨rows, rv, nv, x3, x4, rfl, era, hrp, efa, hle, hnd, hm, hmz, h0, sm⟩ := pv'
  have lrv := Paired.length hrp
  have lrows : rows.length ≤ 1000 := by
    have h1 := sumP_len (rows.drop nv.length)
    rw [List.length_drop] at h1
    omega
  refine ⟨_, rfl, fa, _, rfl, .inl (SqL.of efa), _, rfl, ra, _, rfl, .inl (SqL.of era), _, _, rfl, rfl, _, rfl, ?_⟩
  by_cases c : nv.length < rv.length
  case neg =>
    have e1 : decide (((nv.length : Nat) : Int) < ((rv.length : Nat) : Int)) = false := decide_eq_false (by omega)
    rw [e1]
    refine iteF ?_
    have hn : nv.length = rows.length := by omega
    rw [hn, List.take_length] at hnd
    exact ⟨_, rfl, q fa nv rows H' hfaH sm efa (paired_imp (fun _ _ n => n.mono fun c h => h.1) hnd) h0 lrows⟩
  have e1 : decide (((nv.length : Nat) : Int) < ((rv.length : Nat) : Int)) = true := decide_eq_true (by omega)
  rw [e1]
  refine iteT ?_
  have hlt : nv.length < rows.length := by omega
  obtain ⟨u, hu, rpu⟩ := paired_rev hrp nv.length rows[nv.length] (List.getElem?_eq_getElem hlt)
  have hdrop : rows.drop nv.length = rows[nv.length] :: rows.drop (nv.length + 1) := List.drop_eq_getElem_cons hlt
  have hgn : rows[nv.length]? = some rows[nv.length] := List.getElem?_eq_getElem hlt
  rw [hdrop, sumP_cons] at hm
  have hsz := size_parts rows[nv.length]
  generalize rows[nv.length] = pn at hu rpu hm hsz hgn
  obtain ⟨a, vs, rfl, ha, hcase⟩ := rpu.open
  have htake : rows.take (nv.length + 1) = rows.take nv.length ++ [pn] := by rw [List.take_add_one, hgn]; rfl
  have lvs : vs.length ≤ 16000 := by
    rcases hcase with ⟨x, _, rfl⟩ | ⟨_, _, hp⟩
    · show 1 ≤ 16000; decide
    · have := Paired.length hp
      have h2 : (partsP pn).length ≤ 2 := by cases pn <;> (show _ ≤ 2) <;> simp [partsP]
      omega
  refine ⟨fun σ' H'' => ∃ m', m' < m ∧ _, fun _ _ h => h, ?_⟩
  refine ⟨_, rfl, _, rfl, fa, _, rfl, .inl (SqL.of efa), ra, _, _, _, rfl, rfl, SqL.of era, atI_nat hu, a, _, vs, rfl, SqT.of ha, lvs, fun D hD => ?_⟩
  have sD := same_new hD (.lst vs)
  have Dra : D ≠ ra := fun e => by rw [e, era] at hD; cases hD
  have Dfa : D ≠ fa := fun e => by rw [e, efa] at hD; cases hD
  refine ⟨_, rfl, rfl, _, rfl, ?_⟩
  rw [dec_str]
  rcases hcase with ⟨x, rfl, rfl⟩ | ⟨hw, hs, hps⟩
  · rw [show decide (wordP (.sg x) = "signs") = true from decide_eq_true rfl]
    refine iteT ?_
    refine ⟨_, rfl, .inl ⟨rfl, _, SqL.of (sD _ _ efa)⟩, _, rfl, _, rfl, D, _, _, _, rfl, rfl, SqL.of upd_same, at_zero, (by show 0 ≤ sizeLine; decide), fun b hb => ⟨(by show 3 ≤ sizeLine; decide), fun t ht => ?_⟩⟩
    have s3 := same_new hb (.lst [])
    have s4 := same_new ht (.tup [.str (wordP (.sg x)), .str x, .ref b])
    have sA : Same H' _ := sD.trans (s3.trans s4)
    have efa4 := sA _ _ efa
    refine ⟨fa, _, _, rfl, rfl, efa4, by rw [sizeLine_eq]; omega, ?_⟩
    have bra : b ≠ ra := fun e => by rw [e, sD _ _ era] at hb; cases hb
    have bfa : b ≠ fa := fun e => by rw [e, sD _ _ efa] at hb; cases hb
    have bH : H b = none := by
      cases e : H b with
      | none => rfl
      | some o => rw [sD _ _ (sm _ _ e)] at hb; cases hb
    have tk := (Tk.of_same sA).trans (Tk.lst (o := .lst (nv ++ [.ref t])) efa4)
    have k2 : ∀ c xs, (H c = none ∧ c ≠ ra ∧ c ≠ fa) → H' c = some (.lst xs) → (upd (upd (upd (upd H' D (.lst [.str x])) b (.lst [])) t (.tup [.str (wordP (.sg x)), .str x, .ref b])) fa (.lst (nv ++ [.ref t]))) c = some (.lst xs) := fun c xs h e => by
      rw [upd_ne h.2.2]; exact sA _ _ e
    refine ⟨sumP (rows.drop (nv.length + 1)), by omega, rows, rv, nv ++ [.ref t], _, _, rfl, by rw [upd_ne af]; exact sA _ _ era, hrp.tk tk, upd_same, by rw [List.length_append]; show nv.length + 1 ≤ _; omega, ?_, by rw [List.length_append]; rfl, ?_, h0, same_upd (sm.trans sA) hfaH⟩
    · rw [List.length_append]
      show Paired _ _ (rows.take (nv.length + 1))
      rw [htake]
      refine paired_snoc (paired_imp (fun _ _ n => n.at tk k2 fun _ _ h => h) hnd) ⟨t, b, [], rfl, Tk.lst efa4 _ _ upd_same, ?_, .nil, bH, bra, bfa⟩
      rw [upd_ne bfa]
      exact s4 _ _ upd_same
    · rw [List.length_append]
      show nv.length + 1 + _ = _
      have : sumP (partsP (.sg x)) = 0 := rfl
      omega
  · rw [decide_eq_false hw]
    refine iteF ?_
    have lps := Paired.length hps
    have l2 : (partsP pn).length ≤ 2 := by cases pn <;> (show _ ≤ 2) <;> simp [partsP]
    have eraD := sD _ _ era
    refine ⟨_, rfl, .inl ⟨rfl, _, SqL.of (sD _ _ efa)⟩, _, rfl, _, rfl, ra, _, rfl, .inl (SqL.of eraD), _, rfl, ra, _, rfl, .inl (SqL.of eraD), _, rfl, D, _, rfl, .inl (SqL.of upd_same), _, _, rfl, rfl, _, _, rfl, rfl, ⟨by omega, by omega, by omega, by omega⟩, fun b hb => ⟨(by show 3 ≤ sizeLine; decide), fun t ht => ?_⟩⟩
    rw [rgV_nats] at ht ⊢
    have s3 := same_new hb (.lst (natsV ((List.range vs.length).map (rv.length + ·))))
    have s4 := same_new ht (.tup [.str (wordP pn), .str "", .ref b])
    have sA : Same H' _ := sD.trans (s3.trans s4)
    have efa4 := sA _ _ efa
    refine ⟨fa, _, _, rfl, rfl, efa4, by rw [sizeLine_eq]; omega, ?_⟩
    have bra : b ≠ ra := fun e => by rw [e, eraD] at hb; cases hb
    have bfa : b ≠ fa := fun e => by rw [e, sD _ _ efa] at hb; cases hb
    have bH : H b = none := by
      cases e : H b with
      | none => rfl
      | some o => rw [sD _ _ (sm _ _ e)] at hb; cases hb
    have era5 : (upd (upd (upd (upd H' D (.lst vs)) b (.lst (natsV ((List.range vs.length).map (rv.length + ·))))) t (.tup [.str (wordP pn), .str "", .ref b])) fa (.lst (nv ++ [.ref t]))) ra = some (.lst rv) := by rw [upd_ne af]; exact sA _ _ era
    have eD5 : (upd (upd (upd (upd H' D (.lst vs)) b (.lst (natsV ((List.range vs.length).map (rv.length + ·))))) t (.tup [.str (wordP pn), .str "", .ref b])) fa (.lst (nv ++ [.ref t]))) D = some (.lst vs) := by rw [upd_ne Dfa]; exact (s3.trans s4) _ _ upd_same
    refine ⟨_, rfl, .inl ⟨rfl, _, SqL.of era5⟩, _, rfl, ra, D, _, _, rfl, rfl, era5, eD5, by rw [sizeLine_eq]; omega, ?_⟩
    have tk1 := (Tk.of_same sA).trans (Tk.lst (o := .lst (nv ++ [.ref t])) efa4)
    have tk := tk1.trans (Tk.lst (o := .lst (rv ++ vs)) era5)
    have k2 : ∀ c xs, (H c = none ∧ c ≠ ra ∧ c ≠ fa) → H' c = some (.lst xs) → (upd (upd (upd (upd (upd H' D (.lst vs)) b (.lst (natsV ((List.range vs.length).map (rv.length + ·))))) t (.tup [.str (wordP pn), .str "", .ref b])) fa (.lst (nv ++ [.ref t]))) ra (.lst (rv ++ vs))) c = some (.lst xs) := fun c xs h e => by
      rw [upd_ne h.2.1, upd_ne h.2.2]; exact sA _ _ e
    have grow : ∀ (k : Nat) (q : Pat), rows[k]? = some q → (rows ++ partsP pn)[k]? = some q := fun k q h => by
      have := (List.getElem?_eq_some_iff.mp h).1
      rw [List.getElem?_append_left this]; exact h
    refine ⟨sumP ((rows ++ partsP pn).drop (nv.length + 1)), ?_, rows ++ partsP pn, rv ++ vs, nv ++ [.ref t], _, _, rfl, upd_same, paired_app (hrp.tk tk) (RPs.tk hps tk), by rw [upd_ne (Ne.symm af)]; exact upd_same, by rw [List.length_append, List.length_append]; show nv.length + 1 ≤ _; omega, ?_, by rw [List.length_append]; rfl, ?_, by rw [List.getElem?_append_left (by omega)]; exact h0, same_upd (same_upd (sm.trans sA) hfaH) (by
      cases e : H ra with
      | none => rfl
      | some o => rw [e] at hra; cases hra)⟩
    · rw [List.drop_append_of_le_length (by omega), sumP_app]
      omega
    · rw [List.length_append]
      show Paired _ _ ((rows ++ partsP pn).take (nv.length + 1))
      rw [List.take_append_of_le_length (by omega), htake]
      refine paired_snoc (paired_imp (fun _ _ n => n.at tk k2 grow) hnd) ⟨t, b, (List.range vs.length).map (rv.length + ·), rfl, ?_, ?_, ?_, bH, bra, bfa⟩
      · rw [hs]
        exact ((Tk.lst (o := .lst (nv ++ [.ref t])) efa4).trans (Tk.lst (o := .lst (rv ++ vs)) era5)) _ _ upd_same
      · rw [upd_ne bra, upd_ne bfa]
        exact s4 _ _ upd_same
      · have h := fwd_new rows (partsP pn) rv.length [] lrv
        rw [List.append_nil, ← lps] at h
        exact h
    · rw [List.length_append, List.drop_append_of_le_length (by omega), sumP_app]
      show nv.length + 1 + _ = _
      omega
end
end Pa
set_option maxHeartbeats 2000000
namespace Pa
open PySem PySem.Spec PyProof.Rows L2 Ty
/-! ### the state of a Spelling -/
theorem nodup_len {α : Type} : ∀ {l m : List α}, l.Nodup → (∀ x, x ∈ l → x ∈ m) → l.length ≤ m.length
  | [], m, _, _ => Nat.zero_le _
  | x :: l, m, h, hs => by
    obtain ⟨s, t, rfl⟩ := List.append_of_mem (hs x List.mem_cons_self)
    have h' := List.nodup_cons.mp h
    have := nodup_len (l := l) (m := s ++ t) h'.2 fun y hy => by
      rcases List.mem_append.mp (hs y (List.mem_cons_of_mem _ hy)) with q | q
      · exact List.mem_append_left _ q
      · rcases List.mem_cons.mp q with e | q
        · rw [e] at hy; exact absurd hy h'.1
        · exact List.mem_append_right _ q
    rw [List.length_append] at this
    rw [List.length_append, List.length_cons, List.length_cons]; omega
def IsEnds (t : List Nat) (p : Pat) (b : Nat) (es : List Int) : Prop := es.Pairwise (· < ·) ∧ ∀ k, k ∈ es ↔ ∃ e : Nat, k = (e : Int) ∧ E t p b e
theorem pw_nodup {l : List Int} (h : l.Pairwise (· < ·)) : l.Nodup := h.imp fun h => Int.ne_of_lt h
theorem few_ints {l : List Int} {n : Nat} (h : l.Nodup) (hb : ∀ k, k ∈ l → ∃ e : Nat, k = (e : Int) ∧ e ≤ n) : l.length ≤ n + 1 := by
  have := nodup_len (l := l) (m := (List.range (n + 1)).map fun e : Nat => (e : Int)) h fun k hk => by
    obtain ⟨e, rfl, he⟩ := hb k hk
    exact List.mem_map.mpr ⟨e, List.mem_range.mpr (by omega), rfl⟩
  rw [List.length_map, List.length_range] at this
  exact this
theorem IsEnds.few {t : List Nat} {p : Pat} {b : Nat} {es : List Int} (h : IsEnds t p b es) : es.length ≤ t.length + 1 :=
  few_ints (pw_nodup h.1) fun k hk => by obtain ⟨e, h1, h2⟩ := (h.2 k).mp hk; exact ⟨e, h1, h2.2.1⟩
def keyN (c : Nat × Nat) : List Key := [Sum.inl (c.1 : Int), Sum.inl (c.2 : Int)]
theorem keyN_inj {c d : Nat × Nat} (h : keyN c = keyN d) : c = d := by
  unfold keyN at h
  injection h with h1 h2
  injection h1 with h1
  injection h2 with h2 _
  injection h2 with h2
  exact Prod.ext (by omega) (by omega)
def Memo (bad : Addr → Prop) (H : Hp) (t : List Nat) (rows : List Pat) (kd : Addr) : Prop := ∃ (kvs : List (List Key × V)) (cs : List (Nat × Nat)), H kd = some (.dT kvs) ∧ kvs.map (·.1) = cs.map keyN ∧ cs.Nodup ∧ (∀ c, c ∈ cs → c.1 < 1000 ∧ c.2 ≤ 60) ∧
  ∀ i b v, valV kvs (keyN (i, b)) = some v → ∃ p l es, rows[i]? = some p ∧ v = .ref l ∧ H l = some (.lst (es.map V.int)) ∧ IsEnds t p b es ∧ ¬ bad l
theorem keys_few {cs : List (Nat × Nat)} (h : cs.Nodup) (hb : ∀ c, c ∈ cs → c.1 < 1000 ∧ c.2 ≤ 60) : cs.length ≤ 61000 := by
  have := nodup_len (l := cs.map fun c => c.1 * 61 + c.2) (m := List.range 61000) (List.Pairwise.map _ (S := (· ≠ ·)) (fun a b hab => hab) (List.Pairwise.imp_of_mem (S := fun a b : Nat × Nat => a.1 * 61 + a.2 ≠ b.1 * 61 + b.2) (fun {a b} ha hb' hne e => by
      have h1 := hb a ha
      have h2 := hb b hb'
      exact hne (Prod.ext (by omega) (by omega))) h)) fun x hx => by
    obtain ⟨c, hc, rfl⟩ := List.mem_map.mp hx
    have := hb c hc
    exact List.mem_range.mpr (by omega)
  rw [List.length_map, List.length_range] at this
  exact this
theorem Memo.put {bad : Addr → Prop} {H : Hp} {t : List Nat} {rows : List Pat} {kd : Addr} (m : Memo bad H t rows kd) {i b : Nat} {p : Pat} {l : Addr} {es : List Int} (hi : i < 1000) (hb : b ≤ 60) (hp : rows[i]? = some p) (hl : H l = some (.lst (es.map V.int))) (he : IsEnds t p b es) (hn : ¬ bad l) :
    ∃ kvs, H kd = some (.dT kvs) ∧ kvs.length < sizeLine ∧ Memo bad (upd H kd (.dT (putK kvs (keyN (i, b)) (.ref l)))) t rows kd ∧ ∃ kvs', (upd H kd (.dT (putK kvs (keyN (i, b)) (.ref l)))) kd = some (.dT kvs') ∧ valV kvs' (keyN (i, b)) = some (.ref l) := by
  obtain ⟨kvs, cs, h1, h2, h3, h4, h5⟩ := m
  have hlen : kvs.length = cs.length := by
    have := congrArg List.length h2
    rw [List.length_map, List.length_map] at this
    exact this
  have hf := keys_few h3 h4
  have lk : ∀ {c : Addr} {xs : List V}, H c = some (.lst xs) → (upd H kd (.dT (putK kvs (keyN (i, b)) (.ref l)))) c = some (.lst xs) := fun {c xs} e => by
    rw [upd_ne (fun q => by rw [q, h1] at e; cases e)]; exact e
  refine ⟨kvs, h1, by rw [sizeLine_eq]; omega, ?_, _, upd_same, by rw [valV_put, if_pos rfl]⟩
  have entry : ∀ j c v, valV (putK kvs (keyN (i, b)) (.ref l)) (keyN (j, c)) = some v → ∃ p l' es, rows[j]? = some p ∧ v = .ref l' ∧ (upd H kd (.dT (putK kvs (keyN (i, b)) (.ref l)))) l' = some (.lst (es.map V.int)) ∧ IsEnds t p c es ∧ ¬ bad l' := fun j c v hv => by
    rw [valV_put] at hv
    by_cases e : keyN (j, c) = keyN (i, b)
    · rw [if_pos e] at hv
      injection hv with hv
      have := keyN_inj e
      injection this with e1 e2
      subst e1 e2
      exact ⟨p, l, es, hp, hv.symm, lk hl, he, hn⟩
    · rw [if_neg e] at hv
      obtain ⟨p', l', es', g1, g2, g3, g4⟩ := h5 j c v hv
      exact ⟨p', l', es', g1, g2, lk g3, g4⟩
  cases hv : valV kvs (keyN (i, b)) with
  | none =>
    refine ⟨_, cs ++ [(i, b)], upd_same, ?_, ?_, ?_, entry⟩
    · rw [putK_new _ hv, List.map_append, List.map_append, h2]; rfl
    · refine List.nodup_append.mpr ⟨h3, by simp, fun x hx y hy e => ?_⟩
      have hy' : y = (i, b) := by simpa using hy
      subst hy' e
      have := valV_not hv
      rw [h2] at this
      exact this (List.mem_map.mpr ⟨_, hx, rfl⟩)
    · intro c hc
      rcases List.mem_append.mp hc with q | q
      · exact h4 c q
      · rw [List.mem_singleton.mp q]; exact ⟨hi, hb⟩
  | some v =>
    refine ⟨_, cs, upd_same, ?_, h3, h4, entry⟩
    rw [← h2]
    unfold putK
    have ha : (kvs.any fun kv => decide (kv.1 = keyN (i, b))) = true := by rw [valV_any, hv]; rfl
    rw [if_pos ha, List.map_map]
    refine List.map_congr_left fun kv _ => ?_
    show (if kv.1 = keyN (i, b) then (kv.1, V.ref l) else kv).1 = kv.1
    split <;> rfl
theorem nk1 : ¬ (("parts" : Str) = "text") := by decide +kernel
theorem nk2 : ¬ (("parts" : Str) = "known") := by decide +kernel
theorem nk3 : ¬ (("text" : Str) = "known") := by decide +kernel
def flds (pl : Addr) (x : Str) (kd : Addr) : List (Str × V) := putF "known" (.ref kd) (putF "text" (.str x) (putF "parts" (.ref pl) []))
theorem fl_known (pl : Addr) (x : Str) (kd : Addr) : (flds pl x kd).lookup ("known" : Str) = some (.ref kd) := by
  unfold flds
  rw [lookup_putF, if_pos rfl]
theorem fl_text (pl : Addr) (x : Str) (kd : Addr) : (flds pl x kd).lookup ("text" : Str) = some (.str x) := by
  unfold flds
  rw [lookup_putF, if_neg nk3, lookup_putF, if_pos rfl]
theorem fl_parts (pl : Addr) (x : Str) (kd : Addr) : (flds pl x kd).lookup ("parts" : Str) = some (.ref pl) := by
  unfold flds
  rw [lookup_putF, if_neg nk2, lookup_putF, if_neg nk1, lookup_putF, if_pos rfl]
theorem fl_no (pl : Addr) (x : Str) (kd : Addr) {m : Str} (h1 : ¬ m = "known") (h2 : ¬ m = "text") (h3 : ¬ m = "parts") : (flds pl x kd).lookup m = none := by
  unfold flds
  rw [lookup_putF, if_neg h1, lookup_putF, if_neg h2, lookup_putF, if_neg h3]
  rfl
theorem fl_ends (pl : Addr) (x : Str) (kd : Addr) : (flds pl x kd).lookup ("ends" : Str) = none := fl_no pl x kd (by decide +kernel) (by decide +kernel) (by decide +kernel)
theorem fl_anew (pl : Addr) (x : Str) (kd : Addr) : (flds pl x kd).lookup ("ends_anew" : Str) = none := fl_no pl x kd (by decide +kernel) (by decide +kernel) (by decide +kernel)
theorem fl_again (pl : Addr) (x : Str) (kd : Addr) : (flds pl x kd).lookup ("again_ends" : Str) = none := fl_no pl x kd (by decide +kernel) (by decide +kernel) (by decide +kernel)
/-- a Spelling at s; what is bad may be written by others -/
structure SpS (bad : Addr → Prop) (C : Addr) (H : Hp) (s : Addr) (x : Str) (rows : List Pat) (kd : Addr) : Prop where
  ob : ∃ dx pl nv, H s = some (.ins C dx (flds pl x kd)) ∧ H pl = some (.lst nv) ∧ ¬ bad pl ∧ Paired (Node (fun c => ¬ bad c) H rows) nv rows
  memo : Memo bad H x.cps.toList rows kd
  hb : ∀ c, bad c → (∃ xs, H c = some (.lst xs)) ∨ ∃ ks, H c = some (.dK ks)
  lr : rows.length ≤ 1000
  lx : x.length ≤ 60
theorem SpS.kd {bad : Addr → Prop} {C s kd : Addr} {H : Hp} {x : Str} {rows : List Pat} (S : SpS bad C H s x rows kd) : ∃ kvs, H kd = some (.dT kvs) := by
  obtain ⟨kvs, cs, h, _⟩ := S.memo
  exact ⟨kvs, h⟩
/-- what stands but for kd and what is bad -/
def KB (bad : Addr → Prop) (kd : Addr) (H H' : Hp) : Prop := ∀ c o, ¬ bad c → c ≠ kd → H c = some o → H' c = some o
theorem SpS.upto {bad : Addr → Prop} {C s kd : Addr} {H H' : Hp} {x : Str} {rows : List Pat} (S : SpS bad C H s x rows kd) (k : KB bad kd H H') (m : Memo bad H' x.cps.toList rows kd) (hb : ∀ c, bad c → (∃ xs, H' c = some (.lst xs)) ∨ ∃ ks, H' c = some (.dK ks)) : SpS bad C H' s x rows kd := by
  obtain ⟨kvs, hk⟩ := S.kd
  obtain ⟨dx, pl, nv, h1, h2, h3, h4⟩ := S.ob
  have nb : ∀ {c o}, H c = some o → (∀ xs, o ≠ .lst xs) → (∀ ks, o ≠ .dK ks) → ¬ bad c := fun {c o} e e1 e2 hc => by
    rcases S.hb c hc with ⟨xs, q⟩ | ⟨ks, q⟩
    · rw [q] at e; exact e1 xs (Option.some.inj e).symm
    · rw [q] at e; exact e2 ks (Option.some.inj e).symm
  refine ⟨⟨dx, pl, nv, k s _ (nb h1 (fun _ z => by cases z) (fun _ z => by cases z)) (fun e => by rw [e, hk] at h1; cases h1) h1, k pl _ h3 (fun e => by rw [e, hk] at h2; cases h2) h2, h3, paired_imp (fun v p n => ?_) h4⟩, m, hb, S.lr, S.lx⟩
  refine n.at (fun c xs e => k c _ (nb e (fun _ z => by cases z) (fun _ z => by cases z)) (fun q => by rw [q, hk] at e; cases e) e) (fun c xs hc e => k c _ hc (fun q => by rw [q, hk] at e; cases e) e) fun _ _ h => h
theorem Memo.same {bad : Addr → Prop} {H H' : Hp} {t : List Nat} {rows : List Pat} {kd : Addr} (m : Memo bad H t rows kd) (s : Same H H') : Memo bad H' t rows kd := by
  obtain ⟨kvs, cs, h1, h2, h3, h4, h5⟩ := m
  refine ⟨kvs, cs, s _ _ h1, h2, h3, h4, fun i b v hv => ?_⟩
  obtain ⟨p, l, es, g1, g2, g3, g4⟩ := h5 i b v hv
  exact ⟨p, l, es, g1, g2, s _ _ g3, g4⟩
theorem SpS.same {bad : Addr → Prop} {C s kd : Addr} {H H' : Hp} {x : Str} {rows : List Pat} (S : SpS bad C H s x rows kd) (sm : Same H H') : SpS bad C H' s x rows kd :=
  S.upto (fun c o _ _ e => sm c o e) (S.memo.same sm) fun c hc => (S.hb c hc).imp (fun ⟨xs, e⟩ => ⟨xs, sm _ _ e⟩) (fun ⟨xs, e⟩ => ⟨xs, sm _ _ e⟩)
/-- a bad thing is written -/
theorem SpS.write {bad : Addr → Prop} {C s kd c : Addr} {H : Hp} {x : Str} {rows : List Pat} {o : HO} (S : SpS bad C H s x rows kd) (hc : bad c) (ho : (∃ xs, o = .lst xs) ∨ ∃ ks, o = .dK ks) : SpS bad C (upd H c o) s x rows kd := by
  obtain ⟨kvs, hk⟩ := S.kd
  have nk : kd ≠ c := fun e => by
    rcases S.hb c hc with ⟨xs, q⟩ | ⟨ks, q⟩ <;> (rw [← e, hk] at q; cases q)
  refine S.upto (fun d u hd _ e => by rw [upd_ne (fun q => hd (by rw [q]; exact hc))]; exact e) ?_ fun d hd => ?_
  · obtain ⟨kvs, cs, h1, h2, h3, h4, h5⟩ := S.memo
    refine ⟨kvs, cs, by rw [upd_ne nk]; exact h1, h2, h3, h4, fun i b v hv => ?_⟩
    obtain ⟨p, l, es, g1, g2, g3, g4, g5⟩ := h5 i b v hv
    exact ⟨p, l, es, g1, g2, by rw [upd_ne (fun q => g5 (by rw [q]; exact hc))]; exact g3, g4, g5⟩
  · by_cases e : d = c
    · rw [e, upd_same]
      exact ho.imp (fun ⟨xs, q⟩ => ⟨xs, congrArg some q⟩) (fun ⟨ks, q⟩ => ⟨ks, congrArg some q⟩)
    · rw [upd_ne e]; exact S.hb d hd
/-- one more bad thing, a new one -/
theorem SpS.more {bad : Addr → Prop} {C s kd c : Addr} {H : Hp} {x : Str} {rows : List Pat} {o : HO} (S : SpS bad C H s x rows kd) (hc : H c = none) (ho : (∃ xs, o = .lst xs) ∨ ∃ ks, o = .dK ks) : SpS (fun d => bad d ∨ d = c) C (upd H c o) s x rows kd := by
  have sm := same_new hc o
  have S' := S.same sm
  obtain ⟨dx, pl, nv, h1, h2, h3, h4⟩ := S.ob
  have ne : ∀ {d u}, H d = some u → d ≠ c := fun {d u} e q => by rw [q, hc] at e; cases e
  refine ⟨⟨dx, pl, nv, sm _ _ h1, sm _ _ h2, fun h => h.elim h3 (ne h2), paired_imp (fun v p n => ?_) h4⟩, ?_, fun d hd => ?_, S.lr, S.lx⟩
  · obtain ⟨a, b, kids, e, g1, g2, g3, g4⟩ := n
    exact ⟨a, b, kids, e, sm _ _ g1, sm _ _ g2, g3, fun h => h.elim g4 (ne g2)⟩
  · obtain ⟨kvs, cs, h1, h2, h3, h4, h5⟩ := S.memo
    refine ⟨kvs, cs, sm _ _ h1, h2, h3, h4, fun i b v hv => ?_⟩
    obtain ⟨p, l, es, g1, g2, g3, g4, g5⟩ := h5 i b v hv
    exact ⟨p, l, es, g1, g2, sm _ _ g3, g4, fun h => h.elim g5 (ne g3)⟩
  · rcases hd with hd | hd
    · exact S'.hb d hd
    · rw [hd, upd_same]
      exact ho.imp (fun ⟨xs, q⟩ => ⟨xs, congrArg some q⟩) (fun ⟨ks, q⟩ => ⟨ks, congrArg some q⟩)
theorem SpS.less {bad bad' : Addr → Prop} {C s kd : Addr} {H : Hp} {x : Str} {rows : List Pat} (S : SpS bad C H s x rows kd) (h : ∀ c, bad' c → bad c) : SpS bad' C H s x rows kd := by
  obtain ⟨dx, pl, nv, h1, h2, h3, h4⟩ := S.ob
  refine ⟨⟨dx, pl, nv, h1, h2, fun q => h3 (h _ q), paired_imp (fun v p n => n.mono fun c hc q => hc (h _ q)) h4⟩, ?_, fun c hc => S.hb c (h c hc), S.lr, S.lx⟩
  obtain ⟨kvs, cs, h1, h2, h3, h4, h5⟩ := S.memo
  refine ⟨kvs, cs, h1, h2, h3, h4, fun i b v hv => ?_⟩
  obtain ⟨p, l, es, g1, g2, g3, g4, g5⟩ := h5 i b v hv
  exact ⟨p, l, es, g1, g2, g3, g4, fun q => g5 (h _ q)⟩
/-- what the class is -/
structure Txt (K : PySem.W.Frag) (C fE fA fG : Addr) : Prop where
  cl : Cls K C
  nP : NoAttr K C "parts"
  nT : NoAttr K C "text"
  nK : NoAttr K C "known"
  mE : Meth K C "ends" fE
  mA : Meth K C "ends_anew" fA
  mG : Meth K C "again_ends" fG
/-- ends of a part deep so much, told as a list -/
def spEndsOf (C : Addr) (d : Nat) (f : Pat → Pat) : Sp := fun vs H Q _ => ∃ (bad : Addr → Prop) (s kd : Addr) (x : Str) (rows : List Pat) (i b : Nat) (p : Pat), vs = [.ref s, .int (i : Nat), .int (b : Nat)] ∧ SpS bad C H s x rows kd ∧ rows[i]? = some p ∧ deepP p ≤ d ∧ b ≤ x.length ∧
  ∀ l es H', H' l = some (.lst (es.map V.int)) → IsEnds x.cps.toList (f p) b es → ¬ bad l → SpS bad C H' s x rows kd → Keep kd H H' → Q (.ref l) H'
theorem deep_pos (p : Pat) : 1 ≤ deepP p := by cases p <;> (unfold deepP; omega)
theorem ends_zero {P : Program} {w : World} {K : PySem.W.Frag} {mg : Str → Option Value} {base : Heap} {f : Addr} {fd : FuncData} {ps : List Str} {C : Addr} : FnOk P w K mg base CX0 1 f fd ps (spEndsOf C 0 id) := by
  have no : ∀ vs H Q E, ¬ spEndsOf C 0 id vs H Q E := fun vs H Q E h => by
    obtain ⟨_, _, _, _, _, _, _, p, _, _, _, h, _⟩ := h
    have := deep_pos p
    omega
  exact ⟨fun vs H Q E h => absurd h (no vs H Q E), fun A outer s H args us vs Q E _ _ _ _ h => absurd h (no vs H Q E)⟩
theorem scEnds : FnScope ["self", "part", "begun"] ["self", "part", "begun"] (defScope sEnds) := ⟨rfl, rfl, rfl, by decide +kernel, rfl, by decide +kernel, by decide +kernel⟩
theorem len_x (x : Str) : x.cps.toList.length = x.length := Array.length_toList
section
variable {P : Program} {w : World} {K : PySem.W.Frag} {mg : Str → Option Value} {base : Heap} {f fE fA fG C : Addr} {fd gd : FuncData}
theorem ok_ends {d : Nat} (F : Fun K "ends" "Spelling.ends" sEnds f fd) (T : Txt K C fE fA fG) (G : FnOk P w K mg base CX0 (3 * d + 3) fA gd ["self", "part", "begun"] (spEndsOf C (d + 1) id)) (bG : Binds K gd ["self", "part", "begun"] []) :
    FnOk P w K mg base CX0 (3 * d + 4) f fd ["self", "part", "begun"] (spEndsOf C (d + 1) id) := by
  refine F.ok scEnds (fun vs H Q E h => ?_) (fun cdv A outer s H vs Q E hr h => ?_)
  · obtain ⟨_, _, _, _, _, _, _, _, rfl, _⟩ := h
    rfl
  obtain ⟨bad, s, kd, x, rows, i, b, p, rfl, S, hp, hd, hb, q⟩ := h
  have hu := hu_of hr
  refine ⟨_, pss_cons (ps_if (pt_cmp (pc_dnotin hu (pe_tup (pa_cons (pv 1) (pa_cons (pv 2) pa_nil))) (pe_fld (pv 0) rfl)))
      (pss_one (ps_dput hu (pe_fld (pv 0) rfl) (pe_tup (pa_cons (pv 1) (pa_cons (pv 2) pa_nil))) (pe_meth (pv 0) T.cl T.mA G hr bG .nil pass0 (pa_cons (pv 1) (pa_cons (pv 2) pa_nil))) rfl)) pss_nil)
    (pss_one (ps_ret (pe_dget hu (pe_fld (pv 0) rfl) (pe_tup (pa_cons (pv 1) (pa_cons (pv 2) pa_nil))) (fun _ _ => rfl)))), ?_⟩
  have kk : ∀ (k : Nat × Nat), (keyN k).map kV = [V.int (k.1 : Nat), V.int (k.2 : Nat)] := fun _ => rfl
  -- the end: what is known is told
  have fin : ∀ (H1 : Hp) (kvs : List (List Key × V)), SpS bad C H1 s x rows kd → Keep kd H H1 → H1 kd = some (.dT kvs) → ∀ v, valV kvs (keyN (i, b)) = some v →
      ∀ k H2, H2 k = some (.tup [V.int (i : Nat), V.int (b : Nat)]) → Same H1 H2 → DGet H2 kd (.ref k) (some v) ∧ Q v H2 := fun H1 kvs S1 k1 e1 v hv k H2 ek s2 => by
    obtain ⟨kvs', cs, g1, g2, g3, g4, g5⟩ := S1.memo
    rw [e1] at g1
    injection g1 with g1
    injection g1 with g1
    subst g1
    obtain ⟨p', l, es, h1, rfl, h3, h4, h5⟩ := g5 i b v hv
    rw [hp] at h1
    injection h1 with h1
    subst h1
    refine ⟨?_, q l es H2 (s2 _ _ h3) h4 h5 (S1.same s2) (k1.trans (Keep.of_same s2))⟩
    rw [← hv]
    exact DGet.t (s2 _ _ e1) (ek.trans (congrArg (fun z => some (HO.tup z)) (kk (i, b)).symm))
  obtain ⟨dx, pl, nv, ho, _⟩ := S.ob
  refine ⟨_, rfl, _, rfl, (by show 2 ≤ sizeLine; decide), fun k1 hk1 => ?_⟩
  have s1 := same_new hk1 (.tup [V.int (i : Nat), V.int (b : Nat)])
  have S1 := S.same s1
  obtain ⟨kvs, hkd⟩ := S1.kd
  refine ⟨_, rfl, s, C, dx, _, _, rfl, s1 _ _ ho, T.cl, T.nK, fl_known _ _ _, kd, _, rfl, DGet.t (k := keyN (i, b)) hkd upd_same, _, rfl, ?_⟩
  cases hv : valV kvs (keyN (i, b)) with
  | some v =>
    refine iteF ?_
    refine ⟨_, rfl, s, C, dx, _, _, rfl, s1 _ _ ho, T.cl, T.nK, fl_known _ _ _, _, rfl, _, rfl, (by show 2 ≤ sizeLine; decide), fun k2 hk2 => ?_⟩
    obtain ⟨g1, g2⟩ := fin _ kvs S1 (Keep.of_same s1) hkd v hv k2 _ upd_same (same_new hk2 _)
    exact ⟨kd, v, rfl, g1, g2⟩
  | none =>
    refine iteT ?_
    refine ⟨_, rfl, s, dx, _, rfl, s1 _ _ ho, fl_anew _ _ _, _, rfl, _, rfl, bad, s, kd, x, rows, i, b, p, rfl, S1, hp, hd, hb, fun l es H2 hl he nb S2 kp2 => ?_⟩
    obtain ⟨dx2, pl2, nv2, ho2, _⟩ := S2.ob
    refine ⟨_, rfl, s, C, dx2, _, _, rfl, ho2, T.cl, T.nK, fl_known _ _ _, _, rfl, _, rfl, (by show 2 ≤ sizeLine; decide), fun k3 hk3 => ?_⟩
    have s3 := same_new hk3 (.tup [V.int (i : Nat), V.int (b : Nat)])
    have S3 := S2.same s3
    have hi : i < 1000 := by
      have := (List.getElem?_eq_some_iff.mp hp).1
      have := S.lr
      omega
    have lx := S.lx
    obtain ⟨kvs3, e3, z3, m3, kvs4, e4, v4⟩ := S3.memo.put hi (by omega) hp (s3 _ _ hl) he nb
    refine ⟨kd, _, rfl, .inr ⟨kvs3, keyN (i, b), k3, e3, rfl, upd_same, z3, rfl⟩, ?_⟩
    have S4 : SpS bad C _ s x rows kd := S3.upto (fun c o _ nk e => by rw [upd_ne nk]; exact e) m3 fun c hc => by
      have nk : c ≠ kd := fun e => by
        rcases S3.hb c hc with ⟨xs, q⟩ | ⟨ks, q⟩ <;> (rw [e, e3] at q; cases q)
      rw [upd_ne nk]
      exact S3.hb c hc
    have kp4 : Keep kd H (upd (upd H2 k3 (.tup [V.int (i : Nat), V.int (b : Nat)])) kd (.dT (putK kvs3 (keyN (i, b)) (.ref l)))) := (Keep.of_same s1).trans (kp2.trans ((Keep.of_same s3).trans (keep_jar _)))
    generalize upd (upd H2 k3 (.tup [V.int (i : Nat), V.int (b : Nat)])) kd (.dT (putK kvs3 (keyN (i, b)) (.ref l))) = H4 at S4 kp4 e4
    obtain ⟨dx4, pl4, nv4, ho4, _⟩ := S4.ob
    refine ⟨_, rfl, s, C, dx4, _, _, rfl, ho4, T.cl, T.nK, fl_known _ _ _, _, rfl, _, rfl, (by show 2 ≤ sizeLine; decide), fun k5 hk5 => ?_⟩
    obtain ⟨g1, g2⟩ := fin _ kvs4 S4 kp4 e4 _ v4 k5 _ upd_same (same_new hk5 _)
    exact ⟨kd, _, rfl, g1, g2⟩
end
end Pa
set_option maxHeartbeats 4000000
namespace Pa
open PySem PySem.Spec PyProof.Rows L2 Ty
/-! ### {e for a in a list for e in a list of numbers} -/
def addI (L : List Int) (c : Int) : List Int := if c ∈ L then L else c :: L
theorem mem_addI {L : List Int} {c k : Int} : k ∈ addI L c ↔ k ∈ L ∨ k = c := by
  unfold addI
  split
  · rename_i h
    exact ⟨.inl, fun z => z.elim id fun e => e ▸ h⟩
  · rw [List.mem_cons]
    exact Or.comm
theorem addI_nodup {L : List Int} {c : Int} (h : L.Nodup) : (addI L c).Nodup := by
  unfold addI
  split
  · exact h
  · rename_i h'
    exact List.nodup_cons.mpr ⟨h', h⟩
theorem addI_len (L : List Int) (c : Int) : (addI L c).length ≤ L.length + 1 := by
  unfold addI
  split
  · omega
  · simp
def addAll (L es : List Int) : List Int := es.foldl addI L
theorem addAll_snoc (L es : List Int) (c : Int) : addAll L (es ++ [c]) = addI (addAll L es) c := by unfold addAll; rw [List.foldl_append]; rfl
theorem mem_addAll {L : List Int} {k : Int} : ∀ {es : List Int}, k ∈ addAll L es ↔ k ∈ L ∨ k ∈ es := by
  intro es
  induction es generalizing L with
  | nil => simp [addAll]
  | cons c es ih =>
    show k ∈ addAll (addI L c) es ↔ _
    rw [ih, mem_addI, List.mem_cons, or_assoc]
theorem addAll_nodup {L : List Int} (h : L.Nodup) : ∀ es : List Int, (addAll L es).Nodup := by
  intro es
  induction es generalizing L with
  | nil => exact h
  | cons c es ih => exact ih (addI_nodup h)
theorem addAll_len (es L : List Int) : (addAll L es).length ≤ L.length + es.length := by
  induction es generalizing L with
  | nil => exact Nat.le_refl _
  | cons c es ih =>
    have h1 := ih (L := addI L c)
    have h2 := addI_len L c
    show (addAll (addI L c) es).length ≤ _
    rw [List.length_cons]; omega
def SetL (w : World) (D : Addr) (L : List Int) : HO := SetO w D (fun k => decide (k ∈ L)) L.length
theorem setL_add (w : World) (D : Addr) (L : List Int) (c : Int) : SetO w D (fun j => decide (j ∈ L) || decide (j = c)) (if decide (c ∈ L) = true then L.length else L.length + 1) = SetL w D (addI L c) := by
  unfold SetL
  congr 1
  · funext j
    rw [Bool.eq_iff_iff]
    simp only [Bool.or_eq_true, decide_eq_true_eq]
    exact mem_addI.symm
  · unfold addI
    by_cases h : c ∈ L
    · rw [if_pos h, if_pos (decide_eq_true h)]
    · rw [if_neg h, if_neg (by simp [h])]; rfl
theorem setL_nil (w : World) (D : Addr) : SetO w D (fun _ => false) 0 = SetL w D [] := by
  unfold SetL
  congr 1
theorem upd_id {H : Hp} {a : Addr} {o : HO} (h : H a = some o) : upd H a o = H := by
  funext b
  by_cases e : b = a
  · rw [e, upd_same, h]
  · rw [upd_ne e]
theorem upd_upd {H : Hp} {a : Addr} {o o' : HO} : upd (upd H a o) a o' = upd H a o' := by
  funext b
  by_cases e : b = a
  · rw [e, upd_same, upd_same]
  · rw [upd_ne e, upd_ne e, upd_ne e]
theorem sc2_inner {w : World} {K : PySem.W.Frag} {D l1 : Addr} {k1 : Nat} {vs1 : List Nat} {τ : L2.St} {H4 : Hp} {te : TE} {Nx : Hp → Prop} {es L : List Int}
    (hw : ∀ v : V, wipe ((wipe τ vs1).set k1 (some v)) vs1 = wipe τ vs1)
    (hte : ∀ (v : V) H Q, Q v H → te ((wipe τ vs1).set k1 (some v)) H Q)
    (el : H4 l1 = some (.lst (es.map V.int))) (eD : H4 D = some (SetL w D L)) (ne : l1 ≠ D) (nd : L.Nodup) (hL : L.length ≤ 200) (he : es.length ≤ 200)
    (fin : ∀ L', L'.Nodup → (∀ k, k ∈ L' ↔ k ∈ L ∨ k ∈ es) → Nx (upd H4 D (SetL w D L'))) :
    ∃ W1 : Nat → Nat → Hp → Prop, (∃ m, W1 0 m H4) ∧ ∀ j k H, W1 j k H →
          ((Itl K l1).stop j H ∧ Nx H) ∨ ((Itl K l1).go j H ∧ ∃ Nx1 : Hp → Prop, (∀ H', Nx1 H' → ∃ k', k' < k ∧ W1 (j + 1) k' H') ∧ ∀ x H', (Itl K l1).yld j H x H' → gName k1 x (wipe τ vs1) H' fun σ3 H5 => wipe σ3 vs1 = wipe τ vs1 ∧ tYes σ3 H5 fun b H6 =>
            if b = true then te σ3 H6 fun y H7 => ∃ (c : Int) (S : Int → Bool) (n : Nat), y = .int c ∧ H7 D = some (SetO w D S n) ∧ n + 1 < scanBound ∧ Nx1 (upd H7 D (SetO w D (fun j => S j || decide (j = c)) (if S c = true then n else n + 1))) else Nx1 H6) := by
  refine ⟨fun j k H => k = es.length - j ∧ j ≤ es.length ∧ H = upd H4 D (SetL w D (addAll L (es.take j))), ⟨_, rfl, Nat.zero_le _, ?_⟩, ?_⟩
  · show H4 = upd H4 D (SetL w D L)
    exact (upd_id eD).symm
  rintro j k H ⟨rfl, hj, rfl⟩
  have sq : SqL K (upd H4 D (SetL w D (addAll L (es.take j)))) l1 (es.map V.int) := SqL.of (by rw [upd_ne ne]; exact el)
  by_cases hlt : j < es.length
  case neg =>
    have e : j = es.length := by omega
    subst e
    refine .inl ⟨⟨_, sq, by simp⟩, ?_⟩
    refine fin _ (addAll_nodup nd _) fun k => ?_
    rw [mem_addAll, List.take_length]
  refine .inr ⟨⟨_, V.int es[j], sq, by simp [hlt]⟩, fun H => H = upd H4 D (SetL w D (addAll L (es.take (j + 1)))), fun H' e => ⟨es.length - (j + 1), by omega, rfl, hlt, e⟩, fun x H' y => ?_⟩
  obtain ⟨h1, y⟩ := y
  subst h1
  have y := y _ sq
  rw [List.getElem?_map, List.getElem?_eq_getElem hlt] at y
  have ex : x = V.int es[j] := (Option.some.inj y).symm
  subst ex
  refine ⟨hw _, ?_⟩
  simp only [tYes, ↓reduceIte]
  refine hte _ _ _ ⟨es[j], _, _, rfl, upd_same, ?_, ?_⟩
  · have := addAll_len (es.take j) L
    rw [List.length_take] at this
    unfold scanBound
    omega
  · show _ = _
    rw [setL_add, upd_upd, ← addAll_snoc]
    congr 3
    rw [List.take_succ, List.getElem?_eq_getElem hlt]
    rfl
theorem sc2_ints {w : World} {K : PySem.W.Frag} {a D : Addr} {k0 k1 : Nat} {vs vs1 : List Nat} {xs : List V} {σ : L2.St} {H1 : Hp} {wi1 : TI} {te : TE} {Qd : Hp → Prop}
    (hv : ∀ v, wipe ((wipe σ vs).set k0 (some v)) vs = wipe σ vs)
    (Pv : Nat → List Int → Hp → Prop) (h0 : Pv 0 [] (upd H1 D (SetL w D [])))
    (hD : ∀ i L H, Pv i L H → SqL K H a xs)
    (hs : ∀ i x L H, xs[i]? = some x → Pv i L H → wi1 ((wipe σ vs).set k0 (some x)) H fun J1 H4 => ∃ W1 : Nat → Nat → Hp → Prop, (∃ m, W1 0 m H4) ∧ ∀ j k H, W1 j k H →
          (J1.stop j H ∧ ∃ L', Pv (i + 1) L' H) ∨ (J1.go j H ∧ ∃ Nx1 : Hp → Prop, (∀ H', Nx1 H' → ∃ k', k' < k ∧ W1 (j + 1) k' H') ∧ ∀ y H', J1.yld j H y H' → gName k1 y (wipe ((wipe σ vs).set k0 (some x)) vs1) H' fun σ3 H5 => wipe σ3 vs1 = wipe ((wipe σ vs).set k0 (some x)) vs1 ∧ tYes σ3 H5 fun b H6 =>
            if b = true then te σ3 H6 fun y H7 => ∃ (c : Int) (S : Int → Bool) (n : Nat), y = .int c ∧ H7 D = some (SetO w D S n) ∧ n + 1 < scanBound ∧ Nx1 (upd H7 D (SetO w D (fun j => S j || decide (j = c)) (if S c = true then n else n + 1))) else Nx1 H6))
    (hd : ∀ L H, Pv xs.length L H → Qd H) :
    ∃ W : Nat → Nat → Hp → Prop, (∃ m, W 0 m (upd H1 D (SetO w D (fun _ => false) 0))) ∧ ∀ i m H, W i m H →
      ((Itl K a).stop i H ∧ Qd H) ∨ ((Itl K a).go i H ∧ ∃ Nx : Hp → Prop, (∀ H', Nx H' → ∃ m', m' < m ∧ W (i + 1) m' H') ∧ ∀ x H', (Itl K a).yld i H x H' → gName k0 x (wipe σ vs) H' fun σ2 H2 => wipe σ2 vs = wipe σ vs ∧ tYes σ2 H2 fun b H3 =>
        if b = true then wi1 σ2 H3 fun J1 H4 => ∃ W1 : Nat → Nat → Hp → Prop, (∃ m, W1 0 m H4) ∧ ∀ j k H, W1 j k H →
          (J1.stop j H ∧ Nx H) ∨ (J1.go j H ∧ ∃ Nx1 : Hp → Prop, (∀ H', Nx1 H' → ∃ k', k' < k ∧ W1 (j + 1) k' H') ∧ ∀ x H', J1.yld j H x H' → gName k1 x (wipe σ2 vs1) H' fun σ3 H5 => wipe σ3 vs1 = wipe σ2 vs1 ∧ tYes σ3 H5 fun b H6 =>
            if b = true then te σ3 H6 fun y H7 => ∃ (c : Int) (S : Int → Bool) (n : Nat), y = .int c ∧ H7 D = some (SetO w D S n) ∧ n + 1 < scanBound ∧ Nx1 (upd H7 D (SetO w D (fun j => S j || decide (j = c)) (if S c = true then n else n + 1))) else Nx1 H6)
        else Nx H3) := by
  rw [setL_nil]
  refine ⟨fun i m H => m = xs.length - i ∧ i ≤ xs.length ∧ ∃ L, Pv i L H, ⟨xs.length, by simp, Nat.zero_le _, [], h0⟩, ?_⟩
  rintro i m H ⟨rfl, hi, L, p⟩
  have sq := hD i L H p
  by_cases hlt : i < xs.length
  case neg =>
    have e : i = xs.length := by omega
    subst e
    exact .inl ⟨⟨xs, sq, Nat.le_refl _⟩, hd L H p⟩
  refine .inr ⟨⟨xs, xs[i], sq, by simp [hlt]⟩, fun H' => ∃ L', Pv (i + 1) L' H', fun H' ⟨L', p'⟩ => ⟨xs.length - (i + 1), by omega, rfl, hlt, L', p'⟩, fun x H' y => ?_⟩
  obtain ⟨e, y⟩ := y
  subst e
  have ex := y xs sq
  refine ⟨hv x, ?_⟩
  simp only [tYes, ↓reduceIte]
  exact hs i x L H' ex p
end Pa
set_option maxHeartbeats 4000000
namespace Pa
open PySem PySem.Spec PyProof.Rows L2 Ty
def keyE (e : Nat) : Key := Sum.inl (e : Int)
/-- what again_ends has found, and what still waits -/
structure Fnd (t : List Nat) (p : Pat) (b : Nat) (fs ws : List Nat) : Prop where
  nd : fs.Nodup
  ok : ∀ e, e ∈ fs → E t (.mo p) b e
  ws : ∀ e, e ∈ ws → e = b ∨ e ∈ fs
theorem Fnd.few {t : List Nat} {p : Pat} {b : Nat} {fs ws : List Nat} (h : Fnd t p b fs ws) (ht : t.length ≤ 60) : fs.length ≤ 61 := by
  have := nodup_len (l := fs) (m := List.range 61) h.nd fun e he => List.mem_range.mpr (by have := (h.ok e he).2.1; omega)
  rw [List.length_range] at this
  exact this
theorem Fnd.to {t : List Nat} {p : Pat} {b m e : Nat} {fs ws : List Nat} (h : Fnd t p b fs ws) (hm : m = b ∨ m ∈ fs) (g : E t p m e) : E t (.mo p) b e := by
  rcases hm with rfl | hm
  · exact E_mo1 g
  · exact E_mo_end (h.ok m hm) g
theorem nats_map (fs : List Nat) : natsV fs = (fs.map fun e : Nat => (e : Int)).map V.int := by
  unfold natsV
  rw [List.map_map]; rfl
theorem lt_of_le_nd : ∀ {l : List Int}, l.Pairwise (· ≤ ·) → l.Nodup → l.Pairwise (· < ·)
  | [], _, _ => .nil
  | x :: l, h, n => by
    have h1 := List.pairwise_cons.mp h
    have n1 := List.nodup_cons.mp n
    exact List.pairwise_cons.mpr ⟨fun y hy => by
      have := h1.1 y hy
      have : x ≠ y := fun e => n1.1 (e ▸ hy)
      omega, lt_of_le_nd h1.2 n1.2⟩
theorem cast_nodup {fs : List Nat} (h : fs.Nodup) : (fs.map fun e : Nat => (e : Int)).Nodup :=
  List.Pairwise.map _ (fun a b (hab : a ≠ b) => fun e => hab (Int.ofNat_inj.mp e)) h
theorem scAgain : FnScope ["self", "part", "begun", "found", "waiting", "end"] ["self", "part", "begun"] (defScope sAgain) := ⟨rfl, rfl, rfl, by decide +kernel, rfl, by decide +kernel, by decide +kernel⟩
section
variable {P : Program} {w : World} {K : PySem.W.Frag} {mg : Str → Option Value} {base : Heap} {f fE fA fG C : Addr} {fd gd : FuncData}
theorem ok_again {d : Nat} (F : Fun K "again_ends" "Spelling.again_ends" sAgain f fd) (T : Txt K C fE fA fG) (G : FnOk P w K mg base CX0 (3 * d + 1) fE gd ["self", "part", "begun"] (spEndsOf C d id)) (bG : Binds K gd ["self", "part", "begun"] []) (mso : mg "sorted" = none) :
    FnOk P w K mg base CX0 (3 * d + 2) f fd ["self", "part", "begun"] (spEndsOf C d Pat.mo) := by
  refine F.ok scAgain (fun vs H Q E h => ?_) (fun cdv A outer s0 H vs Q E0 hr h => ?_)
  · obtain ⟨_, _, _, _, _, _, _, _, rfl, _⟩ := h
    rfl
  obtain ⟨bad, s, kd, x, rows, i, b, p, rfl, S, hp, hd, hb, q⟩ := h
  have hu := hu_of hr
  have hu64 := hr.units
  refine ⟨_, pss_cons (ps_set (i := 3) scAgain.nd rfl (.inl rfl) pe_dnewK)
    (pss_cons (ps_set (i := 4) scAgain.nd rfl (.inl rfl) (pe_lst (pa_cons (pv 2) pa_nil)))
    (pss_cons (ps_while PassesOwn.never (pt_cmpR (op_neL0 hu64) (pv 4) (pe_lst pa_nil) (nomark _))
      (pss_one (ps_for PassesOwn.never rfl (pi_list (pe_meth (pv 0) T.cl T.mE G hr bG .nil pass0 (pa_cons (pv 1) (pa_cons (pe_bm0 PySem.F.plainAttrs_list PySem.F.slot_list_pop PySem.F.type_list_pop mt_pop (pv 4)) pa_nil)))) (pg_name (i := 5) scAgain.nd rfl (Or.inl rfl))
        (pss_one (ps_if (pt_cmp (pc_dnotin hu (pv 5) (pv 3)))
          (pss_cons (ps_dput hu (pv 3) (pv 5) pe_bl rfl)
          (pss_one (ps_expr (pe_bm PySem.F.plainAttrs_list PySem.F.slot_list_append PySem.F.type_list_append mt_append (pv 4) (pa_cons (pv 5) pa_nil)))))
          pss_nil)))))
    (pss_one (ps_ret (pe_callB (call_sortedDI rfl) rfl mso (by decide +kernel) (pa_cons (pv 3) pa_nil)))))), ?_⟩
  obtain ⟨kvs0, hkd0⟩ := S.kd
  have lx := S.lx
  have lt : x.cps.toList.length = x.length := len_x x
  refine fun fo hfo => ⟨_, rfl, (by show 1 ≤ sizeLine; decide), fun wa hwa => ?_⟩
  have fw : fo ≠ wa := ne_of_none upd_same hwa
  have S1 := (S.more hfo (o := .dK []) (.inr ⟨_, rfl⟩)).more hwa (o := .lst [V.int (b : Nat)]) (.inl ⟨_, rfl⟩)
  have fk : fo ≠ kd := fun e => by rw [e, hkd0] at hfo; cases hfo
  have wk : wa ≠ kd := fun e => by
    have h1 := same_new hfo (.dK []) kd _ hkd0
    rw [← e, hwa] at h1; cases h1
  have hwaH : H wa = none := by rw [upd_ne (Ne.symm fw)] at hwa; exact hwa
  have K1 : Keep kd H (upd (upd H fo (.dK [])) wa (.lst [V.int (b : Nat)])) := Keep.of_same ((same_new hfo _).trans (same_new hwa _))
  have eF1 : (upd (upd H fo (.dK [])) wa (.lst [V.int (b : Nat)])) fo = some (.dK []) := by rw [upd_ne fw]; exact upd_same
  have eW1 : (upd (upd H fo (.dK [])) wa (.lst [V.int (b : Nat)])) wa = some (.lst (natsV [b])) := upd_same
  generalize upd (upd H fo (.dK [])) wa (.lst [V.int (b : Nat)]) = H1 at S1 K1 eF1 eW1
  refine while_inv (fun m σ H' => ∃ kvs fs ws x5, σ = [some (.ref s), some (.int (i : Nat)), some (.int (b : Nat)), some (.ref fo), some (.ref wa), x5] ∧ H' fo = some (.dK kvs) ∧ kvs.map (·.1) = fs.map keyE ∧ H' wa = some (.lst (natsV ws)) ∧ Fnd x.cps.toList p b fs ws ∧
      (∀ m n, (m = b ∨ m ∈ fs) → m ∉ ws → E x.cps.toList p m n → n ∈ fs) ∧ SpS (fun c => (bad c ∨ c = fo) ∨ c = wa) C H' s x rows kd ∧ Keep kd H H' ∧ m = 2 * (62 - fs.length) + ws.length ∧ m ≤ 125)
    ⟨_, [], [], [b], _, rfl, eF1, rfl, eW1, ⟨.nil, (fun _ h => by cases h), fun e h => .inl (List.mem_singleton.mp h)⟩, fun m n h h' => absurd (h.elim (fun e => e ▸ List.mem_singleton_self _) fun h => by cases h) h', S1, K1, rfl, (by show 2 * (62 - 0) + 1 ≤ 125; decide)⟩ (fun m σ H' pv' => ?_)
  obtain ⟨kvs, fs, ws, x5, rfl, eF, ekv, eW, fn, cl, S2, K2, hm, hm5⟩ := pv'
  refine ⟨_, rfl, (by show 0 ≤ sizeLine; decide), fun pn hpn => ⟨wa, pn, _, rfl, rfl, same_new hpn _ _ _ eW, upd_same, ?_⟩⟩
  have s3 := same_new hpn (.lst [])
  have S3 := S2.same s3
  have K3 := K2.trans (Keep.of_same s3)
  replace eF := s3 _ _ eF
  replace eW := s3 _ _ eW
  generalize upd H' pn (.lst []) = H3 at eF eW S3 K3
  clear s3 hpn S2 K2
  cases hws : ws with
  | nil =>
    subst hws
    refine ⟨_, rfl, iteF ?_⟩
    refine ⟨_, rfl, fo, kvs, fs.map fun e : Nat => (e : Int), rfl, .inl eF, by rw [ekv, List.map_map]; rfl, by rw [List.length_map]; have := fn.few (by omega); omega, fun ys pl perm srt hpl => ?_⟩
    have s4 := same_new hpl (.lst (ys.map V.int))
    have hmem : ∀ k, k ∈ ys ↔ ∃ e : Nat, k = (e : Int) ∧ E x.cps.toList (.mo p) b e := fun k => by
      rw [perm.mem_iff, List.mem_map]
      constructor
      · rintro ⟨e, he, rfl⟩
        exact ⟨e, rfl, fn.ok e he⟩
      · rintro ⟨e, rfl, he⟩
        refine ⟨e, ?_, rfl⟩
        exact E_mo_least (S := fun e => e ∈ fs) (fun m h => cl b m (.inl rfl) (by simp) h) (fun m n h g => cl m n (.inr h) (by simp) g) he
    exact q pl ys _ upd_same ⟨lt_of_le_nd srt (perm.nodup_iff.mpr (cast_nodup fn.nd)), hmem⟩ (fun hbad => by
      rcases S3.hb pl (.inl (.inl hbad)) with ⟨xs, e⟩ | ⟨xs, e⟩ <;> (rw [hpl] at e; cases e)) ((S3.same s4).less fun c hc => .inl (.inl hc)) (K3.trans (Keep.of_same s4))
  | cons w0 ws0 =>
    have hne : ws ≠ [] := by rw [hws]; exact List.cons_ne_nil _ _
    rw [← hws]
    obtain ⟨y, hy⟩ : ∃ y, ws.getLast? = some y := by
      rw [List.getLast?_eq_some_getLast hne]; exact ⟨_, rfl⟩
    have hsplit : ws = ws.dropLast ++ [y] := by
      rw [List.getLast?_eq_some_getLast hne] at hy
      rw [← Option.some.inj hy]
      exact (List.dropLast_concat_getLast hne).symm
    have hyi : ws[ws.length - 1]? = some y := by rw [← List.getLast?_eq_getElem?]; exact hy
    have hymem : y ∈ ws := by rw [hsplit]; simp
    have hye := fn.ws y hymem
    have hyb : y ≤ x.length := by
      rcases hye with e | e
      · omega
      · have := (fn.ok y e).2.1; omega
    have hdl : ws.length = ws.dropLast.length + 1 := by
      have := congrArg List.length hsplit
      rw [List.length_append] at this; exact this
    have hnl : (natsV ws).length = ws.length := List.length_map ..
    refine ⟨_, rfl, ?_⟩
    have hne' : (if true = true then !(natsV ws).isEmpty else (natsV ws).isEmpty) = true := by
      rw [hws]; rfl
    rw [hne']
    refine iteT ?_
    obtain ⟨dx, pl, nv, ho, _⟩ := S3.ob
    refine ⟨_, fun _ _ h => h, ?_⟩
    have hdv : (natsV ws).dropLast = natsV ws.dropLast := by unfold natsV; rw [List.map_dropLast]
    refine ⟨_, rfl, s, dx, _, rfl, ho, fl_ends _ _ _, _, rfl, _, rfl, .inl ⟨rfl, _, SqL.of eW⟩, wa, _, V.int (y : Nat), rfl, rfl, eW, (by rw [hnl]; unfold natsV; rw [List.getElem?_map, hyi]; rfl), ?_⟩
    rw [hdv]
    have S4 := S3.write (c := wa) (o := .lst (natsV ws.dropLast)) (.inr rfl) (.inl ⟨_, rfl⟩)
    have K4 : Keep kd H (upd H3 wa (.lst (natsV ws.dropLast))) := K3.upd hwaH
    have eF4 : (upd H3 wa (.lst (natsV ws.dropLast))) fo = some (.dK kvs) := by rw [upd_ne fw]; exact eF
    have eW4 : (upd H3 wa (.lst (natsV ws.dropLast))) wa = some (.lst (natsV ws.dropLast)) := upd_same
    generalize upd H3 wa (.lst (natsV ws.dropLast)) = H4 at S4 K4 eF4 eW4
    refine ⟨_, s, kd, x, rows, i, y, p, rfl, S4, hp, hd, hyb, fun l es H5 hl he nb S5 kp5 => ⟨l, rfl, ⟨_, SqL.of hl⟩, ?_⟩⟩
    have lf : l ≠ fo := fun e => nb (.inl (.inr e))
    have lw : l ≠ wa := fun e => nb (.inr e)
    refine for_list (fun j σ H' => ∃ kvs fs ws' x5, σ = [some (.ref s), some (.int (i : Nat)), some (.int (b : Nat)), some (.ref fo), some (.ref wa), x5] ∧ H' fo = some (.dK kvs) ∧ kvs.map (·.1) = fs.map keyE ∧ H' wa = some (.lst (natsV ws')) ∧ Fnd x.cps.toList p b fs ws' ∧
        (∀ m n, (m = b ∨ m ∈ fs) → m ∉ ws' → m ≠ y → E x.cps.toList p m n → n ∈ fs) ∧ (∀ e : Nat, (e : Int) ∈ es.take j → e ∈ fs) ∧ SpS (fun c => (bad c ∨ c = fo) ∨ c = wa) C H' s x rows kd ∧ Keep kd H H' ∧ H' l = some (.lst (es.map V.int)) ∧ (y = b ∨ y ∈ fs) ∧ 2 * (62 - fs.length) + ws'.length < m)
      ⟨kvs, fs, ws.dropLast, _, rfl, kp5 _ _ fk eF4, ekv, kp5 _ _ wk eW4, ⟨fn.nd, fn.ok, fun e h => fn.ws e (List.dropLast_subset _ h)⟩, fun m n h1 h2 h3 g => cl m n h1 (fun h => by
        rw [hsplit] at h
        rcases List.mem_append.mp h with h | h
        · exact h2 h
        · exact h3 (List.mem_singleton.mp h)) g, (fun e h => by cases h), S5, K4.trans kp5, hl, hye, by omega⟩
      (fun j σ H' _ p => by obtain ⟨_, _, _, _, _, _, _, _, _, _, _, _, _, h, _⟩ := p; exact SqL.of h) (fun j u σ H6 hj p' => ?turn) (fun σ H' p' => ?done)
    case done =>
      obtain ⟨kvs, fs, ws', x5, rfl, eF, ekv, eW, fn, cl, hes, S6, K6, _, hyf, hlt⟩ := p'
      rw [List.length_map, List.take_length] at hes
      refine ⟨_, hlt, kvs, fs, ws', x5, rfl, eF, ekv, eW, fn, fun m n h1 h2 g => ?_, S6, K6, rfl, by omega⟩
      by_cases c : m = y
      · subst c
        exact hes n ((he.2 n).mpr ⟨n, rfl, g⟩)
      · exact cl m n h1 h2 c g
    case turn =>
      obtain ⟨kvs, fs, ws', x5, rfl, eF, ekv, eW, fn, cl, hes, S6, K6, hl6, hyf, hlt⟩ := p'
      rw [List.getElem?_map] at hj
      obtain ⟨k, hk, rfl⟩ : ∃ k, es[j]? = some k ∧ V.int k = u := by
        cases e : es[j]? with
        | none => rw [e] at hj; cases hj
        | some k => rw [e] at hj; exact ⟨k, rfl, Option.some.inj hj⟩
      obtain ⟨e, rfl, hE⟩ := (he.2 k).mp (List.mem_of_getElem? hk)
      have htk : es.take (j + 1) = es.take j ++ [(e : Int)] := by
        rw [List.take_add_one, hk]; rfl
      have hfe : E x.cps.toList (.mo p) b e := fn.to hyf hE
      refine ⟨_, rfl, _, rfl, fo, _, rfl, DGet.k (k := keyE e) eF, _, rfl, ?_⟩
      cases hv : valV kvs (keyE e) with
      | some v =>
        refine iteF ⟨kvs, fs, ws', _, rfl, eF, ekv, eW, fn, cl, fun e' h => ?_, S6, K6, hl6, hyf, hlt⟩
        rw [htk] at h
        rcases List.mem_append.mp h with h | h
        · exact hes e' h
        · have h := List.mem_singleton.mp h
          have := valV_in hv
          rw [ekv] at this
          obtain ⟨e2, h2, q2⟩ := List.mem_map.mp this
          injection q2 with q2
          have : e' = e2 := by omega
          rw [this]; exact h2
      | none =>
        have hnf : e ∉ fs := fun h => valV_not hv (by rw [ekv]; exact List.mem_map.mpr ⟨e, h, rfl⟩)
        have few : fs.length ≤ 61 := fn.few (by omega)
        have lkv : kvs.length = fs.length := by
          have := congrArg List.length ekv
          rw [List.length_map, List.length_map] at this; exact this
        have fn' : Fnd x.cps.toList p b (fs ++ [e]) (ws' ++ [e]) := ⟨List.nodup_append.mpr ⟨fn.nd, by simp, fun a ha c hc e' => hnf (by rw [← List.mem_singleton.mp hc, ← e']; exact ha)⟩, fun a h => by
            rcases List.mem_append.mp h with h | h
            · exact fn.ok a h
            · rw [List.mem_singleton.mp h]; exact hfe, fun a h => by
            rcases List.mem_append.mp h with h | h
            · exact (fn.ws a h).imp id fun h => List.mem_append_left _ h
            · exact .inr (List.mem_append_right _ h)⟩
        have few' : (fs ++ [e]).length ≤ 61 := fn'.few (by omega)
        have lw' : ws'.length ≤ 1000 := by omega
        refine iteT ⟨_, rfl, _, rfl, fo, _, rfl, DPut.k (k := keyE e) eF (by rw [sizeLine_eq]; omega), _, rfl, .inl ⟨rfl, _, SqL.of (by rw [upd_ne (Ne.symm fw)]; exact eW)⟩, _, rfl, wa, _, _, rfl, rfl, (by rw [upd_ne (Ne.symm fw)]; exact eW), (by unfold natsV; rw [List.length_map, sizeLine_eq]; omega), ?_⟩
        rw [putK_new _ hv]
        have eq : natsV ws' ++ [V.int (e : Nat)] = natsV (ws' ++ [e]) := by unfold natsV; rw [List.map_append]; rfl
        refine ⟨kvs ++ [(keyE e, .bl true)], fs ++ [e], ws' ++ [e], _, rfl, by rw [upd_ne fw]; exact upd_same, by rw [List.map_append, List.map_append, ekv]; rfl, by rw [upd_same, ← eq], fn', fun m n h1 h2 h3 g => ?_, fun e' h => ?_, ?_, (K6.upd hfo).upd hwaH, by rw [upd_ne lw, upd_ne lf]; exact hl6, hyf.imp id fun h => List.mem_append_left _ h, ?_⟩
        · have h2' : m ∉ ws' := fun h => h2 (List.mem_append_left _ h)
          have h1' : m = b ∨ m ∈ fs := h1.imp id fun h => by
            rcases List.mem_append.mp h with h | h
            · exact h
            · exact absurd (List.mem_append_right _ h) h2
          exact List.mem_append_left _ (cl m n h1' h2' h3 g)
        · rw [htk] at h
          rcases List.mem_append.mp h with h | h
          · exact List.mem_append_left _ (hes e' h)
          · have h := List.mem_singleton.mp h
            have : e' = e := by omega
            rw [this]; simp
        · exact (S6.write (c := fo) (.inl (.inr rfl)) (.inr ⟨_, rfl⟩)).write (c := wa) (.inr rfl) (.inl ⟨_, rfl⟩)
        · have l1 : (fs ++ [e]).length = fs.length + 1 := List.length_append
          have l2 : (ws' ++ [e]).length = ws'.length + 1 := List.length_append
          rw [l1] at few' ⊢
          rw [l2]
          omega
end
end Pa
set_option maxHeartbeats 4000000
namespace Pa
open PySem PySem.Spec PyProof.Rows L2 Ty Se
theorem scAnew : FnScope ["self", "part", "begun", "word", "signs", "inner", "middles", "found", "middle", "end", "one"] ["self", "part", "begun"] (defScope sAnew) := ⟨rfl, rfl, rfl, by decide +kernel, rfl, by decide +kernel, by decide +kernel⟩
theorem at_one {α : Type} {x y : α} {xs : List α} : atI (x :: y :: xs) 1 = some y := atI_nat (j := 1) rfl
theorem itW {A B : Prop} {u v : Str} (h : decide (u = v) = false) (hB : B) : if decide (V.str u = V.str v) = true then A else B := by
  rw [dec_str, h]; exact iteF hB
theorem itE {A B : Prop} {u v : Str} (h : decide (u = v) = true) (hA : A) : if decide (V.str u = V.str v) = true then A else B := by
  rw [dec_str, h]; exact iteT hA
/-- a thing of another kind is written -/
theorem SpS.ext {bad : Addr → Prop} {C s kd D : Addr} {H : Hp} {x : Str} {rows : List Pat} {w : World} {F1 : Int → Bool} {n1 : Nat} {o : HO} (S : SpS bad C H s x rows kd) (hD : H D = some (SetO w D F1 n1)) : SpS bad C (upd H D o) s x rows kd := by
  have ne : ∀ {c : Addr} {u : HO}, H c = some u → (∀ g, u ≠ .ext g) → c ≠ D := fun {c u} e h q => by
    rw [q, hD] at e
    exact h _ (Option.some.inj e).symm
  have L : ∀ {c xs}, H c = some (.lst xs) → (upd H D o) c = some (.lst xs) := fun {c xs} e => by rw [upd_ne (ne e fun _ z => by cases z)]; exact e
  obtain ⟨dx, pl, nv, h1, h2, h3, h4⟩ := S.ob
  refine ⟨⟨dx, pl, nv, by rw [upd_ne (ne h1 fun _ z => by cases z)]; exact h1, L h2, h3, paired_imp (fun v p n => n.at (fun c xs e => by rw [upd_ne (ne e fun _ z => by cases z)]; exact e) (fun c xs _ e => L e) fun _ _ h => h) h4⟩, ?_, fun c hc => ?_, S.lr, S.lx⟩
  · obtain ⟨kvs, cs, h1, h2, h3, h4, h5⟩ := S.memo
    refine ⟨kvs, cs, by rw [upd_ne (ne h1 fun _ z => by cases z)]; exact h1, h2, h3, h4, fun i b v hv => ?_⟩
    obtain ⟨p, l, es, g1, g2, g3, g4, g5⟩ := h5 i b v hv
    exact ⟨p, l, es, g1, g2, L g3, g4, g5⟩
  · rcases S.hb c hc with ⟨xs, e⟩ | ⟨xs, e⟩
    · exact .inl ⟨xs, L e⟩
    · exact .inr ⟨xs, by rw [upd_ne (ne e fun _ z => by cases z)]; exact e⟩
section
variable {P : Program} {w : World} {K : PySem.W.Frag} {mg : Str → Option Value} {base : Heap} {f fE fA fG C : Addr} {fd gd ge : FuncData}
theorem ok_anew {d : Nat} (F : Fun K "ends_anew" "Spelling.ends_anew" sAnew f fd) (T : Txt K C fE fA fG) (G : FnOk P w K mg base CX0 (3 * d + 1) fE gd ["self", "part", "begun"] (spEndsOf C d id)) (bG : Binds K gd ["self", "part", "begun"] [])
    (GA : FnOk P w K mg base CX0 (3 * d + 2) fG ge ["self", "part", "begun"] (spEndsOf C d Pat.mo)) (bA : Binds K ge ["self", "part", "begun"] []) (ml : mg "len" = none) (mso : mg "sorted" = none) (mse : mg "set" = none) :
    FnOk P w K mg base CX0 (3 * d + 3) f fd ["self", "part", "begun"] (spEndsOf C (d + 1) id) := by
  refine F.ok scAnew (fun vs H Q E h => ?_) (fun cdv A outer s0 H vs Q E0 hr h => ?_)
  · obtain ⟨_, _, _, _, _, _, _, _, rfl, _⟩ := h
    rfl
  obtain ⟨bad, s, kd, x, rows, i, b, p, rfl, S, hp, hd, hb, q⟩ := h
  have hu := hu_of hr
  have hu64 := hr.units
  have G' := G.mono (show 3 * d + 1 ≤ 3 * d + 2 by omega)
  refine ⟨_, pss_cons (ps_asg (pe_ix ix_list (pe_fld (pv 0) rfl) (pv 1) (fun _ _ => rfl)) (pg_tup rfl (pgs_cons (pg_name (i := 3) scAnew.nd rfl (.inl rfl)) (pgs_cons (pg_name (i := 4) scAnew.nd rfl (.inl rfl)) (pgs_cons (pg_name (i := 5) scAnew.nd rfl (.inr rfl)) pgs_nil)))))
    (pss_cons (ps_if (pt_cmpR op_eq (pv 3) pe_str (nomark _)) (pss_one (ps_ret (pe_ifExp (PW.pt (pw_and (pt_cmpR op_lt (pv 2) (pe_callB call_len_str rfl ml PySem.boot_len (pa_cons (pe_fld (pv 0) rfl) pa_nil)) (nomark _)) (pw_and1 (pt_cmpR op_in_sign (pe_ix ix_str (pe_fld (pv 0) rfl) (pv 2) (fun _ _ => rfl)) (pv 4) rfl)))) (pe_lst (pa_cons (pe_op op_add (pv 2) pe_int) pa_nil)) (pe_lst pa_nil)))) pss_nil)
    (pss_cons (ps_if (pt_cmpR op_eq (pv 3) pe_str (nomark _)) (pss_one (ps_ret (pe_lst (pa_cons (pv 2) pa_nil)))) pss_nil)
    (pss_cons (ps_if (pt_cmpR op_eq (pv 3) pe_str (nomark _))
      (pss_cons (ps_set (i := 6) scAnew.nd rfl (.inl rfl) (pe_meth (pv 0) T.cl T.mE G' hr bG .nil pass0 (pa_cons (pe_ix ix_list (pv 5) pe_int (fun _ _ => rfl)) (pa_cons (pv 2) pa_nil))))
      (pss_one (ps_ret (pe_callB (cr_sortedSet rfl) rfl mso (by decide +kernel) (pa_cons (pe_sc2 (own := [("middle", 8), ("end", 9)]) (vs1 := [9]) (g := gName 8) (tt := tYes) (g1 := gName 9) (tt1 := tYes) rfl scAnew.nd (pi_list (pv 6)) (blkOk_by (N := ["self", "part", "begun", "word", "signs", "inner", "middles", "found", "middle", "end", "one"]) (sc := defScope sAnew) (by decide +kernel)) (by decide) (fun _ _ _ _ _ => pg_name (i := 8) scAnew.nd rfl (Or.inl rfl)) (fun _ _ _ _ _ => pts_nil)
        (fun _ _ _ _ _ => (show PI _ _ _ (iList K _) from pi_list (pe_meth (pv 0) T.cl T.mE G' hr bG .nil pass0 (pa_cons (pe_ix (show IxR _ (rIxL K) from ix_list) (pv 5) pe_int (fun _ _ => rfl)) (pa_cons (pv 8) pa_nil))))) (fun _ _ _ _ _ => pg_name (i := 9) scAnew.nd rfl (Or.inl rfl)) (fun _ _ _ _ _ => pts_nil) (fun _ _ _ _ _ => pv 9)) pa_nil))))) pss_nil)
    (pss_cons (ps_if (pt_cmpR op_eq (pv 3) pe_str (nomark _))
      (pss_one (ps_ret (pe_callB (cr_sortedSet rfl) rfl mso (by decide +kernel) (pa_cons (pe_sc2 (own := [("one", 10), ("end", 9)]) (vs1 := [9]) (g := gName 10) (tt := tYes) (g1 := gName 9) (tt1 := tYes) rfl scAnew.nd (pi_list (pv 5)) (blkOk_by (N := ["self", "part", "begun", "word", "signs", "inner", "middles", "found", "middle", "end", "one"]) (sc := defScope sAnew) (by decide +kernel)) (by decide) (fun _ _ _ _ _ => pg_name (i := 10) scAnew.nd rfl (Or.inl rfl)) (fun _ _ _ _ _ => pts_nil)
        (fun _ _ _ _ _ => (show PI _ _ _ (iList K _) from pi_list (pe_meth (pv 0) T.cl T.mE G' hr bG .nil pass0 (pa_cons (pv 10) (pa_cons (pv 2) pa_nil))))) (fun _ _ _ _ _ => pg_name (i := 9) scAnew.nd rfl (Or.inl rfl)) (fun _ _ _ _ _ => pts_nil) (fun _ _ _ _ _ => pv 9)) pa_nil)))) pss_nil)
    (pss_cons (ps_if (pt_cmpR op_eq (pv 3) pe_str (nomark _))
      (pss_one (ps_ret (pe_callB (cr_sortedSet rfl) rfl mso (by decide +kernel) (pa_cons (pe_callTy (cr_setI rfl) rfl mse (by decide +kernel) (pa_cons (pe_op op_cat (pe_lst (pa_cons (pv 2) pa_nil)) (pe_meth (pv 0) T.cl T.mE G' hr bG .nil pass0 (pa_cons (pe_ix ix_list (pv 5) pe_int (fun _ _ => rfl)) (pa_cons (pv 2) pa_nil)))) pa_nil)) pa_nil)))) pss_nil)
    (pss_cons (ps_set (i := 7) scAnew.nd rfl (.inl rfl) (pe_meth (pv 0) T.cl T.mG GA hr bA .nil pass0 (pa_cons (pe_ix ix_list (pv 5) pe_int (fun _ _ => rfl)) (pa_cons (pv 2) pa_nil))))
    (pss_one (ps_ret (pe_ifExp (pt_cmpR op_eq (pv 3) pe_str (nomark _)) (pv 7) (pe_callB (cr_sortedSet rfl) rfl mso (by decide +kernel) (pa_cons (pe_callTy (cr_setI rfl) rfl mse (by decide +kernel) (pa_cons (pe_op op_cat (pe_lst (pa_cons (pv 2) pa_nil)) (pv 7)) pa_nil)) pa_nil))))))))))), ?_⟩
  obtain ⟨dx, pl, nv, ho, hpl, hnb, hnd⟩ := S.ob
  obtain ⟨v, hnv, a, ib, kids, rfl, ha, hib, fwd, nib⟩ := paired_rev hnd i p hp
  have lx := S.lx
  have lt : x.cps.toList.length = x.length := len_x x
  have nb_new : ∀ {H' : Hp} {l : Addr}, SpS bad C H' s x rows kd → H' l = none → ¬ bad l := fun S' hl hbad => by
    rcases S'.hb _ hbad with ⟨xs, e⟩ | ⟨xs, e⟩ <;> (rw [hl] at e; cases e)
  have few : ∀ {es : List Int}, es.Nodup → (∀ k, k ∈ es → ∃ e : Nat, k = (e : Int) ∧ E x.cps.toList p b e) → es.length ≤ 61 := fun nd h => few_ints (n := 60) nd fun k hk => by
    obtain ⟨e, h1, h2⟩ := h k hk
    exact ⟨e, h1, by have := h2.2.1; omega⟩
  have fin : ∀ (es : List Int) (H' : Hp), SpS bad C H' s x rows kd → Keep kd H H' → es.Pairwise (· < ·) → (∀ k, k ∈ es ↔ ∃ e : Nat, k = (e : Int) ∧ E x.cps.toList p b e) → ∀ l, H' l = none → Q (.ref l) (upd H' l (.lst (es.map V.int))) := fun es H' S' K' h1 h2 l hl =>
    q l es _ upd_same ⟨h1, h2⟩ (nb_new S' hl) (S'.same (same_new hl _)) (K'.trans (Keep.of_same (same_new hl _)))
  have tail : ∀ (H2 : Hp) (es1 : List Int), SpS bad C H2 s x rows kd → Keep kd H H2 → (∀ k, k ∈ (b : Int) :: es1 ↔ ∃ e : Nat, k = (e : Int) ∧ E x.cps.toList p b e) → es1.length ≤ 61 → ∀ pp, H2 pp = none →
      rSetI K w [.ref pp] (upd H2 pp (.lst ([V.int (b : Nat)] ++ es1.map V.int))) fun y H3 => rSortedSet w [y] H3 Q := fun H2 es1 S2 K2 hm hl pp hpp => by
    refine ⟨pp, (b : Int) :: es1, rfl, SqL.of upd_same, (by rw [List.length_cons]; unfold scanBound; omega), fun p2 hp2 => ?_⟩
    have s1 := same_new hpp (.lst ([V.int (b : Nat)] ++ es1.map V.int))
    have s2 := same_new hp2 (SetO w p2 (fun k => decide (k ∈ Ty.gather [] ((b : Int) :: es1))) (Ty.gather [] ((b : Int) :: es1)).length)
    have S3 := (S2.same s1).same s2
    have K3 := (K2.trans (Keep.of_same s1)).trans (Keep.of_same s2)
    refine ⟨p2, _, _, rfl, upd_same, ?_, fun ns p3 srt mem ln hp3 => fin ns _ S3 K3 srt (fun k => ?_) p3 hp3⟩
    · have := Ty.gather_len ((b : Int) :: es1) []
      rw [List.length_cons, List.length_nil] at this
      omega
    · rw [mem, decide_eq_true_eq, Ty.mem_gather, ← hm]
      simp
  refine ⟨_, rfl, s, C, dx, _, _, rfl, ho, T.cl, T.nP, fl_parts _ _ _, _, rfl, pl, nv, _, _, rfl, rfl, SqL.of hpl, atI_nat hnv, a, _, rfl, SqT.of ha, rfl, ?_⟩
  refine ⟨_, _, rfl, _, _, rfl, _, _, rfl, rfl, ?_⟩
  refine ⟨_, rfl, rfl, _, rfl, ?_⟩
  cases p with
  | sg z =>
    refine itE (by show decide (("signs" : Str) = "signs") = true; decide +kernel) ?_
    refine ⟨_, rfl, _, rfl, s, C, dx, _, _, rfl, ho, T.cl, T.nT, fl_text _ _ _, _, rfl, (by rw [sizeLine_eq]; omega), _, _, rfl, rfl, _, rfl, ?_⟩
    have none' : (∀ c, x.cps.toList[b]? = some c → c ∉ z.cps.toList) → ∀ l, H l = none → Q (.ref l) (upd H l (.lst [])) := fun h l hl => fin [] H S (Keep.of_same same_refl) .nil (fun k => ⟨(fun h => by cases h), (fun ⟨e, _, he⟩ => absurd (E_sg.mp he) (fun ⟨c, h1, h2, _⟩ => h c h1 h2))⟩) l hl
    by_cases c : b < x.length
    case neg =>
      rw [show decide (((b : Nat) : Int) < ((x.length : Nat) : Int)) = false from decide_eq_false (by omega)]
      refine iteF ?_
      refine iteF ⟨(by show 0 ≤ sizeLine; decide), fun l hl => none' (fun c' h => ?_) l hl⟩
      have := (List.getElem?_eq_some_iff.mp h).1
      omega
    rw [show decide (((b : Nat) : Int) < ((x.length : Nat) : Int)) = true from decide_eq_true (by omega)]
    refine iteT ?_
    have hat : x.cps.toList[b]? = some (x.cps.toList[b]'(by omega)) := List.getElem?_eq_getElem (by omega)
    refine ⟨_, rfl, s, C, dx, _, _, rfl, ho, T.cl, T.nT, fl_text _ _ _, _, rfl, x, _, _, rfl, rfl, (by rw [sizeLine_eq]; omega), atI_nat hat, _, rfl, _, _, rfl, rfl, _, rfl, ?_⟩
    generalize x.cps.toList[b]'(by omega) = cc at hat
    by_cases c' : cc ∈ z.cps.toList
    · rw [show decide (cc ∈ (signsP (Pat.sg z)).cps.toList) = true from decide_eq_true c']
      refine iteT ?_
      refine ⟨_, rfl, _, _, rfl, rfl, (by show 1 ≤ sizeLine; decide), fun l hl => fin [(b : Int) + 1] H S (Keep.of_same same_refl) (List.pairwise_singleton _ _) (fun k => ?_) l hl⟩
      rw [List.mem_singleton]
      constructor
      · rintro rfl
        exact ⟨b + 1, by omega, E_sg.mpr ⟨cc, hat, c', rfl⟩⟩
      · rintro ⟨e, rfl, he⟩
        obtain ⟨_, _, _, h⟩ := E_sg.mp he
        omega
    · rw [show decide (cc ∈ (signsP (Pat.sg z)).cps.toList) = false from decide_eq_false c']
      refine iteF ⟨(by show 0 ≤ sizeLine; decide), fun l hl => none' (fun c2 h => ?_) l hl⟩
      rw [hat] at h
      rw [← Option.some.inj h]; exact c'
  | em =>
    refine itW (by show decide (("empty" : Str) = "signs") = false; decide +kernel) ?_
    refine ⟨_, rfl, rfl, _, rfl, itE (by show decide (("empty" : Str) = "empty") = true; decide +kernel) ?_⟩
    refine ⟨_, rfl, (by show 1 ≤ sizeLine; decide), fun l hl => fin [(b : Int)] H S (Keep.of_same same_refl) (List.pairwise_singleton _ _) (fun k => ?_) l hl⟩
    rw [List.mem_singleton]
    constructor
    · rintro rfl
      exact ⟨b, rfl, E_em.mpr ⟨rfl, by omega⟩⟩
    · rintro ⟨e, rfl, he⟩
      rw [(E_em.mp he).1]
  | th p1 p2 =>
    have hd1 : deepP p1 ≤ d := by unfold deepP at hd; omega
    have hd2 : deepP p2 ≤ d := by unfold deepP at hd; omega
    refine itW (by show decide (("then" : Str) = "signs") = false; decide +kernel) ?_
    refine ⟨_, rfl, rfl, _, rfl, itW (by show decide (("then" : Str) = "empty") = false; decide +kernel) ?_⟩
    refine ⟨_, rfl, rfl, _, rfl, itE (by show decide (("then" : Str) = "then") = true; decide +kernel) ?_⟩
    obtain ⟨k1, k2, hk1, hk2, rfl⟩ : ∃ k1 k2, rows[k1]? = some p1 ∧ rows[k2]? = some p2 ∧ kids = [k1, k2] := by
      cases fwd with
      | cons h t =>
        cases t with
        | cons h' t => cases t; exact ⟨_, _, h, h', rfl⟩
    obtain ⟨kvs0, hkd⟩ := S.kd
    refine ⟨_, rfl, s, dx, _, rfl, ho, fl_ends _ _ _, _, rfl, ib, _, _, _, rfl, rfl, SqL.of hib, at_zero, _, rfl, bad, s, kd, x, rows, k1, b, p1, rfl, S, hk1, hd1, hb, fun l1 es1 H1 hl1 he1 nl1 S1 K1 => ?_⟩
    refine ⟨_, rfl, l1, rfl, ⟨_, SqL.of hl1⟩, fun D hD => ?_⟩
    obtain ⟨kvs1, hkd1⟩ := S1.kd
    have Dk : D ≠ kd := fun e => by rw [e, hkd1] at hD; cases hD
    have hDH : H D = none := new_back K1 Dk hD
    have lk : ∀ {H' : Hp} {c : Addr} {xs : List V}, SpS bad C H' s x rows kd → H' c = some (.lst xs) → c ≠ kd := fun S' e q => by
      obtain ⟨_, h⟩ := S'.kd
      rw [q, h] at e; cases e
    have ldD : ∀ {H' : Hp} {c : Addr} {xs : List V} {LL : List Int}, H' c = some (.lst xs) → H' D = some (SetL w D LL) → c ≠ D := fun e e' q => by
      rw [q, e'] at e; cases e
    have sD := same_new hD (SetL w D [])
    refine sc2_ints (w := w) (K := K) (xs := es1.map V.int) (fun _ => rfl) (fun i L H' => L.Nodup ∧ H' D = some (SetL w D L) ∧ H' l1 = some (.lst (es1.map V.int)) ∧ H' ib = some (.lst (natsV [k1, k2])) ∧ SpS bad C H' s x rows kd ∧ Keep kd H H' ∧ ∀ k : Int, k ∈ L ↔ ∃ m : Nat, (m : Int) ∈ es1.take i ∧ ∃ e : Nat, k = (e : Int) ∧ E x.cps.toList p2 m e)
      ⟨.nil, upd_same, sD _ _ hl1, sD _ _ (K1 _ _ (lk S hib) hib), S1.same sD, K1.trans (Keep.of_same sD), fun k => ⟨(fun h => by cases h), (fun ⟨m, h, _⟩ => by cases h)⟩⟩ (fun i L H' h => SqL.of h.2.2.1) (fun i xv L H' hxi pv' => ?turn) (fun L H' pv' => ?done)
    case done =>
      obtain ⟨nd, eD, el, ei, S2, K2, mem⟩ := pv'
      have mem' : ∀ k, k ∈ L ↔ ∃ e : Nat, k = (e : Int) ∧ E x.cps.toList (.th p1 p2) b e := fun k => by
        rw [mem, List.length_map, List.take_length]
        constructor
        · rintro ⟨m, hm, e, rfl, he⟩
          obtain ⟨m', hm', hE⟩ := (he1.2 _).mp hm
          have : m = m' := by omega
          subst this
          exact ⟨e, rfl, E_th.mpr ⟨m, hE, he⟩⟩
        · rintro ⟨e, rfl, he⟩
          obtain ⟨m, h1, h2⟩ := E_th.mp he
          exact ⟨m, (he1.2 _).mpr ⟨m, rfl, h1⟩, e, rfl, h2⟩
      exact ⟨D, _, _, rfl, eD, Nat.lt_of_le_of_lt (few nd fun k hk => (mem' k).mp hk) (by decide), fun ns p3 srt mm ln hp3 => fin ns _ S2 K2 srt (fun k => by rw [mm, decide_eq_true_eq, mem']) p3 hp3⟩
    case turn =>
      obtain ⟨nd, eD, el, ei, S2, K2, mem⟩ := pv'
      rw [List.getElem?_map] at hxi
      obtain ⟨k, hk, rfl⟩ : ∃ k, es1[i]? = some k ∧ V.int k = xv := by
        cases e : es1[i]? with
        | none => rw [e] at hxi; cases hxi
        | some k => rw [e] at hxi; exact ⟨k, rfl, Option.some.inj hxi⟩
      obtain ⟨m, rfl, hE⟩ := (he1.2 k).mp (List.mem_of_getElem? hk)
      obtain ⟨dx2, pl2, nv2, ho2, _⟩ := S2.ob
      have hm := hE.2.1
      refine ⟨_, rfl, s, dx2, _, rfl, ho2, fl_ends _ _ _, _, rfl, ib, _, _, _, rfl, rfl, SqL.of ei, at_one, _, rfl, bad, s, kd, x, rows, k2, m, p2, rfl, S2, hk2, hd2, by omega, fun l3 es3 H3 hl3 he3 nl3 S3 K3 => ⟨l3, rfl, ⟨_, SqL.of hl3⟩, ?_⟩⟩
      have eD3 : H3 D = some (SetL w D L) := K3 _ _ Dk eD
      have lL : L.length ≤ 61 := few nd fun k hk => by
        obtain ⟨m', hm', e, rfl, he⟩ := (mem k).mp hk
        obtain ⟨m2, q2, hE2⟩ := (he1.2 _).mp (List.mem_of_mem_take hm')
        have : m' = m2 := by omega
        subst this
        exact ⟨e, rfl, E_th.mpr ⟨m', hE2, he⟩⟩
      have l3n : es3.length ≤ 61 := by have := he3.few; omega
      refine sc2_inner (fun _ => rfl) (fun v H Q h => ⟨_, rfl, h⟩) hl3 eD3 (ldD hl3 eD3) nd (by omega) (by omega) fun L' nd' mem2 => ⟨L', nd', upd_same, ?_, ?_, S3.ext eD3, (K2.trans K3).upd hDH, fun k => ?_⟩
      · have := K3 _ _ (lk S2 el) el
        rw [upd_ne (ldD this eD3)]; exact this
      · have := K3 _ _ (lk S2 ei) ei
        rw [upd_ne (ldD this eD3)]; exact this
      · have htk : es1.take (i + 1) = es1.take i ++ [(m : Int)] := by
          rw [List.take_add_one, hk]; rfl
        rw [mem2, mem, htk]
        constructor
        · rintro (⟨m', h1, h2⟩ | h)
          · exact ⟨m', List.mem_append_left _ h1, h2⟩
          · exact ⟨m, List.mem_append_right _ (List.mem_singleton_self _), (he3.2 k).mp h⟩
        · rintro ⟨m', h1, h2⟩
          rcases List.mem_append.mp h1 with h1 | h1
          · exact .inl ⟨m', h1, h2⟩
          · have h1 := List.mem_singleton.mp h1
            have : m' = m := by omega
            subst this
            exact .inr ((he3.2 k).mpr h2)
  | oo p1 p2 =>
    have hd1 : deepP p1 ≤ d := by unfold deepP at hd; omega
    have hd2 : deepP p2 ≤ d := by unfold deepP at hd; omega
    refine itW (by show decide (("or" : Str) = "signs") = false; decide +kernel) ?_
    refine ⟨_, rfl, rfl, _, rfl, itW (by show decide (("or" : Str) = "empty") = false; decide +kernel) ?_⟩
    refine ⟨_, rfl, rfl, _, rfl, itW (by show decide (("or" : Str) = "then") = false; decide +kernel) ?_⟩
    refine ⟨_, rfl, rfl, _, rfl, itE (by show decide (("or" : Str) = "or") = true; decide +kernel) ?_⟩
    obtain ⟨k1, k2, hk1, hk2, rfl⟩ : ∃ k1 k2, rows[k1]? = some p1 ∧ rows[k2]? = some p2 ∧ kids = [k1, k2] := by
      cases fwd with
      | cons h t =>
        cases t with
        | cons h' t => cases t; exact ⟨_, _, h, h', rfl⟩
    obtain ⟨kvs0, hkd⟩ := S.kd
    refine ⟨_, rfl, ib, rfl, ⟨_, SqL.of hib⟩, fun D hD => ?_⟩
    have Dk : D ≠ kd := fun e => by rw [e, hkd] at hD; cases hD
    have lk : ∀ {H' : Hp} {c : Addr} {xs : List V}, SpS bad C H' s x rows kd → H' c = some (.lst xs) → c ≠ kd := fun S' e q => by
      obtain ⟨_, h⟩ := S'.kd
      rw [q, h] at e; cases e
    have ldD : ∀ {H' : Hp} {c : Addr} {xs : List V} {LL : List Int}, H' c = some (.lst xs) → H' D = some (SetL w D LL) → c ≠ D := fun e e' q => by
      rw [q, e'] at e; cases e
    have sD := same_new hD (SetL w D [])
    refine sc2_ints (w := w) (K := K) (xs := natsV [k1, k2]) (fun _ => rfl) (fun i L H' => L.Nodup ∧ H' D = some (SetL w D L) ∧ H' ib = some (.lst (natsV [k1, k2])) ∧ SpS bad C H' s x rows kd ∧ Keep kd H H' ∧ ∀ k : Int, k ∈ L ↔ ∃ r : Pat, r ∈ [p1, p2].take i ∧ ∃ e : Nat, k = (e : Int) ∧ E x.cps.toList r b e)
      ⟨.nil, upd_same, sD _ _ hib, S.same sD, Keep.of_same sD, fun k => ⟨(fun h => by cases h), (fun ⟨m, h, _⟩ => by cases h)⟩⟩ (fun i L H' h => SqL.of h.2.2.1) (fun i xv L H' hxi pv' => ?turn) (fun L H' pv' => ?done)
    case done =>
      obtain ⟨nd, eD, ei, S2, K2, mem⟩ := pv'
      have mem' : ∀ k, k ∈ L ↔ ∃ e : Nat, k = (e : Int) ∧ E x.cps.toList (.oo p1 p2) b e := fun k => by
        rw [mem]
        constructor
        · rintro ⟨r, hr, e, rfl, he⟩
          refine ⟨e, rfl, E_oo.mpr ?_⟩
          have hr : r ∈ [p1, p2] := hr
          rcases List.mem_cons.mp hr with rfl | hr
          · exact .inl he
          · rw [List.mem_singleton.mp hr] at he
            exact .inr he
        · rintro ⟨e, rfl, he⟩
          rcases E_oo.mp he with he | he
          · exact ⟨p1, by show p1 ∈ [p1, p2]; simp, e, rfl, he⟩
          · exact ⟨p2, by show p2 ∈ [p1, p2]; simp, e, rfl, he⟩
      exact ⟨D, _, _, rfl, eD, Nat.lt_of_le_of_lt (few nd fun k hk => (mem' k).mp hk) (by decide), fun ns p3 srt mm ln hp3 => fin ns _ S2 K2 srt (fun k => by rw [mm, decide_eq_true_eq, mem']) p3 hp3⟩
    case turn =>
      obtain ⟨nd, eD, ei, S2, K2, mem⟩ := pv'
      obtain ⟨kk, r, rfl, hkk, hdr, hri⟩ : ∃ (kk : Nat) (r : Pat), V.int (kk : Nat) = xv ∧ rows[kk]? = some r ∧ deepP r ≤ d ∧ [p1, p2][i]? = some r := by
        match i, hxi with
        | 0, h => exact ⟨k1, p1, Option.some.inj h, hk1, hd1, rfl⟩
        | 1, h => exact ⟨k2, p2, Option.some.inj h, hk2, hd2, rfl⟩
        | _ + 2, h => cases h
      have hrm : r ∈ [p1, p2] := List.mem_of_getElem? hri
      have up : ∀ r', r' ∈ [p1, p2] → ∀ e, E x.cps.toList r' b e → E x.cps.toList (.oo p1 p2) b e := fun r' hr' e he => E_oo.mpr (by
        rcases List.mem_cons.mp hr' with rfl | hr'
        · exact .inl he
        · rw [List.mem_singleton.mp hr'] at he
          exact .inr he)
      obtain ⟨dx2, pl2, nv2, ho2, _⟩ := S2.ob
      refine ⟨_, rfl, s, dx2, _, rfl, ho2, fl_ends _ _ _, _, rfl, _, rfl, bad, s, kd, x, rows, kk, b, r, rfl, S2, hkk, hdr, hb, fun l3 es3 H3 hl3 he3 nl3 S3 K3 => ⟨l3, rfl, ⟨_, SqL.of hl3⟩, ?_⟩⟩
      have eD3 : H3 D = some (SetL w D L) := K3 _ _ Dk eD
      have lL : L.length ≤ 61 := few nd fun k hk => by
        obtain ⟨r', hr', e, rfl, he⟩ := (mem k).mp hk
        exact ⟨e, rfl, up r' (List.mem_of_mem_take hr') e he⟩
      have l3n : es3.length ≤ 61 := by have := he3.few; omega
      refine sc2_inner (fun _ => rfl) (fun v H Q h => ⟨_, rfl, h⟩) hl3 eD3 (ldD hl3 eD3) nd (by omega) (by omega) fun L' nd' mem2 => ⟨L', nd', upd_same, ?_, S3.ext eD3, (K2.trans K3).upd hD, fun k => ?_⟩
      · have := K3 _ _ (lk S2 ei) ei
        rw [upd_ne (ldD this eD3)]; exact this
      · have htk : [p1, p2].take (i + 1) = [p1, p2].take i ++ [r] := by
          rw [List.take_add_one, hri]; rfl
        rw [mem2, mem, htk]
        constructor
        · rintro (⟨m', h1, h2⟩ | h)
          · exact ⟨m', List.mem_append_left _ h1, h2⟩
          · exact ⟨r, List.mem_append_right _ (List.mem_singleton_self _), (he3.2 k).mp h⟩
        · rintro ⟨m', h1, h2⟩
          rcases List.mem_append.mp h1 with h1 | h1
          · exact .inl ⟨m', h1, h2⟩
          · rw [List.mem_singleton.mp h1] at h2
            exact .inr ((he3.2 k).mpr h2)
  | mb p1 =>
    have hd1 : deepP p1 ≤ d := by unfold deepP at hd; omega
    obtain ⟨k1, hk1, rfl⟩ : ∃ k1, rows[k1]? = some p1 ∧ kids = [k1] := by
      cases fwd with
      | cons h t => cases t; exact ⟨_, h, rfl⟩
    refine itW (by show decide (("maybe" : Str) = "signs") = false; decide +kernel) ?_
    refine ⟨_, rfl, rfl, _, rfl, itW (by show decide (("maybe" : Str) = "empty") = false; decide +kernel) ?_⟩
    refine ⟨_, rfl, rfl, _, rfl, itW (by show decide (("maybe" : Str) = "then") = false; decide +kernel) ?_⟩
    refine ⟨_, rfl, rfl, _, rfl, itW (by show decide (("maybe" : Str) = "or") = false; decide +kernel) ?_⟩
    refine ⟨_, rfl, rfl, _, rfl, itE (by show decide (("maybe" : Str) = "maybe") = true; decide +kernel) ?_⟩
    refine ⟨_, rfl, (by show 1 ≤ sizeLine; decide), fun b1 hb1 => ?_⟩
    have s1 := same_new hb1 (.lst [V.int (b : Nat)])
    refine ⟨_, rfl, s, dx, _, rfl, s1 _ _ ho, fl_ends _ _ _, _, rfl, ib, _, _, _, rfl, rfl, SqL.of (s1 _ _ hib), at_zero, _, rfl, bad, s, kd, x, rows, k1, b, p1, rfl, S.same s1, hk1, hd1, hb, fun l1 es1 H1 hl1 he1 nl1 S1 K1 => ?_⟩
    obtain ⟨kvs, hkd⟩ := S.kd
    refine ⟨b1, l1, _, _, rfl, rfl, K1 _ _ (fun e => by rw [e, hkd] at hb1; cases hb1) upd_same, hl1, (by rw [List.length_map, sizeLine_eq]; have := he1.few; show 1 + _ ≤ _; omega), fun pp hpp => tail H1 es1 S1 ((Keep.of_same s1).trans K1) (fun k => ?_) (by have := he1.few; omega) pp hpp⟩
    rw [List.mem_cons, he1.2]
    constructor
    · rintro (rfl | ⟨e, rfl, he⟩)
      · exact ⟨b, rfl, E_mb.mpr (.inl ⟨rfl, by omega⟩)⟩
      · exact ⟨e, rfl, E_mb.mpr (.inr he)⟩
    · rintro ⟨e, rfl, he⟩
      rcases E_mb.mp he with ⟨rfl, _⟩ | h
      · exact .inl rfl
      · exact .inr ⟨e, rfl, h⟩
  | ag p1 =>
    have hd1 : deepP p1 ≤ d := by unfold deepP at hd; omega
    obtain ⟨k1, hk1, rfl⟩ : ∃ k1, rows[k1]? = some p1 ∧ kids = [k1] := by
      cases fwd with
      | cons h t => cases t; exact ⟨_, h, rfl⟩
    refine itW (by show decide (("again" : Str) = "signs") = false; decide +kernel) ?_
    refine ⟨_, rfl, rfl, _, rfl, itW (by show decide (("again" : Str) = "empty") = false; decide +kernel) ?_⟩
    refine ⟨_, rfl, rfl, _, rfl, itW (by show decide (("again" : Str) = "then") = false; decide +kernel) ?_⟩
    refine ⟨_, rfl, rfl, _, rfl, itW (by show decide (("again" : Str) = "or") = false; decide +kernel) ?_⟩
    refine ⟨_, rfl, rfl, _, rfl, itW (by show decide (("again" : Str) = "maybe") = false; decide +kernel) ?_⟩
    refine ⟨_, rfl, s, dx, _, rfl, ho, fl_again _ _ _, _, rfl, ib, _, _, _, rfl, rfl, SqL.of hib, at_zero, _, rfl, bad, s, kd, x, rows, k1, b, p1, rfl, S, hk1, hd1, hb, fun l1 es1 H1 hl1 he1 nl1 S1 K1 => ?_⟩
    refine ⟨_, rfl, rfl, _, rfl, itW (by show decide (("again" : Str) = "more") = false; decide +kernel) ?_⟩
    refine ⟨_, rfl, (by show 1 ≤ sizeLine; decide), fun b1 hb1 => ?_⟩
    have s1 := same_new hb1 (.lst [V.int (b : Nat)])
    refine ⟨_, rfl, b1, l1, _, _, rfl, rfl, upd_same, s1 _ _ hl1, (by rw [List.length_map, sizeLine_eq]; have := he1.few; show 1 + _ ≤ _; omega), fun pp hpp => tail _ es1 (S1.same s1) (K1.trans (Keep.of_same s1)) (fun k => ?_) (by have := he1.few; omega) pp hpp⟩
    rw [List.mem_cons, he1.2]
    constructor
    · rintro (rfl | ⟨e, rfl, he⟩)
      · exact ⟨b, rfl, E_ag.mpr (.inl ⟨rfl, by omega⟩)⟩
      · exact ⟨e, rfl, E_ag.mpr (.inr he)⟩
    · rintro ⟨e, rfl, he⟩
      rcases E_ag.mp he with ⟨rfl, _⟩ | h
      · exact .inl rfl
      · exact .inr ⟨e, rfl, h⟩
  | mo p1 =>
    have hd1 : deepP p1 ≤ d := by unfold deepP at hd; omega
    obtain ⟨k1, hk1, rfl⟩ : ∃ k1, rows[k1]? = some p1 ∧ kids = [k1] := by
      cases fwd with
      | cons h t => cases t; exact ⟨_, h, rfl⟩
    refine itW (by show decide (("more" : Str) = "signs") = false; decide +kernel) ?_
    refine ⟨_, rfl, rfl, _, rfl, itW (by show decide (("more" : Str) = "empty") = false; decide +kernel) ?_⟩
    refine ⟨_, rfl, rfl, _, rfl, itW (by show decide (("more" : Str) = "then") = false; decide +kernel) ?_⟩
    refine ⟨_, rfl, rfl, _, rfl, itW (by show decide (("more" : Str) = "or") = false; decide +kernel) ?_⟩
    refine ⟨_, rfl, rfl, _, rfl, itW (by show decide (("more" : Str) = "maybe") = false; decide +kernel) ?_⟩
    refine ⟨_, rfl, s, dx, _, rfl, ho, fl_again _ _ _, _, rfl, ib, _, _, _, rfl, rfl, SqL.of hib, at_zero, _, rfl, bad, s, kd, x, rows, k1, b, p1, rfl, S, hk1, hd1, hb, fun l1 es1 H1 hl1 he1 nl1 S1 K1 => ?_⟩
    exact ⟨_, rfl, rfl, _, rfl, itE (by show decide (("more" : Str) = "more") = true; decide +kernel) ⟨_, rfl, q l1 es1 H1 hl1 he1 nl1 S1 K1⟩⟩
end
end Pa
set_option maxHeartbeats 4000000
namespace Pa
open PySem PySem.Spec PyProof.Rows L2 Ty
abbrev nobad : Addr → Prop := fun _ => False
def spInit (C : Addr) : Sp := fun vs H Q _ => ∃ (s dx : Addr) (v : V) (x : Str) (p : Pat), vs = [.ref s, v, .str x] ∧ H s = some (.ins C dx []) ∧ RP H p v ∧ sizeP p ≤ 1000 ∧ x.length ≤ 60 ∧
  ∀ kd rows H', SpS nobad C H' s x rows kd → rows[0]? = some p → H kd = none → (∀ b o, H b = some o → b ≠ s → H' b = some o) → Q .non H'
theorem scInit : FnScope ["self", "pattern", "text"] ["self", "pattern", "text"] (defScope sInit) := ⟨rfl, rfl, rfl, by decide +kernel, rfl, by decide +kernel, by decide +kernel⟩
section
variable {P : Program} {w : World} {K : PySem.W.Frag} {mg : Str → Option Value} {base : Heap} {f fE fA fG C fT fI : Addr} {fd ft fdE fdA fdG fdI : FuncData}
theorem ok_init (F : Fun K "__init__" "Spelling.__init__" sInit f fd) (T : Txt K C fE fA fG) (GT : FnOk P w K mg base CX0 1 fT ft ["pattern"] spTold) (bT : Binds K ft ["pattern"] []) (kT : PySem.W.keepIn K (.ref fT) = true) (mT : mg "parts_told" = some (.ref fT)) :
    FnOk P w K mg base CX0 2 f fd ["self", "pattern", "text"] (spInit C) := by
  refine F.ok scInit (fun vs H Q E h => ?_) (fun cdv A outer s0 H vs Q E0 hr h => ?_)
  · obtain ⟨_, _, _, _, _, rfl, _⟩ := h
    rfl
  obtain ⟨s, dx, v, x, p, rfl, hs, rp, hz, lx, q⟩ := h
  refine ⟨_, pss_cons (ps_fld (pv 0) (pe_call GT hr rfl mT kT bT .nil pass0 (pa_cons (pv 1) pa_nil)) rfl) (pss_cons (ps_fld (pv 0) (pv 2) rfl) (pss_one (ps_fld (pv 0) pe_dnewT rfl))), ?_⟩
  refine ⟨_, rfl, v, p, rfl, rp, hz, fun fl nv rows H1 hfl sm efl hnd h0 lr => ?_⟩
  refine ⟨_, rfl, s, C, dx, [], rfl, sm _ _ hs, T.cl, T.nP, (by show 0 < 1000; decide), ?_⟩
  refine ⟨_, rfl, _, rfl, s, C, dx, _, rfl, upd_same, T.cl, T.nT, (by show 1 < 1000; decide), fun kd hkd => ?_⟩
  have hkd0 : kd ≠ s := fun e => by rw [e, upd_same] at hkd; cases hkd
  rw [upd_ne hkd0, upd_ne hkd0] at hkd
  have ks : s ≠ kd := Ne.symm hkd0
  refine ⟨_, rfl, s, C, dx, _, rfl, (by rw [upd_ne ks]; exact upd_same), T.cl, T.nK, (by show 2 < 1000; decide), ?_⟩
  have hkH : H kd = none := by
    cases e : H kd with
    | none => rfl
    | some o => rw [sm _ _ e] at hkd; cases hkd
  have up : ∀ c o, H1 c = some o → c ≠ s → (upd (upd (upd (upd H1 s (.ins C dx (putF "parts" (.ref fl) []))) s (.ins C dx (putF "text" (.str x) (putF "parts" (.ref fl) [])))) kd (.dT [])) s (.ins C dx (flds fl x kd))) c = some o := fun c o e n => by
    have nk : c ≠ kd := fun q => by rw [q, hkd] at e; cases e
    rw [upd_ne n, upd_ne nk, upd_ne n, upd_ne n]; exact e
  have sH1 : H1 s = some (.ins C dx []) := sm _ _ hs
  have ns : ∀ {c xs}, H1 c = some (.lst xs) → c ≠ s := fun {c xs} e q => by rw [q, sH1] at e; cases e
  have nst : ∀ {c xs}, H1 c = some (.tup xs) → c ≠ s := fun {c xs} e q => by rw [q, sH1] at e; cases e
  refine q kd rows _ ⟨⟨dx, fl, nv, upd_same, up _ _ efl (ns efl), fun h => h, paired_imp (fun v p n => ?_) hnd⟩, ⟨[], [], by rw [upd_ne hkd0]; exact upd_same, rfl, .nil, (fun c h => by cases h), fun i b v h => by cases h⟩, (fun c h => h.elim), lr, lx⟩ h0 hkH fun b o e n => up _ _ (sm _ _ e) n
  exact (n.mono (ne' := fun _ => True) fun _ _ => trivial).at (fun c xs e => up _ _ e (nst e)) (fun c xs _ e => up _ _ e (ns e)) (fun _ _ h => h) |>.mono fun _ _ h => h
/-- the three methods, by depth -/
theorem ends_all (F1 : Fun K "ends" "Spelling.ends" sEnds fE fdE) (F2 : Fun K "ends_anew" "Spelling.ends_anew" sAnew fA fdA) (F3 : Fun K "again_ends" "Spelling.again_ends" sAgain fG fdG) (T : Txt K C fE fA fG)
    (b1 : Binds K fdE ["self", "part", "begun"] []) (b2 : Binds K fdA ["self", "part", "begun"] []) (b3 : Binds K fdG ["self", "part", "begun"] []) (ml : mg "len" = none) (mso : mg "sorted" = none) (mse : mg "set" = none) :
    ∀ d, FnOk P w K mg base CX0 (3 * d + 1) fE fdE ["self", "part", "begun"] (spEndsOf C d id)
  | 0 => ends_zero
  | d + 1 => by
    have ih := ends_all F1 F2 F3 T b1 b2 b3 ml mso mse d
    have g := ok_again F3 T ih b1 mso
    have a := ok_anew F2 T ih b1 g b3 ml mso mse
    exact ok_ends F1 T a b2
/-- what the def told spells: L as a Boolean -/
def spSpells (D : Nat) : Sp := fun vs H Q _ => ∃ (v : V) (x : Str) (p : Pat), vs = [v, .str x] ∧ RP H p v ∧ sizeP p ≤ 1000 ∧ deepP p ≤ D ∧ x.length ≤ 60 ∧ ∀ (b : Bool) H', (b = true ↔ L p x.cps.toList) → Same H H' → Q (.bl b) H'
theorem scSpells : FnScope ["pattern", "text"] ["pattern", "text"] (defScope sSpells) := ⟨rfl, rfl, rfl, by decide +kernel, rfl, by decide +kernel, by decide +kernel⟩
theorem in_ints (n : Int) : ∀ es : List Int, inV (.int n) (es.map V.int) = decide (n ∈ es)
  | [] => rfl
  | e :: es => by
    have ih := in_ints n es
    unfold inV at ih ⊢
    rw [List.map_cons, List.any_cons, ih]
    show (eqV (.int e) (.int n) || _) = _
    have : eqV (.int e) (.int n) = decide (n = e) := by
      show (e == n) = _
      rw [Bool.eq_iff_iff, beq_iff_eq, decide_eq_true_eq]
      exact eq_comm
    rw [this, Bool.eq_iff_iff]
    simp [List.mem_cons]
theorem flat_ints : ∀ es : List Int, (es.map V.int).all flatV = true
  | [] => rfl
  | _ :: es => flat_ints es
theorem keep_fresh {j : Addr} {H H1 H2 : Hp} (s : Same H H1) (k : Keep j H1 H2) (n : H j = none) : Same H H2 := fun c o e => k c o (fun q => by rw [q, n] at e; cases e) (s c o e)
theorem ok_spells {D : Nat} (hD : 1 ≤ D) (F : Fun K "spells" "spells" sSpells f fd) (T : Txt K C fE fA fG) (M : Mk K C fI) (mC : mg "Spelling" = some (.ref C)) (GI : FnOk P w K mg base CX0 2 fI fdI ["self", "pattern", "text"] (spInit C)) (bI : Binds K fdI ["self", "pattern", "text"] [])
    (GE : FnOk P w K mg base CX0 (3 * D + 1) fE fdE ["self", "part", "begun"] (spEndsOf C D id)) (bE : Binds K fdE ["self", "part", "begun"] []) (ml : mg "len" = none) : FnOk P w K mg base CX0 (3 * D + 2) f fd ["pattern", "text"] (spSpells D) := by
  refine F.ok scSpells (fun vs H Q E h => ?_) (fun cdv A outer s0 H vs Q E0 hr h => ?_)
  · obtain ⟨_, _, _, rfl, _⟩ := h
    rfl
  obtain ⟨v, x, p, rfl, rp, hz, hd, lx, q⟩ := h
  refine ⟨_, pss_one (ps_ret (pe_cmpR op_in_seq (pe_callB call_len_str rfl ml PySem.boot_len (pa_cons (pv 1) pa_nil)) (pe_meth (pe_make M GI (hr.mono (by omega)) rfl mC bI .nil pass0 (pa_cons (pv 0) (pa_cons (pv 1) pa_nil))) T.cl T.mE GE hr bE .nil pass0 (pa_cons pe_int (pa_cons pe_int pa_nil))) rfl)), ?_⟩
  refine ⟨_, rfl, _, rfl, (by rw [sizeLine_eq]; omega), _, rfl, _, rfl, fun s dx hs hdx ne => ?_⟩
  have sm : Same H (upd (upd H dx (.own s)) s (.ins C dx [])) := fun b o e => by
    rw [upd_ne (ne_of_none e hs), upd_ne (ne_of_none e hdx)]; exact e
  refine ⟨s, dx, v, x, p, rfl, upd_same, rp.tk (Tk.of_same sm), hz, lx, fun kd rows H1 S h0 hkd kp => ⟨rfl, ?_⟩⟩
  obtain ⟨dx1, pl, nv, ho, _⟩ := S.ob
  refine ⟨s, dx1, _, rfl, ho, fl_ends _ _ _, nobad, s, kd, x, rows, 0, 0, p, rfl, S, h0, hd, Nat.zero_le _, fun l es H2 hl he nl S2 K2 => ?_⟩
  have hkH : H kd = none := by
    cases e : H kd with
    | none => rfl
    | some o => rw [sm _ _ e] at hkd; cases hkd
  have s1 : Same H H1 := fun c o e => kp c o (sm c o e) (ne_of_none e hs)
  refine ⟨l, _, rfl, .inl (SqL.of hl), rfl, flat_ints es, ?_⟩
  show Q (.bl (inV _ _)) H2
  rw [in_ints]
  refine q _ H2 ?_ (keep_fresh s1 K2 hkH)
  rw [decide_eq_true_eq, he.2]
  have hl2 : x.cps.toList.length = x.length := len_x x
  constructor
  · rintro ⟨e, e1, e2⟩
    have : e = x.cps.toList.length := by omega
    rw [this] at e2
    exact E_all.mp e2
  · intro h
    exact ⟨x.length, rfl, by rw [← hl2]; exact E_all.mpr h⟩
def spNone (D : Nat) : Sp := fun vs H Q _ => ∃ (v : V) (p : Pat), vs = [v] ∧ RP H p v ∧ sizeP p ≤ 1000 ∧ deepP p ≤ D ∧ ∀ (b : Bool) H', (b = true ↔ L p []) → Same H H' → Q (.bl b) H'
theorem scNone : FnScope ["pattern"] ["pattern"] (defScope sNone) := ⟨rfl, rfl, rfl, by decide +kernel, rfl, by decide +kernel, by decide +kernel⟩
theorem ok_none {D : Nat} (F : Fun K "spells_none" "spells_none" sNone f fd) (G : FnOk P w K mg base CX0 (3 * D + 2) fE fdE ["pattern", "text"] (spSpells D)) (bG : Binds K fdE ["pattern", "text"] []) (kG : PySem.W.keepIn K (.ref fE) = true) (mG : mg "spells" = some (.ref fE)) :
    FnOk P w K mg base CX0 (3 * D + 3) f fd ["pattern"] (spNone D) := by
  refine F.ok scNone (fun vs H Q E h => ?_) (fun cdv A outer s0 H vs Q E0 hr h => ?_)
  · obtain ⟨_, _, rfl, _⟩ := h
    rfl
  obtain ⟨v, p, rfl, rp, hz, hd, q⟩ := h
  refine ⟨_, pss_one (ps_ret (pe_call G hr rfl mG kG bG .nil pass0 (pa_cons (pv 0) (pa_cons pe_str pa_nil)))), ?_⟩
  exact ⟨_, rfl, v, _, p, rfl, rp, hz, hd, (by decide +kernel), fun b H' hb s' => q b H' (by rw [hb]; rfl) s'⟩
end
end Pa
set_option maxHeartbeats 2000000
namespace Pa
open PySem PySem.Spec PyProof.Rows L2 Ty
/-! ### the law's draws (as k01's) -/
theorem scDrawn : FnScope ["jar", "many", "digit", "mixed"] ["jar", "many"] (defScope lDrawn) := ⟨rfl, rfl, rfl, by decide +kernel, rfl, by decide +kernel, by decide +kernel⟩
theorem scPurse : FnScope ["script", "k", "cell"] ["script", "k"] (defScope lPurse) := ⟨rfl, rfl, rfl, by decide +kernel, rfl, by decide +kernel, by decide +kernel⟩
def spDrawn : Sp := fun vs H Q _ => ∃ (j : Addr) (C : Nat) (m : Int), vs = [.ref j, .int m] ∧ Jar j H C ∧ C ≤ 1000000000 ∧ 0 < m ∧ m < 1000000 ∧
  ∀ (r : Int) (H' : Hp), 0 ≤ r → r < m → Jar j H' (C + 1) → Keep j H H' → Q (.int r) H'
def spPurse (K : PySem.W.Frag) : Sp := fun vs H Q _ => ∃ (a : Addr) (ns : List Int) (k : Int), vs = [.ref a, .int k] ∧ SqL K H a (ns.map V.int) ∧ ns.length ≤ sizeLine ∧ 0 ≤ k ∧ k < 1000 ∧
  ∀ (j : Addr) (H' : Hp), H j = none → Same H H' → Jar j H' 0 → Q (.ref j) H'
section
variable {P : Program} {w : World} {K : PySem.W.Frag} {mg : Str → Option Value} {base : Heap} {f : Addr} {fd : FuncData}
theorem ok_drawn (F : Fun K "_law_dip" "_law_dip" lDrawn f fd) : FnOk P w K mg base CX0 1 f fd ["jar", "many"] spDrawn := by
  refine F.ok scDrawn (fun vs H Q E h => ?_) (fun cdv A outer s H vs Q E hr h => ?_)
  · obtain ⟨j, C, m, rfl, _⟩ := h
    rfl
  obtain ⟨j, C, m, rfl, ⟨a, b, c, hj, hb, hc0, hc⟩, hC, m0, m1, q⟩ := h
  have jx : ∀ {X : Cx}, IxR X (rIxL X.K) := fun {X} => ix_list
  refine ⟨_, pss_cons (ps_if (pt_cmpR op_gt (pe_ix ix_list (pv 0) pe_int (fun _ _ => rfl)) pe_int (nomark _))
      (pss_cons (ps_set (i := 2) scDrawn.nd rfl (.inl rfl) (pe_op op_mod (pe_ix ix_list (pv 0) pe_int (fun _ _ => rfl)) (pv 1)))
        (pss_cons (ps_asg (pe_op op_fdivN (pe_ix ix_list (pv 0) pe_int (fun _ _ => rfl)) (pv 1)) (pg_sub (pv 0) pe_int set_list))
          (pss_one (ps_ret (pv 2))))) pss_nil)
    (pss_cons (ps_asg (pe_op op_add (pe_ix ix_list (pv 0) pe_int (fun _ _ => rfl)) pe_int) (pg_sub (pv 0) pe_int set_list))
    (pss_cons (ps_set (i := 3) scDrawn.nd rfl (.inl rfl) (pe_op op_mod (pe_op op_powW (pe_op op_add (pe_ix ix_list (pv 0) pe_int (fun _ _ => rfl)) (pe_op op_mul pe_int (pe_ix ix_list (pv 0) pe_int (fun _ _ => rfl)))) pe_int) pe_int))
    (pss_cons (ps_set (i := 3) scDrawn.nd rfl (.inl rfl) (pe_op op_mod (pe_op op_powW (pe_op op_add (pv 3) (pe_op op_mul pe_int (pe_ix ix_list (pv 0) pe_int (fun _ _ => rfl)))) pe_int) pe_int))
    (pss_one (ps_ret (pe_op op_mod (pe_op op_fdivN (pv 3) pe_int) (pv 1))))))), ?_⟩
  have e0 : ∀ (x y z : V), atI [x, y, z] 0 = some x := fun _ _ _ => rfl
  have e1 : ∀ (x y z : V), atI [x, y, z] 1 = some y := fun _ _ _ => rfl
  have e2 : ∀ (x y z : V), atI [x, y, z] 2 = some z := fun _ _ _ => rfl
  refine ⟨_, rfl, j, _, _, _, rfl, rfl, SqL.of hj, e0 _ _ _, _, _, rfl, rfl, _, rfl, ?_⟩
  refine ite2 (fun g => ?_) (fun g => ?_)
  · refine ⟨_, rfl, j, _, _, _, rfl, rfl, SqL.of hj, e0 _ _ _, _, rfl, _, _, rfl, rfl, m0, ?_⟩
    refine ⟨_, rfl, j, _, _, _, rfl, rfl, SqL.of hj, e0 _ _ _, _, rfl, _, _, rfl, rfl, ⟨by omega, by omega⟩, ?_⟩
    refine ⟨_, rfl, j, _, _, 0, rfl, rfl, hj, rfl, ?_⟩
    refine ⟨_, rfl, q _ _ (Int.emod_nonneg _ (by omega)) (Int.emod_lt_of_pos _ m0) ?_ (keep_jar _)⟩
    exact ⟨_, b, c, upd_same, hb, hc0, by omega⟩
  · refine ⟨_, rfl, j, _, _, _, rfl, rfl, SqL.of hj, e2 _ _ _, _, _, rfl, rfl, ?_⟩
    refine ⟨_, rfl, j, _, _, 2, rfl, rfl, hj, rfl, ?_⟩
    have hj2 : (upd H j (.lst [.int a, .int b, .int (c + 1)])) j = some (.lst [.int a, .int b, .int (c + 1)]) := upd_same
    refine ⟨_, rfl, j, _, _, _, rfl, rfl, SqL.of hj2, e1 _ _ _, _, rfl, j, _, _, _, rfl, rfl, SqL.of hj2, e2 _ _ _, _, _, rfl, rfl, .inl ⟨by decide, by decide⟩, _, _, rfl, rfl, ?_⟩
    have hp1 : (b + 104729 * (c + 1)).natAbs < 2 ^ 200 := by
      have : (2 : Nat) ^ 100 + 104729 * 1000000001 < 2 ^ 200 := by decide
      omega
    refine ⟨_, _, rfl, rfl, powW_of hp1 (by decide) (k := 3) (by decide), _, _, rfl, rfl, (show (0 : Int) < 618970019642690137449562111 by decide), ?_⟩
    have hm1 : ∀ x : Int, (x % 618970019642690137449562111).natAbs < 2 ^ 100 := fun x => by
      have h1 := Int.emod_nonneg x (b := 618970019642690137449562111) (by decide)
      have h2 := Int.emod_lt_of_pos x (b := 618970019642690137449562111) (by decide)
      have : (2 : Nat) ^ 100 = 1267650600228229401496703205376 := by decide
      omega
    refine ⟨_, rfl, _, rfl, j, _, _, _, rfl, rfl, SqL.of hj2, e2 _ _ _, _, _, rfl, rfl, .inl ⟨by decide, by decide⟩, _, _, rfl, rfl, ?_⟩
    refine ⟨_, _, rfl, rfl, powW_of (n := 200) ?_ (by decide) (k := 5) (by decide), _, _, rfl, rfl, (show (0 : Int) < 162259276829213363391578010288127 by decide), ?_⟩
    · have := hm1 ((b + 104729 * (c + 1)) ^ (3 : Int).toNat)
      have : (2 : Nat) ^ 100 + 15485863 * 1000000001 < 2 ^ 200 := by decide
      omega
    refine ⟨_, rfl, _, _, rfl, rfl, ⟨by decide, by decide⟩, _, rfl, _, _, rfl, rfl, m0, ?_⟩
    exact q _ _ (Int.emod_nonneg _ (by omega)) (Int.emod_lt_of_pos _ m0) ⟨a, b, c + 1, upd_same, hb, by omega, by omega⟩ (keep_jar _)
end
section
variable {P : Program} {w : World} {K : PySem.W.Frag} {mg : Str → Option Value} {base : Heap} {f g e : Addr} {fd gd ed : FuncData}
theorem ok_purse (F : Fun K "_law_jar" "_law_jar" lPurse f fd) (ml : mg "len" = none) (mm : mg "max" = none) : FnOk P w K mg base CX0 1 f fd ["script", "k"] (spPurse K) := by
  refine F.ok scPurse (fun vs H Q E h => ?_) (fun cdv A outer s H vs Q E hr h => ?_)
  · obtain ⟨a, ns, k, rfl, _⟩ := h
    rfl
  obtain ⟨a, ns, k, rfl, hS, hl, k0, k1, q⟩ := h
  refine ⟨_, pss_cons (ps_set (i := 2) scPurse.nd rfl (.inl rfl) pe_int)
    (pss_cons (ps_if (pt_cmpR op_lt (pv 1) (pe_callB call_len_seq rfl ml PySem.boot_len (pa_cons (pv 0) pa_nil)) (nomark _)) (pss_one (ps_set (i := 2) scPurse.nd rfl (.inl rfl) (pe_ix ix_list (pv 0) (pv 1) (fun _ _ => rfl)))) pss_nil)
    (pss_one (ps_ret (pe_lst (pa_cons (pe_callB (call_max2 rfl) rfl mm (by decide +kernel) (pa_cons pe_int (pa_cons (pe_op op_sub (pv 2) (pe_op op_pow pe_int pe_int)) pa_nil)))
      (pa_cons (pe_op op_add (pe_op op_mod (pv 2) pe_int) (pe_op op_mul pe_int (pv 1))) (pa_cons pe_int pa_nil))))))), ?_⟩
  refine ⟨_, rfl, _, rfl, a, _, rfl, .inl hS, _, _, rfl, rfl, _, rfl, ?_⟩
  have fin : ∀ (z : Int) (p : Addr), H p = none → ∀ u : Int, Q (.ref p) (upd H p (.lst [.int u, .int (z % 618970019642690137449562111 + 7919 * k), .int 0])) := fun z p hp u => by
    refine q p _ hp (same_new hp _) ⟨_, _, _, upd_same, ?_, Int.le_refl 0, Int.le_refl 0⟩
    have h1 := Int.emod_nonneg z (b := 618970019642690137449562111) (by decide)
    have h2 := Int.emod_lt_of_pos z (b := 618970019642690137449562111) (by decide)
    have h3 : (2 : Nat) ^ 100 = 1267650600228229401496703205376 := by decide
    omega
  refine ite2 (fun c => ?_) (fun c => ?_)
  · have c' : k < (((ns.map V.int).length : Nat) : Int) := of_decide_eq_true c
    obtain ⟨x, hx1, hx2⟩ := at_in (l := ns.map V.int) k0 c'
    obtain ⟨z, _, rfl⟩ : ∃ z, ns[k.toNat]? = some z ∧ V.int z = x := by
      rw [List.getElem?_map] at hx2
      cases e : ns[k.toNat]? with
      | none => rw [e] at hx2; cases hx2
      | some z => rw [e] at hx2; exact ⟨z, rfl, by injection hx2⟩
    refine ⟨_, rfl, _, rfl, a, _, _, _, rfl, rfl, hS, hx1, ?_⟩
    exact ⟨_, rfl, _, _, rfl, rfl, ⟨by decide, by decide, by decide⟩, _, _, rfl, rfl, _, _, rfl, _, rfl, _, _, rfl, rfl, (show (0 : Int) < 618970019642690137449562111 by decide), _, rfl, _, _, rfl, rfl, .inl ⟨by decide, by decide⟩, _, _, rfl, rfl, (by show 3 ≤ sizeLine; decide), fun p hp => fin z p hp _⟩
  · exact ⟨_, rfl, _, _, rfl, rfl, ⟨by decide, by decide, by decide⟩, _, _, rfl, rfl, _, _, rfl, _, rfl, _, _, rfl, rfl, (show (0 : Int) < 618970019642690137449562111 by decide), _, rfl, _, _, rfl, rfl, .inl ⟨by decide, by decide⟩, _, _, rfl, rfl, (by show 3 ≤ sizeLine; decide), fun p hp => fin 0 p hp _⟩
end
end Pa
set_option maxHeartbeats 2000000
namespace Pa
open PySem PySem.Spec PyProof.Rows L2 Ty
theorem at_two {α : Type} {x y z : α} {xs : List α} : atI (x :: y :: z :: xs) 2 = some z := atI_nat (j := 2) rfl
theorem cut_no {n : Nat} : ¬ (HT.sIx (n + 1) 0 (some 1) = 0 ∧ HT.sIx (n + 1) (n + 1) none = n + 1) := by
  rw [sIx_one]
  exact fun h => absurd h.1 (by decide)
theorem deep_part {p q : Pat} (h : q ∈ partsP p) : deepP q + 1 ≤ deepP p := by
  cases p with
  | sg _ => cases h
  | em => cases h
  | th a b =>
    show _ ≤ max (deepP a) (deepP b) + 1
    rcases List.mem_cons.mp h with e | h
    · rw [e]; omega
    · rw [List.mem_singleton.mp h]; omega
  | oo a b =>
    show _ ≤ max (deepP a) (deepP b) + 1
    rcases List.mem_cons.mp h with e | h
    · rw [e]; omega
    · rw [List.mem_singleton.mp h]; omega
  | ag a => rw [List.mem_singleton.mp h]; exact Nat.le_refl _
  | mo a => rw [List.mem_singleton.mp h]; exact Nat.le_refl _
  | mb a => rw [List.mem_singleton.mp h]; exact Nat.le_refl _
/-- how many texts of signs a pattern holds -/
def cntP : Pat → Nat
  | .sg _ => 1
  | .em => 0
  | .th a b => cntP a + cntP b
  | .oo a b => cntP a + cntP b
  | .ag a => cntP a
  | .mo a => cntP a
  | .mb a => cntP a
def cntI (p : Pat) : Int := (cntP p : Nat)
theorem cnt_parts (p : Pat) (h : wordP p ≠ "signs") : cntI p = ((partsP p).map cntI).sum := by
  cases p with
  | sg x => exact absurd rfl h
  | em => rfl
  | th a b => show ((cntP a + cntP b : Nat) : Int) = (cntP a : Nat) + ((cntP b : Nat) + 0); omega
  | oo a b => show ((cntP a + cntP b : Nat) : Int) = (cntP a : Nat) + ((cntP b : Nat) + 0); omega
  | ag a => show ((cntP a : Nat) : Int) = (cntP a : Nat) + 0; omega
  | mo a => show ((cntP a : Nat) : Int) = (cntP a : Nat) + 0; omega
  | mb a => show ((cntP a : Nat) : Int) = (cntP a : Nat) + 0; omega
/-- whether a pattern spells nothing -/
def bareP : Pat → Bool
  | .sg _ => false
  | .em => true
  | .th a b => bareP a && bareP b
  | .oo a b => bareP a || bareP b
  | .ag _ => true
  | .mo a => bareP a
  | .mb _ => true
theorem bare_iff : ∀ p : Pat, bareP p = true ↔ L p []
  | .sg x => by
    rw [L_sg]
    exact ⟨(fun h => by cases h), (fun ⟨_, _, h⟩ => by cases h)⟩
  | .em => by rw [L_em]; exact ⟨fun _ => rfl, fun _ => rfl⟩
  | .th a b => by
    show (bareP a && bareP b) = true ↔ _
    rw [Bool.and_eq_true, bare_iff a, bare_iff b, L_th]
    constructor
    · rintro ⟨h1, h2⟩; exact ⟨[], [], rfl, h1, h2⟩
    · rintro ⟨u, v, e, h1, h2⟩
      have e := List.append_eq_nil_iff.mp e.symm
      rw [e.1] at h1; rw [e.2] at h2
      exact ⟨h1, h2⟩
  | .oo a b => by
    show (bareP a || bareP b) = true ↔ _
    rw [Bool.or_eq_true, bare_iff a, bare_iff b, L_oo]
  | .ag a => by
    rw [L_ag]
    exact ⟨fun _ => .inl rfl, fun _ => rfl⟩
  | .mo a => by
    show bareP a = true ↔ _
    rw [bare_iff a, L_mo]
    constructor
    · intro h; exact ⟨[], [], rfl, h, L_ag.mpr (.inl rfl)⟩
    · rintro ⟨u, v, e, h1, h2⟩
      have e := List.append_eq_nil_iff.mp e.symm
      rw [e.1] at h1; exact h1
  | .mb a => by
    rw [L_mb]
    exact ⟨fun _ => .inl rfl, fun _ => rfl⟩
def spCnt (d : Nat) : Sp := fun vs H Q _ => ∃ (v : V) (p : Pat), vs = [v] ∧ RP H p v ∧ deepP p ≤ d ∧ ∀ H', Same H H' → Q (.int (cntI p)) H'
def spBare (d : Nat) : Sp := fun vs H Q _ => ∃ (v : V) (p : Pat), vs = [v] ∧ RP H p v ∧ deepP p ≤ d ∧ ∀ H', Same H H' → Q (.bl (bareP p)) H'
section
variable {P : Program} {w : World} {K : PySem.W.Frag} {mg : Str → Option Value} {base : Heap} {f g e : Addr} {fd gd ed : FuncData}
theorem cnt_left {x : Str} : FnOk P w K mg base CX0 1 f fd [x] (spCnt 0) := by
  have no : ∀ vs H Q E, ¬ spCnt 0 vs H Q E := fun vs H Q E h => by
    obtain ⟨_, p, _, _, h, _⟩ := h
    have := deep_pos p
    omega
  exact ⟨fun vs H Q E h => absurd h (no vs H Q E), fun A outer s H args us vs Q E _ _ _ _ h => absurd h (no vs H Q E)⟩
theorem bare_left : FnOk P w K mg base CX0 1 f fd ["pattern"] (spBare 0) := by
  have no : ∀ vs H Q E, ¬ spBare 0 vs H Q E := fun vs H Q E h => by
    obtain ⟨_, p, _, _, h, _⟩ := h
    have := deep_pos p
    omega
  exact ⟨fun vs H Q E h => absurd h (no vs H Q E), fun A outer s H args us vs Q E _ _ _ _ h => absurd h (no vs H Q E)⟩
theorem scSignsIn : FnScope ["pattern", "part"] ["pattern"] (defScope sSignsIn) := ⟨rfl, rfl, rfl, by decide +kernel, rfl, by decide +kernel, by decide +kernel⟩
theorem ok_signsin {d : Nat} (F : Fun K "signs_in" "signs_in" sSignsIn f fd) (GM : FnOk P w K mg base CX0 (d + 1) f fd ["pattern"] (spCnt d)) (bF : Binds K fd ["pattern"] []) (mF : mg "signs_in" = some (.ref f)) (msu : mg "sum" = none) :
    FnOk P w K mg base CX0 (d + 2) f fd ["pattern"] (spCnt (d + 1)) := by
  refine F.ok scSignsIn (fun vs H Q E h => ?_) (fun cdv A outer s0 H vs Q E0 hr h => ?_)
  · obtain ⟨_, _, rfl, _⟩ := h
    rfl
  obtain ⟨v, p, rfl, rp, hd, q⟩ := h
  refine ⟨_, pss_cons (ps_if (pt_cmpR op_eq (pe_ix ix_tup (pv 0) pe_int (fun _ _ => rfl)) pe_str (nomark _)) (pss_one (ps_ret pe_int)) pss_nil)
    (pss_one (ps_ret (pe_callB (cr_sum rfl) rfl msu (by decide +kernel) (pa_cons (pe_lc (own := [("part", 1)]) (g := gName 1) (tt := tYes) rfl scSignsIn.nd (pi_tup (pe_slice sl_tup (pv 0) (po_some pe_int) po_none)) (blkOk_by (N := ["pattern", "part"]) (sc := defScope sSignsIn) (by decide +kernel)) (fun _ _ _ _ _ => pg_name (i := 1) scSignsIn.nd rfl (Or.inl rfl)) (fun _ _ _ _ _ => pts_nil)
        (fun _ _ _ _ _ => pe_call GM hr rfl mF F.kp bF .nil pass0 (pa_cons (pv 1) pa_nil))) pa_nil)))), ?_⟩
  obtain ⟨a, vs, rfl, ha, hcase⟩ := rp.open
  refine ⟨_, rfl, a, _, _, _, rfl, rfl, SqT.of ha, at_zero, rfl, _, rfl, ?_⟩
  rcases hcase with ⟨x, rfl, rfl⟩ | ⟨hns, _, hps⟩
  · exact itE (by show decide (("signs" : Str) = "signs") = true; decide +kernel) (q H same_refl)
  refine itW (decide_eq_false hns) ?_
  refine ⟨_, rfl, _, rfl, a, _, rfl, SqT.of ha, cut_no, fun t ht => ?_⟩
  rw [cut_tail]
  have s1 := same_new ht (.tup vs)
  refine ⟨t, rfl, ⟨_, SqT.of upd_same⟩, fun L hL => ?_⟩
  have lps : vs.length = (partsP p).length := Paired.length hps
  have l2 : (partsP p).length ≤ 2 := by cases p <;> (show _ ≤ 2) <;> simp [partsP]
  have et0 : (upd H t (.tup vs)) t = some (.tup vs) := upd_same
  generalize upd H t (.tup vs) = H1 at s1 hL et0
  have sL := same_new hL (.lst [])
  have hLH : H L = none := by
    cases e : H L with
    | none => rfl
    | some o => rw [s1 _ _ e] at hL; cases hL
  have tL : t ≠ L := fun e => by rw [← e, et0] at hL; cases hL
  refine lc_tup (K := K) (xs := vs) (fun i H' => H' L = some (.lst ((((partsP p).take i).map cntI).map V.int)) ∧ Same H H' ∧ H' t = some (.tup vs)) ⟨upd_same, s1.trans sL, sL _ _ et0⟩ (fun i H' _ h => SqT.of h.2.2) (fun i v H' hv h => ?turn) (fun H' h => ?done)
  case turn =>
    obtain ⟨eL, sS, et⟩ := h
    obtain ⟨r, hr', rr⟩ := paired_get hps i v hv
    have rm := List.mem_of_getElem? hr'
    have dr := deep_part rm
    have hi := (List.getElem?_eq_some_iff.mp hv).1
    refine ⟨rfl, ?_⟩
    simp only [tYes, ↓reduceIte]
    exact ⟨_, rfl, v, r, rfl, rr.tk (Tk.of_same sS), by omega, fun H2 s2 => ⟨_, s2 _ _ eL, by rw [List.length_map, List.length_map, List.length_take, sizeLine_eq]; omega, by rw [upd_same, List.take_add_one, hr', List.map_append, List.map_append]; rfl, same_upd (sS.trans s2) hLH, by rw [upd_ne tL]; exact s2 _ _ et⟩⟩
  case done =>
    obtain ⟨eL, sS, et⟩ := h
    refine ⟨L, _, rfl, SqL.of eL, ?_⟩
    rw [lps, List.take_length, ← cnt_parts p hns]
    exact q H' sS
end
end Pa
set_option maxHeartbeats 2000000
namespace Pa
open PySem PySem.Spec PyProof.Rows L2 Ty
def letters : List Nat := List.range' 97 26
def lettS : Str := ⟨letters.toArray⟩
def kept : List Str := ["word", "skip", "rule", "top", "bar"]
def nameP (x : Str) : Bool := !decide (x ∈ kept) && (decide (1 ≤ x.length) && (decide (x.length ≤ 8) && x.cps.toList.all fun c => decide (c ∈ letters)))
theorem beq_str (x y : Str) : (x == y) = decide (x = y) := by
  by_cases h : x = y
  · rw [h]; simp
  · rw [decide_eq_false h]; exact beq_eq_false_iff_ne.mpr h
/-- whether a text is such a one -/
def spB (p : Str → Bool) : Sp := fun vs H Q _ => ∃ x : Str, vs = [.str x] ∧ x.length ≤ 16000000 ∧ ∀ H', Same H H' → Q (.bl (p x)) H'
theorem inV_strs {x : Str} : ∀ {l : List Str}, inV (.str x) (l.map V.str) = decide (x ∈ l)
  | [] => by simp [inV]
  | y :: l => by
    have ih := inV_strs (x := x) (l := l)
    unfold inV at ih ⊢
    rw [List.map_cons, List.any_cons, ih]
    have e : eqV (V.str y) (V.str x) = decide (x = y) := by
      show (y == x) = _
      rw [beq_str]
      by_cases h : x = y
      · rw [h]
      · rw [decide_eq_false h, decide_eq_false fun e => h e.symm]
    rw [e]
    simp [List.mem_cons, Bool.or_eq_true]
theorem all_flat : ∀ l : List Str, (l.map V.str).all flatV = true
  | [] => rfl
  | _ :: l => by rw [List.map_cons, List.all_cons, all_flat l]; rfl
theorem eL : ("abcdefghijklm\
    nopqrstuvwxyz" : Str) = lettS := by decide +kernel
theorem scName : FnScope ["thing", "sign"] ["thing"] (defScope sName) := ⟨rfl, rfl, rfl, by decide +kernel, rfl, by decide +kernel, by decide +kernel⟩
section
variable {P : Program} {w : World} {K : PySem.W.Frag} {mg : Str → Option Value} {base : Heap} {f g dK : Addr} {fd gd : FuncData} {t1 t2 : Tok}
theorem ok_name (F : Fun K "is_name" "is_name" sName f fd) (mL : mg "LETTERS" = some (.str lettS t1)) (mN : mg "LONGEST" = some (.int 8 t2)) (mK : mg "KEPT" = some (.ref dK)) (hK : ∀ H, SqT K H dK (kept.map V.str))
    (mi : mg "isinstance" = none) (ms : mg "str" = none) (ml : mg "len" = none) (ma : mg "all" = none) : FnOk P w K mg base CX0 1 f fd ["thing"] (spB nameP) := by
  refine F.ok scName (fun vs H Q E h => ?_) (fun cdv A outer s H vs Q E hr h => ?_)
  · obtain ⟨x, rfl, _⟩ := h
    rfl
  obtain ⟨x, rfl, hx, q⟩ := h
  refine ⟨_, pss_cons (ps_if (PW.pt (pw_or (pt_not (pt_val (pe_callB call_isi rfl mi (by decide +kernel) (pa_cons (pv 0) (pa_cons (pe_bltn rfl ms (by decide +kernel) (show RelV (.ty "str") (.type "str") from rfl)) pa_nil)))))
      (pw_or (pt_not (pt_chain op_le op_le pe_int (pe_callB call_len_str rfl ml PySem.boot_len (pa_cons (pv 0) pa_nil)) (pe_glob rfl mN (show RelV (.int 8) (.int 8 t2) from ⟨_, rfl⟩))))
      (pw_or1 (pt_cmpR op_in_seq (pv 0) (pe_glob rfl mK (show RelV (.ref dK) (.ref dK) from rfl)) rfl)))))
      (pss_one (ps_ret pe_bl)) pss_nil)
    (pss_one (ps_ret (pe_callB (cr_all rfl) rfl ma (by decide +kernel) (pa_cons
        (pe_lc (own := [("sign", 1)]) (g := gName 1) (tt := tYes) rfl scName.nd (pi_str (pv 0)) (blkOk_by (N := ["thing", "sign"]) (sc := defScope sName) (by decide +kernel)) (fun _ _ _ _ _ => pg_name (i := 1) scName.nd rfl (Or.inl rfl)) (fun _ _ _ _ _ => pts_nil)
          (fun _ _ _ _ _ => pe_cmpR op_in_sign (pv 1) (pe_glob rfl mL (show RelV (.str lettS) (.str lettS t1) from ⟨_, rfl⟩)) rfl)) pa_nil)))), ?_⟩
  have hl : x.cps.toList.length = x.cps.size := Array.length_toList
  refine ⟨_, rfl, .str x, .ty "str", _, _, _, rfl, .ty _, .base (.str x), kit_ty (show kitB "str" "str" = some true by decide +kernel), _, rfl, ?_⟩
  refine iteF ?_
  refine ⟨_, rfl, x, rfl, by rw [sizeLine_eq]; omega, _, _, rfl, rfl, _, rfl, ?_⟩
  have bad : nameP x = false → Q (.bl false) H := fun e => by
    have := q H (fun b o h => h)
    rw [e] at this
    exact this
  by_cases h1 : 1 ≤ x.length
  · rw [decide_eq_true (show (1 : Int) ≤ ((x.length : Nat) : Int) by omega)]
    refine iteT ⟨_, _, rfl, rfl, _, rfl, ?_⟩
    by_cases h2 : x.length ≤ 8
    · rw [decide_eq_true (show ((x.length : Nat) : Int) ≤ 8 by omega)]
      refine iteF ?_
      refine ⟨_, rfl, dK, _, rfl, .inr (hK _), rfl, all_flat _, _, rfl, ?_⟩
      rw [if_neg Bool.false_ne_true, inV_strs]
      by_cases h3 : x ∈ kept
      · rw [decide_eq_true h3]
        exact iteT (bad (by unfold nameP; rw [decide_eq_true h3]; rfl))
      · rw [decide_eq_false h3]
        refine iteF ?_
        have e2 : nameP x = x.cps.toList.all fun c => decide (c ∈ letters) := by
          unfold nameP
          rw [decide_eq_false h3, decide_eq_true h1, decide_eq_true h2]
          rfl
        refine ⟨_, rfl, x, rfl, fun D hD => ?_⟩
        refine lc_it walk_str (fun i H' => Acc H D (((x.cps.toList.take i).map fun c => decide (c ∈ letters)).map V.bl) H') (.nil hD) (fun _ _ _ _ => trivial) (fun i y H1 H2 hi p z => ?_) (fun H1 p => ?_)
        · obtain ⟨rfl, c, hc, rfl⟩ := z
          refine ⟨rfl, ?_⟩
          simp only [tYes, ↓reduceIte]
          refine ⟨_, rfl, c, lettS, rfl, rfl, _, p.2, ?_, ?_⟩
          · rw [List.length_map, List.length_map, List.length_take, hl, sizeLine_eq]; show min i x.length < _; omega
          · have h2 := p.push hD (.bl (decide (c ∈ letters)))
            have h3 : x.cps.toList[i]? = some c := by rw [Array.getElem?_toList]; exact hc
            rw [List.take_add_one, h3, Option.toList_some, List.map_append, List.map_append]
            exact h2
        · refine ⟨D, _, rfl, SqL.of p.2, ?_⟩
          rw [List.take_of_length_le (by rw [hl]; exact Nat.le_refl _)]
          have ea : (x.cps.toList.map fun c => decide (c ∈ letters)).all id = x.cps.toList.all fun c => decide (c ∈ letters) := by
            rw [List.all_map]; rfl
          rw [ea]
          rw [← e2]
          exact q H1 p.1
    · rw [decide_eq_false (show ¬ ((x.length : Nat) : Int) ≤ 8 by omega)]
      exact iteT (bad (by unfold nameP; rw [decide_eq_false h2]; simp))
  · rw [decide_eq_false (show ¬ (1 : Int) ≤ ((x.length : Nat) : Int) by omega)]
    refine iteF ⟨_, rfl, ?_⟩
    exact iteT (bad (by unfold nameP; rw [decide_eq_false h1]; simp))
end
end Pa
/-! own errors whose __init__ calls the base's own, by the base's name; isinstance of a caught one that bears fields -/
namespace Pa
open PySem PySem.Spec PyProof.Rows L2
section
variable {X : Cx} {x : Str} {e : Expr} {es : List Expr} {ta : TA} {p1 p2 pos : Pos} {CY : Addr} {mc : Value}
theorem pe_oinit {pl : Sem Bool} (hg : Gl X x) (hm : X.mg x = some (.ref CY)) (r : ClX.CRead X.K CY mc) (vV : PySem.W.findCls X.K (.ref CY) mc "__init__" = some (.val (.builtin "ValueError.__init__"))) (ha : PA X (e :: es) ta) (hdb : (x == ("__debug__" : Str)) = false := by decide)
    (hc : eval (.Call (.Attribute (.Name x p1) "__init__" p2) (e :: es) [] pos) X.env = (do
      let ov ← eval (.Name x p1) X.env
      standAt p2.atName
      let (f, first) ← holding [ov] (getMethod ov "__init__" pl)
      callWith pos f first (backTo pos (starEach (e :: es) X.env)) (backToKw pos (keywordEach [] X.env))) := by rfl)
    (he : starEach (e :: es) X.env = (false, eval e X.env) :: starEach es X.env := by rfl) (hpl : (backTo pos (starEach es X.env)).any (·.1) = false := by rfl) :
    PE X (.Call (.Attribute (.Name x p1) "__init__" p2) (e :: es) [] pos) (tVeI X.K ta) := by
  refine ⟨fun pins s σ H Q I h => ?_⟩
  refine PySem.W.methodCall_KW (ld_glob I hg hm ?_ hdb) hc
  refine PySem.W.method_cls I.kIn r.ga (PySem.W.cls_value I.kIn r.rd vV (by decide +kernel) ?_)
  refine PyProof.Rows.callWith_method1 (thn (ha.run pos pins _ σ H _ (I.tok _) h) fun us s1 hv => ?_) he hpl
  obtain ⟨vs, H1, I1, r1, a, C, ws, ev, hl, T, ea, q⟩ := hv
  subst ev
  cases r1 with
  | @cons _ u0 _ ur ra rw' =>
    obtain rfl : u0 = Value.ref a := ra
    have hlen : ur.length ≤ sizeLine := by
      rw [← Paired.length rw', sizeLine_eq]
      omega
    exact oinit_ok T I1 ea hlen fun s' J => ⟨.non, H1, J, rfl, q⟩
end
/-! ### isinstance of a caught error that has its dict -/
section
open PySem.W PySem.Calls
variable {prog : Program} {w : World} {A : Around} {E : Value → Shared → Prop} {s : Shared} {K : Frag} {x D : Addr} {ox : Obj} {od : Option Obj}
theorem data_first {C : Addr} {name : Str} {a g : Value} (hc : (clsIn K C).isSome = true) (ha : findIn K (.ref C) name = some (some a)) (hg : specialIn K a "__get__" = some (some g)) (ht : takesIn K a = some true) : findObj K C od name = some (.bind g a) := by
  obtain ⟨cd, hc⟩ := Option.isSome_iff_exists.mp hc
  unfold findObj
  rw [hc, Option.bind_some, ha, Option.bind_some]
  simp [hg, ht]
/-- its class is asked of the object's own getter, whatever its dict holds -/
theorem its_class {Q : Option Value → Shared → Prop} (T : ExcC K D) (X : K.In s.heap) (I : InstAt s.heap x ox D od) (h : Q (some (.ref D)) { s with toks := s.toks + 1 }) : wpAny (model prog w) A (getAttr? (.ref x) "__class__") Q E s := by
  have known : (clsIn K D).isSome = true := by
    obtain ⟨cd, hc, _⟩ := any_some T.hd
    rw [hc]; rfl
  have found : findObj K D od "__class__" = some (.bind (.builtin "getset_descriptor.__get__") (.builtin "object.__class__")) := data_first known T.ha T.hn T.ht
  obtain ⟨hp, g, d, t, os⟩ := s
  have seen := I.type (M := model prog w)
  have its := looks_findIn (M := model prog w) X T.hg
  have nohook := looks_findIn (M := model prog w) X T.hk
  have look := looks_find (M := model prog w) X I found
  have base : Looks (model prog w) hp (isInstance (.ref x) (.type "BaseException")) true := seen.andThen (looks_subIn X T.hs)
  have differ : (Value.builtin "BaseException.__getattribute__" == Value.builtin "object.__getattribute__") = false := by decide +kernel
  have short : (onTheHeap (Value.ref D) && Value.builtin "BaseException.__getattribute__" == Value.builtin "object.__getattribute__") = false := by rw [differ]; rfl
  have plain : (false && onTheHeap (Value.builtin "BaseException.__getattribute__")) = false := rfl
  unfold getAttr? getAttrBy? getAttrBy
  refine wpAny_bind (wpAny_mkText (wpAny_bind (wpAny_attempt (wpAny_holding (wpAny_bind (seen.at (wpAny_bind (its.at ?_))))))))
  show wpAny _ _ (if (onTheHeap (Value.ref D) && Value.builtin "BaseException.__getattribute__" == Value.builtin "object.__getattribute__") = true then _ else _) _ _ _
  rw [short, if_neg Bool.false_ne_true]
  unfold getAttrByItsOwn hookBefore
  refine wpAny_bind ?_
  rw [if_pos (show onTheHeap (Value.ref D) = true from rfl)]
  refine nohook.at (wpAny_bind (wpAny_attempt (wpAny_holding ?_)))
  unfold callGetattribute
  rw [plain, if_neg Bool.false_ne_true]
  unfold boundAndCalled
  rw [PySem.F.excAttr_ValueError.ga.bind (.ref x)]
  refine wpAny_bind (wpAny_pure ?_)
  show wpAny _ _ (call (.builtin "BaseException.__getattribute__") [.ref x, .str "__class__" t]) _ _ _
  refine wpAny_call (codeAny_call_builtin PySem.F.excAttr_ValueError.ga.plain PySem.F.entry_bexc_ga ?_)
  refine @check_slot (model prog w) _ _ ⟨hp, g, d, t + 1, os⟩ "BaseException.__getattribute__" "BaseException" "__getattribute__" (.ref x) [.str "__class__" t] [] _ (by decide +kernel) (by decide +kernel) base (PySem.F.args_bexc_ga (.ref x) (.str "__class__" t)) ?_
  unfold Builtin.«object.__getattribute__»
  refine wpAny_bind (wpAny_of_eq (a := ((Value.ref x : Value), [Value.str "__class__" t])) (by first | rfl | (simp only [slotArgs]; rfl)) ?_)
  refine wpAny_bind (wpAny_pure (wpAny_bind (seen.at (wpAny_bind (look.at ?_)))))
  show wpAny _ _ (holding [Value.builtin "object.__class__"] (call (.builtin "getset_descriptor.__get__") [.builtin "object.__class__", .ref x, .ref D]) >>= ret) _ _ _
  refine wpAny_bind (wpAny_holding (wpAny_call (class_get (s := ⟨hp, g, d, t + 1, os⟩) X I T.hm ?_)))
  refine wpAny_pure ?_
  show wpAny _ _ (handedOut (.ref D)) _ _ _
  rw [handedOut_of (v := .ref D) rfl]
  first
    | exact wpAny_pure (wpAny_pure h)
    | exact wpAny_pure h
    | exact wpAny_pure (wpAny_bind (wpAny_pure (wpAny_pure h)))
theorem kit_caught (T : ExcC K D) : KitX K (.ref x) (.ref D) (fun h => InstAt h x ox D od) where
  ty := fun _ _ _ I => I.type
  it := fun _ _ X _ => by
    obtain ⟨cd, hc, _⟩ := any_some T.hd
    unfold clsIn at hc
    split at hc
    · rename_i c' d' cd' sl' ho
      intro A' Q' E' s' k q
      unfold isType loadHead
      exact wpAny_bind (wpAny_loadPart (k _ _ (X _ _ ho)) (wpAny_pure q))
    · cases hc
  ne := fun h tp dd its n sl X htp => by
    obtain ⟨cd, hc, _⟩ := any_some T.hd
    refine Bool.eq_false_iff.mpr fun q => ?_
    have e : D = tp := Value.ref.inj (beq_iff_eq.mp q)
    subst e
    unfold clsIn at hc
    split at hc
    · rename_i c' d' cd' sl' ho
      have z := (X _ _ ho).symm.trans htp
      cases z
    · cases hc
  ca := fun X I k => its_class T X I k
end
/-- isinstance(e, c), e the caught error at a; cls its class, d its dict -/
def rIsC (K : PySem.W.Frag) (a : Addr) (cls : Value) (d : Option Addr) : List V → Hp → VK → Prop := fun xs H Q => ∃ (c : V) (cv : Value) (b : Bool) (D dd : Addr) (fs : List (Str × V)), xs = [.ref a, c] ∧ (∀ u, RelV c u → u = cv) ∧ cls = .ref D ∧ d = some dd ∧ H dd = some (.xd fs) ∧ ExcC K D ∧
  PySem.W.kitOne K (.ref D) cv = some b ∧ Q (.bl b) H
theorem call_isC {X : Cx} {a : Addr} {cls : Value} {d : Option Addr} {oe : Obj} {pn : List (Addr × Obj)} (hz : Zc cls d oe) (hf : ∃ vs, oe.data = .fields vs) : CallR (X.suite a ((a, oe) :: pn)) (.builtin "isinstance") (rIsC X.K a cls d) := by
  intro pins s σ H xs us Q I r h
  obtain ⟨c, cv, b, D, dd, fs, rfl, hcv, rfl, rfl, hd, C, e, q⟩ := h
  obtain ⟨u1, u2, rfl, r1, r2⟩ := vals2 r
  cases r1
  have ec := hcv _ r2
  subst ec
  obtain ⟨hget, _⟩ := I.pin (a, oe) (List.mem_append.mpr (.inl List.mem_cons_self))
  obtain ⟨vs, hv⟩ := hf
  have hx : ObjOk X.prog X.w H s.heap dd (.xd fs) := I.hok dd _ hd
  obtain ⟨mA, ⟨od, es, ep, ho, _⟩, _⟩ := hx
  have J : PySem.W.InstAt s.heap a oe D (some od) := ⟨hget, hz.1, by unfold PySem.W.notCls; rw [hv] <;> rfl, by rw [hz.2]; exact ho⟩
  exact PySem.W.kia_one (kit_caught C) I.kIn J e (fun z => nomatch z) fun tk => ⟨.bl b, H, I.kept (t' := tk) fun _ _ z => z, rfl, q⟩
end Pa
set_option maxHeartbeats 2000000
namespace Pa
open PySem PySem.Spec PyProof.Rows L2 Ty
theorem scNoGrammar : FnScope ["self", "what", "name"] ["self", "what", "name"] (defScope sNoGrammar) := ⟨rfl, rfl, rfl, by decide +kernel, rfl, by decide +kernel, by decide +kernel⟩
/-- NoGrammar's __init__: two fields -/
def spNoG (K : PySem.W.Frag) (C : Addr) : Sp := fun vs H Q _ => ∃ (a : Addr) (u v : V), vs = [.ref a, u, v] ∧ OexC K C ∧ PySem.W.findIn K (.ref C) "what" = some none ∧ PySem.W.findIn K (.ref C) "name" = some none ∧ H a = some (exo a C none) ∧
  ∀ d H', H d = none → d ≠ a → H' a = some (exo a C (some d)) → H' d = some (exd d [("name", v), ("what", u)]) → (∀ c o, c ≠ a → H c = some o → H' c = some o) → (∀ c, c ≠ a → c ≠ d → H' c = H c) → Q .non H'
section
variable {P : Program} {w : World} {K : PySem.W.Frag} {mg : Str → Option Value} {base : Heap} {f C CY : Addr} {fd : FuncData} {mc : Value}
theorem ok_nog (F : Fun K "__init__" "NoGrammar.__init__" sNoGrammar f fd) (mY : mg "YardError" = some (.ref CY)) (r : ClX.CRead K CY mc) (vV : PySem.W.findCls K (.ref CY) mc "__init__" = some (.val (.builtin "ValueError.__init__"))) :
    FnOk P w K mg base CX0 1 f fd ["self", "what", "name"] (spNoG K C) := by
  refine F.ok scNoGrammar (fun vs H Q E h => ?_) (fun cdv A outer s H vs Q E hr h => ?_)
  · obtain ⟨a, u, v, rfl, _⟩ := h
    rfl
  obtain ⟨a, u, v, rfl, T, n1, n2, ha, q⟩ := h
  refine ⟨_, pss_cons (ps_expr (pe_oinit rfl mY r vV (pa_cons (pv 0) (pa_cons pe_str pa_nil)))) (pss_cons (ps_ost (f := "what") (pv 0) (pv 1)) (pss_one (ps_ost (f := "name") (pv 0) (pv 2)))), ?_⟩
  refine ⟨_, rfl, a, C, _, rfl, by decide, T, ha, _, rfl, _, rfl, a, C, rfl, T, n1, .inl ⟨ha, fun d hd hn => ?_⟩⟩
  refine ⟨_, rfl, _, rfl, a, C, rfl, T, n2, .inr ⟨d, _, upd_same, by rw [upd_ne hn]; exact upd_same, (by show 1 ≤ 900; decide), ?_⟩⟩
  refine q d _ hd hn (by rw [upd_ne (Ne.symm hn)]; exact upd_same) upd_same (fun c o hc e' => ?_) (fun c h1 h2 => by rw [upd_ne h2, upd_ne h1, upd_ne h2])
  have hcd : c ≠ d := fun q' => by rw [q', hd] at e'; cases e'
  rw [upd_ne hcd, upd_ne hc, upd_ne hcd]; exact e'
end
end Pa
set_option maxHeartbeats 2000000
namespace Pa
open PySem PySem.Spec PyProof.Rows L2 Ty
/-! ### what a Grammar is made of, and why it is refused -/
abbrev Kds := List (Str × Pat × Bool)
abbrev Rls := List (Str × List (Str × List Str))
abbrev Brs := List (Str × Int × Str)
def KdV (H : Hp) (v : V) (k : Str × Pat × Bool) : Prop := ∃ a u, v = .ref a ∧ H a = some (.tup [.str k.1, u, .bl k.2.2]) ∧ RP H k.2.1 u
def AltV (H : Hp) (v : V) (r : Str × List Str) : Prop := ∃ a b, v = .ref a ∧ H a = some (.tup [.str r.1, .ref b]) ∧ H b = some (.tup (r.2.map V.str))
def RlV (ok : Addr → Prop) (H : Hp) (v : V) (r : Str × List (Str × List Str)) : Prop := ∃ a b xs, v = .ref a ∧ H a = some (.tup [.str r.1, .ref b]) ∧ H b = some (.lst xs) ∧ ok b ∧ Paired (AltV H) xs r.2
def BrV (H : Hp) (v : V) (b : Str × Int × Str) : Prop := ∃ a, v = .ref a ∧ H a = some (.tup [.str b.1, .int b.2.1, .str b.2.2])
theorem KdV.tk {H H' : Hp} {v : V} {k : Str × Pat × Bool} (h : KdV H v k) (t : Tk H H') : KdV H' v k := by
  obtain ⟨a, u, e, h1, h2⟩ := h
  exact ⟨a, u, e, t _ _ h1, h2.tk t⟩
theorem AltV.tk {H H' : Hp} {v : V} {k : Str × List Str} (h : AltV H v k) (t : Tk H H') : AltV H' v k := by
  obtain ⟨a, b, e, h1, h2⟩ := h
  exact ⟨a, b, e, t _ _ h1, t _ _ h2⟩
theorem RlV.tk {ok : Addr → Prop} {H H' : Hp} {v : V} {k : Str × List (Str × List Str)} (h : RlV ok H v k) (t : Tk H H') (l : ∀ b xs, ok b → H b = some (.lst xs) → H' b = some (.lst xs)) : RlV ok H' v k := by
  obtain ⟨a, b, xs, e, h1, h2, h3, h4⟩ := h
  exact ⟨a, b, xs, e, t _ _ h1, l _ _ h3 h2, h3, paired_imp (fun _ _ r => r.tk t) h4⟩
theorem BrV.tk {H H' : Hp} {v : V} {k : Str × Int × Str} (h : BrV H v k) (t : Tk H H') : BrV H' v k := by
  obtain ⟨a, e, h1⟩ := h
  exact ⟨a, e, t _ _ h1⟩
/-- a refusal: with what word, of which name -/
abbrev No := Str × Option Str
def altsN (rs : Rls) : Nat := (rs.map fun r => r.2.length).sum
def signsN (ks : Kds) : Nat := (ks.map fun k => cntP k.2.1).sum
def manyE (ks : Kds) (rs : Rls) (bs : Brs) : Bool := decide (ks = []) || decide (rs = []) || decide (14 < ks.length) || decide (40 < signsN ks) || decide (40 < rs.length) || decide (100 < altsN rs) || decide (30 < bs.length)
def kindE : List Str → Kds → Option No
  | _, [] => none
  | met, (n, p, _) :: ks => if nameP n = false then some ("name", some n) else if n ∈ met then some ("twice", some n) else if bareP p = true then some ("empty", some n) else kindE (met ++ [n]) ks
def altE : List Str → List (Str × List Str) → Option No
  | _, [] => none
  | ls, (l, row) :: as => if nameP l = false then some ("label", some l) else if l ∈ ls then some ("again", some l) else if 6 < row.length then some ("long", some l) else altE (ls ++ [l]) as
def ruleE : List Str → List Str → Rls → Option No
  | _, _, [] => none
  | met, ls, (n, as) :: rs => if nameP n = false then some ("name", some n) else if n ∈ met then some ("twice", some n) else if as = [] then some ("bare", some n) else
      match altE ls as with
      | some e => some e
      | none => ruleE (met ++ [n]) (ls ++ as.map (·.1)) rs
def rowsOf (rs : Rls) : List (List Str) := rs.flatMap fun r => r.2.map (·.2)
def symE (names heads skips : List Str) : List Str → Option No
  | [] => none
  | s :: ss => if s ∉ names ∧ s ∉ heads then some ("symbol", some s) else if s ∈ skips then some ("skipped", some s) else symE names heads skips ss
def spelledP (rs : Rls) (l : Str) : List Str := ((rs.flatMap (·.2)).lookup l).getD []
def homeP (rs : Rls) (l : Str) : Option Str := (rs.flatMap fun r => r.2.map fun a => (a.1, r.1)).lookup l
def barE (rs : Rls) : Brs → Brs → Option No
  | _, [] => none
  | met, (one, place, other) :: bs =>
    if ¬ (1 ≤ place ∧ place ≤ ((spelledP rs one).length : Nat)) ∨ (one, place, other) ∈ met ∨ homeP rs other ≠ (spelledP rs one)[(place - 1).toNat]? then some ("bar", some one) else barE rs (met ++ [(one, place, other)]) bs
def gramE (ks : Kds) (rs : Rls) (start : Str) (bs : Brs) : Option No :=
  if manyE ks rs bs = true then some ("many", none) else
  match kindE [] ks with
  | some e => some e
  | none => match ruleE (ks.map (·.1)) [] rs with
    | some e => some e
    | none => match symE (ks.map (·.1)) (rs.map (·.1)) ((ks.filter fun k => k.2.2).map (·.1)) (rowsOf rs).flatten with
      | some e => some e
      | none => if start ∉ rs.map (·.1) then some ("begin", some start) else barE rs [] bs
end Pa
set_option maxHeartbeats 4000000
namespace Pa
open PySem PySem.Spec PyProof.Rows L2 Ty
/-- what stands of the classes -/
structure GTxt (K : PySem.W.Frag) (mg : Str → Option Value) (C CN fN : Addr) : Prop where
  cl : Cls K C
  nK : NoAttr K C "kind_rows"
  nR : NoAttr K C "rule_rows"
  nB : NoAttr K C "bar_rows"
  nF : NoAttr K C "first_rule"
  nP : NoAttr K C "patterns"
  nS : NoAttr K C "skips"
  nH : NoAttr K C "homes"
  nL : NoAttr K C "spelled"
  nN : NoAttr K C "numbers"
  nW : NoAttr K C "label_rows"
  tN : OexC K CN
  n1 : PySem.W.findIn K (.ref CN) "what" = some none
  n2 : PySem.W.findIn K (.ref CN) "name" = some none
  iN : PySem.W.findIn K (.ref CN) "__init__" = some (some (.ref fN))
  yN : PySem.W.typeIn K (.ref fN) = some (.type "function")
  mN : mg "NoGrammar" = some (.ref CN)
theorem scFew : FnScope ["self", "many", "signs", "sizes", "mosts", "name", "alternatives", "pattern", "skipped", "size", "most"] ["self"] (defScope gFew) := ⟨rfl, rfl, rfl, by decide +kernel, rfl, by decide +kernel, by decide +kernel⟩
def oV : Option Str → V
  | none => .non
  | some x => .str x
abbrev anyB : Addr → Prop := fun _ => True
theorem walk_zipT {K : PySem.W.Frag} {a b : Addr} {xs ys : List V} {n : Nat} (hn : n = xs.length) (hm : ys.length = xs.length) : Walk (RZ.ItzT K a b) n (fun H => SqT K H a xs ∧ SqT K H b ys) (YPair (fun i => xs[i]?) (fun i => ys[i]?)) := by
  subst hn
  refine ⟨fun i _ hi q => ?_, fun _ q => ⟨xs, ys, q.1, q.2, by omega⟩, fun i H v H' _ q y => ?_⟩
  · have h2 : i < ys.length := by omega
    exact ⟨xs, ys, xs[i], ys[i], q.1, q.2, by simp [hi], by simp [h2]⟩
  · obtain ⟨T, x, z, h1, h2, h3, h4, h5⟩ := y
    exact ⟨T, x, z, h1, h2, h3, h4 xs q.1, h5 ys q.2⟩
/-- how a refusal leaves -/
def Out (E : XK) (CN : Addr) (H : Hp) (e : No) : Prop := ∀ dd H', H dd = none → Same H H' → H' dd = some (.xd [("name", oV e.2), ("what", .str e.1)]) → E (.ref CN) (some dd) H'
theorem Out.same {E : XK} {CN : Addr} {H H1 : Hp} {e : No} (o : Out E CN H e) (s : Same H H1) : Out E CN H1 e := fun dd H' h1 h2 h3 => o dd H' (by
  cases q : H dd with
  | none => rfl
  | some u => rw [s _ _ q] at h1; cases h1) (s.trans h2) h3
theorem raise_nog {K : PySem.W.Frag} {C : Addr} {H : Hp} {E : XK} {x : Str} {y : Option Str} (T : OexC K C) (n1 : PySem.W.findIn K (.ref C) "what" = some none) (n2 : PySem.W.findIn K (.ref C) "name" = some none) (q : Out E C H (x, y)) :
    [V.str x, oV y].length ≤ 1000 ∧ ∀ a, H a = none → spNoG K C (.ref a :: ([V.str x, oV y] ++ [])) (upd H a (exo a C none))
      (fun u H2 => u = .non ∧ ∃ (d : Addr) (fs : List (Str × V)), H2 a = some (exo a C (some d)) ∧ H2 d = some (exd d fs) ∧ H d = none ∧ E (.ref C) (some d) (upd (del H2 a) d (.xd fs))) (fun _ _ _ => False) := by
  refine ⟨(by show 2 ≤ 1000; decide), fun a ha => ⟨a, _, _, rfl, T, n1, n2, upd_same, fun d H' hd hne h1 h2 h3 h4 => ⟨rfl, d, _, h1, h2, ?_, ?_⟩⟩⟩
  · rw [upd_ne hne] at hd; exact hd
  · rw [upd_ne hne] at hd
    refine q d _ hd (fun b o e => ?_) upd_same
    have hb : b ≠ a := ne_of_none e ha
    have hbd : b ≠ d := ne_of_none e hd
    rw [upd_ne hbd, del_ne hb, h4 b hb hbd, upd_ne hb]
    exact e
theorem sum_cast {α : Type} (f : α → Nat) : ∀ l : List α, ((l.map fun x => ((f x : Nat) : Int))).sum = (((l.map f).sum : Nat) : Int)
  | [] => rfl
  | x :: l => by
    rw [List.map_cons, List.map_cons, List.sum_cons, List.sum_cons, sum_cast f l]
    omega
theorem _root_.L2.SqT.same {K : PySem.W.Frag} {H H' : Hp} {a : Addr} {xs : List V} (h : SqT K H a xs) (e : Same H H') : SqT K H' a xs :=
  h.elim (fun h => .inl (h.elim (fun h => .inl (e _ _ h)) fun ⟨o, h⟩ => .inr ⟨o, e _ _ h⟩)) fun h => .inr h
/-- the lists that a Grammar keeps -/
structure GLs (K : PySem.W.Frag) (d : Nat) (C : Addr) (H : Hp) (g : Addr) (ks : Kds) (rs : Rls) (bs : Brs) : Prop where
  ob : ∃ dx fs a b c ka rb cb, H g = some (.ins C dx fs) ∧ fs.lookup ("kind_rows" : Str) = some (.ref a) ∧ fs.lookup ("rule_rows" : Str) = some (.ref b) ∧ fs.lookup ("bar_rows" : Str) = some (.ref c) ∧
    H a = some (.lst ka) ∧ Paired (KdV H) ka ks ∧ H b = some (.lst rb) ∧ Paired (RlV anyB H) rb rs ∧ SqT K H c cb ∧ Paired (BrV H) cb bs
  deep : ∀ k, k ∈ ks → deepP k.2.1 ≤ d
  sz : ks.length ≤ 10000 ∧ rs.length ≤ 10000 ∧ bs.length ≤ 10000
def spFew (K : PySem.W.Frag) (d : Nat) (C CN : Addr) : Sp := fun vs H Q E => ∃ (g : Addr) (ks : Kds) (rs : Rls) (bs : Brs), vs = [.ref g] ∧ GLs K d C H g ks rs bs ∧
  (manyE ks rs bs = false → ∀ H', Same H H' → Q .non H') ∧ (manyE ks rs bs = true → Out E CN H ("many", none))
section
variable {P : Program} {w : World} {K : PySem.W.Frag} {mg : Str → Option Value} {base : Heap} {f g C CN fN : Addr} {fd gd dN : FuncData} {t1 t2 t3 t4 t5 : Tok}
theorem ok_few {d : Nat} (F : Fun K "need_few" "Grammar.need_few" gFew f fd) (T : GTxt K mg C CN fN) (GN : FnOk P w K mg base CX0 1 fN dN ["self", "what", "name"] (spNoG K CN)) (bN : Binds K dN ["self", "what", "name"] [])
    (G : FnOk P w K mg base CX0 (d + 1) g gd ["pattern"] (spCnt d)) (bG : Binds K gd ["pattern"] []) (kG : PySem.W.keepIn K (.ref g) = true) (mG : mg "signs_in" = some (.ref g))
    (c1 : mg "MOST_KINDS" = some (.int 14 t1)) (c2 : mg "MOST_SIGNS" = some (.int 40 t2)) (c3 : mg "MOST_RULES" = some (.int 40 t3)) (c4 : mg "MOST_ALTERNATIVES" = some (.int 100 t4)) (c5 : mg "MOST_BARS" = some (.int 30 t5))
    (ml : mg "len" = none) (msu : mg "sum" = none) (may : mg "any" = none) (mz : mg "zip" = none) :
    FnOk P w K mg base (L2.CX P w) (d + 3) f fd ["self"] (spFew K d C CN) := by
  refine F.okX scFew (fun vs H Q E h => ?_) (fun cdv A outer s H vs Q E hr h => ?_)
  · obtain ⟨_, _, _, _, rfl, _⟩ := h
    rfl
  have hu := hr.units
  have G' := G.mono (show d + 1 ≤ d + 2 by omega)
  refine ⟨_, pss_cons (ps_set (i := 1) scFew.nd rfl (.inl rfl) (pe_callB (cr_sum rfl) rfl msu (by decide +kernel) (pa_cons (pe_lc (own := [("name", 5), ("alternatives", 6)]) (g := gTup K 2 (gCons (gName 5) (gCons (gName 6) gNil))) (tt := tYes) rfl scFew.nd (pi_list (pe_fld (pv 0) rfl)) (blkOk_by (N := ["self", "many", "signs", "sizes", "mosts", "name", "alternatives", "pattern", "skipped", "size", "most"]) (sc := defScope gFew) (by decide +kernel)) (fun _ _ _ _ _ => pg_tup rfl (pgs_cons (pg_name (i := 5) scFew.nd rfl (Or.inl rfl)) (pgs_cons (pg_name (i := 6) scFew.nd rfl (Or.inl rfl)) pgs_nil))) (fun _ _ _ _ _ => pts_nil)
        (fun _ _ _ _ _ => pe_callB (show CallR _ _ (fun xs H Q => ∃ p ys, xs = [V.ref p] ∧ (SqL K H p ys ∨ SqT K H p ys) ∧ Q (V.int (ys.length : Nat)) H) from call_len_seq) rfl ml PySem.boot_len (pa_cons (pv 6) pa_nil))) pa_nil)))
    (pss_cons (ps_set (i := 2) scFew.nd rfl (.inl rfl) (pe_callB (cr_sum rfl) rfl msu (by decide +kernel) (pa_cons (pe_lc (own := [("name", 5), ("pattern", 7), ("skipped", 8)]) (g := gTup K 3 (gCons (gName 5) (gCons (gName 7) (gCons (gName 8) gNil)))) (tt := tYes) rfl scFew.nd (pi_list (pe_fld (pv 0) rfl)) (blkOk_by (N := ["self", "many", "signs", "sizes", "mosts", "name", "alternatives", "pattern", "skipped", "size", "most"]) (sc := defScope gFew) (by decide +kernel)) (fun _ _ _ _ _ => pg_tup rfl (pgs_cons (pg_name (i := 5) scFew.nd rfl (Or.inl rfl)) (pgs_cons (pg_name (i := 7) scFew.nd rfl (Or.inl rfl)) (pgs_cons (pg_name (i := 8) scFew.nd rfl (Or.inl rfl)) pgs_nil)))) (fun _ _ _ _ _ => pts_nil)
        (fun _ _ _ _ _ => pe_call G' hr rfl mG kG bG .nil pass0 (pa_cons (pv 7) pa_nil))) pa_nil)))
    (pss_cons (ps_set (i := 3) scFew.nd rfl (.inl rfl) (pe_tup (pa_cons (pe_callB call_len_seq rfl ml PySem.boot_len (pa_cons (pe_fld (pv 0) rfl) pa_nil)) (pa_cons (pv 2) (pa_cons (pe_callB call_len_seq rfl ml PySem.boot_len (pa_cons (pe_fld (pv 0) rfl) pa_nil)) (pa_cons (pv 1) (pa_cons (pe_callB call_len_seq rfl ml PySem.boot_len (pa_cons (pe_fld (pv 0) rfl) pa_nil)) pa_nil)))))))
    (pss_cons (ps_set (i := 4) scFew.nd rfl (.inl rfl) (pe_tup (pa_cons (pe_glob rfl c1 (show RelV (.int 14) (.int 14 t1) from ⟨_, rfl⟩)) (pa_cons (pe_glob rfl c2 (show RelV (.int 40) (.int 40 t2) from ⟨_, rfl⟩)) (pa_cons (pe_glob rfl c3 (show RelV (.int 40) (.int 40 t3) from ⟨_, rfl⟩)) (pa_cons (pe_glob rfl c4 (show RelV (.int 100) (.int 100 t4) from ⟨_, rfl⟩)) (pa_cons (pe_glob rfl c5 (show RelV (.int 30) (.int 30 t5) from ⟨_, rfl⟩)) pa_nil)))))))
    (pss_one (ps_if (PW.pt (pw_or (pt_cmpR (op_eqL0 hu) (pe_fld (pv 0) rfl) (pe_lst pa_nil) (nomark _)) (pw_or (pt_cmpR (op_eqL0 hu) (pe_fld (pv 0) rfl) (pe_lst pa_nil) (nomark _)) (pw_or1 (pt_val (pe_callB (cr_any rfl) rfl may (by decide +kernel) (pa_cons
        (pe_lc (own := [("size", 9), ("most", 10)]) (g := gTup K 2 (gCons (gName 9) (gCons (gName 10) gNil))) (tt := tYes) rfl scFew.nd (RZ.pi_zipA rfl mz (pa_cons (pv 3) (pa_cons (pv 4) pa_nil))) (blkOk_by (N := ["self", "many", "signs", "sizes", "mosts", "name", "alternatives", "pattern", "skipped", "size", "most"]) (sc := defScope gFew) (by decide +kernel)) (fun _ _ _ _ _ => pg_tup rfl (pgs_cons (pg_name (i := 9) scFew.nd rfl (Or.inl rfl)) (pgs_cons (pg_name (i := 10) scFew.nd rfl (Or.inl rfl)) pgs_nil))) (fun _ _ _ _ _ => pts_nil)
          (fun _ _ _ _ _ => pe_cmpR op_gt (pv 9) (pv 10) (nomark _))) pa_nil)))))))
      (pss_one (ps_raise rfl (takes_of rfl rfl rfl rfl) (pmk_oex T.tN T.iN T.yN GN (hr.mono (show 1 + 1 ≤ d + 2 by omega)) bN .nil pass0 rfl T.mN (pa_cons pe_str (pa_cons pe_non pa_nil))))) pss_nil))))), ?_⟩
  obtain ⟨gg, ks, rs, bs, rfl, S, q1, q2⟩ := h
  obtain ⟨dx, fs, a, b, c, ka, rb, cb, hob, l1, l2, l3, ha, pk, hb, pr, hc, pb⟩ := S.ob
  obtain ⟨z1, z2, z3⟩ := S.sz
  have lka : ka.length = ks.length := Paired.length pk
  have lrb : rb.length = rs.length := Paired.length pr
  have lcb : cb.length = bs.length := Paired.length pb
  refine ⟨_, rfl, gg, C, dx, _, _, rfl, hob, T.cl, T.nR, l2, b, rfl, ⟨_, SqL.of hb⟩, fun D hD => ?_⟩
  have sD := same_new hD (.lst [])
  refine lc_list (K := K) (xs := rb) (fun i H' => H' D = some (.lst ((((rs.take i).map fun r => ((r.2.length : Nat) : Int))).map V.int)) ∧ Same H H') ⟨upd_same, sD⟩ (fun i H' _ h => SqL.of (h.2 _ _ hb)) (fun i v H' hv h => ?turn1) (fun H1 h1 => ?done1)
  case turn1 =>
    obtain ⟨eD, sS⟩ := h
    obtain ⟨r, hr', ⟨ra, ab, xs, rfl, h1, h2, _, h3⟩⟩ := paired_get pr i v hv
    have hi := (List.getElem?_eq_some_iff.mp hv).1
    refine ⟨ra, _, rfl, SqT.of (sS _ _ h1), rfl, _, _, rfl, _, _, rfl, rfl, rfl, ?_⟩
    simp only [tYes, ↓reduceIte]
    refine ⟨_, rfl, ab, _, rfl, .inl (SqL.of (sS _ _ h2)), _, eD, by rw [List.length_map, List.length_map, List.length_take, sizeLine_eq]; omega, ?_, same_upd sS hD⟩
    rw [upd_same, List.take_add_one, hr', List.map_append, List.map_append]
    have : xs.length = r.2.length := Paired.length h3
    rw [this]; rfl
  obtain ⟨eD1, s1⟩ := h1
  rw [lrb, List.take_length] at eD1
  refine ⟨D, _, rfl, SqL.of eD1, ?_⟩
  have hsum1 : ((rs.map fun r => ((r.2.length : Nat) : Int))).sum = ((altsN rs : Nat) : Int) := sum_cast _ _
  rw [hsum1]
  refine ⟨_, rfl, gg, C, dx, _, _, rfl, s1 _ _ hob, T.cl, T.nK, l1, a, rfl, ⟨_, SqL.of (s1 _ _ ha)⟩, fun D2 hD2 => ?_⟩
  have sD2 := same_new hD2 (.lst [])
  have hD2H : H D2 = none := by
    cases e : H D2 with
    | none => rfl
    | some o => rw [s1 _ _ e] at hD2; cases hD2
  refine lc_list (K := K) (xs := ka) (fun i H' => H' D2 = some (.lst ((((ks.take i).map fun k => cntI k.2.1)).map V.int)) ∧ Same H H') ⟨upd_same, s1.trans sD2⟩ (fun i H' _ h => SqL.of (h.2 _ _ ha)) (fun i v H' hv h => ?turn2) (fun H2 h2 => ?done2)
  case turn2 =>
    obtain ⟨eD, sS⟩ := h
    obtain ⟨k, hk', ⟨ra, u, rfl, h1, h3⟩⟩ := paired_get pk i v hv
    have hi := (List.getElem?_eq_some_iff.mp hv).1
    refine ⟨ra, _, rfl, SqT.of (sS _ _ h1), rfl, _, _, rfl, _, _, rfl, _, _, rfl, rfl, rfl, ?_⟩
    simp only [tYes, ↓reduceIte]
    refine ⟨_, rfl, u, k.2.1, rfl, h3.tk (Tk.of_same sS), S.deep k (List.mem_of_getElem? hk'), fun H3 s3 => ⟨_, s3 _ _ eD, by rw [List.length_map, List.length_map, List.length_take, sizeLine_eq]; omega, ?_, same_upd (sS.trans s3) hD2H⟩⟩
    rw [upd_same, List.take_add_one, hk', List.map_append, List.map_append]
    rfl
  obtain ⟨eD2, s2⟩ := h2
  rw [lka, List.take_length] at eD2
  refine ⟨D2, _, rfl, SqL.of eD2, ?_⟩
  have hsum2 : ((ks.map fun k => cntI k.2.1)).sum = ((signsN ks : Nat) : Int) := sum_cast _ _
  rw [hsum2]
  refine ⟨_, rfl, gg, C, dx, _, _, rfl, s2 _ _ hob, T.cl, T.nK, l1, a, _, rfl, .inl (SqL.of (s2 _ _ ha)), _, rfl, _, rfl, gg, C, dx, _, _, rfl, s2 _ _ hob, T.cl, T.nR, l2, b, _, rfl, .inl (SqL.of (s2 _ _ hb)), _, rfl, _, rfl, gg, C, dx, _, _, rfl, s2 _ _ hob, T.cl, T.nB, l3, c, _, rfl, .inr (hc.same s2), (by show 5 ≤ sizeLine; decide), fun p1 hp1 => ⟨(by show 5 ≤ sizeLine; decide), fun p2 hp2 => ?_⟩⟩
  rw [lka, lrb, lcb] at hp2 ⊢
  obtain ⟨sz, hsz⟩ : ∃ sz : List Int, sz = [((ks.length : Nat) : Int), ((signsN ks : Nat) : Int), ((rs.length : Nat) : Int), ((altsN rs : Nat) : Int), ((bs.length : Nat) : Int)] := ⟨_, rfl⟩
  have y1 := same_new hp1 (.tup [.int ((ka.length : Nat) : Int), .int ((signsN ks : Nat) : Int), .int ((rb.length : Nat) : Int), .int ((altsN rs : Nat) : Int), .int ((cb.length : Nat) : Int)])
  rw [lka, lrb, lcb] at y1
  have y2 := same_new hp2 (.tup [.int 14, .int 40, .int 40, .int 100, .int 30])
  have s3 := s2.trans (y1.trans y2)
  have e1 := y2 _ _ (upd_same (H := H2) (a := p1) (o := .tup [.int ((ks.length : Nat) : Int), .int ((signsN ks : Nat) : Int), .int ((rs.length : Nat) : Int), .int ((altsN rs : Nat) : Int), .int ((bs.length : Nat) : Int)]))
  have e2 : (upd (upd H2 p1 (.tup [.int ((ks.length : Nat) : Int), .int ((signsN ks : Nat) : Int), .int ((rs.length : Nat) : Int), .int ((altsN rs : Nat) : Int), .int ((bs.length : Nat) : Int)])) p2 (.tup [.int 14, .int 40, .int 40, .int 100, .int 30])) p2 = some (.tup [.int 14, .int 40, .int 40, .int 100, .int 30]) := upd_same
  generalize upd (upd H2 p1 (.tup [.int ((ks.length : Nat) : Int), .int ((signsN ks : Nat) : Int), .int ((rs.length : Nat) : Int), .int ((altsN rs : Nat) : Int), .int ((bs.length : Nat) : Int)])) p2 (.tup [.int 14, .int 40, .int 40, .int 100, .int 30]) = H3 at s3 e1 e2
  have raise : ∀ H', Same H H' → manyE ks rs bs = true → _ := fun H' s hm => raise_nog (K := K) (y := none) T.tN T.n1 T.n2 ((q2 hm).same s)
  refine ⟨_, rfl, gg, C, dx, _, _, rfl, s3 _ _ hob, T.cl, T.nK, l1, (by show 0 ≤ sizeLine; decide), fun pn hpn => ⟨a, pn, _, rfl, rfl, same_new hpn _ _ _ (s3 _ _ ha), upd_same, _, rfl, ?_⟩⟩
  have s4 := s3.trans (same_new hpn (.lst []))
  have ek : (if false = true then !ka.isEmpty else ka.isEmpty) = decide (ks = []) := by
    cases ka with
    | nil => cases ks with
      | nil => rfl
      | cons _ _ => cases lka
    | cons _ _ => cases ks with
      | nil => cases lka
      | cons _ _ => rfl
  have er : (if false = true then !rb.isEmpty else rb.isEmpty) = decide (rs = []) := by
    cases rb with
    | nil => cases rs with
      | nil => rfl
      | cons _ _ => cases lrb
    | cons _ _ => cases rs with
      | nil => cases lrb
      | cons _ _ => rfl
  rw [ek]
  by_cases k1 : ks = []
  · rw [decide_eq_true k1]
    exact iteT (iteT (raise _ s4 (by unfold manyE; rw [decide_eq_true k1]; rfl)))
  rw [decide_eq_false k1]
  refine iteF ?_
  refine ⟨_, rfl, gg, C, dx, _, _, rfl, s4 _ _ hob, T.cl, T.nR, l2, (by show 0 ≤ sizeLine; decide), fun pn2 hpn2 => ⟨b, pn2, _, rfl, rfl, same_new hpn2 _ _ _ (s4 _ _ hb), upd_same, _, rfl, ?_⟩⟩
  have s5 := s4.trans (same_new hpn2 (.lst []))
  have e1' := (same_new hpn2 (.lst [])) _ _ ((same_new hpn (.lst [])) _ _ e1)
  have e2' := (same_new hpn2 (.lst [])) _ _ ((same_new hpn (.lst [])) _ _ e2)
  rw [er]
  by_cases k2 : rs = []
  · rw [decide_eq_true k2]
    exact iteT (iteT (raise _ s5 (by unfold manyE; rw [decide_eq_true k2]; simp)))
  rw [decide_eq_false k2]
  refine iteF ?_
  generalize upd (upd H3 pn (.lst [])) pn2 (.lst []) = H5 at s5 e1' e2'
  obtain ⟨MI, hMI⟩ : ∃ m : List Int, m = [14, 40, 40, 100, 30] := ⟨_, rfl⟩
  have hx : ([.int ((ks.length : Nat) : Int), .int ((signsN ks : Nat) : Int), .int ((rs.length : Nat) : Int), .int ((altsN rs : Nat) : Int), .int ((bs.length : Nat) : Int)] : List V) = sz.map V.int := by rw [hsz]; rfl
  have hy : ([.int 14, .int 40, .int 40, .int 100, .int 30] : List V) = MI.map V.int := by rw [hMI]; rfl
  rw [hx] at e1'
  rw [hy] at e2'
  have lsz : sz.length = 5 := by rw [hsz]; rfl
  have lMI : MI.length = 5 := by rw [hMI]; rfl
  refine ⟨_, rfl, _, rfl, p1, p2, _, _, rfl, .inr ⟨SqT.of e1', SqT.of e2', fun D3 hD3 => ?_⟩⟩
  have hD3H : H D3 = none := by
    cases e : H D3 with
    | none => rfl
    | some o => rw [s5 _ _ e] at hD3; cases hD3
  have sD3 := same_new hD3 (.lst [])
  refine lc_it (walk_zipT (n := 5) (xs := sz.map V.int) (ys := MI.map V.int) (by rw [List.length_map, lsz]) (by rw [List.length_map, List.length_map, lsz, lMI])) (fun i H' => H' D3 = some (.lst (((List.zipWith (fun s m => decide (m < s)) sz MI).take i).map V.bl)) ∧ Same H H' ∧ H' p1 = some (.tup (sz.map V.int)) ∧ H' p2 = some (.tup (MI.map V.int)))
    ⟨upd_same, s5.trans sD3, sD3 _ _ e1', sD3 _ _ e2'⟩ (fun i H' _ h => ⟨SqT.of h.2.2.1, SqT.of h.2.2.2⟩) (fun i y H6 H7 hi h z => ?turn3) (fun H' h => ?done3)
  case turn3 =>
    obtain ⟨eD, sS, h1, h2⟩ := h
    obtain ⟨t, x, y', rfl, ht, rfl, hx', hy'⟩ := z
    have zz := same_new ht (.tup [x, y'])
    have hx' : (sz.map V.int)[i]? = some x := hx'
    have hy' : (MI.map V.int)[i]? = some y' := hy'
    rw [List.getElem?_map] at hx' hy'
    have hi1 : i < sz.length := by omega
    have hi2 : i < MI.length := by omega
    rw [List.getElem?_eq_getElem hi1] at hx'
    rw [List.getElem?_eq_getElem hi2] at hy'
    obtain rfl : V.int sz[i] = x := Option.some.inj hx'
    obtain rfl : V.int MI[i] = y' := Option.some.inj hy'
    have p1D : p1 ≠ D3 := fun e => by rw [e, eD] at h1; cases h1
    have p2D : p2 ≠ D3 := fun e => by rw [e, eD] at h2; cases h2
    refine ⟨t, _, rfl, SqT.of upd_same, rfl, _, _, rfl, _, _, rfl, rfl, rfl, ?_⟩
    simp only [tYes, ↓reduceIte]
    refine ⟨_, rfl, _, rfl, _, _, rfl, rfl, _, zz _ _ eD, ?_, ?_, same_upd (sS.trans zz) hD3H, by rw [upd_ne p1D]; exact zz _ _ h1, by rw [upd_ne p2D]; exact zz _ _ h2⟩
    · rw [List.length_map, List.length_take, sizeLine_eq]; omega
    · rw [upd_same, List.take_add_one, List.getElem?_zipWith, List.getElem?_eq_getElem hi1, List.getElem?_eq_getElem hi2, List.map_append]
      rfl
  case done3 =>
    obtain ⟨eD, sS, h1, h2⟩ := h
    rw [List.take_of_length_le (by rw [List.length_zipWith, lsz, lMI]; exact Nat.le_refl _)] at eD
    refine ⟨D3, _, rfl, SqL.of eD, ?_⟩
    have eany : (List.zipWith (fun s m => decide (m < s)) sz MI).any id = manyE ks rs bs := by
      rw [hsz, hMI]
      unfold manyE
      rw [decide_eq_false k1, decide_eq_false k2]
      show (decide ((14 : Int) < ((ks.length : Nat) : Int)) || (decide ((40 : Int) < ((signsN ks : Nat) : Int)) || (decide ((40 : Int) < ((rs.length : Nat) : Int)) || (decide ((100 : Int) < ((altsN rs : Nat) : Int)) || (decide ((30 : Int) < ((bs.length : Nat) : Int)) || false))))) = _
      have cv : ∀ n m : Nat, decide (((n : Nat) : Int) < ((m : Nat) : Int)) = decide (n < m) := fun n m => by
        by_cases h : n < m
        · rw [decide_eq_true h, decide_eq_true (by omega)]
        · rw [decide_eq_false h, decide_eq_false (by omega)]
      have c1 := cv 14 ks.length
      have c2 := cv 40 (signsN ks)
      have c3 := cv 40 rs.length
      have c4 := cv 100 (altsN rs)
      have c5 := cv 30 bs.length
      have c1' : decide ((14 : Int) < ((ks.length : Nat) : Int)) = decide (14 < ks.length) := c1
      have c2' : decide ((40 : Int) < ((signsN ks : Nat) : Int)) = decide (40 < signsN ks) := c2
      have c3' : decide ((40 : Int) < ((rs.length : Nat) : Int)) = decide (40 < rs.length) := c3
      have c4' : decide ((100 : Int) < ((altsN rs : Nat) : Int)) = decide (100 < altsN rs) := c4
      have c5' : decide ((30 : Int) < ((bs.length : Nat) : Int)) = decide (30 < bs.length) := c5
      rw [c1', c2', c3', c4', c5']
      simp [Bool.or_assoc]
    rw [eany]
    cases hm : manyE ks rs bs with
    | true => exact ⟨_, rfl, iteT (raise _ sS hm)⟩
    | false => exact ⟨_, rfl, iteF (q1 hm _ sS)⟩
end
end Pa
set_option maxHeartbeats 4000000
namespace Pa
open PySem PySem.Spec PyProof.Rows L2 Ty
theorem scLabel : FnScope ["self", "label", "row"] ["self", "label", "row"] (defScope gLabel) := ⟨rfl, rfl, rfl, by decide +kernel, rfl, by decide +kernel, by decide +kernel⟩
def spLabel (C CN : Addr) : Sp := fun vs H Q E => ∃ (g b hd dx : Addr) (fs : List (Str × V)) (kvs : List (Key × V)) (ls : List Str) (l : Str) (row : List Str), vs = [.ref g, .str l, .ref b] ∧ H g = some (.ins C dx fs) ∧ fs.lookup ("homes" : Str) = some (.ref hd) ∧ H hd = some (.dK kvs) ∧ kvs.map (·.1) = ls.map Sum.inr ∧
  H b = some (.tup (row.map V.str)) ∧ l.length ≤ 16000000 ∧ (altE ls [(l, row)] = none → ∀ H', Same H H' → Q .non H') ∧ (∀ e, altE ls [(l, row)] = some e → Out E CN H e)
section
variable {P : Program} {w : World} {K : PySem.W.Frag} {mg : Str → Option Value} {base : Heap} {f g C CN fN : Addr} {fd gd dN : FuncData} {t1 : Tok}
theorem ok_label (F : Fun K "look_label" "Grammar.look_label" gLabel f fd) (T : GTxt K mg C CN fN) (GN : FnOk P w K mg base CX0 1 fN dN ["self", "what", "name"] (spNoG K CN)) (bN : Binds K dN ["self", "what", "name"] [])
    (G : FnOk P w K mg base CX0 1 g gd ["thing"] (spB nameP)) (bG : Binds K gd ["thing"] []) (kG : PySem.W.keepIn K (.ref g) = true) (mG : mg "is_name" = some (.ref g)) (c1 : mg "MOST_SYMBOLS" = some (.int 6 t1)) (ml : mg "len" = none) :
    FnOk P w K mg base (L2.CX P w) 3 f fd ["self", "label", "row"] (spLabel C CN) := by
  refine F.okX scLabel (fun vs H Q E h => ?_) (fun cdv A outer s H vs Q E hr h => ?_)
  · obtain ⟨_, _, _, _, _, _, _, _, _, rfl, _⟩ := h
    rfl
  have hu1 := hu_of hr
  have G' := G.mono (show 1 ≤ 2 by decide)
  refine ⟨_, pss_cons (ps_if (pt_not (pt_val (pe_call G' hr rfl mG kG bG .nil pass0 (pa_cons (pv 1) pa_nil))))
      (pss_one (ps_raise rfl (takes_of rfl rfl rfl rfl) (pmk_oex T.tN T.iN T.yN GN (hr.mono (by decide)) bN .nil pass0 rfl T.mN (pa_cons pe_str (pa_cons (pv 1) pa_nil))))) pss_nil)
    (pss_cons (ps_if (pt_cmp (pc_din hu1 (pv 1) (pe_fld (pv 0) rfl)))
      (pss_one (ps_raise rfl (takes_of rfl rfl rfl rfl) (pmk_oex T.tN T.iN T.yN GN (hr.mono (by decide)) bN .nil pass0 rfl T.mN (pa_cons pe_str (pa_cons (pv 1) pa_nil))))) pss_nil)
    (pss_one (ps_if (pt_cmpR op_gt (pe_callB call_len_seq rfl ml PySem.boot_len (pa_cons (pv 2) pa_nil)) (pe_glob rfl c1 (show RelV (.int 6) (.int 6 t1) from ⟨_, rfl⟩)) (nomark _))
      (pss_one (ps_raise rfl (takes_of rfl rfl rfl rfl) (pmk_oex T.tN T.iN T.yN GN (hr.mono (by decide)) bN .nil pass0 rfl T.mN (pa_cons pe_str (pa_cons (pv 1) pa_nil))))) pss_nil))), ?_⟩
  obtain ⟨gg, b, hd, dx, fs, kvs, ls, l, row, rfl, hg, l1, hh, hk, hb, hl, q1, q2⟩ := h
  have ea : altE ls [(l, row)] = if nameP l = false then some (("label" : Str), some l) else if l ∈ ls then some (("again" : Str), some l) else if 6 < row.length then some (("long" : Str), some l) else none := rfl
  refine ⟨_, rfl, l, rfl, hl, fun H1 s1 => ⟨_, rfl, ?_⟩⟩
  cases hn : nameP l with
  | false =>
    rw [hn, if_pos rfl] at ea
    exact iteT ⟨_, rfl, raise_nog (y := some l) T.tN T.n1 T.n2 ((q2 _ ea).same s1)⟩
  | true =>
    rw [hn, if_neg (by decide)] at ea
    refine iteF ?_
    refine ⟨_, rfl, _, rfl, gg, C, dx, _, _, rfl, s1 _ _ hg, T.cl, T.nH, l1, hd, _, rfl, DGet.k (k := Sum.inr l) (s1 _ _ hh), _, rfl, ?_⟩
    have hin : (valV kvs (Sum.inr l : Key)).isSome = decide (l ∈ ls) := by
      cases hv : valV kvs (Sum.inr l : Key) with
      | some v =>
        have := valV_in hv
        rw [hk] at this
        obtain ⟨x, hx, e⟩ := List.mem_map.mp this
        injection e with e
        rw [e] at hx
        rw [decide_eq_true hx]; rfl
      | none =>
        have := valV_not hv
        rw [hk] at this
        rw [decide_eq_false fun h => this (List.mem_map.mpr ⟨l, h, rfl⟩)]; rfl
    rw [hin]
    by_cases hm : l ∈ ls
    · rw [if_pos hm] at ea
      rw [decide_eq_true hm]
      exact iteT ⟨_, rfl, raise_nog (y := some l) T.tN T.n1 T.n2 ((q2 _ ea).same s1)⟩
    · rw [if_neg hm] at ea
      rw [decide_eq_false hm]
      refine iteF ?_
      refine ⟨_, rfl, b, _, rfl, .inr (SqT.of (s1 _ _ hb)), _, _, rfl, rfl, _, rfl, ?_⟩
      rw [List.length_map]
      by_cases h6 : 6 < row.length
      · rw [if_pos h6] at ea
        rw [show decide ((6 : Int) < ((row.length : Nat) : Int)) = true from decide_eq_true (by omega)]
        exact iteT ⟨_, rfl, raise_nog (y := some l) T.tN T.n1 T.n2 ((q2 _ ea).same s1)⟩
      · rw [if_neg h6] at ea
        rw [show decide ((6 : Int) < ((row.length : Nat) : Int)) = false from decide_eq_false (by omega)]
        exact iteF (q1 ea _ s1)
end
end Pa
set_option maxHeartbeats 4000000
namespace Pa
open PySem PySem.Spec PyProof.Rows L2 Ty
/-- what stands but for some -/
def KX (X : List Addr) (H H' : Hp) : Prop := ∀ c o, c ∉ X → H c = some o → H' c = some o
theorem KX.of {X : List Addr} {H H' : Hp} (s : Same H H') : KX X H H' := fun c o _ e => s c o e
theorem KX.trans {X : List Addr} {H H1 H2 : Hp} (a : KX X H H1) (b : KX X H1 H2) : KX X H H2 := fun c o n e => b c o n (a c o n e)
theorem KX.upd {X : List Addr} {H : Hp} {p : Addr} (m : p ∈ X) (o : HO) : KX X H (upd H p o) := fun c u n e => by rw [upd_ne (fun q => n (by rw [q]; exact m))]; exact e
theorem scKinds2 : FnScope ["self", "name", "pattern", "skipped"] ["self"] (defScope gKinds) := ⟨rfl, rfl, rfl, by decide +kernel, rfl, by decide +kernel, by decide +kernel⟩
/-- a dict's entry: a kind's name and its pattern -/
def PkV (H : Hp) (kv : Key × V) (k : Str × Pat × Bool) : Prop := kv.1 = Sum.inr k.1 ∧ RP H k.2.1 kv.2
theorem PkV.tk {H H' : Hp} {kv : Key × V} {k : Str × Pat × Bool} (h : PkV H kv k) (t : Tk H H') : PkV H' kv k := ⟨h.1, h.2.tk t⟩
def spGKinds (D : Nat) (C CN : Addr) : Sp := fun vs H Q E => ∃ (g a pd sd dx : Addr) (fs : List (Str × V)) (ka : List V) (ks : Kds), vs = [.ref g] ∧ H g = some (.ins C dx fs) ∧ fs.lookup ("kind_rows" : Str) = some (.ref a) ∧ fs.lookup ("patterns" : Str) = some (.ref pd) ∧ fs.lookup ("skips" : Str) = some (.ref sd) ∧
  H a = some (.lst ka) ∧ Paired (KdV H) ka ks ∧ H pd = some (.dK []) ∧ H sd = some (.dK []) ∧ pd ≠ sd ∧ ks.length ≤ 10000 ∧ (∀ k, k ∈ ks → k.1.length ≤ 16000000 ∧ sizeP k.2.1 ≤ 1000 ∧ deepP k.2.1 ≤ D) ∧
  (kindE [] ks = none → ∀ pk H', H' pd = some (.dK pk) → pk.map (·.1) = ks.map (fun k => (Sum.inr k.1 : Key)) → Paired (PkV H) pk ks → H' sd = some (.dK (ks.map fun k => ((Sum.inr k.1 : Key), V.bl k.2.2))) → KX [pd, sd] H H' → Q .non H') ∧
  (∀ e, kindE [] ks = some e → ∀ H', KX [pd, sd] H H' → Out E CN H' e)
section
variable {P : Program} {w : World} {K : PySem.W.Frag} {mg : Str → Option Value} {base : Heap} {f g g2 C CN fN : Addr} {fd gd gd2 dN : FuncData} {t1 : Tok}
theorem ok_gkinds {D : Nat} (F : Fun K "look_kinds" "Grammar.look_kinds" gKinds f fd) (T : GTxt K mg C CN fN) (GN : FnOk P w K mg base CX0 1 fN dN ["self", "what", "name"] (spNoG K CN)) (bN : Binds K dN ["self", "what", "name"] [])
    (G : FnOk P w K mg base CX0 1 g gd ["thing"] (spB nameP)) (bG : Binds K gd ["thing"] []) (kG : PySem.W.keepIn K (.ref g) = true) (mG : mg "is_name" = some (.ref g))
    (G2 : FnOk P w K mg base CX0 (3 * D + 3) g2 gd2 ["pattern"] (spNone D)) (b2 : Binds K gd2 ["pattern"] []) (k2 : PySem.W.keepIn K (.ref g2) = true) (m2 : mg "spells_none" = some (.ref g2)) :
    FnOk P w K mg base (L2.CX P w) (3 * D + 4) f fd ["self"] (spGKinds D C CN) := by
  refine F.okX scKinds2 (fun vs H Q E h => ?_) (fun cdv A outer s H vs Q E hr h => ?_)
  · obtain ⟨_, _, _, _, _, _, _, _, rfl, _⟩ := h
    rfl
  have hu1 := hu_of hr
  have G' := G.mono (show 1 ≤ 3 * D + 3 by omega)
  refine ⟨_, pss_one (ps_for (passes_of rfl) rfl (pi_list (pe_fld (pv 0) rfl)) (pg_tup rfl (pgs_cons (pg_name (i := 1) scKinds2.nd rfl (Or.inl rfl)) (pgs_cons (pg_name (i := 2) scKinds2.nd rfl (Or.inl rfl)) (pgs_cons (pg_name (i := 3) scKinds2.nd rfl (Or.inl rfl)) pgs_nil))))
    (pss_cons (ps_if (pt_not (pt_val (pe_call G' hr rfl mG kG bG .nil pass0 (pa_cons (pv 1) pa_nil))))
      (pss_one (ps_raise rfl (takes_of rfl rfl rfl rfl) (pmk_oex T.tN T.iN T.yN GN (hr.mono (show 1 + 1 ≤ 3 * D + 3 by omega)) bN .nil pass0 rfl T.mN (pa_cons pe_str (pa_cons (pv 1) pa_nil))))) pss_nil)
    (pss_cons (ps_if (pt_cmp (pc_din hu1 (pv 1) (pe_fld (pv 0) rfl)))
      (pss_one (ps_raise rfl (takes_of rfl rfl rfl rfl) (pmk_oex T.tN T.iN T.yN GN (hr.mono (show 1 + 1 ≤ 3 * D + 3 by omega)) bN .nil pass0 rfl T.mN (pa_cons pe_str (pa_cons (pv 1) pa_nil))))) pss_nil)
    (pss_cons (ps_if (pt_val (pe_call G2 hr rfl m2 k2 b2 .nil pass0 (pa_cons (pv 2) pa_nil)))
      (pss_one (ps_raise rfl (takes_of rfl rfl rfl rfl) (pmk_oex T.tN T.iN T.yN GN (hr.mono (show 1 + 1 ≤ 3 * D + 3 by omega)) bN .nil pass0 rfl T.mN (pa_cons pe_str (pa_cons (pv 1) pa_nil))))) pss_nil)
    (pss_cons (ps_dput hu1 (pe_fld (pv 0) rfl) (pv 1) (pv 2) rfl)
    (pss_one (ps_dput hu1 (pe_fld (pv 0) rfl) (pv 1) (pv 3) rfl))))))), ?_⟩
  obtain ⟨gg, a, pd, sd, dx, fs, ka, ks, rfl, hg, l1, l2, l3, ha, pk, hp, hs, ps, hk, hok, q1, q2⟩ := h
  have gx : gg ∉ [pd, sd] := fun h => by
    rcases List.mem_cons.mp h with e | h
    · rw [e, hp] at hg; cases hg
    · rw [List.mem_singleton.mp h, hs] at hg; cases hg
  have ax : a ∉ [pd, sd] := fun h => by
    rcases List.mem_cons.mp h with e | h
    · rw [e, hp] at ha; cases ha
    · rw [List.mem_singleton.mp h, hs] at ha; cases ha
  have tkx : ∀ {H'}, KX [pd, sd] H H' → Tk H H' := fun {H'} k c xs e => k c _ (fun h => by
    rcases List.mem_cons.mp h with q | h
    · rw [q, hp] at e; cases e
    · rw [List.mem_singleton.mp h, hs] at e; cases e) e
  have lka : ka.length = ks.length := Paired.length pk
  refine ⟨_, rfl, gg, C, dx, _, _, rfl, hg, T.cl, T.nK, l1, a, rfl, ⟨_, SqL.of ha⟩, ?_⟩
  refine for_list (K := K) (xs := ka) (fun i σ H' => ∃ x1 x2 x3 pkv, σ = [some (.ref gg), x1, x2, x3] ∧ H' pd = some (.dK pkv) ∧ pkv.map (·.1) = (ks.take i).map (fun k => (Sum.inr k.1 : Key)) ∧ H' sd = some (.dK ((ks.take i).map fun k => ((Sum.inr k.1 : Key), V.bl k.2.2))) ∧ KX [pd, sd] H H' ∧ kindE [] ks = kindE ((ks.take i).map (·.1)) (ks.drop i) ∧ Paired (PkV H) pkv (ks.take i))
    ⟨_, _, _, [], rfl, hp, rfl, hs, KX.of same_refl, rfl, .nil⟩ (fun i σ H' _ h => by obtain ⟨_, _, _, _, _, _, _, _, k, _⟩ := h; exact SqL.of (k _ _ ax ha)) (fun i v σ H' hv h => ?turn) (fun σ H' h => ?done)
  case done =>
    obtain ⟨x1, x2, x3, pkv, rfl, e1, e2, e3, kx, ek, pkp⟩ := h
    rw [lka, List.take_length] at e2 e3 pkp
    rw [lka, List.drop_length] at ek
    exact q1 ek pkv H' e1 e2 pkp e3 kx
  case turn =>
    obtain ⟨x1, x2, x3, pkv, rfl, e1, e2, e3, kx, ek, pkp⟩ := h
    obtain ⟨⟨n, p, sk⟩, hki, ⟨ra, u, rfl, h1, h2⟩⟩ := paired_get pk i v hv
    have hi : i < ks.length := (List.getElem?_eq_some_iff.mp hki).1
    have kok := hok _ (List.mem_of_getElem? hki)
    have hdrop : ks.drop i = (n, p, sk) :: ks.drop (i + 1) := by
      rw [List.drop_eq_getElem_cons hi]
      congr 1
      rw [List.getElem?_eq_getElem hi] at hki
      exact Option.some.inj hki
    have htk : ks.take (i + 1) = ks.take i ++ [(n, p, sk)] := by rw [List.take_add_one, hki]; rfl
    rw [hdrop] at ek
    have ea : kindE ((ks.take i).map (·.1)) ((n, p, sk) :: ks.drop (i + 1)) = if nameP n = false then some (("name" : Str), some n) else if n ∈ (ks.take i).map (·.1) then some (("twice" : Str), some n) else if bareP p = true then some (("empty" : Str), some n) else kindE ((ks.take i).map (·.1) ++ [n]) (ks.drop (i + 1)) := rfl
    rw [ea] at ek
    have tk := tkx kx
    refine ⟨ra, _, rfl, SqT.of (tk _ _ h1), rfl, _, _, rfl, _, _, rfl, _, _, rfl, rfl, ?_⟩
    refine ⟨_, rfl, n, rfl, kok.1, fun H1 s1 => ⟨_, rfl, ?_⟩⟩
    have kx1 := kx.trans (KX.of s1)
    cases hn : nameP n with
    | false =>
      rw [hn, if_pos rfl] at ek
      exact iteT ⟨_, rfl, raise_nog (y := some n) T.tN T.n1 T.n2 (q2 _ ek H1 kx1)⟩
    | true =>
      rw [hn, if_neg (by decide)] at ek
      refine iteF ?_
      refine ⟨_, rfl, _, rfl, gg, C, dx, _, _, rfl, kx1 _ _ gx hg, T.cl, T.nP, l2, pd, _, rfl, DGet.k (k := Sum.inr n) (s1 _ _ e1), _, rfl, ?_⟩
      by_cases hm : n ∈ (ks.take i).map (·.1)
      · rw [if_pos hm] at ek
        have hin : (valV pkv (Sum.inr n : Key)).isSome = true := by
          cases hv : valV pkv (Sum.inr n : Key) with
          | some v => rfl
          | none =>
            have := valV_not hv
            rw [e2] at this
            obtain ⟨k, hk, e⟩ := List.mem_map.mp hm
            exact absurd (List.mem_map.mpr ⟨k, hk, by rw [e]⟩) this
        rw [hin]
        exact iteT ⟨_, rfl, raise_nog (y := some n) T.tN T.n1 T.n2 (q2 _ ek H1 kx1)⟩
      · rw [if_neg hm] at ek
        have hno : valV pkv (Sum.inr n : Key) = none := by
          cases hv : valV pkv (Sum.inr n : Key) with
          | none => rfl
          | some v =>
            have := valV_in hv
            rw [e2] at this
            obtain ⟨k, hk, e⟩ := List.mem_map.mp this
            injection e with e
            exact absurd (List.mem_map.mpr ⟨k, hk, e⟩) hm
        rw [hno]
        refine iteF ?_
        refine ⟨_, rfl, u, p, rfl, h2.tk (tk.trans (Tk.of_same s1)), kok.2.1, kok.2.2, fun bb H2 hbb s2 => ⟨_, rfl, ?_⟩⟩
        have kx2 := kx1.trans (KX.of s2)
        have ebb : bb = bareP p := Bool.eq_iff_iff.mpr (hbb.trans (bare_iff p).symm)
        subst ebb
        cases hb : bareP p with
        | true =>
          rw [hb, if_pos rfl] at ek
          exact iteT ⟨_, rfl, raise_nog (y := some n) T.tN T.n1 T.n2 (q2 _ ek H2 kx2)⟩
        | false =>
          rw [hb, if_neg (by decide)] at ek
          refine iteF ?_
          have e1' := s2 _ _ (s1 _ _ e1)
          have e3' := s2 _ _ (s1 _ _ e3)
          have lpk : pkv.length = (ks.take i).length := by
            have := congrArg List.length e2
            rw [List.length_map, List.length_map] at this; exact this
          have lti : (ks.take i).length ≤ 10000 := by rw [List.length_take]; omega
          refine ⟨_, rfl, _, rfl, gg, C, dx, _, _, rfl, kx2 _ _ gx hg, T.cl, T.nP, l2, _, rfl, pd, _, rfl, DPut.k (k := Sum.inr n) e1' (by rw [sizeLine_eq]; omega), ?_⟩
          rw [putK_new _ hno]
          have kx3 := kx2.trans (KX.upd (X := [pd, sd]) (p := pd) List.mem_cons_self (.dK (pkv ++ [(Sum.inr n, u)])))
          have e3'' : (upd H2 pd (.dK (pkv ++ [(Sum.inr n, u)]))) sd = some (.dK ((ks.take i).map fun k => ((Sum.inr k.1 : Key), V.bl k.2.2))) := by rw [upd_ne (Ne.symm ps)]; exact e3'
          refine ⟨_, rfl, _, rfl, gg, C, dx, _, _, rfl, kx3 _ _ gx hg, T.cl, T.nS, l3, _, rfl, sd, _, rfl, DPut.k (k := Sum.inr n) e3'' (by rw [List.length_map, sizeLine_eq]; omega), ?_⟩
          have hno2 : valV ((ks.take i).map fun k => ((Sum.inr k.1 : Key), V.bl k.2.2)) (Sum.inr n : Key) = none := by
            cases hv : valV ((ks.take i).map fun k => ((Sum.inr k.1 : Key), V.bl k.2.2)) (Sum.inr n : Key) with
            | none => rfl
            | some v =>
              have := valV_in hv
              rw [List.map_map] at this
              obtain ⟨k, hk, e⟩ := List.mem_map.mp this
              injection e with e
              exact absurd (List.mem_map.mpr ⟨k, hk, e⟩) hm
          rw [putK_new _ hno2]
          refine ⟨_, _, _, pkv ++ [(Sum.inr n, u)], rfl, by rw [upd_ne ps]; exact upd_same, by rw [htk, List.map_append, List.map_append, e2]; rfl, by rw [upd_same, htk, List.map_append]; rfl, kx3.trans (KX.upd (List.mem_cons_of_mem _ (List.mem_singleton_self _)) _), ?_, by rw [htk]; exact paired_snoc pkp ⟨rfl, h2⟩⟩
          rw [htk, List.map_append]
          exact ek
end
end Pa
set_option maxHeartbeats 4000000
namespace Pa
open PySem PySem.Spec PyProof.Rows L2 Ty
theorem scSyms : FnScope ["self", "row", "symbol"] ["self"] (defScope gSymbols) := ⟨rfl, rfl, rfl, by decide +kernel, rfl, by decide +kernel, by decide +kernel⟩
theorem key_in {kvs : List (Key × V)} {ns : List Str} (hk : kvs.map (·.1) = ns.map Sum.inr) (n : Str) : (valV kvs (Sum.inr n : Key)).isSome = decide (n ∈ ns) := by
  cases hv : valV kvs (Sum.inr n : Key) with
  | some v =>
    have := valV_in hv
    rw [hk] at this
    obtain ⟨x, hx, e⟩ := List.mem_map.mp this
    injection e with e
    rw [e] at hx
    rw [decide_eq_true hx]; rfl
  | none =>
    have := valV_not hv
    rw [hk] at this
    rw [decide_eq_false fun h => this (List.mem_map.mpr ⟨n, h, rfl⟩)]; rfl
def spSyms (C CN : Addr) : Sp := fun vs H Q E => ∃ (g ed pd wd sd dx : Addr) (fs : List (Str × V)) (ek pk wk sk : List (Key × V)) (rows : List (List Str)) (names heads skips : List Str), vs = [.ref g] ∧ H g = some (.ins C dx fs) ∧ fs.lookup ("spelled" : Str) = some (.ref ed) ∧ fs.lookup ("patterns" : Str) = some (.ref pd) ∧ fs.lookup ("label_rows" : Str) = some (.ref wd) ∧ fs.lookup ("skips" : Str) = some (.ref sd) ∧
  H ed = some (.dK ek) ∧ Paired (fun (kv : Key × V) row => ∃ b, kv.2 = .ref b ∧ H b = some (.tup (row.map V.str))) ek rows ∧ H pd = some (.dK pk) ∧ pk.map (·.1) = names.map Sum.inr ∧ H wd = some (.dK wk) ∧ wk.map (·.1) = heads.map Sum.inr ∧ H sd = some (.dK sk) ∧
  (∀ n, (valV sk (Sum.inr n : Key)).getD (.bl false) = .bl (decide (n ∈ skips))) ∧ ed ≠ pd ∧ ed ≠ wd ∧ ed ≠ sd ∧
  (symE names heads skips rows.flatten = none → ∀ H', Same H H' → Q .non H') ∧ (∀ e, symE names heads skips rows.flatten = some e → ∀ H', KX [ed] H H' → Out E CN H' e)
section
variable {P : Program} {w : World} {K : PySem.W.Frag} {mg : Str → Option Value} {base : Heap} {f C CN fN : Addr} {fd dN : FuncData}
theorem ok_syms (F : Fun K "look_symbols" "Grammar.look_symbols" gSymbols f fd) (T : GTxt K mg C CN fN) (GN : FnOk P w K mg base CX0 1 fN dN ["self", "what", "name"] (spNoG K CN)) (bN : Binds K dN ["self", "what", "name"] []) :
    FnOk P w K mg base (L2.CX P w) 3 f fd ["self"] (spSyms C CN) := by
  refine F.okX scSyms (fun vs H Q E h => ?_) (fun cdv A outer s H vs Q E hr h => ?_)
  · obtain ⟨_, _, _, _, _, _, _, _, _, _, _, _, _, _, _, rfl, _⟩ := h
    rfl
  have hu1 := hu_of hr
  refine ⟨_, pss_one (ps_lock (ps_for (passes_of rfl) rfl (pi_values (pe_fld (pv 0) rfl)) (pg_name (i := 1) scSyms.nd rfl (Or.inl rfl))
    (pss_one (ps_for (passes_of rfl) rfl (pi_tup (pv 1)) (pg_name (i := 2) scSyms.nd rfl (Or.inl rfl))
      (pss_cons (ps_if (PW.pt (pw_and (pt_cmp (pc_dnotin hu1 (pv 2) (pe_fld (pv 0) rfl))) (pw_and1 (pt_cmp (pc_dnotin hu1 (pv 2) (pe_fld (pv 0) rfl))))))
        (pss_one (ps_raise rfl (takes_of rfl rfl rfl rfl) (pmk_oex T.tN T.iN T.yN GN (hr.mono (by decide)) bN .nil pass0 rfl T.mN (pa_cons pe_str (pa_cons (pv 2) pa_nil))))) pss_nil)
      (pss_one (ps_if (pt_val (pe_dget2 hu1 (pe_fld (pv 0) rfl) (pv 2) pe_bl ⟨rfl, rfl, rfl, rfl⟩))
        (pss_one (ps_raise rfl (takes_of rfl rfl rfl rfl) (pmk_oex T.tN T.iN T.yN GN (hr.mono (by decide)) bN .nil pass0 rfl T.mN (pa_cons pe_str (pa_cons (pv 2) pa_nil))))) pss_nil))))))), ?_⟩
  obtain ⟨gg, ed, pd, wd, sd, dx, fs, ek, pk, wk, sk, rows, names, heads, skips, rfl, hg, l1, l2, l3, l4, he, pe, hp, kp, hw, kw, hs, hsk, n1, n2, n3, q1, q2⟩ := h
  refine ⟨ed, .dK ek, he, trivial, fun od => ?_⟩
  have ge : gg ≠ ed := fun e => by rw [e, he] at hg; cases hg
  have up : ∀ {c u}, c ≠ ed → H c = some u → (upd H ed (.frz od (.dK ek))) c = some u := fun n e => by rw [upd_ne n]; exact e
  have efr : (upd H ed (.frz od (.dK ek))) ed = some (.frz od (.dK ek)) := upd_same
  have kxL : KX [ed] H (upd H ed (.frz od (.dK ek))) := KX.upd List.mem_cons_self _
  have back : ∀ H', Same (upd H ed (.frz od (.dK ek))) H' → Same H (upd H' ed (.dK ek)) := fun H' s c u e => by
    by_cases q : c = ed
    · rw [q, upd_same, ← he, ← q]; exact e
    · rw [upd_ne q]; exact s _ _ (up q e)
  generalize upd H ed (.frz od (.dK ek)) = HL at up efr kxL back
  have lek : ek.length = rows.length := Paired.length pe
  refine ⟨_, rfl, gg, C, dx, _, _, rfl, up ge hg, T.cl, T.nL, l1, ed, od, ek, rfl, efr, ?_⟩
  refine for_it walk_values (fun i σ H' => ∃ x1 x2, σ = [some (.ref gg), x1, x2] ∧ Same HL H' ∧ symE names heads skips rows.flatten = symE names heads skips (rows.drop i).flatten) ⟨_, _, rfl, same_refl, rfl⟩ (fun i σ H' _ h => by obtain ⟨_, _, _, s, _⟩ := h; exact s _ _ efr) (fun i x σ H1 H2 hi h z => ?turn) (fun σ H' h => ?done)
  case done =>
    obtain ⟨x1, x2, rfl, s, es⟩ := h
    rw [lek, List.drop_length] at es
    exact ⟨s _ _ efr, q1 es _ (back _ s)⟩
  case turn =>
    obtain ⟨x1, x2, rfl, s, es⟩ := h
    obtain ⟨rfl, k, hk⟩ := z
    obtain ⟨row, hrow, b, hb, hbt⟩ := paired_get pe i _ hk
    have hb : x = .ref b := hb
    subst hb
    have hi2 : i < rows.length := by omega
    have hdrop : rows.drop i = row :: rows.drop (i + 1) := by
      rw [List.drop_eq_getElem_cons hi2]
      congr 1
      rw [List.getElem?_eq_getElem hi2] at hrow
      exact Option.some.inj hrow
    rw [hdrop, List.flatten_cons] at es
    have be : b ≠ ed := fun e => by rw [e, he] at hbt; cases hbt
    have hbL := s _ _ (up be hbt)
    refine ⟨_, rfl, b, rfl, ⟨_, SqT.of hbL⟩, for_tup (K := K) (xs := row.map V.str) (fun j σ H' => ∃ x1 x2, σ = [some (.ref gg), x1, x2] ∧ Same HL H' ∧ symE names heads skips rows.flatten = symE names heads skips (row.drop j ++ (rows.drop (i + 1)).flatten)) ⟨_, _, rfl, s, es⟩ (fun j σ H' _ h => by obtain ⟨_, _, _, s', _⟩ := h; exact SqT.of (s' _ _ (up be hbt))) (fun j y σ H' hy h => ?turn2) (fun σ H' h => ?done2)⟩
    case done2 =>
      obtain ⟨x1, x2, rfl, s', es'⟩ := h
      rw [List.length_map, List.drop_length] at es'
      exact ⟨_, _, rfl, s', es'⟩
    case turn2 =>
      obtain ⟨x1, x2, rfl, s', es'⟩ := h
      rw [List.getElem?_map] at hy
      obtain ⟨n, hn, rfl⟩ : ∃ n, row[j]? = some n ∧ V.str n = y := by
        cases e : row[j]? with
        | none => rw [e] at hy; cases hy
        | some k => rw [e] at hy; exact ⟨k, rfl, Option.some.inj hy⟩
      have hj : j < row.length := (List.getElem?_eq_some_iff.mp hn).1
      have hd2 : row.drop j = n :: row.drop (j + 1) := by
        rw [List.drop_eq_getElem_cons hj]
        congr 1
        rw [List.getElem?_eq_getElem hj] at hn
        exact Option.some.inj hn
      rw [hd2] at es'
      have ee : symE names heads skips (n :: (row.drop (j + 1) ++ (rows.drop (i + 1)).flatten)) = if n ∉ names ∧ n ∉ heads then some (("symbol" : Str), some n) else if n ∈ skips then some (("skipped" : Str), some n) else symE names heads skips (row.drop (j + 1) ++ (rows.drop (i + 1)).flatten) := rfl
      rw [List.cons_append, ee] at es'
      have kx := kxL.trans (KX.of (X := [ed]) s')
      have raise : ∀ (t : Str), symE names heads skips rows.flatten = some (t, some n) → _ := fun t e => raise_nog (K := K) (x := t) (y := some n) T.tN T.n1 T.n2 (q2 _ e H' kx)
      refine ⟨_, rfl, _, rfl, gg, C, dx, _, _, rfl, s' _ _ (up ge hg), T.cl, T.nP, l2, pd, _, rfl, DGet.k (k := Sum.inr n) (s' _ _ (up (Ne.symm n1) hp)), _, rfl, ?_⟩
      rw [key_in kp n]
      by_cases a1 : n ∈ names
      · rw [decide_eq_true a1]
        refine iteF (iteF ?_)
        have es2 := es'
        rw [if_neg (fun q => q.1 a1)] at es2
        refine ⟨_, rfl, gg, C, dx, _, _, rfl, s' _ _ (up ge hg), T.cl, T.nS, l4, sd, rfl, .inl ⟨_, .inl (s' _ _ (up (Ne.symm n3) hs))⟩, _, rfl, _, DGet.k (k := Sum.inr n) (s' _ _ (up (Ne.symm n3) hs)), decide (n ∈ skips), hsk n, ?_⟩
        by_cases a3 : n ∈ skips
        · rw [decide_eq_true a3]
          rw [if_pos a3] at es2
          exact iteT ⟨_, rfl, raise _ es2⟩
        · rw [decide_eq_false a3]
          rw [if_neg a3] at es2
          exact iteF ⟨_, _, rfl, s', es2⟩
      · rw [decide_eq_false a1]
        refine iteT ?_
        refine ⟨_, rfl, _, rfl, gg, C, dx, _, _, rfl, s' _ _ (up ge hg), T.cl, T.nW, l3, wd, _, rfl, DGet.k (k := Sum.inr n) (s' _ _ (up (Ne.symm n2) hw)), _, rfl, ?_⟩
        rw [key_in kw n]
        by_cases a2 : n ∈ heads
        · rw [decide_eq_true a2]
          refine iteF ?_
          have es2 := es'
          rw [if_neg (fun q => q.2 a2)] at es2
          refine ⟨_, rfl, gg, C, dx, _, _, rfl, s' _ _ (up ge hg), T.cl, T.nS, l4, sd, rfl, .inl ⟨_, .inl (s' _ _ (up (Ne.symm n3) hs))⟩, _, rfl, _, DGet.k (k := Sum.inr n) (s' _ _ (up (Ne.symm n3) hs)), decide (n ∈ skips), hsk n, ?_⟩
          by_cases a3 : n ∈ skips
          · rw [decide_eq_true a3]
            rw [if_pos a3] at es2
            exact iteT ⟨_, rfl, raise _ es2⟩
          · rw [decide_eq_false a3]
            rw [if_neg a3] at es2
            exact iteF ⟨_, _, rfl, s', es2⟩
        · rw [decide_eq_false a2]
          rw [if_pos ⟨a1, a2⟩] at es'
          exact iteT ⟨_, rfl, raise _ es'⟩
end
end Pa
set_option maxHeartbeats 4000000
namespace Pa
open PySem PySem.Spec PyProof.Rows L2 Ty
theorem scBars : FnScope ["self", "met", "bar", "one", "place", "other", "row"] ["self"] (defScope gBars) := ⟨rfl, rfl, rfl, by decide +kernel, rfl, by decide +kernel, by decide +kernel⟩
def spGBars (K : PySem.W.Frag) (C CN : Addr) : Sp := fun vs H Q E => ∃ (g ed hd c dx : Addr) (fs : List (Str × V)) (ek hk : List (Key × V)) (cb : List V) (rs : Rls) (bs : Brs), vs = [.ref g] ∧ H g = some (.ins C dx fs) ∧ fs.lookup ("spelled" : Str) = some (.ref ed) ∧ fs.lookup ("homes" : Str) = some (.ref hd) ∧ fs.lookup ("bar_rows" : Str) = some (.ref c) ∧
  H ed = some (.dK ek) ∧ H hd = some (.dK hk) ∧ SqT K H c cb ∧ Paired (BrV H) cb bs ∧ bs.length ≤ 10000 ∧
  (∀ n, (∃ b, valV ek (Sum.inr n : Key) = some (.ref b) ∧ H b = some (.tup ((spelledP rs n).map V.str))) ∨ (valV ek (Sum.inr n : Key) = none ∧ spelledP rs n = [])) ∧ (∀ n, valV hk (Sum.inr n : Key) = (homeP rs n).map V.str) ∧ (∀ n, (spelledP rs n).length ≤ 10000) ∧
  (barE rs [] bs = none → ∀ H', Same H H' → Q .non H') ∧ (∀ e, barE rs [] bs = some e → Out E CN H e)
def bK (b : Str × Int × Str) : List Key := [Sum.inr b.1, Sum.inl b.2.1, Sum.inr b.2.2]
theorem bK_inj {a b : Str × Int × Str} (h : bK a = bK b) : a = b := by
  obtain ⟨a1, a2, a3⟩ := a
  obtain ⟨b1, b2, b3⟩ := b
  simp only [bK, List.cons.injEq, Sum.inr.injEq, Sum.inl.injEq, and_true] at h
  rw [h.1, h.2.1, h.2.2]
theorem bK_in {mk : List (List Key × V)} {bs : Brs} (h : mk.map (·.1) = bs.map bK) (b : Str × Int × Str) : (valV mk (bK b)).isSome = decide (b ∈ bs) := by
  cases hv : valV mk (bK b) with
  | some v =>
    have := valV_in hv
    rw [h] at this
    obtain ⟨x, hx, e⟩ := List.mem_map.mp this
    rw [bK_inj e] at hx
    rw [decide_eq_true hx]; rfl
  | none =>
    have := valV_not hv
    rw [h] at this
    rw [decide_eq_false fun q => this (List.mem_map.mpr ⟨b, q, rfl⟩)]; rfl
section
variable {P : Program} {w : World} {K : PySem.W.Frag} {mg : Str → Option Value} {base : Heap} {f C CN fN : Addr} {fd dN : FuncData}
theorem ok_gbars (F : Fun K "look_bars" "Grammar.look_bars" gBars f fd) (T : GTxt K mg C CN fN) (GN : FnOk P w K mg base CX0 1 fN dN ["self", "what", "name"] (spNoG K CN)) (bN : Binds K dN ["self", "what", "name"] []) (ml : mg "len" = none) :
    FnOk P w K mg base (L2.CX P w) 3 f fd ["self"] (spGBars K C CN) := by
  refine F.okX scBars (fun vs H Q E h => ?_) (fun cdv A outer s H vs Q E hr h => ?_)
  · obtain ⟨_, _, _, _, _, _, _, _, _, _, _, rfl, _⟩ := h
    rfl
  have hu1 := hu_of hr
  refine ⟨_, pss_cons (ps_set (i := 1) scBars.nd rfl (.inl rfl) pe_dnewT)
    (pss_one (ps_for (passes_of rfl) rfl (pi_tup (pe_fld (pv 0) rfl)) (pg_name (i := 2) scBars.nd rfl (Or.inl rfl))
      (pss_cons (ps_asg (pv 2) (pg_tup rfl (pgs_cons (pg_name (i := 3) scBars.nd rfl (Or.inl rfl)) (pgs_cons (pg_name (i := 4) scBars.nd rfl (Or.inl rfl)) (pgs_cons (pg_name (i := 5) scBars.nd rfl (Or.inl rfl)) pgs_nil)))))
      (pss_cons (ps_set (i := 6) scBars.nd rfl (.inl rfl) (pe_dget2 hu1 (pe_fld (pv 0) rfl) (pv 3) (pe_tup pa_nil) ⟨rfl, rfl, rfl, rfl⟩))
      (pss_cons (ps_if (PW.pt (pw_or (pt_not (pt_chain op_le op_le pe_int (pv 4) (pe_callB call_len_seq rfl ml PySem.boot_len (pa_cons (pv 6) pa_nil)))) (pw_or (pt_cmp (pc_din hu1 (pv 2) (pv 1))) (pw_or1 (pt_cmpR op_ne (pe_dget1 hu1 (pe_fld (pv 0) rfl) (pv 5) ⟨rfl, rfl, rfl, rfl⟩) (pe_ix ix_tup (pv 6) (pe_op op_sub (pv 4) pe_int) (fun _ _ => rfl)) (nomark _))))))
        (pss_one (ps_raise rfl (takes_of rfl rfl rfl rfl) (pmk_oex T.tN T.iN T.yN GN (hr.mono (by decide)) bN .nil pass0 rfl T.mN (pa_cons pe_str (pa_cons (pv 3) pa_nil))))) pss_nil)
      (pss_one (ps_dput hu1 (pv 1) (pv 2) pe_bl rfl))))))), ?_⟩
  obtain ⟨gg, ed, hd, c, dx, fs, ek, hk, cb, rs, bs, rfl, hg, l1, l2, l3, he, hh, hc, pc, hl, hs, hho, hsl, q1, q2⟩ := h
  refine fun m mf => ⟨_, rfl, ?_⟩
  have lcb : cb.length = bs.length := Paired.length pc
  have hgm : gg ≠ m := fun e => by rw [e, mf] at hg; cases hg
  have up : ∀ {c' u}, H c' = some u → (upd H m (HO.dT [])) c' = some u := fun {c' u} e => by rw [upd_ne (fun q => by rw [q, mf] at e; cases e)]; exact e
  have em : (upd H m (HO.dT [])) m = some (.dT []) := upd_same
  have kx0 : Same H (upd H m (HO.dT [])) := fun c' u e => up e
  refine ⟨gg, C, dx, _, _, rfl, up hg, T.cl, T.nB, l3, c, rfl, ⟨_, hc.same kx0⟩, for_tup (K := K) (xs := cb) (fun i σ H' => ∃ x1 x2 x3 x4 x5 mk, σ = [some (.ref gg), some (.ref m), x1, x2, x3, x4, x5] ∧ H' m = some (.dT mk) ∧ Same H H' ∧ barE rs [] bs = barE rs (bs.take i) (bs.drop i) ∧ mk.map (·.1) = (bs.take i).map bK) ⟨_, _, _, _, _, [], rfl, em, kx0, rfl, rfl⟩ (fun i σ H' _ h => by obtain ⟨_, _, _, _, _, _, _, _, s, _⟩ := h; exact hc.same s) (fun i x σ H' hi h => ?turn) (fun σ H' h => ?done)⟩
  case done =>
    obtain ⟨x1, x2, x3, x4, x5, mk, rfl, hm, s, es, _⟩ := h
    rw [lcb, List.drop_length] at es
    exact q1 es _ s
  case turn =>
    obtain ⟨x1, x2, x3, x4, x5, mk, rfl, hm, s, es, lm⟩ := h
    obtain ⟨⟨n, p, ot⟩, hki, ⟨ra, rfl, h1⟩⟩ := paired_get pc i x hi
    have hil : i < bs.length := (List.getElem?_eq_some_iff.mp hki).1
    have hdrop : bs.drop i = (n, p, ot) :: bs.drop (i + 1) := by
      rw [List.drop_eq_getElem_cons hil]
      congr 1
      rw [List.getElem?_eq_getElem hil] at hki
      exact Option.some.inj hki
    have htk : bs.take (i + 1) = bs.take i ++ [(n, p, ot)] := by rw [List.take_add_one, hki]; rfl
    rw [hdrop] at es
    have ea : barE rs (bs.take i) ((n, p, ot) :: bs.drop (i + 1)) = if ¬ (1 ≤ p ∧ p ≤ ((spelledP rs n).length : Nat)) ∨ (n, p, ot) ∈ bs.take i ∨ homeP rs ot ≠ (spelledP rs n)[(p - 1).toNat]? then some (("bar" : Str), some n) else barE rs (bs.take i ++ [(n, p, ot)]) (bs.drop (i + 1)) := rfl
    rw [ea, ← htk] at es
    refine ⟨_, rfl, ra, _, rfl, SqT.of (s _ _ h1), rfl, _, _, rfl, _, _, rfl, _, _, rfl, rfl, ?_⟩
    refine ⟨_, rfl, gg, C, dx, _, _, rfl, s _ _ hg, T.cl, T.nL, l1, ed, rfl, .inl ⟨_, .inl (s _ _ he)⟩, _, rfl, ?_⟩
    refine ⟨Nat.zero_le _, fun d df => ?_⟩
    have up1 : ∀ {c' u}, H c' = some u → (upd H' d (.tup [])) c' = some u := fun {c' u} e => by
      rw [upd_ne (fun q => by rw [q] at e; have := s _ _ e; rw [df] at this; cases this)]; exact s _ _ e
    have hmd : (upd H' d (.tup [])) m = some (.dT mk) := by
      rw [upd_ne (fun q => by rw [q, df] at hm; cases hm)]; exact hm
    have edd : (upd H' d (.tup [])) d = some (.tup []) := upd_same
    generalize upd H' d (.tup []) = H2 at up1 hmd edd
    obtain ⟨b, hb1, hb2⟩ : ∃ b, (valV ek (Sum.inr n : Key)).getD (.ref d) = .ref b ∧ H2 b = some (.tup ((spelledP rs n).map V.str)) := by
      rcases hs n with ⟨b, e1, e2⟩ | ⟨e1, e2⟩
      · exact ⟨b, by rw [e1]; rfl, up1 e2⟩
      · exact ⟨d, by rw [e1]; rfl, by rw [e2]; exact edd⟩
    refine ⟨_, DGet.k (k := Sum.inr n) (up1 he), ?_⟩
    rw [hb1]
    refine ⟨_, rfl, _, _, rfl, rfl, _, rfl, ?_⟩
    have raise : barE rs [] bs = some (("bar" : Str), some n) → _ := fun e => raise_nog (K := K) (x := "bar") (y := some n) T.tN T.n1 T.n2 ((q2 _ e).same (H1 := H2) fun c' u e' => up1 e')
    have hp1 : decide ((1 : Int) ≤ p) = true ∨ decide ((1 : Int) ≤ p) = false := by cases decide ((1 : Int) ≤ p) <;> simp
    rcases hp1 with hp | hp
    case inr =>
      show (if decide ((1 : Int) ≤ p) = true then _ else _)
      rw [hp]
      refine iteF ?_
      exact ⟨_, rfl, iteT (iteT ⟨_, rfl, raise (es.trans (if_pos (Or.inl fun q => of_decide_eq_false hp q.1)))⟩)⟩
    case inl =>
      show (if decide ((1 : Int) ≤ p) = true then _ else _)
      rw [hp]
      refine iteT ?_
      refine ⟨_, rfl, b, _, rfl, .inr (SqT.of hb2), _, _, rfl, rfl, ?_⟩
      rw [List.length_map]
      by_cases hq : p ≤ (((spelledP rs n).length : Nat) : Int)
      case neg =>
        refine ⟨false, congrArg V.bl (decide_eq_false hq), iteT (iteT ⟨_, rfl, raise (es.trans (if_pos (Or.inl fun q => hq q.2)))⟩)⟩
      refine ⟨true, congrArg V.bl (decide_eq_true hq), iteF ?_⟩
      refine ⟨_, rfl, _, rfl, m, _, rfl, DGet.t (k := bK (n, p, ot)) hmd (up1 h1), ?_⟩
      rw [bK_in lm]
      by_cases hin : (n, p, ot) ∈ bs.take i
      case pos =>
        rw [decide_eq_true hin]
        exact ⟨_, rfl, iteT (iteT ⟨_, rfl, raise (es.trans (if_pos (Or.inr (Or.inl hin))))⟩)⟩
      rw [decide_eq_false hin]
      refine ⟨_, rfl, iteF ?_⟩
      refine ⟨_, rfl, gg, C, dx, _, _, rfl, up1 hg, T.cl, T.nH, l2, hd, rfl, .inl ⟨_, .inl (up1 hh)⟩, _, rfl, _, DGet.k (k := Sum.inr ot) (up1 hh), ?_⟩
      rw [hho ot]
      have hp2 : (1 : Int) ≤ p := of_decide_eq_true hp
      have hlt : (p - 1).toNat < (spelledP rs n).length := by omega
      obtain ⟨v, hv⟩ : ∃ v, (spelledP rs n)[(p - 1).toNat]? = some v := ⟨_, List.getElem?_eq_getElem hlt⟩
      have hat : atI ((spelledP rs n).map V.str) (p - 1) = some (.str v) := by
        have := atI_nat (xs := (spelledP rs n).map V.str) (j := (p - 1).toNat) (v := .str v) (by rw [List.getElem?_map, hv]; rfl)
        rwa [show (((p - 1).toNat : Nat) : Int) = p - 1 by omega] at this
      refine ⟨_, rfl, _, rfl, _, _, rfl, rfl, b, _, _, _, rfl, rfl, SqT.of hb2, hat, ?_⟩
      have hsc : scal ((Option.map V.str (homeP rs ot)).getD V.non) (.str v) = true := by cases homeP rs ot <;> rfl
      have hde : (!decide ((Option.map V.str (homeP rs ot)).getD V.non = .str v)) = decide (homeP rs ot ≠ (spelledP rs n)[(p - 1).toNat]?) := by
        rw [hv]
        cases homeP rs ot with
        | none => rfl
        | some u =>
          by_cases e : u = v
          · rw [e]; simp
          · simp [e]
      refine ⟨hsc, _, rfl, ?_⟩
      rw [hde]
      by_cases hne : homeP rs ot ≠ (spelledP rs n)[(p - 1).toNat]?
      case pos =>
        rw [decide_eq_true hne]
        exact iteT ⟨_, rfl, raise (es.trans (if_pos (Or.inr (Or.inr hne))))⟩
      rw [decide_eq_false hne]
      refine iteF ?_
      have lmk : mk.length ≤ 10000 := by
        have := congrArg List.length lm
        rw [List.length_map, List.length_map, List.length_take] at this
        omega
      have hnone : valV mk (bK (n, p, ot)) = none := by
        have := bK_in lm (n, p, ot)
        rw [decide_eq_false hin] at this
        cases e : valV mk (bK (n, p, ot)) with
        | none => rfl
        | some _ => rw [e] at this; cases this
      refine ⟨_, rfl, _, rfl, m, _, rfl, DPut.t (k := bK (n, p, ot)) hmd (up1 h1) (by rw [sizeLine_eq]; omega), ?_⟩
      rw [putK_new _ hnone]
      have hmH : H m = none := mf
      refine ⟨_, _, _, _, _, mk ++ [(bK (n, p, ot), .bl true)], rfl, upd_same, same_upd (fun c' u e => up1 e) hmH, ?_, by rw [List.map_append, lm, htk, List.map_append]; rfl⟩
      rw [es, if_neg (fun h => h.elim (fun h => h ⟨hp2, hq⟩) fun h => h.elim hin hne)]
end
end Pa
set_option maxHeartbeats 4000000
namespace Pa
open PySem PySem.Spec PyProof.Rows L2 Ty
theorem scRules : FnScope ["self", "name", "alternatives", "label", "row"] ["self"] (defScope gRules) := ⟨rfl, rfl, rfl, by decide +kernel, rfl, by decide +kernel, by decide +kernel⟩
abbrev altsOf (rs : Rls) : List (Str × List Str) := rs.flatMap (·.2)
abbrev homesOf (rs : Rls) : List (Str × Str) := rs.flatMap fun r => r.2.map fun a => (a.1, r.1)
def SpE (H : Hp) (kv : Key × V) (a : Str × List Str) : Prop := kv.1 = Sum.inr a.1 ∧ ∃ b, kv.2 = .ref b ∧ H b = some (.tup (a.2.map V.str))
theorem SpE.tk {H H' : Hp} {kv : Key × V} {a : Str × List Str} (s : SpE H kv a) (t : Tk H H') : SpE H' kv a := by
  obtain ⟨e, b, h1, h2⟩ := s
  exact ⟨e, b, h1, t _ _ h2⟩
theorem KX.new {X : List Addr} {H H' : Hp} {p : Addr} {o : HO} (k : KX X H H') (n : H p = none) : KX X H (L2.upd H' p o) := fun c u m e => by rw [upd_ne (ne_of_none e n)]; exact k c u m e
theorem KX.put {X : List Addr} {H H' : Hp} {p : Addr} {o : HO} (k : KX X H H') (n : p ∈ X) : KX X H (L2.upd H' p o) := k.trans (KX.upd n o)
theorem homes_keys : ∀ rs : Rls, (homesOf rs).map (·.1) = (altsOf rs).map (·.1)
  | [] => rfl
  | (n, as) :: rs => by
    show (List.map _ (_ ++ homesOf rs)) = List.map _ (as ++ altsOf rs)
    rw [List.map_append, List.map_append, homes_keys rs, List.map_map]
    rfl
theorem alt_cons {ls : List Str} {a : Str × List Str} {as : List (Str × List Str)} : altE ls (a :: as) = match altE ls [a] with | some e => some e | none => altE (ls ++ [a.1]) as := by
  obtain ⟨l, row⟩ := a
  have e1 : altE ls ((l, row) :: as) = if nameP l = false then some (("label" : Str), some l) else if l ∈ ls then some (("again" : Str), some l) else if 6 < row.length then some (("long" : Str), some l) else altE (ls ++ [l]) as := rfl
  have e2 : altE ls [(l, row)] = if nameP l = false then some (("label" : Str), some l) else if l ∈ ls then some (("again" : Str), some l) else if 6 < row.length then some (("long" : Str), some l) else none := rfl
  rw [e1, e2]
  by_cases h1 : nameP l = false
  · rw [if_pos h1, if_pos h1]
  · rw [if_neg h1, if_neg h1]
    by_cases h2 : l ∈ ls
    · rw [if_pos h2, if_pos h2]
    · rw [if_neg h2, if_neg h2]
      by_cases h3 : 6 < row.length
      · rw [if_pos h3, if_pos h3]
      · rw [if_neg h3, if_neg h3]
theorem key_none {kvs : List (Key × V)} {ns : List Str} (hk : kvs.map (·.1) = ns.map Sum.inr) {n : Str} (h : n ∉ ns) : valV kvs (Sum.inr n : Key) = none := by
  cases hv : valV kvs (Sum.inr n : Key) with
  | none => rfl
  | some v =>
    have := key_in hk n
    rw [hv, decide_eq_false h] at this
    cases this
theorem alt_none {ls : List Str} {l : Str} {row : List Str} (h : altE ls [(l, row)] = none) : l ∉ ls := by
  intro m
  have e2 : altE ls [(l, row)] = if nameP l = false then some (("label" : Str), some l) else if l ∈ ls then some (("again" : Str), some l) else if 6 < row.length then some (("long" : Str), some l) else none := rfl
  rw [e2] at h
  by_cases h1 : nameP l = false
  · rw [if_pos h1] at h; cases h
  · rw [if_neg h1, if_pos m] at h; cases h
def spGRules (C CN : Addr) : Sp := fun vs H Q E => ∃ (g b pd wd hd ed nd dx : Addr) (fs : List (Str × V)) (pk : List (Key × V)) (rb : List V) (names : List Str) (rs : Rls), vs = [.ref g] ∧ H g = some (.ins C dx fs) ∧ fs.lookup ("rule_rows" : Str) = some (.ref b) ∧ fs.lookup ("patterns" : Str) = some (.ref pd) ∧
  fs.lookup ("label_rows" : Str) = some (.ref wd) ∧ fs.lookup ("homes" : Str) = some (.ref hd) ∧ fs.lookup ("spelled" : Str) = some (.ref ed) ∧ fs.lookup ("numbers" : Str) = some (.ref nd) ∧ fs.lookup ("look_label" : Str) = none ∧
  H b = some (.lst rb) ∧ Paired (RlV anyB H) rb rs ∧ H pd = some (.dK pk) ∧ pk.map (·.1) = names.map Sum.inr ∧ H wd = some (.dK []) ∧ H hd = some (.dK []) ∧ H ed = some (.dK []) ∧ H nd = some (.dK []) ∧
  (wd ≠ hd ∧ wd ≠ ed ∧ wd ≠ nd ∧ hd ≠ ed ∧ hd ≠ nd ∧ ed ≠ nd ∧ pd ≠ wd ∧ pd ≠ hd ∧ pd ≠ ed ∧ pd ≠ nd) ∧
  rs.length ≤ 10000 ∧ (altsOf rs).length ≤ 1000000 ∧ (∀ r, r ∈ rs → r.1.length ≤ 16000000 ∧ ∀ a, a ∈ r.2 → a.1.length ≤ 16000000) ∧
  (ruleE names [] rs = none → ∀ wk ek H', H' wd = some (.dK wk) → wk.map (·.1) = rs.map (fun r => (Sum.inr r.1 : Key)) → H' hd = some (.dK ((homesOf rs).map fun h => ((Sum.inr h.1 : Key), V.str h.2))) → H' ed = some (.dK ek) → Paired (SpE H') ek (altsOf rs) → KX [wd, hd, ed, nd] H H' → Q .non H') ∧
  (∀ e, ruleE names [] rs = some e → ∀ H', KX [wd, hd, ed, nd] H H' → Out E CN H' e)
section
variable {P : Program} {w : World} {K : PySem.W.Frag} {mg : Str → Option Value} {base : Heap} {f g C CN fN fL : Addr} {fd gd dN dL : FuncData}
theorem ok_grules (F : Fun K "look_rules" "Grammar.look_rules" gRules f fd) (T : GTxt K mg C CN fN) (GN : FnOk P w K mg base CX0 1 fN dN ["self", "what", "name"] (spNoG K CN)) (bN : Binds K dN ["self", "what", "name"] [])
    (G : FnOk P w K mg base CX0 1 g gd ["thing"] (spB nameP)) (bG : Binds K gd ["thing"] []) (kG : PySem.W.keepIn K (.ref g) = true) (mG : mg "is_name" = some (.ref g))
    (L : FnOk P w K mg base (L2.CX P w) 3 fL dL ["self", "label", "row"] (spLabel C CN)) (bL : Binds K dL ["self", "label", "row"] []) (mL : Meth K C "look_label" fL) (ml : mg "len" = none) :
    FnOk P w K mg base (L2.CX P w) 4 f fd ["self"] (spGRules C CN) := by
  refine F.okX scRules (fun vs H Q E h => ?_) (fun cdv A outer s H vs Q E hr h => ?_)
  · obtain ⟨_, _, _, _, _, _, _, _, _, _, _, _, _, rfl, _⟩ := h
    rfl
  have hu1 := hu_of hr
  have hu := hr.units
  have G' := G.mono (show 1 ≤ 3 by decide)
  refine ⟨_, pss_one (ps_for (passes_of rfl) rfl (pi_list (pe_fld (pv 0) rfl)) (pg_tup rfl (pgs_cons (pg_name (i := 1) scRules.nd rfl (Or.inl rfl)) (pgs_cons (pg_name (i := 2) scRules.nd rfl (Or.inl rfl)) pgs_nil)))
    (pss_cons (ps_if (pt_not (pt_val (pe_call G' hr rfl mG kG bG .nil pass0 (pa_cons (pv 1) pa_nil))))
      (pss_one (ps_raise rfl (takes_of rfl rfl rfl rfl) (pmk_oex T.tN T.iN T.yN GN (hr.mono (by decide)) bN .nil pass0 rfl T.mN (pa_cons pe_str (pa_cons (pv 1) pa_nil))))) pss_nil)
    (pss_cons (ps_if (PW.pt (pw_or (pt_cmp (pc_din hu1 (pv 1) (pe_fld (pv 0) rfl))) (pw_or1 (pt_cmp (pc_din hu1 (pv 1) (pe_fld (pv 0) rfl))))))
      (pss_one (ps_raise rfl (takes_of rfl rfl rfl rfl) (pmk_oex T.tN T.iN T.yN GN (hr.mono (by decide)) bN .nil pass0 rfl T.mN (pa_cons pe_str (pa_cons (pv 1) pa_nil))))) pss_nil)
    (pss_cons (ps_if (pt_cmpR (op_eqL0 hu) (pv 2) (pe_lst pa_nil) (nomark _))
      (pss_one (ps_raise rfl (takes_of rfl rfl rfl rfl) (pmk_oex T.tN T.iN T.yN GN (hr.mono (by decide)) bN .nil pass0 rfl T.mN (pa_cons pe_str (pa_cons (pv 1) pa_nil))))) pss_nil)
    (pss_cons (ps_dput hu1 (pe_fld (pv 0) rfl) (pv 1) (pe_lst pa_nil) rfl)
    (pss_one (ps_for (passes_of rfl) rfl (pi_list (pv 2)) (pg_tup rfl (pgs_cons (pg_name (i := 3) scRules.nd rfl (Or.inl rfl)) (pgs_cons (pg_name (i := 4) scRules.nd rfl (Or.inl rfl)) pgs_nil)))
      (pss_cons (ps_expr (pe_meth (pv 0) T.cl mL L hr bL .nil (passes_call (takes_of rfl rfl rfl rfl) (fun _ _ _ _ z => z)) (pa_cons (pv 3) (pa_cons (pv 4) pa_nil))))
      (pss_cons (ps_dput hu1 (pe_fld (pv 0) rfl) (pv 3) (pe_callB call_lenD rfl ml PySem.boot_len (pa_cons (pe_fld (pv 0) rfl) pa_nil)) rfl)
      (pss_cons (ps_dput hu1 (pe_fld (pv 0) rfl) (pv 3) (pv 1) rfl)
      (pss_cons (ps_dput hu1 (pe_fld (pv 0) rfl) (pv 3) (pv 4) rfl)
      (pss_one (ps_expr (pe_bm PySem.F.plainAttrs_list PySem.F.slot_list_append PySem.F.type_list_append mt_append (pe_dget hu1 (pe_fld (pv 0) rfl) (pv 1) (fun _ _ => rfl)) (pa_cons (pv 3) pa_nil))))))))))))))), ?_⟩
  obtain ⟨gg, b, pd, wd, hd, ed, nd, dx, fs, pk, rb, names, rs, rfl, hg, l1, l2, l3, l4, l5, l6, l7, hb, pr, hp, kp, hw, hh, he, hn, ⟨d1, d2, d3, d4, d5, d6, d7, d8, d9, d10⟩, z1, z2, hok, q1, q2⟩ := h
  have isX : ∀ {c : Addr} {u : HO}, H c = some u → (∀ kv, u ≠ .dK kv) → c ∉ [wd, hd, ed, nd] := fun {c u} e ne h => by
    simp only [List.mem_cons, List.not_mem_nil, or_false] at h
    rcases h with rfl | rfl | rfl | rfl
    · rw [hw] at e; exact ne _ (Option.some.inj e).symm
    · rw [hh] at e; exact ne _ (Option.some.inj e).symm
    · rw [he] at e; exact ne _ (Option.some.inj e).symm
    · rw [hn] at e; exact ne _ (Option.some.inj e).symm
  have gx := isX hg (fun _ e => by cases e)
  have bx := isX hb (fun _ e => by cases e)
  have px : pd ∉ [wd, hd, ed, nd] := by simp [d7, d8, d9, d10]
  have tkx : ∀ {H'}, KX [wd, hd, ed, nd] H H' → Tk H H' := fun {H'} k c xs e => k c _ (isX e (fun _ q => by cases q)) e
  have lrb : rb.length = rs.length := Paired.length pr
  refine ⟨_, rfl, gg, C, dx, _, _, rfl, hg, T.cl, T.nR, l1, b, rfl, ⟨_, SqL.of hb⟩, ?_⟩
  refine for_list (K := K) (xs := rb) (fun i σ H' => ∃ x1 x2 x3 x4 wk ek nk, σ = [some (.ref gg), x1, x2, x3, x4] ∧ H' wd = some (.dK wk) ∧ wk.map (·.1) = ((rs.take i).map (·.1)).map Sum.inr ∧ H' hd = some (.dK ((homesOf (rs.take i)).map fun h => ((Sum.inr h.1 : Key), V.str h.2))) ∧ H' ed = some (.dK ek) ∧ Paired (SpE H') ek (altsOf (rs.take i)) ∧
      H' nd = some (.dK nk) ∧ nk.map (·.1) = ((altsOf (rs.take i)).map (·.1)).map Sum.inr ∧ KX [wd, hd, ed, nd] H H' ∧ ruleE names [] rs = ruleE (names ++ (rs.take i).map (·.1)) ((altsOf (rs.take i)).map (·.1)) (rs.drop i))
    ⟨_, _, _, _, [], [], [], rfl, hw, rfl, hh, he, .nil, hn, rfl, KX.of same_refl, by rw [show rs.take 0 = [] from rfl, List.map_nil, List.append_nil]; rfl⟩ (fun i σ H' _ h => by obtain ⟨_, _, _, _, _, _, _, _, _, _, _, _, _, _, _, k, _⟩ := h; exact SqL.of (k _ _ bx hb)) (fun i v σ H' hv h => ?turn) (fun σ H' h => ?done)
  case done =>
    obtain ⟨x1, x2, x3, x4, wk, ek, nk, rfl, e1, e2, e3, e4, e5, e6, e7, kx, ek'⟩ := h
    rw [lrb, List.take_length] at e2 e3 e5
    rw [lrb, List.drop_length] at ek'
    exact q1 ek' wk ek H' e1 (by rw [e2, List.map_map]; rfl) e3 e4 e5 kx
  case turn =>
    obtain ⟨x1, x2, x3, x4, wk, ek, nk, rfl, e1, e2, e3, e4, e5, e6, e7, kx, er⟩ := h
    obtain ⟨⟨n, as⟩, hri, ⟨ra, ab, xs, rfl, h1, h2, _, h3⟩⟩ := paired_get pr i v hv
    have hi : i < rs.length := (List.getElem?_eq_some_iff.mp hri).1
    have rok := hok _ (List.mem_of_getElem? hri)
    have hdrop : rs.drop i = (n, as) :: rs.drop (i + 1) := by
      rw [List.drop_eq_getElem_cons hi]
      congr 1
      rw [List.getElem?_eq_getElem hi] at hri
      exact Option.some.inj hri
    have htk : rs.take (i + 1) = rs.take i ++ [(n, as)] := by rw [List.take_add_one, hri]; rfl
    rw [hdrop] at er
    have ea : ruleE (names ++ (rs.take i).map (·.1)) ((altsOf (rs.take i)).map (·.1)) ((n, as) :: rs.drop (i + 1)) = if nameP n = false then some (("name" : Str), some n) else if n ∈ names ++ (rs.take i).map (·.1) then some (("twice" : Str), some n) else if as = [] then some (("bare" : Str), some n) else
      match altE ((altsOf (rs.take i)).map (·.1)) as with
      | some e => some e
      | none => ruleE (names ++ (rs.take i).map (·.1) ++ [n]) ((altsOf (rs.take i)).map (·.1) ++ as.map (·.1)) (rs.drop (i + 1)) := rfl
    rw [ea] at er
    have tk := tkx kx
    have zal : (altsOf (rs.take i)).length + as.length ≤ 1000000 := by
      have : (altsOf (rs.take (i + 1))).length ≤ (altsOf rs).length := by
        have e := List.take_append_drop (i + 1) rs
        have : altsOf rs = altsOf (rs.take (i + 1)) ++ altsOf (rs.drop (i + 1)) := by
          show _ = List.flatMap _ _ ++ List.flatMap _ _
          rw [← List.flatMap_append, e]
        rw [this, List.length_append]; omega
      rw [htk, show altsOf (rs.take i ++ [(n, as)]) = altsOf (rs.take i) ++ as by show List.flatMap _ _ = _; rw [List.flatMap_append]; simp, List.length_append] at this
      omega
    refine ⟨ra, _, rfl, SqT.of (tk _ _ h1), rfl, _, _, rfl, _, _, rfl, rfl, ?_⟩
    refine ⟨_, rfl, n, rfl, rok.1, fun H1 s1 => ⟨_, rfl, ?_⟩⟩
    have kx1 := kx.trans (KX.of s1)
    cases hnm : nameP n with
    | false =>
      rw [hnm, if_pos rfl] at er
      exact iteT ⟨_, rfl, raise_nog (y := some n) T.tN T.n1 T.n2 (q2 _ er H1 kx1)⟩
    | true =>
      rw [hnm, if_neg (by decide)] at er
      refine iteF ?_
      refine ⟨_, rfl, _, rfl, gg, C, dx, _, _, rfl, kx1 _ _ gx hg, T.cl, T.nP, l2, pd, _, rfl, DGet.k (k := Sum.inr n) (kx1 _ _ px hp), _, rfl, ?_⟩
      rw [key_in kp n]
      by_cases m1 : n ∈ names
      case pos =>
        rw [if_pos (List.mem_append_left _ m1)] at er
        rw [decide_eq_true m1]
        exact iteT (iteT ⟨_, rfl, raise_nog (y := some n) T.tN T.n1 T.n2 (q2 _ er H1 kx1)⟩)
      rw [decide_eq_false m1]
      refine iteF ?_
      refine ⟨_, rfl, _, rfl, gg, C, dx, _, _, rfl, kx1 _ _ gx hg, T.cl, T.nW, l3, wd, _, rfl, DGet.k (k := Sum.inr n) (s1 _ _ e1), _, rfl, ?_⟩
      rw [key_in e2 n]
      by_cases m2 : n ∈ (rs.take i).map (·.1)
      case pos =>
        rw [if_pos (List.mem_append_right _ m2)] at er
        rw [decide_eq_true m2]
        exact iteT ⟨_, rfl, raise_nog (y := some n) T.tN T.n1 T.n2 (q2 _ er H1 kx1)⟩
      rw [if_neg (fun h => (List.mem_append.mp h).elim m1 m2)] at er
      rw [decide_eq_false m2]
      refine iteF ?_
      have lxs : xs.length = as.length := Paired.length h3
      have abx := isX h2 (fun _ e => by cases e)
      refine ⟨_, rfl, (by show 0 ≤ sizeLine; decide), fun p0 hp0 => ⟨ab, p0, xs, rfl, rfl, same_new hp0 _ _ _ (s1 _ _ (kx _ _ abx h2)), upd_same, _, rfl, ?_⟩⟩
      have s2 := same_new hp0 (.lst [])
      generalize upd H1 p0 (.lst []) = H2 at s2
      have kx2 := kx1.trans (KX.of s2)
      by_cases hne : as = []
      case pos =>
        rw [if_pos hne] at er
        rw [hne] at lxs
        obtain rfl := List.length_eq_zero_iff.mp lxs
        exact iteT ⟨_, rfl, raise_nog (y := some n) T.tN T.n1 T.n2 (q2 _ er H2 kx2)⟩
      rw [if_neg hne] at er
      have hemp : xs.isEmpty = false := by
        cases xs with
        | nil => exact absurd (List.length_eq_zero_iff.mp lxs.symm) hne
        | cons _ _ => rfl
      rw [if_neg (by decide), hemp]
      refine iteF ?_
      have s12 : Same H' H2 := s1.trans s2
      have lwk : wk.length ≤ 10000 := by
        have := congrArg List.length e2
        rw [List.length_map, List.length_map, List.length_map, List.length_take] at this
        omega
      refine ⟨(by show 0 ≤ sizeLine; decide), fun l hl => ?_⟩
      have s3 := same_new hl (.lst [])
      have el : (upd H2 l (.lst [])) l = some (.lst []) := upd_same
      generalize upd H2 l (.lst []) = H3 at s3 el
      have s13 : Same H' H3 := s12.trans s3
      have kx3 := kx2.trans (KX.of s3)
      have lH : H' l = none := by
        cases e : H' l with
        | none => rfl
        | some o => rw [s12 _ _ e] at hl; cases hl
      have lw : l ≠ wd := fun e => by rw [e, e1] at lH; cases lH
      have lh : l ≠ hd := fun e => by rw [e, e3] at lH; cases lH
      have le : l ≠ ed := fun e => by rw [e, e4] at lH; cases lH
      have ln : l ≠ nd := fun e => by rw [e, e6] at lH; cases lH
      refine ⟨_, rfl, gg, C, dx, _, _, rfl, kx3 _ _ gx hg, T.cl, T.nW, l3, _, rfl, wd, _, rfl, DPut.k (k := Sum.inr n) (s13 _ _ e1) (by rw [sizeLine_eq]; omega), ?_⟩
      have hno := key_none e2 m2
      rw [putK_new _ hno]
      have kx4 : KX [wd, hd, ed, nd] H (upd H3 wd (.dK (wk ++ [(Sum.inr n, .ref l)]))) := kx3.put (by simp)
      have w4 : (upd H3 wd (.dK (wk ++ [(Sum.inr n, .ref l)]))) wd = some (.dK (wk ++ [(Sum.inr n, .ref l)])) := upd_same
      have l4' : (upd H3 wd (.dK (wk ++ [(Sum.inr n, .ref l)]))) l = some (.lst []) := by rw [upd_ne lw]; exact el
      have h4 : (upd H3 wd (.dK (wk ++ [(Sum.inr n, .ref l)]))) hd = some (.dK ((homesOf (rs.take i)).map fun h => ((Sum.inr h.1 : Key), V.str h.2))) := by rw [upd_ne (Ne.symm d1)]; exact s13 _ _ e3
      have ed4 : (upd H3 wd (.dK (wk ++ [(Sum.inr n, .ref l)]))) ed = some (.dK ek) := by rw [upd_ne (Ne.symm d2)]; exact s13 _ _ e4
      have n4 : (upd H3 wd (.dK (wk ++ [(Sum.inr n, .ref l)]))) nd = some (.dK nk) := by rw [upd_ne (Ne.symm d3)]; exact s13 _ _ e6
      have tk4 : Tk H' (upd H3 wd (.dK (wk ++ [(Sum.inr n, .ref l)]))) := fun c ys e => by
        rw [upd_ne (fun q => by rw [q, e1] at e; cases e)]; exact s13 _ _ e
      generalize upd H3 wd (.dK (wk ++ [(Sum.inr n, .ref l)])) = H4 at kx4 w4 l4' h4 ed4 n4 tk4
      have lHH : H l = none ∨ l ∈ [wd, hd, ed, nd] := by
        cases e : H l with
        | none => exact .inl rfl
        | some o => exact .inr (Classical.byContradiction fun nm => by rw [kx _ _ nm e] at lH; cases lH)
      have lH0 : H l = none := lHH.elim id fun h => by
        simp only [List.mem_cons, List.not_mem_nil, or_false] at h
        rcases h with h | h | h | h
        · exact absurd h lw
        · exact absurd h lh
        · exact absurd h le
        · exact absurd h ln
      have hvw : valV (wk ++ [(Sum.inr n, V.ref l)]) (Sum.inr n : Key) = some (.ref l) := by rw [valV_snoc _ _ _ _ hno, if_pos rfl]
      have hab : H4 ab = some (.lst xs) := kx4 _ _ abx h2
      have t3 : Tk H H4 := tkx kx4
      refine ⟨_, rfl, ab, rfl, ⟨_, SqL.of hab⟩, ?_⟩
      have esp4 : Paired (SpE H4) ek (altsOf (rs.take i)) := paired_imp (fun _ _ r => r.tk tk4) e5
      have ekk : ek.map (·.1) = ((altsOf (rs.take i)).map (·.1)).map Sum.inr := by
        have : ∀ {u : List (Key × V)} {v : List (Str × List Str)}, Paired (SpE H4) u v → u.map (·.1) = (v.map (·.1)).map Sum.inr := fun {u v} p => by
          induction p with
          | nil => rfl
          | cons h _ ih => rw [List.map_cons, List.map_cons, List.map_cons, ih, h.1]
        exact this esp4
      refine for_list (K := K) (xs := xs) (fun j σ H' => ∃ x1 x2 ls ek nk, σ = [some (.ref gg), some (.str n), some (.ref ab), x1, x2] ∧ H' wd = some (.dK (wk ++ [(Sum.inr n, .ref l)])) ∧ H' l = some (.lst ls) ∧ ls.length ≤ j ∧
          H' hd = some (.dK ((homesOf (rs.take i) ++ (as.take j).map fun a => (a.1, n)).map fun h => ((Sum.inr h.1 : Key), V.str h.2))) ∧ H' ed = some (.dK ek) ∧ Paired (SpE H') ek (altsOf (rs.take i) ++ as.take j) ∧
          H' nd = some (.dK nk) ∧ nk.map (·.1) = ((altsOf (rs.take i) ++ as.take j).map (·.1)).map Sum.inr ∧ KX [wd, hd, ed, nd] H H' ∧ altE ((altsOf (rs.take i)).map (·.1)) as = altE ((altsOf (rs.take i) ++ as.take j).map (·.1)) (as.drop j))
        ⟨_, _, [], ek, nk, rfl, w4, l4', Nat.le_refl _, by rw [List.take_zero, List.map_nil, List.append_nil]; exact h4, ed4, by rw [List.take_zero, List.append_nil]; exact esp4, n4, by rw [List.take_zero, List.append_nil]; exact e7, kx4, by rw [List.take_zero, List.append_nil]; rfl⟩
        (fun j σ H' _ h => by obtain ⟨_, _, _, _, _, _, _, _, _, _, _, _, _, _, k, _⟩ := h; exact SqL.of (k _ _ abx h2)) (fun j v σ H' hv h => ?turn2) (fun σ H' h => ?done2)
      case done2 =>
        obtain ⟨x1, x2, ls, ek, nk, rfl, f1, f2, f3, f4, f5, f6, f7, f8, kx5, ea5⟩ := h
        rw [lxs, List.take_length] at f4 f6 f8
        rw [lxs, List.drop_length, show altE _ [] = none from rfl] at ea5
        rw [ea5] at er
        have eal : altsOf (rs.take (i + 1)) = altsOf (rs.take i) ++ as := by rw [htk]; show List.flatMap _ _ = _; rw [List.flatMap_append]; simp
        have eho : homesOf (rs.take (i + 1)) = homesOf (rs.take i) ++ as.map fun a => (a.1, n) := by rw [htk]; show List.flatMap _ _ = _; rw [List.flatMap_append]; simp
        refine ⟨_, _, _, _, _, _, _, rfl, f1, by rw [List.map_append, e2, htk, List.map_append, List.map_append]; rfl, by rw [eho]; exact f4, f5, by rw [eal]; exact f6, f7, by rw [eal]; exact f8, kx5, ?_⟩
        rw [er, eal, htk, List.map_append, List.map_append, List.append_assoc]
        rfl
      case turn2 =>
        obtain ⟨x1, x2, ls, ek, nk, rfl, f1, f2, f3, f4, f5, f6, f7, f8, kx5, ea5⟩ := h
        obtain ⟨⟨lb, row⟩, haj, ⟨ra2, rb2, rfl, g1, g2⟩⟩ := paired_get h3 j v hv
        have hj : j < as.length := (List.getElem?_eq_some_iff.mp haj).1
        have hd2 : as.drop j = (lb, row) :: as.drop (j + 1) := by
          rw [List.drop_eq_getElem_cons hj]
          congr 1
          rw [List.getElem?_eq_getElem hj] at haj
          exact Option.some.inj haj
        have ht2 : as.take (j + 1) = as.take j ++ [(lb, row)] := by rw [List.take_add_one, haj]; rfl
        rw [hd2, alt_cons] at ea5
        have t5 := tkx kx5
        have fkk : ek.map (·.1) = ((altsOf (rs.take i) ++ as.take j).map (·.1)).map Sum.inr := by
          have : ∀ {u : List (Key × V)} {v : List (Str × List Str)}, Paired (SpE H') u v → u.map (·.1) = (v.map (·.1)).map Sum.inr := fun {u v} p => by
            induction p with
            | nil => rfl
            | cons h _ ih => rw [List.map_cons, List.map_cons, List.map_cons, ih, h.1]
          exact this f6
        have hkk : ((homesOf (rs.take i) ++ (as.take j).map fun a => (a.1, n)).map fun h => ((Sum.inr h.1 : Key), V.str h.2)).map (·.1) = ((altsOf (rs.take i) ++ as.take j).map (·.1)).map Sum.inr := by
          rw [List.map_append, List.map_append, List.map_append, List.map_append, ← homes_keys]
          simp only [List.map_map]
          rfl
        have lal : (altsOf (rs.take i) ++ as.take j).length ≤ 1000000 := by rw [List.length_append, List.length_take]; omega
        have lof : ∀ {u : List (Key × V)}, u.map (·.1) = ((altsOf (rs.take i) ++ as.take j).map (·.1)).map Sum.inr → u.length ≤ 1000000 := fun {u} e => by
          have := congrArg List.length e
          rw [List.length_map, List.length_map, List.length_map] at this
          omega
        refine ⟨ra2, _, rfl, SqT.of (t5 _ _ g1), rfl, _, _, rfl, _, _, rfl, rfl, ?_⟩
        refine ⟨_, rfl, gg, dx, fs, rfl, kx5 _ _ gx hg, l7, _, rfl, _, rfl, gg, rb2, hd, dx, fs, _, _, lb, row, rfl, kx5 _ _ gx hg, l4, f4, hkk, t5 _ _ g2, rok.2 _ (List.mem_of_getElem? haj), fun hal H6 s6 => ?_, fun e he' => ?_⟩
        case refine_2 =>
          rw [he'] at ea5
          rw [ea5] at er
          exact q2 _ er H' kx5
        rw [hal] at ea5
        have nin := alt_none hal
        have kx6 := kx5.trans (KX.of s6)
        refine ⟨_, rfl, gg, C, dx, _, _, rfl, kx6 _ _ gx hg, T.cl, T.nN, l6, nd, nk, rfl, s6 _ _ f7, _, rfl, gg, C, dx, _, _, rfl, kx6 _ _ gx hg, T.cl, T.nN, l6, _, rfl, nd, _, rfl, DPut.k (k := Sum.inr lb) (s6 _ _ f7) (by rw [sizeLine_eq]; have := lof f8; omega), ?_⟩
        rw [putK_new _ (key_none f8 nin)]
        generalize eN : nk ++ [((Sum.inr lb : Key), V.int (nk.length : Nat))] = nk7
        have en7 : nk7.map (·.1) = ((altsOf (rs.take i) ++ as.take (j + 1)).map (·.1)).map Sum.inr := by
          rw [← eN, List.map_append, f8, ht2, ← List.append_assoc, List.map_append (l₂ := [(lb, row)]), List.map_append (l₂ := [(lb, row)].map _)]
          rfl
        have kx7 : KX [wd, hd, ed, nd] H (upd H6 nd (.dK nk7)) := kx6.put (by simp)
        refine ⟨_, rfl, _, rfl, gg, C, dx, _, _, rfl, kx7 _ _ gx hg, T.cl, T.nH, l4, _, rfl, hd, _, rfl, DPut.k (k := Sum.inr lb) (by rw [upd_ne d5]; exact s6 _ _ f4) (by rw [sizeLine_eq]; have := lof hkk; omega), ?_⟩
        rw [putK_new _ (key_none hkk nin)]
        generalize eHo : ((homesOf (rs.take i) ++ (as.take j).map fun a => (a.1, n)).map fun h => ((Sum.inr h.1 : Key), V.str h.2)) ++ [((Sum.inr lb : Key), V.str n)] = hk8
        have eh8 : hk8 = ((homesOf (rs.take i) ++ (as.take (j + 1)).map fun a => (a.1, n)).map fun h => ((Sum.inr h.1 : Key), V.str h.2)) := by
          rw [← eHo, ht2, List.map_append (l₂ := [(lb, row)]), ← List.append_assoc, List.map_append (l₂ := [(lb, row)].map _)]
          rfl
        have kx8 : KX [wd, hd, ed, nd] H (upd (upd H6 nd (.dK nk7)) hd (.dK hk8)) := kx7.put (by simp)
        refine ⟨_, rfl, _, rfl, gg, C, dx, _, _, rfl, kx8 _ _ gx hg, T.cl, T.nL, l5, _, rfl, ed, _, rfl, DPut.k (k := Sum.inr lb) (by rw [upd_ne (Ne.symm d4), upd_ne d6]; exact s6 _ _ f5) (by rw [sizeLine_eq]; have := lof fkk; omega), ?_⟩
        rw [putK_new _ (key_none fkk nin)]
        have kx9 : KX [wd, hd, ed, nd] H (upd (upd (upd H6 nd (.dK nk7)) hd (.dK hk8)) ed (.dK (ek ++ [(Sum.inr lb, .ref rb2)]))) := kx8.put (by simp)
        have w9 : (upd (upd (upd H6 nd (.dK nk7)) hd (.dK hk8)) ed (.dK (ek ++ [(Sum.inr lb, .ref rb2)]))) wd = some (.dK (wk ++ [(Sum.inr n, .ref l)])) := by rw [upd_ne d2, upd_ne d1, upd_ne d3]; exact s6 _ _ f1
        have l9 : (upd (upd (upd H6 nd (.dK nk7)) hd (.dK hk8)) ed (.dK (ek ++ [(Sum.inr lb, .ref rb2)]))) l = some (.lst ls) := by rw [upd_ne le, upd_ne lh, upd_ne ln]; exact s6 _ _ f2
        have n9 : (upd (upd (upd H6 nd (.dK nk7)) hd (.dK hk8)) ed (.dK (ek ++ [(Sum.inr lb, .ref rb2)]))) nd = some (.dK nk7) := by rw [upd_ne (Ne.symm d6), upd_ne (Ne.symm d5)]; exact upd_same
        have h9 : (upd (upd (upd H6 nd (.dK nk7)) hd (.dK hk8)) ed (.dK (ek ++ [(Sum.inr lb, .ref rb2)]))) hd = some (.dK hk8) := by rw [upd_ne d4]; exact upd_same
        have e9 : (upd (upd (upd H6 nd (.dK nk7)) hd (.dK hk8)) ed (.dK (ek ++ [(Sum.inr lb, .ref rb2)]))) ed = some (.dK (ek ++ [(Sum.inr lb, .ref rb2)])) := upd_same
        have tk9 : Tk H' (upd (upd (upd H6 nd (.dK nk7)) hd (.dK hk8)) ed (.dK (ek ++ [(Sum.inr lb, .ref rb2)]))) := fun c ys e => by
          rw [upd_ne (fun q => by rw [q, f5] at e; cases e), upd_ne (fun q => by rw [q, f4] at e; cases e), upd_ne (fun q => by rw [q, f7] at e; cases e)]; exact s6 _ _ e
        have r9 := tkx kx9 _ _ g2
        generalize (upd (upd (upd H6 nd (.dK nk7)) hd (.dK hk8)) ed (.dK (ek ++ [(Sum.inr lb, .ref rb2)]))) = H9 at kx9 w9 l9 n9 h9 e9 tk9 r9
        have f6' : Paired (SpE H9) (ek ++ [(Sum.inr lb, .ref rb2)]) (altsOf (rs.take i) ++ as.take (j + 1)) := by
          rw [ht2, ← List.append_assoc]
          exact paired_snoc (paired_imp (fun _ _ r => r.tk tk9) f6) ⟨rfl, rb2, rfl, r9⟩
        have DG := DGet.k (k := Sum.inr n) w9
        rw [hvw] at DG
        refine ⟨_, rfl, gg, C, dx, _, _, rfl, kx9 _ _ gx hg, T.cl, T.nW, l3, _, rfl, wd, _, rfl, DG, .inl ⟨rfl, _, SqL.of l9⟩, _, rfl, l, _, _, rfl, rfl, l9, by rw [sizeLine_eq]; omega, ?_⟩
        refine ⟨_, _, ls ++ [.str lb], _, nk7, rfl, by rw [upd_ne (Ne.symm lw)]; exact w9, upd_same, by rw [List.length_append]; show ls.length + 1 ≤ _; omega, by rw [upd_ne (Ne.symm lh), ← eh8]; exact h9, by rw [upd_ne (Ne.symm le)]; exact e9, paired_imp (fun _ _ r => r.tk (Tk.lst l9)) f6', by rw [upd_ne (Ne.symm ln)]; exact n9, en7, kx9.new lH0, ?_⟩
        rw [ea5, ht2, ← List.append_assoc, List.map_append (l₂ := [(lb, row)])]
        rfl
end
end Pa
set_option maxHeartbeats 8000000
namespace Pa
open PySem PySem.Spec PyProof.Rows L2 Ty
theorem scGInit : FnScope ["self", "kinds", "rules", "begin", "bars", "name", "alternatives"] ["self", "kinds", "rules", "begin", "bars"] (defScope gInit) := ⟨rfl, rfl, rfl, by decide +kernel, rfl, by decide +kernel, by decide +kernel⟩
theorem KX.fresh {X Y : List Addr} {H H1 H2 : Hp} (a : KX X H H1) (b : KX Y H1 H2) (n : ∀ y, y ∈ Y → H y = none) : KX X H H2 := fun c o nc e => b c o (fun m => by rw [n c m] at e; cases e) (a c o nc e)
theorem KX.seqT {X : List Addr} {K : PySem.W.Frag} {H H' : Hp} {a : Addr} {xs : List V} (k : KX X H H') (h : SqT K H a xs) (n : Rd H a (.tup xs) → a ∉ X) : SqT K H' a xs :=
  h.elim (fun h => .inl (h.elim (fun e => .inl (k _ _ (n h) e)) fun ⟨o, e⟩ => .inr ⟨o, k _ _ (n h) e⟩)) fun h => .inr h
theorem stepD {C dx g d : Addr} {fs : List (Str × V)} {f : Str} {H : Hp} (hg : H g = some (.ins C dx fs)) (hd : H d = none) :
    d ≠ g ∧ KX [g] H (upd (upd H d (.dK [])) g (.ins C dx (putF f (.ref d) fs))) ∧ (upd (upd H d (.dK [])) g (.ins C dx (putF f (.ref d) fs))) g = some (.ins C dx (putF f (.ref d) fs)) ∧ (upd (upd H d (.dK [])) g (.ins C dx (putF f (.ref d) fs))) d = some (.dK []) := by
  have ne : d ≠ g := fun e => by rw [e, hg] at hd; cases hd
  refine ⟨ne, fun c o nc e => ?_, upd_same, ?_⟩
  · rw [upd_ne (fun q => nc (by rw [q]; simp)), upd_ne (fun q => by rw [q, hd] at e; cases e)]; exact e
  · rw [upd_ne ne]; exact upd_same
theorem ifT {A B : Prop} {c : Bool} (h : c = true) (a : A) : if c = true then A else B := by rw [if_pos h]; exact a
theorem ifF {A B : Prop} {c : Bool} (h : c = false) (a : B) : if c = true then A else B := by rw [if_neg (by rw [h]; decide)]; exact a
theorem aux_rest {R M : Prop} (f : R → M) (r : R) : M := f r
/-- plain: a dict laid in order is read as a list of pairs -/
theorem kind_nodup : ∀ {met : List Str} {ks : Kds}, kindE met ks = none → (ks.map (·.1)).Nodup ∧ ∀ k, k ∈ ks → k.1 ∉ met
  | _, [], _ => ⟨.nil, fun k h => by cases h⟩
  | met, (n, p, s) :: ks, h => by
    have e : kindE met ((n, p, s) :: ks) = if nameP n = false then some (("name" : Str), some n) else if n ∈ met then some (("twice" : Str), some n) else if bareP p = true then some (("empty" : Str), some n) else kindE (met ++ [n]) ks := rfl
    rw [e] at h
    by_cases h1 : nameP n = false
    · rw [if_pos h1] at h; cases h
    rw [if_neg h1] at h
    by_cases h2 : n ∈ met
    · rw [if_pos h2] at h; cases h
    rw [if_neg h2] at h
    by_cases h3 : bareP p = true
    · rw [if_pos h3] at h; cases h
    rw [if_neg h3] at h
    obtain ⟨i1, i2⟩ := kind_nodup h
    refine ⟨List.nodup_cons.mpr ⟨fun m => ?_, i1⟩, fun k hk => ?_⟩
    · obtain ⟨k, hk, e⟩ := List.mem_map.mp m
      exact i2 k hk (by rw [e]; simp)
    · rcases List.mem_cons.mp hk with e | hk
      · rw [e]; exact h2
      · exact fun m => i2 k hk (List.mem_append_left _ m)
theorem skips_at (n : Str) : ∀ {ks : Kds}, (ks.map (·.1)).Nodup → (valV (ks.map fun k => ((Sum.inr k.1 : Key), V.bl k.2.2)) (Sum.inr n : Key)).getD (.bl false) = .bl (decide (n ∈ (ks.filter fun k => k.2.2).map (·.1)))
  | [], _ => rfl
  | (m, p, s) :: ks, h => by
    have ih := skips_at n (List.nodup_cons.mp h).2
    have hm := (List.nodup_cons.mp h).1
    rw [List.map_cons]
    by_cases e : m = n
    · subst e
      rw [valV_pos (p := ((Sum.inr m : Key), V.bl s)) rfl]
      have hno : m ∉ (ks.filter fun k => k.2.2).map (·.1) := fun q => by
        obtain ⟨k, hk, e⟩ := List.mem_map.mp q
        exact hm (List.mem_map.mpr ⟨k, (List.mem_filter.mp hk).1, e⟩)
      cases s with
      | true => simp [List.filter_cons]
      | false =>
        rw [List.filter_cons, if_neg (by simp), decide_eq_false hno]; rfl
    · rw [valV_neg (p := ((Sum.inr m : Key), V.bl s)) (fun q => e (Sum.inr.inj q)), ih]
      cases s with
      | true =>
        rw [List.filter_cons, if_pos rfl, List.map_cons]
        congr 1
        rw [Bool.eq_iff_iff, decide_eq_true_eq, decide_eq_true_eq, List.mem_cons]
        exact ⟨.inr, fun h => h.elim (fun q => absurd q.symm e) id⟩
      | false => rw [List.filter_cons, if_neg (by simp)]
theorem homes_at (n : Str) : ∀ hs : List (Str × Str), valV (hs.map fun h => ((Sum.inr h.1 : Key), V.str h.2)) (Sum.inr n : Key) = (hs.lookup n).map V.str
  | [] => rfl
  | (l, r) :: hs => by
    rw [List.map_cons]
    by_cases e : l = n
    · subst e
      rw [valV_pos (p := ((Sum.inr l : Key), V.str r)) rfl, List.lookup_cons]
      simp
    · rw [valV_neg (p := ((Sum.inr l : Key), V.str r)) (fun q => e (Sum.inr.inj q)), homes_at n hs, List.lookup_cons]
      have : (n == l) = false := beq_eq_false_iff_ne.mpr (Ne.symm e)
      rw [this]
theorem spelled_at {H : Hp} (n : Str) : ∀ {ek : List (Key × V)} {as : List (Str × List Str)}, Paired (SpE H) ek as → (∃ b, valV ek (Sum.inr n : Key) = some (.ref b) ∧ H b = some (.tup (((as.lookup n).getD []).map V.str))) ∨ (valV ek (Sum.inr n : Key) = none ∧ (as.lookup n).getD [] = [])
  | _, _, .nil => .inr ⟨rfl, rfl⟩
  | kv :: _, (l, row) :: _, .cons h t => by
    obtain ⟨e1, b, e2, hb⟩ := h
    by_cases e : l = n
    · subst e
      refine .inl ⟨b, by rw [valV_pos e1, e2], ?_⟩
      rw [List.lookup_cons]
      simpa using hb
    · have : (n == l) = false := beq_eq_false_iff_ne.mpr (Ne.symm e)
      rw [valV_neg (fun q => e (Sum.inr.inj (e1.symm.trans q))), List.lookup_cons, this]
      exact spelled_at n t
structure GBd (D : Nat) (ks : Kds) (rs : Rls) (bs : Brs) : Prop where
  kl : ks.length ≤ 10000
  rl : rs.length ≤ 10000
  bl : bs.length ≤ 10000
  al : (altsOf rs).length ≤ 1000000
  kd : ∀ k, k ∈ ks → k.1.length ≤ 16000000 ∧ sizeP k.2.1 ≤ 1000 ∧ deepP k.2.1 ≤ D
  rd : ∀ r, r ∈ rs → r.1.length ≤ 16000000 ∧ ∀ a, a ∈ r.2 → a.1.length ≤ 16000000 ∧ a.2.length ≤ 10000
def methL : List Str := ["begin", "bars", "row_of", "rule_of", "is_kind", "pattern_of", "is_label", "kinds", "rules", "labels", "labels_of", "number_in", "is_rule"]
/-- a grammar that stands -/
structure GrS (K : PySem.W.Frag) (C : Addr) (H : Hp) (g : Addr) (ks : Kds) (rs : Rls) (bs : Brs) (start : Str) : Prop where
  ob : ∃ (dx c pd hd ed wd : Addr) (fs : List (Str × V)) (cb : List V) (pk ek wk : List (Key × V)), H g = some (.ins C dx fs) ∧ fs.lookup ("bar_rows" : Str) = some (.ref c) ∧ fs.lookup ("first_rule" : Str) = some (.str start) ∧ fs.lookup ("patterns" : Str) = some (.ref pd) ∧ fs.lookup ("homes" : Str) = some (.ref hd) ∧ fs.lookup ("spelled" : Str) = some (.ref ed) ∧ fs.lookup ("label_rows" : Str) = some (.ref wd) ∧
    SqT K H c cb ∧ Paired (BrV H) cb bs ∧ H pd = some (.dK pk) ∧ Paired (PkV H) pk ks ∧ H hd = some (.dK ((homesOf rs).map fun h => ((Sum.inr h.1 : Key), V.str h.2))) ∧ H ed = some (.dK ek) ∧ Paired (SpE H) ek (altsOf rs) ∧ H wd = some (.dK wk) ∧ wk.map (·.1) = (rs.map (·.1)).map Sum.inr ∧ ∀ m, m ∈ methL → fs.lookup m = none
  rows : ∃ (dx la D0 : Addr) (fs : List (Str × V)) (kv rv : List V), H g = some (.ins C dx fs) ∧ fs.lookup ("kind_rows" : Str) = some (.ref la) ∧ fs.lookup ("rule_rows" : Str) = some (.ref D0) ∧ H la = some (.lst kv) ∧ Paired (KdV H) kv ks ∧ H D0 = some (.lst rv) ∧ Paired (RlV anyB H) rv rs
/-- d is none of a grammar's own dicts -/
def GrN (C : Addr) (H : Hp) (g d : Addr) : Prop := ∀ dx fs, H g = some (.ins C dx fs) → ∀ x, x ∈ (["patterns", "homes", "spelled", "label_rows"] : List Str) → fs.lookup x ≠ some (.ref d)
def spGInit (K : PySem.W.Frag) (D : Nat) (C CN : Addr) : Sp := fun vs H Q E => ∃ (g a b c dx : Addr) (vb : V) (ka rb cb : List V) (ks : Kds) (rs : Rls) (bs : Brs) (start : Str), vs = [.ref g, .ref a, .ref b, vb, .ref c] ∧ H g = some (.ins C dx []) ∧ H a = some (.lst ka) ∧ Paired (KdV H) ka ks ∧ H b = some (.lst rb) ∧ Paired (RlV anyB H) rb rs ∧ SqT K H c cb ∧ Paired (BrV H) cb bs ∧
  (vb = .str start ∨ (vb = .non ∧ ∀ n as t, rs = (n, as) :: t → start = n)) ∧ GBd D ks rs bs ∧
  (gramE ks rs start bs = none → ∀ H', GrS K C H' g ks rs bs start → (∀ d, H d ≠ none → GrN C H' g d) → KX [g] H H' → Q .non H') ∧ (∀ e, gramE ks rs start bs = some e → ∀ H', KX [g] H H' → Out E CN H' e)
section
variable {P : Program} {w : World} {K : PySem.W.Frag} {mg : Str → Option Value} {base : Heap} {f C CN fN f1 f2 f3 f4 f5 : Addr} {fd dN d1 d2 d3 d4 d5 : FuncData}
theorem ok_ginit {D : Nat} (F : Fun K "__init__" "Grammar.__init__" gInit f fd) (T : GTxt K mg C CN fN) (GN : FnOk P w K mg base CX0 1 fN dN ["self", "what", "name"] (spNoG K CN)) (bN : Binds K dN ["self", "what", "name"] [])
    (G1 : FnOk P w K mg base (L2.CX P w) (D + 3) f1 d1 ["self"] (spFew K D C CN)) (b1 : Binds K d1 ["self"] []) (m1 : Meth K C "need_few" f1)
    (G2 : FnOk P w K mg base (L2.CX P w) (3 * D + 4) f2 d2 ["self"] (spGKinds D C CN)) (b2 : Binds K d2 ["self"] []) (m2 : Meth K C "look_kinds" f2)
    (G3 : FnOk P w K mg base (L2.CX P w) 4 f3 d3 ["self"] (spGRules C CN)) (b3 : Binds K d3 ["self"] []) (m3 : Meth K C "look_rules" f3)
    (G4 : FnOk P w K mg base (L2.CX P w) 3 f4 d4 ["self"] (spSyms C CN)) (b4 : Binds K d4 ["self"] []) (m4 : Meth K C "look_symbols" f4)
    (G5 : FnOk P w K mg base (L2.CX P w) 3 f5 d5 ["self"] (spGBars K C CN)) (b5 : Binds K d5 ["self"] []) (m5 : Meth K C "look_bars" f5)
    (mli : mg "list" = none) (mtu : mg "tuple" = none) :
    FnOk P w K mg base (L2.CX P w) (3 * D + 5) f fd ["self", "kinds", "rules", "begin", "bars"] (spGInit K D C CN) := by
  refine F.okX scGInit (fun vs H Q E h => ?_) (fun cdv A outer s H vs Q E hr h => ?_)
  · obtain ⟨_, _, _, _, _, _, _, _, _, _, _, _, _, rfl, _⟩ := h
    rfl
  have hu1 := hu_of hr
  have hu := hr.units
  have G1' := G1.mono (show D + 3 ≤ 3 * D + 4 by omega)
  have G3' := G3.mono (show 4 ≤ 3 * D + 4 by omega)
  have G4' := G4.mono (show 3 ≤ 3 * D + 4 by omega)
  have G5' := G5.mono (show 3 ≤ 3 * D + 4 by omega)
  refine ⟨_, pss_cons (ps_fld (pv 0) (pe_callTy call_list_of rfl mli (by decide +kernel) (pa_cons (pv 1) pa_nil)) rfl)
    (pss_cons (ps_fld (pv 0) (pe_lc (own := [("name", 5), ("alternatives", 6)]) (g := gTup K 2 (gCons (gName 5) (gCons (gName 6) gNil))) (tt := tYes) rfl scGInit.nd (pi_list (pv 2)) (blkOk_by (N := ["self", "kinds", "rules", "begin", "bars", "name", "alternatives"]) (sc := defScope gInit) (by decide +kernel)) (fun _ _ _ _ _ => pg_tup rfl (pgs_cons (pg_name (i := 5) scGInit.nd rfl (Or.inl rfl)) (pgs_cons (pg_name (i := 6) scGInit.nd rfl (Or.inl rfl)) pgs_nil))) (fun _ _ _ _ _ => pts_nil)
        (fun _ _ _ _ _ => pe_tup (pa_cons (pv 5) (pa_cons (pe_callTy (show CallR _ _ (fun xs H Q => ∃ p ys, xs = [V.ref p] ∧ (SqL K H p ys ∨ SqT K H p ys) ∧ ∀ l, H l = none → Q (V.ref l) (upd H l (.lst ys))) from call_list_of) rfl mli (by decide +kernel) (pa_cons (pv 6) pa_nil)) pa_nil)))) rfl)
    (pss_cons (ps_fld (pv 0) (pe_callTy call_tuple_of rfl mtu (by decide +kernel) (pa_cons (pv 4) pa_nil)) rfl)
    (pss_cons (ps_expr (pe_meth0 (pv 0) T.cl m1 G1' hr b1 .nil (passes_call (takes_of rfl rfl rfl rfl) (fun _ _ _ _ z => z))))
    (pss_cons (ps_fld (pv 0) (pe_ifExp (pt_cmpR op_isN (pv 3) pe_non (nomark _)) (pe_ix ix_tup (pe_ix ix_list (pe_fld (pv 0) rfl) pe_int (fun _ _ => rfl)) pe_int (fun _ _ => rfl)) (pv 3)) rfl)
    (pss_cons (ps_fld (pv 0) pe_dnewK rfl)
    (pss_cons (ps_fld (pv 0) pe_dnewK rfl)
    (pss_cons (ps_fld (pv 0) pe_dnewK rfl)
    (pss_cons (ps_fld (pv 0) pe_dnewK rfl)
    (pss_cons (ps_fld (pv 0) pe_dnewK rfl)
    (pss_cons (ps_fld (pv 0) pe_dnewK rfl)
    (pss_cons (ps_expr (pe_meth0 (pv 0) T.cl m2 G2 hr b2 .nil (passes_call (takes_of rfl rfl rfl rfl) (fun _ _ _ _ z => z))))
    (pss_cons (ps_expr (pe_meth0 (pv 0) T.cl m3 G3' hr b3 .nil (passes_call (takes_of rfl rfl rfl rfl) (fun _ _ _ _ z => z))))
    (pss_cons (ps_expr (pe_meth0 (pv 0) T.cl m4 G4' hr b4 .nil (passes_call (takes_of rfl rfl rfl rfl) (fun _ _ _ _ z => z))))
    (pss_cons (ps_if (pt_cmp (pc_dnotin hu1 (pe_fld (pv 0) rfl) (pe_fld (pv 0) rfl)))
      (pss_one (ps_raise rfl (takes_of rfl rfl rfl rfl) (pmk_oex T.tN T.iN T.yN GN (hr.mono (show 1 + 1 ≤ 3 * D + 4 by omega)) bN .nil pass0 rfl T.mN (pa_cons pe_str (pa_cons (pe_fld (pv 0) rfl) pa_nil))))) pss_nil)
    (pss_one (ps_expr (pe_meth0 (pv 0) T.cl m5 G5' hr b5 .nil (passes_call (takes_of rfl rfl rfl rfl) (fun _ _ _ _ z => z))))))))))))))))))), ?_⟩
  obtain ⟨g, a, b, c, dx, vb, ka, rb, cb, ks, rs, bs, start, rfl, hg, ha, pk, hb, pr, hc, pb, hvb, bd, q1, q2⟩ := h
  refine ⟨_, rfl, a, _, rfl, .inl (SqL.of ha), fun la hla => ?_⟩
  have ng : ∀ {c : Addr} {u : HO}, H c = some u → (∀ dx fs, u ≠ .ins C dx fs) → c ≠ g := fun {c u} e ne q => by rw [q, hg] at e; exact ne _ _ (Option.some.inj e).symm
  have nla : la ≠ g := fun e => by rw [e, hg] at hla; cases hla
  refine ⟨_, rfl, g, C, dx, [], rfl, same_new hla _ _ _ hg, T.cl, T.nK, (by show 0 < 1000; decide), ?_⟩
  have kx1 : KX [g] H (upd (upd H la (.lst ka)) g (.ins C dx (putF "kind_rows" (.ref la) []))) := (KX.of (same_new hla (.lst ka))).put (by simp)
  have g1 : (upd (upd H la (.lst ka)) g (.ins C dx (putF "kind_rows" (.ref la) []))) g = some (.ins C dx (putF "kind_rows" (.ref la) [])) := upd_same
  have la1 : (upd (upd H la (.lst ka)) g (.ins C dx (putF "kind_rows" (.ref la) []))) la = some (.lst ka) := by rw [upd_ne nla]; exact upd_same
  generalize upd (upd H la (.lst ka)) g (.ins C dx (putF "kind_rows" (.ref la) [])) = H1 at kx1 g1 la1
  have hb1 : H1 b = some (.lst rb) := kx1 _ _ (by simpa using ng hb (fun _ _ e => by cases e)) hb
  have tk1 : Tk H H1 := fun c xs e => kx1 _ _ (by simpa using ng e (fun _ _ e => by cases e)) e
  have kl1 : ∀ {c xs}, H c = some (.lst xs) → H1 c = some (.lst xs) := fun {c xs} e => kx1 _ _ (by simpa using ng e (fun _ _ e => by cases e)) e
  have lrb : rb.length = rs.length := Paired.length pr
  refine ⟨_, rfl, b, rfl, ⟨_, SqL.of hb1⟩, fun D0 hD => ?_⟩
  refine lc_list (K := K) (xs := rb) (fun i H' => ∃ acc, H' D0 = some (.lst acc) ∧ acc.length = i ∧ Paired (RlV (fun p => p ≠ D0) H') acc (rs.take i) ∧ Same H1 H') ⟨[], upd_same, rfl, .nil, same_new hD _⟩ (fun i H' _ h => by obtain ⟨_, _, _, _, s⟩ := h; exact SqL.of (s _ _ hb1)) (fun i v H' hv h => ?turn) (fun H2 h => ?done)
  case turn =>
    obtain ⟨acc, eD, lac, pa, sS⟩ := h
    obtain ⟨r, hr', ⟨ra, ab, xs, rfl, h1, h2, _, h3⟩⟩ := paired_get pr i v hv
    have hi := (List.getElem?_eq_some_iff.mp hr').1
    refine ⟨ra, _, rfl, SqT.of (sS _ _ (tk1 _ _ h1)), rfl, _, _, rfl, _, _, rfl, rfl, rfl, ?_⟩
    simp only [tYes, ↓reduceIte]
    have hab := sS _ _ (kl1 h2)
    refine ⟨_, rfl, _, rfl, ab, _, rfl, .inl (SqL.of hab), fun l hl => ⟨(by show 2 ≤ sizeLine; decide), fun t ht => ?_⟩⟩
    have u1 := same_new hl (.lst xs)
    have u2 := same_new ht (.tup [.str r.1, .ref l])
    have eD2 := u2 _ _ (u1 _ _ eD)
    have lD : l ≠ D0 := fun e => by rw [e, eD] at hl; cases hl
    have tD : t ≠ D0 := fun e => by rw [e, u1 _ _ eD] at ht; cases ht
    have tl : t ≠ l := fun e => by rw [e, upd_same] at ht; cases ht
    have tk3 : Tk H' (upd (upd (upd H' l (.lst xs)) t (.tup [.str r.1, .ref l])) D0 (.lst (acc ++ [.ref t]))) := fun c ys e => by
      rw [upd_ne (fun q => by rw [q, eD] at e; cases e)]; exact u2 _ _ (u1 _ _ e)
    refine ⟨acc, eD2, by rw [sizeLine_eq, lac]; have := bd.rl; omega, acc ++ [.ref t], upd_same, by rw [List.length_append, lac]; rfl, ?_, same_upd (sS.trans (u1.trans u2)) hD⟩
    rw [List.take_add_one, hr', Option.toList_some]
    refine paired_snoc (paired_imp (fun v k r => r.tk tk3 fun b ys n e => by rw [upd_ne n]; exact u2 _ _ (u1 _ _ e)) pa) ?_
    exact ⟨t, l, xs, rfl, by rw [upd_ne tD]; exact upd_same, by rw [upd_ne lD, upd_ne (Ne.symm tl)]; exact upd_same, lD, paired_imp (fun _ _ r => r.tk ((tk1.trans (Tk.of_same sS)).trans tk3)) h3⟩
  obtain ⟨acc, eD, lac, pa, s2⟩ := h
  rw [lrb, List.take_length] at pa
  have pa : Paired (RlV anyB H2) acc rs := paired_imp (fun _ _ ⟨a, b, xs, e, h1, h2, _, h4⟩ => ⟨a, b, xs, e, h1, h2, trivial, h4⟩) pa
  have g2 := s2 _ _ g1
  have nD : D0 ≠ g := fun e => by rw [e, g2] at eD; cases eD
  have laD : la ≠ D0 := fun e => by rw [← e, la1] at hD; cases hD
  refine ⟨_, rfl, g, C, dx, _, rfl, g2, T.cl, T.nR, (by show 1 < 1000; decide), ?_⟩
  have kx2 : KX [g] H (upd H2 g (.ins C dx (putF "rule_rows" (.ref D0) (putF "kind_rows" (.ref la) [])))) := (kx1.trans (KX.of s2)).put (by simp)
  have g3 : (upd H2 g (.ins C dx (putF "rule_rows" (.ref D0) (putF "kind_rows" (.ref la) [])))) g = some (.ins C dx (putF "rule_rows" (.ref D0) (putF "kind_rows" (.ref la) []))) := upd_same
  have kg : ∀ {p o}, p ≠ g → H2 p = some o → (upd H2 g (.ins C dx (putF "rule_rows" (.ref D0) (putF "kind_rows" (.ref la) [])))) p = some o := fun n e => by rw [upd_ne n]; exact e
  have pa : Paired (RlV anyB (upd H2 g (.ins C dx (putF "rule_rows" (.ref D0) (putF "kind_rows" (.ref la) []))))) acc rs := paired_imp (fun _ _ r => r.tk (fun c xs e => kg (fun q => by rw [q, g2] at e; cases e) e) fun b xs _ e => kg (fun q => by rw [q, g2] at e; cases e) e) pa
  have eD := kg nD eD
  have la1 := kg nla (s2 _ _ la1)
  clear kg g2 s2
  generalize upd H2 g (.ins C dx (putF "rule_rows" (.ref D0) (putF "kind_rows" (.ref la) []))) = H3 at kx2 g3 pa eD la1
  have ngc : Rd H c (.tup cb) → c ∉ [g] := fun h => by
    rcases h with h | ⟨o, h⟩
    · simpa using ng h (fun _ _ e => by cases e)
    · simpa using ng h (fun _ _ e => by cases e)
  have hc3 := kx2.seqT hc ngc
  refine ⟨_, rfl, c, _, rfl, .inr ⟨hc3, _, rfl, g, C, dx, _, rfl, g3, T.cl, T.nB, (by show 2 < 1000; decide), ?_⟩⟩
  have kx4 : KX [g] H (upd H3 g (.ins C dx (putF "bar_rows" (.ref c) (putF "rule_rows" (.ref D0) (putF "kind_rows" (.ref la) []))))) := kx2.put (by simp)
  have g4 : (upd H3 g (.ins C dx (putF "bar_rows" (.ref c) (putF "rule_rows" (.ref D0) (putF "kind_rows" (.ref la) []))))) g = some (.ins C dx (putF "bar_rows" (.ref c) (putF "rule_rows" (.ref D0) (putF "kind_rows" (.ref la) [])))) := upd_same
  have kg : ∀ {p o}, p ≠ g → H3 p = some o → (upd H3 g (.ins C dx (putF "bar_rows" (.ref c) (putF "rule_rows" (.ref D0) (putF "kind_rows" (.ref la) []))))) p = some o := fun n e => by rw [upd_ne n]; exact e
  have pa : Paired (RlV anyB (upd H3 g (.ins C dx (putF "bar_rows" (.ref c) (putF "rule_rows" (.ref D0) (putF "kind_rows" (.ref la) [])))))) acc rs := paired_imp (fun _ _ r => r.tk (fun c xs e => kg (fun q => by rw [q, g3] at e; cases e) e) fun b xs _ e => kg (fun q => by rw [q, g3] at e; cases e) e) pa
  have eD := kg nD eD
  have la1 := kg nla la1
  clear kg g3 kx2 hc3
  generalize upd H3 g (.ins C dx (putF "bar_rows" (.ref c) (putF "rule_rows" (.ref D0) (putF "kind_rows" (.ref la) [])))) = H4 at kx4 g4 pa eD la1
  have tkG : ∀ {H'}, KX [g] H H' → Tk H H' := fun {H'} k c xs e => k _ _ (by simpa using ng e (fun _ _ e => by cases e)) e
  have hc4 := kx4.seqT hc ngc
  have pk4 : Paired (KdV H4) ka ks := paired_imp (fun _ _ r => r.tk (tkG kx4)) pk
  have pb4 : Paired (BrV H4) cb bs := paired_imp (fun _ _ r => r.tk (tkG kx4)) pb
  have few : gramE ks rs start bs = if manyE ks rs bs = true then some (("many" : Str), none) else gramE ks rs start bs := by
    by_cases h : manyE ks rs bs = true
    · unfold gramE; rw [if_pos h, if_pos h]
    · rw [if_neg h]
  refine ⟨_, rfl, g, dx, _, rfl, g4, rfl, g, ks, rs, bs, rfl, ⟨⟨dx, _, la, D0, c, ka, acc, cb, g4, rfl, rfl, rfl, la1, pk4, eD, pa, hc4, pb4⟩, fun k hk => (bd.kd k hk).2.2, bd.kl, bd.rl, bd.bl⟩, fun hm H5 s5 => ?_, fun hm => ?_⟩
  case refine_2 =>
    rw [if_pos hm] at few
    exact q2 _ few _ kx4
  have kx5 := kx4.trans (KX.of s5)
  have g5 := s5 _ _ g4
  have hm0 := hm
  unfold manyE at hm0
  simp only [Bool.or_eq_false_iff, decide_eq_false_iff_not] at hm0
  have hrs : rs ≠ [] := hm0.1.1.1.1.1.2
  obtain ⟨⟨n0, as0⟩, rt, ers⟩ : ∃ r t, rs = r :: t := by
    cases rs with
    | nil => exact absurd rfl hrs
    | cons r t => exact ⟨r, t, rfl⟩
  obtain ⟨t0, at0, eac⟩ : ∃ t at0, acc = t :: at0 := by
    have := Paired.length pa
    rw [ers] at this
    cases acc with
    | nil => simp at this
    | cons t l => exact ⟨t, l, rfl⟩
  have pa5 : Paired (RlV anyB H5) acc rs := paired_imp (fun _ _ r => r.tk (Tk.of_same s5) fun b xs _ e => s5 _ _ e) pa
  have hr0 : ∃ ra b0, t0 = .ref ra ∧ H5 ra = some (.tup [.str n0, .ref b0]) := by
    have p := pa5
    rw [ers, eac] at p
    cases p with
    | cons r _ =>
      obtain ⟨ra, b0, _, e, h1, _⟩ := r
      exact ⟨ra, b0, e, h1⟩
  obtain ⟨ra, b0, et0, hra⟩ := hr0
  refine' aux_rest (fun hR => ?main) ?rest
  case main =>
    refine ⟨_, rfl, rfl, _, rfl, ?_⟩
    have hvb2 := hvb
    rcases hvb2 with hv | ⟨hv, hst⟩
    · refine ifF (show decide (vb = V.non) = false from decide_eq_false (fun e => by rw [hv] at e; cases e)) ?_
      refine ⟨.str start, (show some (some vb) = some (some (V.str start)) by rw [hv]), _, rfl, g, C, dx, _, rfl, g5, T.cl, T.nF, (by show 3 < 1000; decide), ?_⟩
      exact hR
    · have e0 := hst _ _ _ ers
      refine ifT (show decide (vb = V.non) = true from decide_eq_true hv) ?_
      refine ⟨_, rfl, g, C, dx, _, _, rfl, g5, T.cl, T.nR, rfl, D0, acc, _, t0, rfl, rfl, SqL.of (s5 _ _ eD), by rw [eac]; exact at_zero, ra, _, _, .str start, et0, rfl, SqT.of hra, by rw [e0]; exact at_zero, _, rfl, g, C, dx, _, rfl, g5, T.cl, T.nF, (by show 3 < 1000; decide), ?_⟩
      exact hR
  have kx6 : KX [g] H (upd H5 g (.ins C dx (putF "first_rule" (.str start) (putF "bar_rows" (.ref c) (putF "rule_rows" (.ref D0) (putF "kind_rows" (.ref la) [])))))) := kx5.put (by simp)
  have g6 : (upd H5 g (.ins C dx (putF "first_rule" (.str start) (putF "bar_rows" (.ref c) (putF "rule_rows" (.ref D0) (putF "kind_rows" (.ref la) [])))))) g = some (.ins C dx (putF "first_rule" (.str start) (putF "bar_rows" (.ref c) (putF "rule_rows" (.ref D0) (putF "kind_rows" (.ref la) []))))) := upd_same
  have kg : ∀ {p o}, p ≠ g → H5 p = some o → (upd H5 g (.ins C dx (putF "first_rule" (.str start) (putF "bar_rows" (.ref c) (putF "rule_rows" (.ref D0) (putF "kind_rows" (.ref la) [])))))) p = some o := fun n e => by rw [upd_ne n]; exact e
  have pa6 : Paired (RlV anyB (upd H5 g (.ins C dx (putF "first_rule" (.str start) (putF "bar_rows" (.ref c) (putF "rule_rows" (.ref D0) (putF "kind_rows" (.ref la) []))))))) acc rs := paired_imp (fun _ _ r => r.tk (fun c xs e => kg (fun q => by rw [q, g5] at e; cases e) e) fun b xs _ e => kg (fun q => by rw [q, g5] at e; cases e) e) pa5
  have eD6 := kg nD (s5 _ _ eD)
  have la6 := kg nla (s5 _ _ la1)
  clear kg
  generalize upd H5 g (.ins C dx (putF "first_rule" (.str start) (putF "bar_rows" (.ref c) (putF "rule_rows" (.ref D0) (putF "kind_rows" (.ref la) []))))) = H6 at kx6 g6 pa6 eD6 la6
  refine fun pd hpd => ?_
  obtain ⟨npd, kpd, g7, pd7⟩ := stepD (f := "patterns") g6 hpd
  refine ⟨_, rfl, g, C, dx, _, rfl, (by rw [upd_ne (Ne.symm npd)]; exact g6), T.cl, T.nP, (by show 4 < 1000; decide), ?_⟩
  have kx7 := kx6.trans kpd
  have pa7 : Paired (RlV anyB _) acc rs := paired_imp (fun _ _ r => r.tk (fun c xs (e : H6 c = _) => kpd _ _ (by simpa using fun q => by rw [q, g6] at e; cases e) e) fun b xs _ (e : H6 b = _) => kpd _ _ (by simpa using fun q => by rw [q, g6] at e; cases e) e) pa6
  have eD7 := kpd _ _ (by simpa using nD) eD6
  have la7 := kpd _ _ (by simpa using nla) la6
  generalize (upd (upd H6 pd (HO.dK [])) g (.ins C dx (putF "patterns" (.ref pd) (putF "first_rule" (.str start) (putF "bar_rows" (.ref c) (putF "rule_rows" (.ref D0) (putF "kind_rows" (.ref la) []))))))) = H7 at kpd kx7 g7 pa7 eD7 la7 pd7
  refine fun sd hsd => ?_
  obtain ⟨nsd, ksd, g8, sd8⟩ := stepD (f := "skips") g7 hsd
  refine ⟨_, rfl, g, C, dx, _, rfl, (by rw [upd_ne (Ne.symm nsd)]; exact g7), T.cl, T.nS, (by show 5 < 1000; decide), ?_⟩
  have kx8 := kx7.trans ksd
  have pa8 : Paired (RlV anyB _) acc rs := paired_imp (fun _ _ r => r.tk (fun c xs (e : H7 c = _) => ksd _ _ (by simpa using fun q => by rw [q, g7] at e; cases e) e) fun b xs _ (e : H7 b = _) => ksd _ _ (by simpa using fun q => by rw [q, g7] at e; cases e) e) pa7
  have eD8 := ksd _ _ (by simpa using nD) eD7
  have la8 := ksd _ _ (by simpa using nla) la7
  have ne_pd_sd : pd ≠ sd := fun e => by rw [← e, pd7] at hsd; cases hsd
  have pd8 := ksd _ _ (by simpa using npd) pd7
  generalize (upd (upd H7 sd (HO.dK [])) g (.ins C dx (putF "skips" (.ref sd) (putF "patterns" (.ref pd) (putF "first_rule" (.str start) (putF "bar_rows" (.ref c) (putF "rule_rows" (.ref D0) (putF "kind_rows" (.ref la) [])))))))) = H8 at ksd kx8 g8 pa8 eD8 la8 pd8 sd8
  refine fun hd hhd => ?_
  obtain ⟨nhd, khd, g9, hd9⟩ := stepD (f := "homes") g8 hhd
  refine ⟨_, rfl, g, C, dx, _, rfl, (by rw [upd_ne (Ne.symm nhd)]; exact g8), T.cl, T.nH, (by show 6 < 1000; decide), ?_⟩
  have kx9 := kx8.trans khd
  have pa9 : Paired (RlV anyB _) acc rs := paired_imp (fun _ _ r => r.tk (fun c xs (e : H8 c = _) => khd _ _ (by simpa using fun q => by rw [q, g8] at e; cases e) e) fun b xs _ (e : H8 b = _) => khd _ _ (by simpa using fun q => by rw [q, g8] at e; cases e) e) pa8
  have eD9 := khd _ _ (by simpa using nD) eD8
  have la9 := khd _ _ (by simpa using nla) la8
  have ne_pd_hd : pd ≠ hd := fun e => by rw [← e, pd8] at hhd; cases hhd
  have pd9 := khd _ _ (by simpa using npd) pd8
  have ne_sd_hd : sd ≠ hd := fun e => by rw [← e, sd8] at hhd; cases hhd
  have sd9 := khd _ _ (by simpa using nsd) sd8
  generalize (upd (upd H8 hd (HO.dK [])) g (.ins C dx (putF "homes" (.ref hd) (putF "skips" (.ref sd) (putF "patterns" (.ref pd) (putF "first_rule" (.str start) (putF "bar_rows" (.ref c) (putF "rule_rows" (.ref D0) (putF "kind_rows" (.ref la) []))))))))) = H9 at khd kx9 g9 pa9 eD9 la9 pd9 sd9 hd9
  refine fun ed hed => ?_
  obtain ⟨ned, ked, g10, ed10⟩ := stepD (f := "spelled") g9 hed
  refine ⟨_, rfl, g, C, dx, _, rfl, (by rw [upd_ne (Ne.symm ned)]; exact g9), T.cl, T.nL, (by show 7 < 1000; decide), ?_⟩
  have kx10 := kx9.trans ked
  have pa10 : Paired (RlV anyB _) acc rs := paired_imp (fun _ _ r => r.tk (fun c xs (e : H9 c = _) => ked _ _ (by simpa using fun q => by rw [q, g9] at e; cases e) e) fun b xs _ (e : H9 b = _) => ked _ _ (by simpa using fun q => by rw [q, g9] at e; cases e) e) pa9
  have eD10 := ked _ _ (by simpa using nD) eD9
  have la10 := ked _ _ (by simpa using nla) la9
  have ne_pd_ed : pd ≠ ed := fun e => by rw [← e, pd9] at hed; cases hed
  have pd10 := ked _ _ (by simpa using npd) pd9
  have ne_sd_ed : sd ≠ ed := fun e => by rw [← e, sd9] at hed; cases hed
  have sd10 := ked _ _ (by simpa using nsd) sd9
  have ne_hd_ed : hd ≠ ed := fun e => by rw [← e, hd9] at hed; cases hed
  have hd10 := ked _ _ (by simpa using nhd) hd9
  generalize (upd (upd H9 ed (HO.dK [])) g (.ins C dx (putF "spelled" (.ref ed) (putF "homes" (.ref hd) (putF "skips" (.ref sd) (putF "patterns" (.ref pd) (putF "first_rule" (.str start) (putF "bar_rows" (.ref c) (putF "rule_rows" (.ref D0) (putF "kind_rows" (.ref la) [])))))))))) = H10 at ked kx10 g10 pa10 eD10 la10 pd10 sd10 hd10 ed10
  refine fun nd hnd => ?_
  obtain ⟨nnd, knd, g11, nd11⟩ := stepD (f := "numbers") g10 hnd
  refine ⟨_, rfl, g, C, dx, _, rfl, (by rw [upd_ne (Ne.symm nnd)]; exact g10), T.cl, T.nN, (by show 8 < 1000; decide), ?_⟩
  have kx11 := kx10.trans knd
  have pa11 : Paired (RlV anyB _) acc rs := paired_imp (fun _ _ r => r.tk (fun c xs (e : H10 c = _) => knd _ _ (by simpa using fun q => by rw [q, g10] at e; cases e) e) fun b xs _ (e : H10 b = _) => knd _ _ (by simpa using fun q => by rw [q, g10] at e; cases e) e) pa10
  have eD11 := knd _ _ (by simpa using nD) eD10
  have la11 := knd _ _ (by simpa using nla) la10
  have ne_pd_nd : pd ≠ nd := fun e => by rw [← e, pd10] at hnd; cases hnd
  have pd11 := knd _ _ (by simpa using npd) pd10
  have ne_sd_nd : sd ≠ nd := fun e => by rw [← e, sd10] at hnd; cases hnd
  have sd11 := knd _ _ (by simpa using nsd) sd10
  have ne_hd_nd : hd ≠ nd := fun e => by rw [← e, hd10] at hnd; cases hnd
  have hd11 := knd _ _ (by simpa using nhd) hd10
  have ne_ed_nd : ed ≠ nd := fun e => by rw [← e, ed10] at hnd; cases hnd
  have ed11 := knd _ _ (by simpa using ned) ed10
  generalize (upd (upd H10 nd (HO.dK [])) g (.ins C dx (putF "numbers" (.ref nd) (putF "spelled" (.ref ed) (putF "homes" (.ref hd) (putF "skips" (.ref sd) (putF "patterns" (.ref pd) (putF "first_rule" (.str start) (putF "bar_rows" (.ref c) (putF "rule_rows" (.ref D0) (putF "kind_rows" (.ref la) []))))))))))) = H11 at knd kx11 g11 pa11 eD11 la11 pd11 sd11 hd11 ed11 nd11
  refine fun wd hwd => ?_
  obtain ⟨nwd, kwd, g12, wd12⟩ := stepD (f := "label_rows") g11 hwd
  refine ⟨_, rfl, g, C, dx, _, rfl, (by rw [upd_ne (Ne.symm nwd)]; exact g11), T.cl, T.nW, (by show 9 < 1000; decide), ?_⟩
  have kx12 := kx11.trans kwd
  have pa12 : Paired (RlV anyB _) acc rs := paired_imp (fun _ _ r => r.tk (fun c xs (e : H11 c = _) => kwd _ _ (by simpa using fun q => by rw [q, g11] at e; cases e) e) fun b xs _ (e : H11 b = _) => kwd _ _ (by simpa using fun q => by rw [q, g11] at e; cases e) e) pa11
  have eD12 := kwd _ _ (by simpa using nD) eD11
  have la12 := kwd _ _ (by simpa using nla) la11
  have ne_pd_wd : pd ≠ wd := fun e => by rw [← e, pd11] at hwd; cases hwd
  have pd12 := kwd _ _ (by simpa using npd) pd11
  have ne_sd_wd : sd ≠ wd := fun e => by rw [← e, sd11] at hwd; cases hwd
  have sd12 := kwd _ _ (by simpa using nsd) sd11
  have ne_hd_wd : hd ≠ wd := fun e => by rw [← e, hd11] at hwd; cases hwd
  have hd12 := kwd _ _ (by simpa using nhd) hd11
  have ne_ed_wd : ed ≠ wd := fun e => by rw [← e, ed11] at hwd; cases hwd
  have ed12 := kwd _ _ (by simpa using ned) ed11
  have ne_nd_wd : nd ≠ wd := fun e => by rw [← e, nd11] at hwd; cases hwd
  have nd12 := kwd _ _ (by simpa using nnd) nd11
  generalize (upd (upd H11 wd (HO.dK [])) g (.ins C dx (putF "label_rows" (.ref wd) (putF "numbers" (.ref nd) (putF "spelled" (.ref ed) (putF "homes" (.ref hd) (putF "skips" (.ref sd) (putF "patterns" (.ref pd) (putF "first_rule" (.str start) (putF "bar_rows" (.ref c) (putF "rule_rows" (.ref D0) (putF "kind_rows" (.ref la) [])))))))))))) = H12 at kwd kx12 g12 pa12 eD12 la12 pd12 sd12 hd12 ed12 nd12 wd12
  have hN : ∀ p, p ∈ [pd, sd, hd, ed, nd, wd] → H p = none := fun p hp => by
    cases e : H p with
    | none => rfl
    | some u =>
      simp only [List.mem_cons, List.not_mem_nil, or_false] at hp
      exfalso
      rcases hp with rfl | rfl | rfl | rfl | rfl | rfl
      · rw [kx6 _ _ (by simpa using npd) e] at hpd; cases hpd
      · rw [kx7 _ _ (by simpa using nsd) e] at hsd; cases hsd
      · rw [kx8 _ _ (by simpa using nhd) e] at hhd; cases hhd
      · rw [kx9 _ _ (by simpa using ned) e] at hed; cases hed
      · rw [kx10 _ _ (by simpa using nnd) e] at hnd; cases hnd
      · rw [kx11 _ _ (by simpa using nwd) e] at hwd; cases hwd
  have gr : gramE ks rs start bs = match kindE [] ks with
    | some e => some e
    | none => match ruleE (ks.map (·.1)) [] rs with
      | some e => some e
      | none => match symE (ks.map (·.1)) (rs.map (·.1)) ((ks.filter fun k => k.2.2).map (·.1)) (rowsOf rs).flatten with
        | some e => some e
        | none => if start ∉ rs.map (·.1) then some ("begin", some start) else barE rs [] bs := by
    unfold gramE
    rw [if_neg (by rw [hm]; decide)]
    all_goals rfl
  have ng12 : ∀ {p u}, H12 p = some u → (∀ dx fs, u ≠ .ins C dx fs) → p ≠ g := fun {p u} e ne q => by rw [q, g12] at e; exact ne _ _ (Option.some.inj e).symm
  have pk12 : Paired (KdV H12) ka ks := paired_imp (fun _ _ r => r.tk (tkG kx12)) pk
  have pb12 : Paired (BrV H12) cb bs := paired_imp (fun _ _ r => r.tk (tkG kx12)) pb
  have hc12 := kx12.seqT hc ngc
  have F0 : ∃ fs : List (Str × V), fs = (putF "label_rows" (.ref wd) (putF "numbers" (.ref nd) (putF "spelled" (.ref ed) (putF "homes" (.ref hd) (putF "skips" (.ref sd) (putF "patterns" (.ref pd) (putF "first_rule" (.str start) (putF "bar_rows" (.ref c) (putF "rule_rows" (.ref D0) (putF "kind_rows" (.ref la) [])))))))))) := ⟨_, rfl⟩
  obtain ⟨FS, hFS⟩ := F0
  rw [← hFS] at g12
  have Lk1 : FS.lookup ("kind_rows" : Str) = some (.ref la) := by rw [hFS]; rfl
  have Lk2 : FS.lookup ("rule_rows" : Str) = some (.ref D0) := by rw [hFS]; rfl
  have Lk3 : FS.lookup ("bar_rows" : Str) = some (.ref c) := by rw [hFS]; rfl
  have Lk4 : FS.lookup ("first_rule" : Str) = some (.str start) := by rw [hFS]; rfl
  have Lk5 : FS.lookup ("patterns" : Str) = some (.ref pd) := by rw [hFS]; rfl
  have Lk6 : FS.lookup ("skips" : Str) = some (.ref sd) := by rw [hFS]; rfl
  have Lk7 : FS.lookup ("homes" : Str) = some (.ref hd) := by rw [hFS]; rfl
  have Lk8 : FS.lookup ("spelled" : Str) = some (.ref ed) := by rw [hFS]; rfl
  have Lk9 : FS.lookup ("numbers" : Str) = some (.ref nd) := by rw [hFS]; rfl
  have Lk10 : FS.lookup ("label_rows" : Str) = some (.ref wd) := by rw [hFS]; rfl
  have M2 : FS.lookup ("look_kinds" : Str) = none := by rw [hFS]; rfl
  have M3 : FS.lookup ("look_rules" : Str) = none := by rw [hFS]; rfl
  have M4 : FS.lookup ("look_symbols" : Str) = none := by rw [hFS]; rfl
  have M5 : FS.lookup ("look_bars" : Str) = none := by rw [hFS]; rfl
  have M6 : FS.lookup ("look_label" : Str) = none := by rw [hFS]; rfl
  have M7 : ∀ m, m ∈ methL → FS.lookup m = none := by rw [hFS]; intro m hm; simp only [methL, List.mem_cons, List.not_mem_nil, or_false] at hm; rcases hm with rfl | rfl | rfl | rfl | rfl | rfl | rfl | rfl | rfl | rfl | rfl | rfl | rfl <;> rfl
  clear hFS
  refine ⟨_, rfl, g, dx, FS, rfl, g12, M2, g, la, pd, sd, dx, FS, ka, ks, rfl, g12, Lk1, Lk5, Lk6, la12, pk12, pd12, sd12, ne_pd_sd, bd.kl, bd.kd, fun hk pkv H13 p13 pkk pkp s13 kx13 => ?_, fun e he H' kx' => ?_⟩
  case refine_2 =>
    rw [he] at gr
    exact q2 e gr H' (kx12.fresh kx' fun y hy => hN y (by simp only [List.mem_cons, List.not_mem_nil, or_false] at hy ⊢; rcases hy with h | h <;> simp [h]))
  rw [hk] at gr
  have kxa : KX [g] H H13 := kx12.fresh kx13 fun y hy => hN y (by simp only [List.mem_cons, List.not_mem_nil, or_false] at hy ⊢; rcases hy with h | h <;> simp [h])
  have in13 : ∀ {p u}, H12 p = some u → p ≠ pd → p ≠ sd → H13 p = some u := fun {p u} e n1 n2 => kx13 _ _ (by simp [n1, n2]) e
  have g13 := in13 g12 (Ne.symm npd) (Ne.symm nsd)
  have nLst : ∀ {p xs}, H12 p = some (.lst xs) → p ≠ pd ∧ p ≠ sd := fun {p xs} e => ⟨fun q => (by rw [q, pd12] at e; cases e), fun q => (by rw [q, sd12] at e; cases e)⟩
  have pa13 : Paired (RlV anyB H13) acc rs := paired_imp (fun _ _ r => r.tk (fun c xs (e : H12 c = some (.tup xs)) => in13 e (fun q => (by rw [q, pd12] at e; cases e)) (fun q => (by rw [q, sd12] at e; cases e))) fun b xs _ e => in13 e (nLst e).1 (nLst e).2) pa12
  have pkk2 : pkv.map (·.1) = (ks.map (·.1)).map Sum.inr := by rw [pkk, List.map_map]; rfl
  have b13 := in13 eD12 (nLst eD12).1 (nLst eD12).2
  have hd13 := in13 hd12 (Ne.symm ne_pd_hd) (Ne.symm ne_sd_hd)
  have ed13 := in13 ed12 (Ne.symm ne_pd_ed) (Ne.symm ne_sd_ed)
  have nd13 := in13 nd12 (Ne.symm ne_pd_nd) (Ne.symm ne_sd_nd)
  have wd13 := in13 wd12 (Ne.symm ne_pd_wd) (Ne.symm ne_sd_wd)
  refine ⟨_, rfl, g, dx, FS, rfl, g13, M3, g, D0, pd, wd, hd, ed, nd, dx, FS, pkv, acc, ks.map (·.1), rs, rfl, g13, Lk2, Lk5, Lk10, Lk7, Lk8, Lk9, M6, b13, pa13, p13, pkk2, wd13, hd13, ed13, nd13, ⟨Ne.symm ne_hd_wd, Ne.symm ne_ed_wd, Ne.symm ne_nd_wd, ne_hd_ed, ne_hd_nd, ne_ed_nd, ne_pd_wd, ne_pd_hd, ne_pd_ed, ne_pd_nd⟩, bd.rl, bd.al, fun r hr => ⟨(bd.rd r hr).1, fun a ha => ((bd.rd r hr).2 a ha).1⟩, fun hru wk ek H14 w14 wkk h14 e14 sp14 kx14 => ?_, fun e he H' kx' => ?_⟩
  case refine_2 =>
    rw [he] at gr
    exact q2 e gr H' (kxa.fresh kx' fun y hy => hN y (by simp only [List.mem_cons, List.not_mem_nil, or_false] at hy ⊢; rcases hy with h | h | h | h <;> simp [h]))
  rw [hru] at gr
  have kxb : KX [g] H H14 := kxa.fresh kx14 fun y hy => hN y (by simp only [List.mem_cons, List.not_mem_nil, or_false] at hy ⊢; rcases hy with h | h | h | h <;> simp [h])
  have in14 : ∀ {p u}, H13 p = some u → p ∉ [wd, hd, ed, nd] → H14 p = some u := fun {p u} e n => kx14 _ _ n e
  have g14 := in14 g13 (by simp [Ne.symm nwd, Ne.symm nhd, Ne.symm ned, Ne.symm nnd])
  have p14 := in14 p13 (by simp [ne_pd_wd, ne_pd_hd, ne_pd_ed, ne_pd_nd])
  have s14 := in14 s13 (by simp [ne_sd_wd, ne_sd_hd, ne_sd_ed, ne_sd_nd])
  have nd1 := kind_nodup hk
  have spr : Paired (fun (kv : Key × V) row => ∃ b, kv.2 = .ref b ∧ H14 b = some (.tup (row.map V.str))) ek (rowsOf rs) := by
    have e : rowsOf rs = (altsOf rs).map (·.2) := by
      show List.flatMap _ _ = List.map _ (List.flatMap _ _)
      rw [List.map_flatMap]
    rw [e]
    have : ∀ {u : List (Key × V)} {v : List (Str × List Str)}, Paired (SpE H14) u v → Paired (fun (kv : Key × V) row => ∃ b, kv.2 = .ref b ∧ H14 b = some (.tup (row.map V.str))) u (v.map (·.2)) := fun {u v} p => by
      induction p with
      | nil => exact .nil
      | cons h _ ih => exact .cons h.2 ih
    exact this sp14
  have wkk2 : wk.map (·.1) = (rs.map (·.1)).map Sum.inr := by rw [wkk, List.map_map]; rfl
  refine ⟨_, rfl, g, dx, FS, rfl, g14, M4, g, ed, pd, wd, sd, dx, FS, ek, pkv, wk, _, rowsOf rs, ks.map (·.1), rs.map (·.1), (ks.filter fun k => k.2.2).map (·.1), rfl, g14, Lk8, Lk5, Lk10, Lk6, e14, spr, p14, pkk2, w14, wkk2, s14, fun n => skips_at n nd1.1, Ne.symm ne_pd_ed, ne_ed_wd, Ne.symm ne_sd_ed, fun hsy H15 s15 => ?_, fun e he H' kx' => ?_⟩
  case refine_2 =>
    rw [he] at gr
    exact q2 e gr H' (kxb.fresh kx' fun y hy => hN y (by simp only [List.mem_cons, List.not_mem_nil, or_false] at hy ⊢; simp [hy]))
  rw [hsy] at gr
  have kxc := kxb.trans (KX.of s15)
  have g15 := s15 _ _ g14
  refine ⟨_, rfl, g, C, dx, _, _, rfl, g15, T.cl, T.nF, Lk4, _, rfl, g, C, dx, _, _, rfl, g15, T.cl, T.nW, Lk10, wd, _, rfl, DGet.k (k := Sum.inr start) (s15 _ _ w14), _, rfl, ?_⟩
  rw [key_in wkk2 start]
  by_cases hst : start ∈ rs.map (·.1)
  case neg =>
    rw [decide_eq_false hst]
    refine ifT rfl ⟨_, rfl, g, C, dx, _, _, rfl, g15, T.cl, T.nF, Lk4, raise_nog (y := some start) T.tN T.n1 T.n2 (q2 _ (gr.trans (if_pos hst)) H15 kxc)⟩
  rw [decide_eq_true hst]
  refine ifF rfl ?_
  replace gr := gr.trans (if_neg (fun h => h hst))
  have sp15 : Paired (SpE H15) ek (altsOf rs) := paired_imp (fun _ _ r => r.tk (Tk.of_same s15)) sp14
  have hc15 := kxc.seqT hc ngc
  have pb15 : Paired (BrV H15) cb bs := paired_imp (fun _ _ r => r.tk (tkG kxc)) pb
  have lsp : ∀ n, (spelledP rs n).length ≤ 10000 := fun n => by
    show (((altsOf rs).lookup n).getD []).length ≤ 10000
    cases e : (altsOf rs).lookup n with
    | none => exact Nat.zero_le _
    | some row =>
      have hm : (n, row) ∈ altsOf rs := by
        have : ∀ {l : List (Str × List Str)}, l.lookup n = some row → (n, row) ∈ l := fun {l} e => by
          induction l with
          | nil => cases e
          | cons a l ih =>
            obtain ⟨x, y⟩ := a
            rw [List.lookup_cons] at e
            by_cases q : n = x
            · rw [q] at e ⊢; simp at e; rw [e]; exact List.mem_cons_self
            · rw [beq_eq_false_iff_ne.mpr q] at e
              exact List.mem_cons_of_mem _ (ih e)
        exact this e
      obtain ⟨r, hr1, hr2⟩ := List.mem_flatMap.mp hm
      exact ((bd.rd r hr1).2 _ hr2).2
  refine ⟨_, rfl, g, dx, FS, rfl, g15, M5, g, ed, hd, c, dx, FS, ek, _, cb, rs, bs, rfl, g15, Lk8, Lk7, Lk3, s15 _ _ e14, s15 _ _ h14, hc15, pb15, bd.bl, fun n => spelled_at n sp15, fun n => homes_at n _, lsp, fun hba H16 s16 => ?_, fun e he => ?_⟩
  case refine_2 =>
    rw [he] at gr
    exact q2 e gr H15 kxc
  rw [hba] at gr
  have tkZ : Tk H12 H16 := fun c xs e => s16 _ _ (s15 _ _ (in14 (in13 e (fun q => by rw [q, pd12] at e; cases e) (fun q => by rw [q, sd12] at e; cases e)) (by
    have q1 : c ≠ wd := fun q => by rw [q, wd12] at e; cases e
    have q2 : c ≠ hd := fun q => by rw [q, hd12] at e; cases e
    have q3 : c ≠ ed := fun q => by rw [q, ed12] at e; cases e
    have q4 : c ≠ nd := fun q => by rw [q, nd12] at e; cases e
    simp [q1, q2, q3, q4])))
  have kxd : KX [g] H H16 := kxc.trans (KX.of s16)
  have pk16 : Paired (PkV H16) pkv ks := paired_imp (fun _ _ r => r.tk tkZ) pkp
  have lsZ : ∀ {b xs}, H12 b = some (.lst xs) → H16 b = some (.lst xs) := fun {b xs} e => s16 _ _ (s15 _ _ (in14 (in13 e (nLst e).1 (nLst e).2) (by
    have q1 : b ≠ wd := fun q => by rw [q, wd12] at e; cases e
    have q2 : b ≠ hd := fun q => by rw [q, hd12] at e; cases e
    have q3 : b ≠ ed := fun q => by rw [q, ed12] at e; cases e
    have q4 : b ≠ nd := fun q => by rw [q, nd12] at e; cases e
    simp [q1, q2, q3, q4])))
  have gn : ∀ d, H d ≠ none → GrN C H16 g d := fun d hd dx' fs' h16 x hx e => by
    have g16 := s16 _ _ g15
    have q := g16.symm.trans h16
    cases q
    simp only [List.mem_cons, List.not_mem_nil, or_false] at hx
    rcases hx with rfl | rfl | rfl | rfl
    · cases Lk5.symm.trans e; exact hd (hN _ (by simp))
    · cases Lk7.symm.trans e; exact hd (hN _ (by simp))
    · cases Lk8.symm.trans e; exact hd (hN _ (by simp))
    · cases Lk10.symm.trans e; exact hd (hN _ (by simp))
  exact q1 gr H16 ⟨⟨dx, c, pd, hd, ed, wd, FS, cb, pkv, ek, wk, s16 _ _ g15, Lk3, Lk4, Lk5, Lk7, Lk8, Lk10, kxd.seqT hc ngc, paired_imp (fun _ _ r => r.tk (tkG kxd)) pb, s16 _ _ (s15 _ _ p14), pk16, s16 _ _ (s15 _ _ h14), s16 _ _ (s15 _ _ e14), paired_imp (fun _ _ r => r.tk (Tk.of_same s16)) sp15, s16 _ _ (s15 _ _ w14), wkk2, M7⟩, dx, la, D0, FS, ka, acc, s16 _ _ g15, Lk1, Lk2, lsZ la12, paired_imp (fun _ _ r => r.tk tkZ) pk12, lsZ eD12, paired_imp (fun _ _ r => r.tk tkZ fun b xs _ e => lsZ e) pa12⟩ gn kxd
end
end Pa
set_option maxHeartbeats 4000000
namespace Pa
open PySem PySem.Spec PyProof.Rows L2 Ty
/-! ### begin; data in the heap, and their repr -/
theorem scBegin : FnScope ["self"] ["self"] (defScope gBegin) := ⟨rfl, rfl, rfl, by decide +kernel, rfl, by decide +kernel, by decide +kernel⟩
def spBegin (C : Addr) : Sp := fun vs H Q _ => ∃ (g dx : Addr) (fs : List (Str × V)) (v : V), vs = [.ref g] ∧ H g = some (.ins C dx fs) ∧ fs.lookup ("first_rule" : Str) = some v ∧ Q v H
theorem ok_begin {P : Program} {w : World} {K : PySem.W.Frag} {mg : Str → Option Value} {base : Heap} {f C CN fN : Addr} {fd : FuncData} (F : Fun K "begin" "Grammar.begin" gBegin f fd) (T : GTxt K mg C CN fN) : FnOk P w K mg base CX0 1 f fd ["self"] (spBegin C) := by
  refine F.ok scBegin (fun vs H Q E h => ?_) (fun cdv A outer s H vs Q E hr h => ?_)
  · obtain ⟨_, _, _, _, rfl, _⟩ := h
    rfl
  obtain ⟨g, dx, fs, v, rfl, hg, hl, q⟩ := h
  refine ⟨_, pss_one (ps_ret (pe_fld (pv 0) rfl)), ?_⟩
  exact ⟨_, rfl, g, C, dx, _, _, rfl, hg, T.cl, T.nF, hl, q⟩
mutual
/-- v reads as d -/
inductive RpD (H : Hp) : V → PyData → Prop
  | bl (b : Bool) : RpD H (.bl b) (.bool b)
  | int (i : Int) : RpD H (.int i) (.int i)
  | str (x : Str) : RpD H (.str x) (.str x)
  | lst {a : Addr} {xs : List V} {ds : List PyData} : H a = some (.lst xs) → RpDs H xs ds → RpD H (.ref a) (.list ds)
  | tup {a : Addr} {xs : List V} {ds : List PyData} : H a = some (.tup xs) → RpDs H xs ds → RpD H (.ref a) (.tuple ds)
inductive RpDs (H : Hp) : List V → List PyData → Prop
  | nil : RpDs H [] []
  | cons {v : V} {vs : List V} {d : PyData} {ds : List PyData} : RpD H v d → RpDs H vs ds → RpDs H (v :: vs) (d :: ds)
end
theorem RpDs.of {H : Hp} {α : Type} {R : V → α → Prop} {f : α → PyData} (h : ∀ v x, R v x → RpD H v (f x)) : ∀ {vs : List V} {xs : List α}, Paired R vs xs → RpDs H vs (xs.map f)
  | _, _, .nil => .nil
  | _, _, .cons r t => .cons (h _ _ r) (RpDs.of h t)
theorem RpDs.strs {H : Hp} : ∀ l : List Str, RpDs H (l.map V.str) (l.map PyData.str)
  | [] => .nil
  | x :: l => .cons (.str x) (RpDs.strs l)
section
variable {X : Cx} {pins : List (Addr × Obj)} {σ : L2.St} {H : Hp} {s : Shared}
mutual
theorem RpD.reads (I : Inv X pins σ H s) : ∀ (d : PyData) (v : V) (u : Value), RpD H v d → RelV v u → ∃ as, Reads s.heap u d as
  | .none, _, _, h, r => by cases h
  | .dict _, _, _, h, r => by cases h
  | .bool b, _, _, h, r => by
    cases h
    cases r
    exact ⟨_, Reads.bool b⟩
  | .int i, _, _, h, r => by
    cases h
    obtain ⟨t, rfl⟩ := r
    exact ⟨_, Reads.int i t⟩
  | .str x, _, _, h, r => by
    cases h
    obtain ⟨t, rfl⟩ := r
    exact ⟨_, Reads.str x t⟩
  | .list ds, _, _, h, r => by
    cases h with
    | lst e q =>
      cases r
      obtain ⟨z, its, m, rv, ho⟩ := I.hok _ _ e
      obtain ⟨as, hr⟩ := RpDs.reads I ds _ its q rv
      exact ⟨_, Reads.list ho rfl rfl (by simpa using hr)⟩
  | .tuple ds, _, _, h, r => by
    cases h with
    | tup e q =>
      cases r
      obtain ⟨z, its, rv, o, ho, hc, m, hd⟩ := I.hok _ _ e
      obtain ⟨as, hr⟩ := RpDs.reads I ds _ its q rv
      exact ⟨_, Reads.tuple ho hc hd (by simpa using hr)⟩
theorem RpDs.reads (I : Inv X pins σ H s) : ∀ (ds : List PyData) (vs : List V) (us : List Value), RpDs H vs ds → Vals vs us → ∃ as, ReadsAll s.heap us ds as
  | [], _, _, h, r => by
    cases h
    cases r
    exact ⟨_, ReadsAll.nil⟩
  | d :: ds, _, _, h, r => by
    cases h with
    | cons h1 h2 =>
      cases r with
      | cons r1 r2 =>
        obtain ⟨as, q1⟩ := RpD.reads I d _ _ h1 r1
        obtain ⟨bs, q2⟩ := RpDs.reads I ds _ _ h2 r2
        exact ⟨_, ReadsAll.cons q1 q2⟩
end
end
/-- plain data: no dicts, low signs, small numbers, so deep -/
inductive Fi : Nat → PyData → Prop
  | bl {n : Nat} (b : Bool) : Fi n (.bool b)
  | int {n : Nat} {i : Int} (h : i.natAbs ≤ 9) : Fi n (.int i)
  | str {n : Nat} {x : Str} (h : ∀ c, c ∈ x.cps.toList → c < 128) : Fi n (.str x)
  | lst {n : Nat} {ds : List PyData} (h : ∀ d, d ∈ ds → Fi n d) : Fi (n + 1) (.list ds)
  | tup {n : Nat} {ds : List PyData} (h : ∀ d, d ∈ ds → Fi n d) : Fi (n + 1) (.tuple ds)
theorem Fi.mono {n : Nat} {d : PyData} (f : Fi n d) : ∀ {n' : Nat}, n ≤ n' → Fi n' d := by
  induction f with
  | bl b => intros; exact .bl b
  | int h => intros; exact .int h
  | str h => intros; exact .str h
  | lst h ih =>
    intro n' l
    obtain ⟨k, rfl⟩ : ∃ k, n' = k + 1 := ⟨n' - 1, by omega⟩
    exact .lst fun d hd => ih d hd (by omega)
  | tup h ih =>
    intro n' l
    obtain ⟨k, rfl⟩ : ∃ k, n' = k + 1 := ⟨n' - 1, by omega⟩
    exact .tup fun d hd => ih d hd (by omega)
mutual
def wd : PyData → Nat
  | .str x => 10 * x.length + 4
  | .list ds => wds ds + 5
  | .tuple ds => wds ds + 5
  | .none => 7
  | .bool _ => 7
  | .int _ => 7
  | .dict _ => 7
def wds : List PyData → Nat
  | [] => 0
  | d :: ds => wd d + wds ds
end
theorem wds_app : ∀ a b : List PyData, wds (a ++ b) = wds a + wds b
  | [], b => by simp [wds]
  | d :: a, b => by simp only [List.cons_append, wds, wds_app a b]; omega
theorem wds_le {α : Type} {f : α → PyData} {k : Nat} : ∀ l : List α, (∀ x, x ∈ l → wd (f x) ≤ k) → wds (l.map f) ≤ k * l.length
  | [], _ => by simp [wds]
  | x :: l, h => by
    have h1 := h x List.mem_cons_self
    have h2 := wds_le l fun y hy => h y (List.mem_cons_of_mem _ hy)
    simp only [List.map_cons, wds, List.length_cons, Nat.mul_add, Nat.mul_one]
    omega
theorem Fi.depth {n : Nat} {d : PyData} (f : Fi n d) : d.depth ≤ n := by
  have all : ∀ (n : Nat) (ds : List PyData), (∀ d, d ∈ ds → d.depth ≤ n) → PyData.depthAll ds ≤ n := by
    intro n ds
    induction ds with
    | nil => intro _; simp [PyData.depthAll]
    | cons d ds ih =>
      intro h
      have h1 := h d List.mem_cons_self
      have h2 := ih fun e he => h e (List.mem_cons_of_mem _ he)
      simp only [PyData.depthAll]
      omega
  induction f with
  | bl b => simp [PyData.depth]
  | int h => simp [PyData.depth]
  | str h => simp [PyData.depth]
  | lst h ih =>
    have := all _ _ ih
    simp only [PyData.depth]
    omega
  | tup h ih =>
    have := all _ _ ih
    simp only [PyData.depth]
    omega
theorem Fi.showable {n : Nat} {d : PyData} (f : Fi n d) : d.showable = true := by
  have all : ∀ (ds : List PyData), (∀ d, d ∈ ds → d.showable = true) → PyData.showableAll ds = true := by
    intro ds
    induction ds with
    | nil => intro _; simp [PyData.showableAll]
    | cons d ds ih =>
      intro h
      simp only [PyData.showableAll, h d List.mem_cons_self, ih fun e he => h e (List.mem_cons_of_mem _ he), Bool.and_self]
  induction f with
  | bl b => simp [PyData.showable]
  | @int n i h =>
    have h2 : i.natAbs.log2 ≤ i.natAbs := Nat.log2_le_self i.natAbs
    simp only [PyData.showable, decide_eq_true_eq]
    omega
  | str h => simp [PyData.showable]
  | lst h ih => simp only [PyData.showable]; exact all _ ih
  | tup h ih => simp only [PyData.showable]; exact all _ ih
theorem Fi.noDict {n : Nat} {d : PyData} (f : Fi n d) : d.hasDict = false := by
  have all : ∀ (ds : List PyData), (∀ d, d ∈ ds → d.hasDict = false) → PyData.hasDictAll ds = false := by
    intro ds
    induction ds with
    | nil => intro _; simp [PyData.hasDictAll]
    | cons d ds ih =>
      intro h
      simp only [PyData.hasDictAll, h d List.mem_cons_self, ih fun e he => h e (List.mem_cons_of_mem _ he), Bool.or_self]
  induction f with
  | bl b => simp [PyData.hasDict]
  | int h => simp [PyData.hasDict]
  | str h => simp [PyData.hasDict]
  | lst h ih => simp only [PyData.hasDict]; exact all _ ih
  | tup h ih => simp only [PyData.hasDict]; exact all _ ih
theorem listText_len (ts : List Str) : (listText ts).length ≤ piled ts + 2 := by
  cases ts with
  | nil => decide
  | cons t r =>
    have h := textFrom_length_pos r 1 (("[" : Str) ++ (if (0 : Nat) > 0 then ", " else "" : String) ++ t) (Nat.succ_pos 0)
    show (textFrom 1 (("[" : Str) ++ (if (0 : Nat) > 0 then ", " else "" : String) ++ t) r ++ "]").length ≤ _
    rw [strLen_append, h, strLen_append, strLen_append, piled_cons]
    have e1 : ((("[" : String) : Str)).length = 1 := rfl
    have e2 : ((("]" : String) : Str)).length = 1 := rfl
    have e3 : (((if (0 : Nat) > 0 then ", " else "" : String) : Str)).length = 0 := rfl
    omega
theorem tupleText_len (ts : List Str) : (tupleText ts).length ≤ piled ts + 3 := by
  unfold tupleText
  rw [strLen_append, strLen_append]
  have e1 : ((("(" : String) : Str)).length = 1 := rfl
  have e3 : (((if ts.length == 1 then ",)" else ")" : String) : Str)).length ≤ 2 := by split <;> decide
  rw [e1]
  by_cases h : ts = []
  · subst h
    have : (Str.join ", " ([] : List Str)).length = 0 := rfl
    omega
  · have := join_length_add ts h
    omega
theorem ints_short : ∀ k : Nat, k ≤ 9 → (Str.ofString (toString (k : Int))).length ≤ 4 ∧ (Str.ofString (toString (-(k : Int)))).length ≤ 4 := by decide +kernel
theorem Fi.shown_le {n : Nat} {d : PyData} (f : Fi n d) : d.shown.length + 2 ≤ wd d := by
  have all : ∀ (ds : List PyData), (∀ d, d ∈ ds → d.shown.length + 2 ≤ wd d) → piled (PyData.shownAll ds) ≤ wds ds := by
    intro ds
    induction ds with
    | nil => intro _; simp [PyData.shownAll, piled, wds]
    | cons d ds ih =>
      intro h
      have h1 := h d List.mem_cons_self
      have h2 := ih fun e he => h e (List.mem_cons_of_mem _ he)
      simp only [PyData.shownAll, piled_cons, wds]
      omega
  induction f with
  | bl b => simp only [PyData.shown, wd]; cases b <;> decide
  | @int n i h =>
    have hh : (PyData.int i).shown.length ≤ 4 := by
      simp only [PyData.shown]
      have q := ints_short i.natAbs h
      rcases Int.natAbs_eq i with e | e
      · rw [e]; exact q.1
      · rw [e]; exact q.2
    simp only [wd]
    omega
  | @str n x h =>
    have := PySem.StrLaws.reprText_len x fun c hc => by have := h c hc; omega
    simp only [PyData.shown, wd]
    omega
  | @lst n ds h ih =>
    have h1 := all _ ih
    have h2 := listText_len (PyData.shownAll ds)
    simp only [PyData.shown, wd]
    omega
  | @tup n ds h ih =>
    have h1 := all _ ih
    have h2 := tupleText_len (PyData.shownAll ds)
    simp only [PyData.shown, wd]
    omega
def rReprD : List V → Hp → VK → Prop := fun vs H Q => ∃ (a : Addr) (d : PyData) (n : Nat), vs = [.ref a] ∧ RpD H (.ref a) d ∧ Fi n d ∧ n ≤ 60 ∧ wd d ≤ 16777216 ∧ Q (.str d.shown) H
theorem call_reprD {X : Cx} (hg : X.A.guards = some []) (hu : X.A.units + 64 < cLine) : CallR X (.builtin "repr") rReprD := by
  intro pins s σ H xs us Q I r h
  obtain ⟨a, d, n, rfl, rp, fi, hn, hw, q⟩ := h
  obtain ⟨u, rfl, rx⟩ := vals1 r
  obtain ⟨as, rd⟩ := RpD.reads I _ _ _ rp rx
  cases rx
  have := fi.depth
  have hs := fi.shown_le
  exact repr_of_reads' rd fi.showable (PyData.noDict_hsm fi.noDict) hg (by omega) (fun _ _ e => e) (fun g u tk kp => ⟨.str _, H, I.kept (t' := tk) kp, ⟨_, rfl⟩, q⟩) (by rw [sizeLine_eq]; omega)
/-! ### a world's data -/
def patD : Pat → PyData
  | .sg x => .tuple [.str "signs", .str x]
  | .em => .tuple [.str "empty"]
  | .th a b => .tuple [.str "then", patD a, patD b]
  | .oo a b => .tuple [.str "or", patD a, patD b]
  | .ag a => .tuple [.str "again", patD a]
  | .mo a => .tuple [.str "more", patD a]
  | .mb a => .tuple [.str "maybe", patD a]
theorem RP.data {H : Hp} : ∀ {p : Pat} {v : V}, RP H p v → RpD H v (patD p)
  | .sg x, v, h => by obtain ⟨a, rfl, h⟩ := h; exact .tup h (.cons (.str _) (.cons (.str _) .nil))
  | .em, v, h => by obtain ⟨a, rfl, h⟩ := h; exact .tup h (.cons (.str _) .nil)
  | .th p q, v, h => by obtain ⟨a, u, w, rfl, h, r1, r2⟩ := h; exact .tup h (.cons (.str _) (.cons (RP.data r1) (.cons (RP.data r2) .nil)))
  | .oo p q, v, h => by obtain ⟨a, u, w, rfl, h, r1, r2⟩ := h; exact .tup h (.cons (.str _) (.cons (RP.data r1) (.cons (RP.data r2) .nil)))
  | .ag p, v, h => by obtain ⟨a, u, rfl, h, r1⟩ := h; exact .tup h (.cons (.str _) (.cons (RP.data r1) .nil))
  | .mo p, v, h => by obtain ⟨a, u, rfl, h, r1⟩ := h; exact .tup h (.cons (.str _) (.cons (RP.data r1) .nil))
  | .mb p, v, h => by obtain ⟨a, u, rfl, h, r1⟩ := h; exact .tup h (.cons (.str _) (.cons (RP.data r1) .nil))
def kdD (k : Str × Pat × Bool) : PyData := .tuple [.str k.1, patD k.2.1, .bool k.2.2]
def altD (a : Str × List Str) : PyData := .tuple [.str a.1, .tuple (a.2.map PyData.str)]
def rlD (r : Str × List (Str × List Str)) : PyData := .tuple [.str r.1, .list (r.2.map altD)]
def brD (b : Str × Int × Str) : PyData := .tuple [.str b.1, .int b.2.1, .str b.2.2]
theorem KdV.data {H : Hp} {v : V} {k : Str × Pat × Bool} (h : KdV H v k) : RpD H v (kdD k) := by
  obtain ⟨a, u, rfl, h1, h2⟩ := h
  exact .tup h1 (.cons (.str _) (.cons h2.data (.cons (.bl _) .nil)))
theorem AltV.data {H : Hp} {v : V} {r : Str × List Str} (h : AltV H v r) : RpD H v (altD r) := by
  obtain ⟨a, b, rfl, h1, h2⟩ := h
  exact .tup h1 (.cons (.str _) (.cons (.tup h2 (RpDs.strs _)) .nil))
theorem RlV.data {ok : Addr → Prop} {H : Hp} {v : V} {r : Str × List (Str × List Str)} (h : RlV ok H v r) : RpD H v (rlD r) := by
  obtain ⟨a, b, xs, rfl, h1, h2, _, h4⟩ := h
  exact .tup h1 (.cons (.str _) (.cons (.lst h2 (RpDs.of (fun _ _ r => r.data) h4)) .nil))
theorem BrV.data {H : Hp} {v : V} {b : Str × Int × Str} (h : BrV H v b) : RpD H v (brD b) := by
  obtain ⟨a, rfl, h1⟩ := h
  exact .tup h1 (.cons (.str _) (.cons (.int _) (.cons (.str _) .nil)))
/-- a world: kinds, rules, a start, bars -/
structure Wor where
  ks : Kds
  rs : Rls
  st : Str
  bs : Brs
def worD (W : Wor) : PyData := .list [.list (W.ks.map kdD), .list (W.rs.map rlD), .str W.st, .list (W.bs.map brD)]
def WV (H : Hp) (v : V) (W : Wor) : Prop := ∃ w a b c ka rb cb, v = .ref w ∧ H w = some (.lst [.ref a, .ref b, .str W.st, .ref c]) ∧ H a = some (.lst ka) ∧ Paired (KdV H) ka W.ks ∧ H b = some (.lst rb) ∧ Paired (RlV anyB H) rb W.rs ∧ H c = some (.lst cb) ∧ Paired (BrV H) cb W.bs
theorem WV.data {H : Hp} {v : V} {W : Wor} (h : WV H v W) : RpD H v (worD W) := by
  obtain ⟨w, a, b, c, ka, rb, cb, rfl, hw, ha, pa, hb, pb, hc, pc⟩ := h
  exact .lst hw (.cons (.lst ha (RpDs.of (fun _ _ r => r.data) pa)) (.cons (.lst hb (RpDs.of (fun _ _ r => r.data) pb)) (.cons (.str _) (.cons (.lst hc (RpDs.of (fun _ _ r => r.data) pc)) .nil))))
end Pa
set_option maxHeartbeats 4000000
namespace Pa
open PySem PySem.Spec PyProof.Rows L2 Ty
/-! ### lists that the jar's draws leave as they are -/
def Nm (x : Str) : Prop := x.length ≤ 9 ∧ ∀ c, c ∈ x.cps.toList → c < 128
def KL (H : Hp) (a : Addr) (ks : Kds) : Prop := ∃ xs, H a = some (.lst xs) ∧ Paired (KdV H) xs ks
def RL (H : Hp) (a : Addr) (rs : Rls) : Prop := ∃ xs, H a = some (.lst xs) ∧ Paired (RlV anyB H) xs rs
def BL (H : Hp) (a : Addr) (bs : Brs) : Prop := ∃ xs, H a = some (.lst xs) ∧ Paired (BrV H) xs bs
def AL (H : Hp) (a : Addr) (as : List (Str × List Str)) : Prop := ∃ xs, H a = some (.lst xs) ∧ Paired (AltV H) xs as
theorem jar_ne {j a : Addr} {H : Hp} {C : Nat} {xs : List V} (jr : Jar j H C) (e : H a = some (.lst xs)) (h : ∀ i, .int i ∉ xs) : a ≠ j := by
  obtain ⟨x, y, z, hj, _⟩ := jr
  intro q
  rw [q, hj] at e
  exact h x (by rw [← HO.lst.inj (Option.some.inj e)]; simp)
theorem ref_int {R : V → α → Prop} (h : ∀ v x, R v x → ∃ a, v = .ref a) {xs : List V} {ys : List α} (p : Paired R xs ys) : ∀ i, .int i ∉ xs := fun i m => by
  induction p with
  | nil => cases m
  | cons r _ ih =>
    rcases List.mem_cons.mp m with e | m
    · obtain ⟨a, q⟩ := h _ _ r
      rw [q] at e; cases e
    · exact ih m
theorem str_int (l : List Str) : ∀ i, V.int i ∉ l.map V.str := fun i m => by
  obtain ⟨x, _, e⟩ := List.mem_map.mp m
  cases e
theorem KdV.ref {H : Hp} {v : V} {k : Str × Pat × Bool} (h : KdV H v k) : ∃ a, v = .ref a := let ⟨a, _, e, _⟩ := h; ⟨a, e⟩
theorem AltV.ref {H : Hp} {v : V} {k : Str × List Str} (h : AltV H v k) : ∃ a, v = .ref a := let ⟨a, _, e, _⟩ := h; ⟨a, e⟩
theorem RlV.ref {ok : Addr → Prop} {H : Hp} {v : V} {k : Str × List (Str × List Str)} (h : RlV ok H v k) : ∃ a, v = .ref a := let ⟨a, _, _, e, _⟩ := h; ⟨a, e⟩
theorem BrV.ref {H : Hp} {v : V} {k : Str × Int × Str} (h : BrV H v k) : ∃ a, v = .ref a := let ⟨a, e, _⟩ := h; ⟨a, e⟩
section
variable {j : Addr} {H H' : Hp} {C : Nat}
theorem AL.keep {a : Addr} {as : List (Str × List Str)} (jr : Jar j H C) (k : Keep j H H') (h : AL H a as) : AL H' a as := by
  obtain ⟨xs, e, p⟩ := h
  exact ⟨xs, k _ _ (jar_ne jr e (ref_int (fun _ _ r => r.ref) p)) e, paired_imp (fun _ _ r => r.tk (Tk.of_keep jr k)) p⟩
theorem RlV.keep {v : V} {r : Str × List (Str × List Str)} (jr : Jar j H C) (k : Keep j H H') (h : RlV anyB H v r) : RlV anyB H' v r := by
  obtain ⟨a, b, xs, e, h1, h2, h3, h4⟩ := h
  exact ⟨a, b, xs, e, Tk.of_keep jr k _ _ h1, k _ _ (jar_ne jr h2 (ref_int (fun _ _ r => r.ref) h4)) h2, h3, paired_imp (fun _ _ r => r.tk (Tk.of_keep jr k)) h4⟩
theorem KL.keep {a : Addr} {ks : Kds} (jr : Jar j H C) (k : Keep j H H') (h : KL H a ks) : KL H' a ks := by
  obtain ⟨xs, e, p⟩ := h
  exact ⟨xs, k _ _ (jar_ne jr e (ref_int (fun _ _ r => r.ref) p)) e, paired_imp (fun _ _ r => r.tk (Tk.of_keep jr k)) p⟩
theorem RL.keep {a : Addr} {rs : Rls} (jr : Jar j H C) (k : Keep j H H') (h : RL H a rs) : RL H' a rs := by
  obtain ⟨xs, e, p⟩ := h
  exact ⟨xs, k _ _ (jar_ne jr e (ref_int (fun _ _ r => r.ref) p)) e, paired_imp (fun _ _ r => r.keep jr k) p⟩
theorem BL.keep {a : Addr} {bs : Brs} (jr : Jar j H C) (k : Keep j H H') (h : BL H a bs) : BL H' a bs := by
  obtain ⟨xs, e, p⟩ := h
  exact ⟨xs, k _ _ (jar_ne jr e (ref_int (fun _ _ r => r.ref) p)) e, paired_imp (fun _ _ r => r.tk (Tk.of_keep jr k)) p⟩
theorem SL.keep {a : Addr} {l : List Str} (jr : Jar j H C) (k : Keep j H H') (e : H a = some (.lst (l.map V.str))) : H' a = some (.lst (l.map V.str)) := k _ _ (jar_ne jr e (str_int l)) e
theorem WV.keep {v : V} {W : Wor} (jr : Jar j H C) (k : Keep j H H') (h : WV H v W) : WV H' v W := by
  obtain ⟨w, a, b, c, ka, rb, cb, e, hw, ha, pa, hb, pb, hc, pc⟩ := h
  obtain ⟨_, e1, p1⟩ := KL.keep jr k ⟨ka, ha, pa⟩
  obtain ⟨_, e2, p2⟩ := RL.keep jr k ⟨rb, hb, pb⟩
  obtain ⟨_, e3, p3⟩ := BL.keep jr k ⟨cb, hc, pc⟩
  exact ⟨w, a, b, c, _, _, _, e, k _ _ (jar_ne jr hw (by simp)) hw, e1, p1, e2, p2, e3, p3⟩
end
theorem AL.same {H H' : Hp} {a : Addr} {as : List (Str × List Str)} (s : Same H H') (h : AL H a as) : AL H' a as := by
  obtain ⟨xs, e, p⟩ := h
  exact ⟨xs, s _ _ e, paired_imp (fun _ _ r => r.tk (Tk.of_same s)) p⟩
theorem RlV.same {ok : Addr → Prop} {H H' : Hp} {v : V} {r : Str × List (Str × List Str)} (s : Same H H') (h : RlV ok H v r) : RlV ok H' v r := h.tk (Tk.of_same s) fun b xs _ e => s _ _ e
theorem KL.same {H H' : Hp} {a : Addr} {ks : Kds} (s : Same H H') (h : KL H a ks) : KL H' a ks := by
  obtain ⟨xs, e, p⟩ := h
  exact ⟨xs, s _ _ e, paired_imp (fun _ _ r => r.tk (Tk.of_same s)) p⟩
theorem RL.same {H H' : Hp} {a : Addr} {rs : Rls} (s : Same H H') (h : RL H a rs) : RL H' a rs := by
  obtain ⟨xs, e, p⟩ := h
  exact ⟨xs, s _ _ e, paired_imp (fun _ _ r => r.same s) p⟩
theorem BL.same {H H' : Hp} {a : Addr} {bs : Brs} (s : Same H H') (h : BL H a bs) : BL H' a bs := by
  obtain ⟨xs, e, p⟩ := h
  exact ⟨xs, s _ _ e, paired_imp (fun _ _ r => r.tk (Tk.of_same s)) p⟩
theorem WV.same {H H' : Hp} {v : V} {W : Wor} (s : Same H H') (h : WV H v W) : WV H' v W := by
  obtain ⟨w, a, b, c, ka, rb, cb, e, hw, ha, pa, hb, pb, hc, pc⟩ := h
  obtain ⟨_, e1, p1⟩ := KL.same s ⟨ka, ha, pa⟩
  obtain ⟨_, e2, p2⟩ := RL.same s ⟨rb, hb, pb⟩
  obtain ⟨_, e3, p3⟩ := BL.same s ⟨cb, hc, pc⟩
  exact ⟨w, a, b, c, _, _, _, e, s _ _ hw, e1, p1, e2, p2, e3, p3⟩
theorem new_of {H H1 : Hp} {p : Addr} (s : Same H H1) (h : H1 p = none) : H p = none := by
  cases e : H p with
  | none => rfl
  | some o => rw [s _ _ e] at h; cases h
theorem str_at {l : List Str} {i : Int} {v : V} (h : atI (l.map V.str) i = some v) : ∃ x, x ∈ l ∧ v = .str x := by
  unfold atI at h
  cases e : ixN (l.map V.str).length i with
  | none => rw [e] at h; cases h
  | some k =>
    rw [e] at h
    have h : (l.map V.str)[k]? = some v := h
    rw [List.getElem?_map] at h
    cases e2 : l[k]? with
    | none => rw [e2] at h; cases h
    | some x => rw [e2] at h; exact ⟨x, List.mem_of_getElem? e2, (Option.some.inj h).symm⟩
/-! ### a name that is none, or any that stands -/
def oddL : List Str := ["", "abcdefghi", "Ab", "word", "skip", "rule", "top", "bar", "a1", "a b", "zz", "_"]
theorem odd_nm : ∀ x, x ∈ oddL → x.length ≤ 9 ∧ ∀ c, c ∈ x.cps.toList → c < 128 := by decide +kernel
def spStrange : Sp := fun vs H Q _ => ∃ (j s : Addr) (C : Nat) (ss : List Str), vs = [.ref j, .ref s] ∧ Jar j H C ∧ C ≤ 1000000000 ∧ H s = some (.lst (ss.map V.str)) ∧ ss.length ≤ 100000 ∧ (∀ x, x ∈ ss → Nm x) ∧
  ∀ x H', Nm x → Jar j H' (C + 1) → Keep j H H' → Q (.str x) H'
section
variable {P : Program} {w : World} {K : PySem.W.Frag} {mg : Str → Option Value} {base : Heap} {f g : Addr} {fd gd : FuncData}
end
/-! ### all alternatives -/
abbrev Als := List (Str × Str × List Str)
abbrev allOf (rs : Rls) : Als := rs.flatMap fun r => r.2.map fun a => (r.1, a.1, a.2)
def AlV (H : Hp) (v : V) (a : Str × Str × List Str) : Prop := ∃ t b, v = .ref t ∧ H t = some (.tup [.str a.1, .str a.2.1, .ref b]) ∧ H b = some (.tup (a.2.2.map V.str))
theorem AlV.tk {H H' : Hp} {v : V} {a : Str × Str × List Str} (h : AlV H v a) (t : Tk H H') : AlV H' v a := by
  obtain ⟨x, b, e, h1, h2⟩ := h
  exact ⟨x, b, e, t _ _ h1, t _ _ h2⟩
theorem AlV.ref {H : Hp} {v : V} {k : Str × Str × List Str} (h : AlV H v k) : ∃ a, v = .ref a := let ⟨a, _, e, _⟩ := h; ⟨a, e⟩
theorem all_len (rs : Rls) : (allOf rs).length = (altsOf rs).length := by
  induction rs with
  | nil => rfl
  | cons r rs ih =>
    show (_ ++ allOf rs).length = (_ ++ altsOf rs).length
    rw [List.length_append, List.length_append, ih, List.length_map]
def spAll : Sp := fun vs H Q _ => ∃ (b : Addr) (rs : Rls), vs = [.ref b] ∧ RL H b rs ∧ (altsOf rs).length ≤ 1000000 ∧
  ∀ p xs H', H p = none → H' p = some (.lst xs) → Paired (AlV H') xs (allOf rs) → Same H H' → Q (.ref p) H'
section
variable {P : Program} {w : World} {K : PySem.W.Frag} {mg : Str → Option Value} {base : Heap} {f g : Addr} {fd gd : FuncData}
end
end Pa
set_option maxHeartbeats 4000000
namespace Pa
open PySem PySem.Spec PyProof.Rows L2 Ty
/-! ### comprehensions, what stands between two turns -/
def LcI {α : Type} (H : Hp) (D : Addr) (f : α → V) (ys : List α) (i : Nat) (H' : Hp) : Prop := H' D = some (.lst ((ys.take i).map f)) ∧ Same H H'
theorem LcI.start {α : Type} {H : Hp} {D : Addr} {f : α → V} {ys : List α} (hD : H D = none) : LcI H D f ys 0 (upd H D (.lst [])) := ⟨upd_same, same_new hD _⟩
theorem LcI.step {α : Type} {H H' : Hp} {D : Addr} {f : α → V} {ys : List α} {i : Nat} {y : α} (h : LcI H D f ys i H') (hD : H D = none) (hy : ys[i]? = some y) : LcI H D f ys (i + 1) (upd H' D (.lst ((ys.take i).map f ++ [f y]))) :=
  ⟨by rw [List.take_add_one, hy, List.map_append]; exact upd_same, same_upd h.2 hD⟩
theorem LcI.len {α : Type} {H H' : Hp} {D : Addr} {f : α → V} {ys : List α} {i : Nat} (h : LcI H D f ys i H') : ((ys.take i).map f).length ≤ ys.length := by rw [List.length_map, List.length_take]; omega
theorem LcI.done {α : Type} {H H' : Hp} {D : Addr} {f : α → V} {ys : List α} {n : Nat} (h : LcI H D f ys n H') (e : n = ys.length) : H' D = some (.lst (ys.map f)) ∧ Same H H' := by
  rw [e] at h
  unfold LcI at h
  rw [List.take_length] at h
  exact h
def LcR {α : Type} (H : Hp) (D : Addr) (R : Hp → V → α → Prop) (ys : List α) (i : Nat) (H' : Hp) : Prop := ∃ acc, H' D = some (.lst acc) ∧ acc.length = i ∧ Paired (R H') acc (ys.take i) ∧ Same H H'
theorem LcR.start {α : Type} {H : Hp} {D : Addr} {R : Hp → V → α → Prop} {ys : List α} (hD : H D = none) : LcR H D R ys 0 (upd H D (.lst [])) := ⟨[], upd_same, rfl, .nil, same_new hD _⟩
theorem LcR.step {α : Type} {H H' H2 : Hp} {D : Addr} {R : Hp → V → α → Prop} {ys : List α} {i : Nat} {y : α} {acc : List V} {v : V} (st : ∀ {H1 H2 v y}, Tk H1 H2 → R H1 v y → R H2 v y) (e : H' D = some (.lst acc)) (l : acc.length = i) (p : Paired (R H') acc (ys.take i)) (s : Same H H') (s2 : Same H' H2)
    (hD : H D = none) (hy : ys[i]? = some y) (r : R H2 v y) : LcR H D R ys (i + 1) (upd H2 D (.lst (acc ++ [v]))) := by
  have t : Tk H2 (upd H2 D (.lst (acc ++ [v]))) := Tk.lst (s2 _ _ e)
  refine ⟨acc ++ [v], upd_same, by rw [List.length_append, l]; rfl, ?_, same_upd (s.trans s2) hD⟩
  rw [List.take_add_one, hy, Option.toList_some]
  exact paired_snoc (paired_imp (fun _ _ r => st t (st (Tk.of_same s2) r)) p) (st t r)
theorem LcR.done {α : Type} {H H' : Hp} {D : Addr} {R : Hp → V → α → Prop} {ys : List α} {n : Nat} (h : LcR H D R ys n H') (e : n = ys.length) : ∃ acc, H' D = some (.lst acc) ∧ Paired (R H') acc ys ∧ Same H H' := by
  obtain ⟨acc, h1, _, h3, h4⟩ := h
  rw [e, List.take_length] at h3
  exact ⟨acc, h1, h3, h4⟩
/-! ### all names -/
def namesOf (W : Wor) : List Str := W.ks.map (·.1) ++ W.rs.map (·.1) ++ (allOf W.rs).map (·.2.1)
def spNames : Sp := fun vs H Q _ => ∃ (v : V) (W : Wor), vs = [v] ∧ WV H v W ∧ W.ks.length ≤ 100000 ∧ W.rs.length ≤ 100000 ∧ (altsOf W.rs).length ≤ 1000000 ∧
  ∀ p H', H p = none → H' p = some (.lst ((namesOf W).map V.str)) → Same H H' → Q (.ref p) H'
section
variable {P : Program} {w : World} {K : PySem.W.Frag} {mg : Str → Option Value} {base : Heap} {f g : Addr} {fd gd : FuncData}
end
end Pa
set_option maxHeartbeats 4000000
namespace Pa
open PySem PySem.Spec PyProof.Rows L2 Ty
theorem aux_rest2 {X C0 : Int → Hp → Prop} {M : Prop} (f : (∀ r H, C0 r H → X r H) → M) (r : ∀ r H, C0 r H → X r H) : M := f r
/-! ### patterns drawn -/
def PW : Pat → Prop
  | .sg x => x.length ≤ 3 ∧ (∀ c, c ∈ x.cps.toList → c < 128) ∧ 1 ≤ x.length
  | .em => True
  | .th a b => PW a ∧ PW b
  | .oo a b => PW a ∧ PW b
  | .ag a => PW a
  | .mo a => PW a
  | .mb a => PW a
theorem words_low : ∀ x : Str, x ∈ (["signs", "empty", "then", "or", "again", "more", "maybe"] : List Str) → x.length ≤ 5 ∧ ∀ c, c ∈ x.cps.toList → c < 128 := by decide +kernel
theorem pat_wd : ∀ {p : Pat}, PW p → wd (patD p) ≤ 110 * sizeP p
  | .sg x, h => by
    have := h.1
    have e : ("signs" : Str).length = 5 := by decide +kernel
    simp only [patD, wd, wds, sizeP, e]; omega
  | .em, _ => by
    have e : ("empty" : Str).length = 5 := by decide +kernel
    simp only [patD, wd, wds, sizeP, e]; omega
  | .th a b, h => by
    have e : ("then" : Str).length = 4 := by decide +kernel
    have h1 := pat_wd h.1
    have h2 := pat_wd h.2
    simp only [patD, wd, wds, sizeP, e]; omega
  | .oo a b, h => by
    have e : ("or" : Str).length = 2 := by decide +kernel
    have h1 := pat_wd h.1
    have h2 := pat_wd h.2
    simp only [patD, wd, wds, sizeP, e]; omega
  | .ag a, h => by
    have e : ("again" : Str).length = 5 := by decide +kernel
    have h1 := pat_wd (p := a) h
    simp only [patD, wd, wds, sizeP, e]; omega
  | .mo a, h => by
    have e : ("more" : Str).length = 4 := by decide +kernel
    have h1 := pat_wd (p := a) h
    simp only [patD, wd, wds, sizeP, e]; omega
  | .mb a, h => by
    have e : ("maybe" : Str).length = 5 := by decide +kernel
    have h1 := pat_wd (p := a) h
    simp only [patD, wd, wds, sizeP, e]; omega
theorem two_fi {n : Nat} {ds : List PyData} (h : ∀ d, d ∈ ds → Fi n d) : Fi (n + 1) (.tuple ds) := .tup h
theorem pat_fi : ∀ {p : Pat}, PW p → Fi (deepP p) (patD p)
  | .sg x, h => .tup fun d hd => by
    simp only [List.mem_cons, List.not_mem_nil, or_false] at hd
    rcases hd with rfl | rfl
    · exact .str (words_low _ (by simp)).2
    · exact .str h.2.1
  | .em, _ => .tup fun d hd => by
    rw [List.mem_singleton.mp hd]
    exact .str (words_low _ (by simp)).2
  | .th a b, h => .tup fun d hd => by
    simp only [List.mem_cons, List.not_mem_nil, or_false] at hd
    rcases hd with rfl | rfl | rfl
    · exact .str (words_low _ (by simp)).2
    · exact (pat_fi h.1).mono (Nat.le_max_left _ _)
    · exact (pat_fi h.2).mono (Nat.le_max_right _ _)
  | .oo a b, h => .tup fun d hd => by
    simp only [List.mem_cons, List.not_mem_nil, or_false] at hd
    rcases hd with rfl | rfl | rfl
    · exact .str (words_low _ (by simp)).2
    · exact (pat_fi h.1).mono (Nat.le_max_left _ _)
    · exact (pat_fi h.2).mono (Nat.le_max_right _ _)
  | .ag a, h => .tup fun d hd => by
    simp only [List.mem_cons, List.not_mem_nil, or_false] at hd
    rcases hd with rfl | rfl
    · exact .str (words_low _ (by simp)).2
    · exact pat_fi (p := a) h
  | .mo a, h => .tup fun d hd => by
    simp only [List.mem_cons, List.not_mem_nil, or_false] at hd
    rcases hd with rfl | rfl
    · exact .str (words_low _ (by simp)).2
    · exact pat_fi (p := a) h
  | .mb a, h => .tup fun d hd => by
    simp only [List.mem_cons, List.not_mem_nil, or_false] at hd
    rcases hd with rfl | rfl
    · exact .str (words_low _ (by simp)).2
    · exact pat_fi (p := a) h
def sgS : Str := "\n !\"#()*+,\
  -.0129:;[\\]abcxyz|"
theorem sgS_low : sgS.length = 28 ∧ ∀ c, c ∈ sgS.cps.toList → c < 128 := by decide +kernel
def nd : Nat → Nat
  | 0 => 6
  | k + 1 => 2 * nd k + 6
def ms : Nat → Nat
  | 0 => 1
  | k + 1 => 2 * ms k + 1
def mm : Nat → Nat
  | 0 => 1
  | k + 1 => 2 * mm k
theorem nd_six : ∀ k, 6 ≤ nd k
  | 0 => Nat.le_refl _
  | k + 1 => by unfold nd; omega
theorem ms_one : ∀ k, 1 ≤ ms k
  | 0 => Nat.le_refl _
  | k + 1 => by unfold ms; omega
theorem mm_one : ∀ k, 1 ≤ mm k
  | 0 => Nat.le_refl _
  | k + 1 => by have := mm_one k; unfold mm; omega
def DrawnP (j : Addr) (H : Hp) (C D S M : Nat) (Q : VK) : Prop := ∀ (v : V) (p : Pat) (H' : Hp), RP H' p v → PW p → deepP p ≤ D → sizeP p ≤ S → cntP p ≤ M → Jar j H' C → Keep j H H' → Q v H'
def spPattern (n : Nat) : Sp := fun vs H Q _ => ∃ (j : Addr) (C k : Nat), vs = [.ref j, .int (k : Nat)] ∧ k < n ∧ Jar j H C ∧ C + nd k ≤ 999998000 ∧ DrawnP j H (C + nd k) (k + 1) (ms k) (mm k) Q
section
variable {P : Program} {w : World} {K : PySem.W.Frag} {mg : Str → Option Value} {base : Heap} {f g : Addr} {fd gd : FuncData}
theorem pattern_left : FnOk P w K mg base CX0 1 f fd ["jar", "deep"] (spPattern 0) := by
  have no : ∀ vs H Q E, ¬ spPattern 0 vs H Q E := fun vs H Q E h => by
    obtain ⟨j, C, k, _, h, _⟩ := h
    omega
  exact ⟨fun vs H Q E h => absurd h (no vs H Q E), fun A outer s H args us vs Q E _ _ _ _ h => absurd h (no vs H Q E)⟩
end
end Pa
set_option maxHeartbeats 4000000
namespace Pa
open PySem PySem.Spec PyProof.Rows L2 Ty
/-! ### unlike names -/
abbrev Tx (l : List Nat) : Str := ⟨l.toArray⟩
theorem tx_list (l : List Nat) : (Tx l).cps.toList = l := rfl
theorem tx_len (l : List Nat) : (Tx l).length = l.length := by show l.toArray.size = _; rw [List.size_toArray]
theorem tx_app (a b : List Nat) : (Tx a) ++ (Tx b) = Tx (a ++ b) := by
  refine str_of_list ?_
  rw [Str.cps_append, Array.toList_append]
theorem tx_inj {a b : List Nat} (h : Tx a = Tx b) : a = b := by
  have := congrArg (fun x : Str => x.cps.toList) h
  exact this
theorem tx_to (l : List Nat) (n : Nat) : cutS (Tx l) none (some (n : Int)) = Tx (l.take n) := by
  refine str_of_list ?_
  unfold cutS
  rw [HT.sIx_nat, tx_len]
  show (l.drop 0).take (min n l.length - 0) = l.take n
  rw [List.drop_zero, Nat.sub_zero]
  by_cases h : n ≤ l.length
  · rw [Nat.min_eq_left h]
  · rw [Nat.min_eq_right (by omega), List.take_of_length_le (Nat.le_refl _), List.take_of_length_le (by omega)]
theorem tx_from (l : List Nat) (n : Nat) : cutS (Tx l) (some (n : Int)) none = Tx (l.drop n) := by
  refine str_of_list ?_
  unfold cutS
  rw [HT.sIx_nat, tx_len]
  show (l.drop (min n l.length)).take (l.length - min n l.length) = l.drop n
  rw [List.take_of_length_le (by rw [List.length_drop]; omega)]
  by_cases h : n ≤ l.length
  · rw [Nat.min_eq_left h]
  · rw [Nat.min_eq_right (by omega), List.drop_eq_nil_of_le (by omega), List.drop_eq_nil_of_le (by omega)]
theorem kept_len : ∀ x, x ∈ kept → x.length = 3 ∨ x.length = 4 := by decide +kernel
theorem letters_get {n : Nat} (h : n < 26) : letters[n]? = some (97 + n) := by
  unfold letters
  rw [List.getElem?_range' h]
  simp
theorem letters_in {n : Nat} (h : n < 26) : 97 + n ∈ letters := List.mem_of_getElem? (letters_get h)
theorem letters_low : ∀ c, c ∈ letters → c < 128 := by decide +kernel
def NmG (x : Str) : Prop := nameP x = true ∧ (x.length = 1 ∨ x.length = 2 ∨ x.length = 8) ∧ Nm x
theorem nmg_of {l : List Nat} (h : l.length = 1 ∨ l.length = 2 ∨ l.length = 8) (hl : ∀ c, c ∈ l → c ∈ letters) : NmG (Tx l) := by
  have e := tx_len l
  refine ⟨?_, by rw [e]; exact h, by rw [e]; omega, fun c hc => letters_low c (hl c hc)⟩
  unfold nameP
  rw [decide_eq_false (fun m => by have := kept_len _ m; rw [e] at this; omega), decide_eq_true (show 1 ≤ (Tx l).length by rw [e]; omega), decide_eq_true (show (Tx l).length ≤ 8 by rw [e]; omega)]
  have : (Tx l).cps.toList.all (fun c => decide (c ∈ letters)) = true := by
    rw [List.all_eq_true]
    intro c hc
    exact decide_eq_true (hl c hc)
  rw [this]
  rfl
/-- the k-th name -/
def nmC (st : Nat) (stem : List Nat) (t sh k : Nat) : List Nat :=
  if st = 0 then [97 + (sh + k) % 26, 97 + sh] else if st = 1 then stem.take t ++ [97 + (sh + k) % 26, 97 + sh] ++ stem.drop t else [97 + (sh + k) % 26]
theorem nmC_ok {st : Nat} {stem : List Nat} {t sh k : Nat} (hs : stem.length = 6) (hl : ∀ c, c ∈ stem → c ∈ letters) (h : sh < 26) : NmG (Tx (nmC st stem t sh k)) := by
  have h1 := letters_in (n := (sh + k) % 26) (by omega)
  have h2 := letters_in h
  unfold nmC
  by_cases e0 : st = 0
  · rw [if_pos e0]
    exact nmg_of (.inr (.inl rfl)) fun c hc => by
      simp only [List.mem_cons, List.not_mem_nil, or_false] at hc
      rcases hc with rfl | rfl <;> assumption
  rw [if_neg e0]
  by_cases e1 : st = 1
  · rw [if_pos e1]
    refine nmg_of (.inr (.inr ?_)) fun c hc => ?_
    · rw [List.length_append, List.length_append, List.length_take, List.length_drop]
      show min t stem.length + 2 + _ = 8
      omega
    · rcases List.mem_append.mp hc with hc | hc
      · rcases List.mem_append.mp hc with hc | hc
        · exact hl c (List.mem_of_mem_take hc)
        · simp only [List.mem_cons, List.not_mem_nil, or_false] at hc
          rcases hc with rfl | rfl <;> assumption
      · exact hl c (List.mem_of_mem_drop hc)
  · rw [if_neg e1]
    exact nmg_of (.inl rfl) fun c hc => by
      rw [List.mem_singleton.mp hc]; exact h1
theorem nmC_inj {st : Nat} {stem : List Nat} {t sh k l : Nat} (hk : k < 26) (hl : l < 26) (h : nmC st stem t sh k = nmC st stem t sh l) : k = l := by
  have key : 97 + (sh + k) % 26 = 97 + (sh + l) % 26 := by
    unfold nmC at h
    by_cases e0 : st = 0
    · rw [if_pos e0, if_pos e0] at h
      exact (List.cons.inj h).1
    rw [if_neg e0, if_neg e0] at h
    by_cases e1 : st = 1
    · rw [if_pos e1, if_pos e1, List.append_assoc, List.append_assoc] at h
      exact (List.cons.inj (List.append_cancel_left h)).1
    · rw [if_neg e1, if_neg e1] at h
      exact (List.cons.inj h).1
  omega
def nmS (st : Nat) (stem : List Nat) (t sh : Nat) (k : Nat) : Str := Tx (nmC st stem t sh k)
theorem nms_nodup {st : Nat} {stem : List Nat} {t sh m : Nat} (hm : m ≤ 26) : ((List.range m).map (nmS st stem t sh)).Nodup := by
  refine List.Pairwise.map _ (fun a b h => h) ?_
  refine List.Pairwise.imp_of_mem (R := fun a b => a ≠ b) (fun {a b} ha hb hne e => hne ?_) List.nodup_range
  exact nmC_inj (by have := List.mem_range.mp ha; omega) (by have := List.mem_range.mp hb; omega) (tx_inj e)
theorem aux_rest3 {α : Type} {X C0 : α → Prop} {M : Prop} (f : (∀ y, C0 y → X y) → M) (r : ∀ y, C0 y → X y) : M := f r
def spNamed : Sp := fun vs H Q _ => ∃ (j : Addr) (C m : Nat), vs = [.ref j, .int (m : Nat)] ∧ m ≤ 26 ∧ Jar j H C ∧ C ≤ 999999000 ∧
  ∀ (p : Addr) (ns : List Str) (H' : Hp), H p = none → p ≠ j → H' p = some (.lst (ns.map V.str)) → ns.length = m → ns.Nodup → (∀ x, x ∈ ns → NmG x) → Jar j H' (C + 9) → Keep j H H' → Q (.ref p) H'
section
variable {P : Program} {w : World} {K : PySem.W.Frag} {mg : Str → Option Value} {base : Heap} {f g : Addr} {fd gd : FuncData}
end
end Pa
set_option maxHeartbeats 4000000
/-! == of two dicts whose values are data; data told of later -/
namespace Se
open PySem PySem.Spec PyProof.Rows L2 Ty
theorem rd_same {H H' : Hp} (s : ∀ b o, H b = some o → H' b = some o) {a : Addr} {o : HO} (h : Rd H a o) : Rd H' a o := by
  rcases h with h | ⟨od, h⟩
  · exact .inl (s _ _ h)
  · exact .inr ⟨od, s _ _ h⟩
mutual
theorem Dp.same {K : PySem.W.Frag} {H H' : Hp} (s : ∀ b o, H b = some o → H' b = some o) : ∀ {v : V} {d : PyData}, Dp K H v d → Dp K H' v d
  | _, _, .non => .non
  | _, _, .bl b => .bl b
  | _, _, .int i => .int i
  | _, _, .str x => .str x
  | _, _, .lst h t => .lst (h.imp (rd_same s) id) (DpAll.same s t)
  | _, _, .tup h t => .tup (h.imp (rd_same s) id) (DpAll.same s t)
theorem DpAll.same {K : PySem.W.Frag} {H H' : Hp} (s : ∀ b o, H b = some o → H' b = some o) : ∀ {v : List V} {d : List PyData}, DpAll K H v d → DpAll K H' v d
  | _, _, .nil => .nil
  | _, _, .cons h t => .cons (Dp.same s h) (DpAll.same s t)
end
/-- equal data -/
def EqD (K : PySem.W.Frag) (H : Hp) (x y : V) : Prop := ∃ d e, Dp K H x d ∧ Dp K H y e ∧ SeqAt.shaped d = true ∧ SeqAt.shaped e = true ∧ PyData.eqv d e = true
theorem EqD.same {K : PySem.W.Frag} {H H' : Hp} (s : ∀ b o, H b = some o → H' b = some o) {x y : V} (h : EqD K H x y) : EqD K H' x y := let ⟨d, e, h1, h2, h3⟩ := h; ⟨d, e, Dp.same s h1, Dp.same s h2, h3⟩
/-- scalars that are equal or not; two dicts of the same keys, their values equal data -/
def rEqSD (K : PySem.W.Frag) : R2 := fun x y H Q => (scal x y = true ∧ Q (.bl (decide (x = y))) H) ∨ ∃ a b ks ls, x = .ref a ∧ y = .ref b ∧ H a = some (.dK ks) ∧ H b = some (.dK ls) ∧ ks.length = ls.length ∧ (∀ p ∈ ks, ∃ u, valV ls p.1 = some u ∧ EqD K H p.2 u) ∧ Q (.bl true) H
section
variable {X : Cx}
theorem op_eqSD (hu : X.A.units + 70 < cLine) : OpR X (compareOp .Eq) (rEqSD X.K) := by
  intro pins s σ H x y v u Q I rx ry h
  rcases h with h | ⟨a, b, ks, ls, rfl, rfl, ha, hb, hl, hp, q⟩
  · exact op_eq pins s σ H x y v u Q I rx ry h
  · cases (show v = Value.ref a from rx)
    cases (show u = Value.ref b from ry)
    obtain ⟨_, ya, va, ra, da⟩ := (show ObjOk X.prog X.w H s.heap a (.dK ks) from I.hok a _ ha)
    obtain ⟨_, yb, vb, rb, db⟩ := (show ObjOk X.prog X.w H s.heap b (.dK ls) from I.hok b _ hb)
    have ih : ∀ x y v u, EqD X.K H x y → RelV x v → RelV y u → SeqAt.EqP X.prog X.w X.A.in1 s v u true := fun x y v u h rx ry => by
      obtain ⟨d, e, hd, he, sd, se, q⟩ := h
      obtain ⟨as, r1⟩ := Dp.reads I d x v hd rx
      obtain ⟨bs, r2⟩ := Dp.reads I e y u he ry
      have := SeqAt.eqAt_reads d e X.A.in1 s v u as bs r1 r2 (SeqAt.canLay_of_shaped sd) (SeqAt.canLay_of_shaped se) (SeqAt.room_of_shaped sd (by show X.A.units + 1 + 64 < cLine; omega))
      rw [q] at this
      exact this.eqP
    refine PySem.W.rcP_dicts (knd := mixKind X.prog X.w) (r := true) ya yb da db (by omega) (fun _ => hits_run ih rb ra hp) _ _ ?_
    have e : va.length = vb.length := by rw [← ra.length, ← rb.length]; exact hl
    rw [show (va.length == vb.length && true) = true from by rw [e]; simp]
    exact ⟨.bl true, H, I, rfl, q⟩
end
end Se
/-! a == b, a != b by a class's own __eq__, whatever it answers; own text -/
namespace Sv
open PySem PySem.Spec PyProof.Rows L2
open PySem.W (Looks)
section
variable {X : Cx} {CX : CXT} {n : Nat} {C f : Addr} {fd : FuncData} {ps : List Str} {sp : Sp} {E : XK}
/-- the own __eq__ is called and answers True or False -/
theorem own_call (F : FnOk X.prog X.w X.K X.mg X.base CX n f fd ps sp) (hb : Binds X.K fd ps []) (hx : Passes CX X E) {A : Around} {pins : List (Addr × Obj)} {s : Shared} {σ : L2.St} {H : Hp} {a : Addr} {y : V} {u : Value} {Qb : Bool → Hp → Prop}
    (sb : Sub X n A) (I : Inv X pins σ H s) (ry : RelV y u) (h : sp [.ref a, y] H (fun v H' => ∃ r, v = .bl r ∧ Qb r H') E) :
    wpAny (model X.prog X.w) A (call (.ref f) [.ref a, u]) (fun v s' => ∃ r H', v = .bool r ∧ Inv X pins σ H' s' ∧ Qb r H') X.xe s := by
  have e0 : Env0 X.prog X.w X.K X.mg X.base A X.stack s H := by
    have e := I.env0
    exact ⟨by rw [sb.fr]; exact e.frames, e.mod, e.bs, e.bsz, e.funs, e.frf, e.hok, e.bare⟩
  have hl := F.len _ _ _ _ h
  have r2 : Vals [V.ref a, y] [Value.ref a, u] := .cons rfl (.cons ry .nil)
  refine wpAny_call (codeAny_mono (F.run A X.stack s H ⟨[.ref a, u], []⟩ [.ref a, u] [.ref a, y] _ E sb.room e0 (by
    have := hb s [.ref a, u] I.kIn (by simpa using hl)
    simpa using this) r2 h) fun r s' hq => ?_)
  cases r with
  | error e => exact hx pins σ H s e s' I hq
  | ok fl =>
    cases fl with
    | ret w =>
      obtain ⟨z, H', I', rz, ez⟩ := I.after hq
      obtain ⟨r, ez, q⟩ := ez
      subst ez
      cases rz
      exact ⟨r, H', rfl, I', q⟩
    | next => exact False.elim hq
    | brk => exact False.elim hq
    | cont => exact False.elim hq
/-- what the other side of the comparison is: one of the class, or a dict -/
def Oth (X : Cx) (C : Addr) (H : Hp) (y : V) : Prop := (∃ b dy gs, y = .ref b ∧ H b = some (.ins C dy gs)) ∨ ∃ b, y = .ref b ∧ PySem.W.subIn X.K (.type "dict") (.ref C) = some false ∧ ∃ kvs, H b = some (.dK kvs)
theorem looks_dict {M : Model} {h : Heap} {b : Addr} {ob : Obj} (h1 : h.get? b = some ob) (h2 : ob.cls = .type "dict") : Looks M h (typeOf (.ref b)) (.type "dict") := h2 ▸ (Looks.ld h1).andThen .now
theorem Oth.looks {pins : List (Addr × Obj)} {s : Shared} {σ : L2.St} {H : Hp} {y : V} {u : Value} (h : Oth X C H y) (I : Inv X pins σ H s) (ry : RelV y u) : ∃ tb, Looks (model X.prog X.w) s.heap (typeOf u) tb ∧ PySem.W.notFirst X.K C tb = true := by
  rcases h with ⟨b, dy, gs, rfl, hb⟩ | ⟨b, rfl, hs, kvs, hb⟩
  · cases ry
    obtain ⟨mB, J, _⟩ := ins_get I.hok hb
    obtain ⟨od, J, _⟩ := J.look
    exact ⟨.ref C, J.type, by simp [PySem.W.notFirst]⟩
  · cases ry
    obtain ⟨_, ya, vs, _, ob, _, _, h1, h2, _⟩ := dk_rd I.hok (.of hb)
    refine ⟨.type "dict", looks_dict h1 h2.1, ?_⟩
    unfold PySem.W.notFirst
    rw [hs]
    simp
def rEqO (X : Cx) (C : Addr) (sp : Sp) (E : XK) (neg : Bool) : R2 := fun x y H Q => ∃ a dx fs, x = .ref a ∧ H a = some (.ins C dx fs) ∧ Oth X C H y ∧ sp [.ref a, y] H (fun v H' => ∃ r, v = .bl r ∧ Q (.bl (if neg then !r else r)) H') E
theorem op_eqO_own (F : FnOk X.prog X.w X.K X.mg X.base CX n f fd ps sp) (hs : PySem.W.findIn X.K (.ref C) "__eq__" = some (some (.ref f))) (hf : PySem.W.isFn X.K (.ref f) = true) (hb : Binds X.K fd ps []) (hx : Passes CX X E) (hr : Room n X.A) :
    OpR X (compareOp .Eq) (rEqO X C sp E false) := by
  intro pins s σ H x y v u Q I rx ry hq
  obtain ⟨a, dx, fs, rfl, ha, ho, h⟩ := hq
  cases rx
  show wpAny (model X.prog X.w) X.A (richCompare .Eq (.ref a) u) (EP X pins σ Q) X.xe s
  have sb : Sub X n X.A := ⟨hr, rfl⟩
  obtain ⟨mA, J, _⟩ := ins_get I.hok ha
  obtain ⟨od, J, _⟩ := J.look
  obtain ⟨m, hF⟩ := I.fr
  obtain ⟨tb, l1, l2⟩ := ho.looks I ry
  refine PySem.W.cmp_K (op := .Eq) (tb := tb) sb.room.units0 hF I.ok.mod.kin J l1 l2 hs hf ?_
  refine wpAny_mono (own_call F hb hx (Qb := fun r H' => Q (.bl r) H') sb I ry h) (fun v s' z => ?_) fun _ _ x => x
  obtain ⟨r, H', rfl, I', q⟩ := z
  exact ⟨.bl r, H', I', rfl, q⟩
/-- object.__ne__ asks the own __eq__ -/
theorem objNe_own {A : Around} (hu : A.units < cLine) {s : Shared} {P : Program} {w : World} {x : Addr} {b : Value} {E : Value → Shared → Prop} {Q : PySem.Fin → Shared → Prop}
    (h : wpAny (model P w) A (callSpecialIfBound? (.ref x) "__eq__" [b]) (fun r s' => ∃ c, r = some (.bool c) ∧ Q (.done (.ret (.bool (!c)))) s') E s) :
    wpAny (model P w) A (Builtin.«object.__ne__» ⟨[.ref x, b], []⟩) Q E s := by
  unfold Builtin.«object.__ne__»
  repeat (first | with_reducible refine wpAny_cRoomFor hu ?_ | with_reducible refine wpAny_bind (wpAny_mono h (fun r s' hr => ?_) fun _ _ x => x) | wp_step)
  obtain ⟨c, rfl, q⟩ := hr
  refine wpAny_bind (wpAny_truthy_bool ?_)
  exact wpAny_pure q
theorem op_neO_own (F : FnOk X.prog X.w X.K X.mg X.base CX n f fd ps sp) (hs : PySem.W.findIn X.K (.ref C) "__eq__" = some (some (.ref f))) (hf : PySem.W.isFn X.K (.ref f) = true) (hb : Binds X.K fd ps []) (hx : Passes CX X E) (hr : Room (n + 1) X.A)
    (hne : PySem.W.findIn X.K (.ref C) "__ne__" = some (some (.builtin "object.__ne__"))) (hob : PySem.W.subIn X.K (.ref C) (.type "object") = some true) :
    OpR X (compareOp .NotEq) (rEqO X C sp E true) := by
  intro pins s σ H x y v u Q I rx ry hq
  obtain ⟨a, dx, fs, rfl, ha, ho, h⟩ := hq
  cases rx
  show wpAny (model X.prog X.w) X.A (richCompare .NotEq (.ref a) u) (EP X pins σ Q) X.xe s
  have sb : Sub X (n + 1) X.A := ⟨hr, rfl⟩
  have sb1 := sb.in1
  obtain ⟨mA, J, _⟩ := ins_get I.hok ha
  obtain ⟨od, J, _⟩ := J.look
  obtain ⟨m, hF⟩ := I.fr
  obtain ⟨tb, l1, l2⟩ := ho.looks I ry
  have X0 := I.ok.mod.kin.keeps hF.keep
  have one : wpAny (model X.prog X.w) X.A (tryCompare (.ref a) "__ne__" u) (fun r s' => ∃ v, r = some v ∧ EP X pins σ Q v s') X.xe s := by
    unfold tryCompare
    refine wpAny_bind ?_
    simp only [callSpecialIfBound?, bindSpecialIfBound?]
    refine wpAny_holding (wpAny_bind (wpAny_bind (wpAny_bind (J.type.here ((PySem.W.looks_findIn X0 hne).here ?_)))))
    simp only [PySem.F.cmp_object.ne.bind]
    have call : wpAny (model X.prog X.w) X.A (PySem.call (.builtin "object.__ne__") [.ref a, u]) (fun v s' => v ≠ .notImplemented ∧ EP X pins σ Q v s') X.xe s := by
      refine wpAny_call (codeAny_call_builtin PySem.F.cmp_object.ne.plain PySem.F.cmpEntry_ne (PySem.W.check_slot PySem.F.cmpKind_ne PySem.F.cmpSplit_ne ((J.type.andThen (PySem.W.looks_subIn X0 hob))) (PySem.F.cmpArgs_ne _ _) ?_))
      refine objNe_own sb1.room.units0 (PySem.W.ifBound_K X0 J hs hf ?_)
      refine wpAny_mono (own_call F hb hx (Qb := fun r H' => Q (.bl (!r)) H') sb1 I ry h) (fun v s' z => ?_) fun _ _ x => x
      obtain ⟨r, H', rfl, I', q⟩ := z
      exact ⟨r, rfl, by simp, .bl (!r), H', I', rfl, q⟩
    have fin : wpAny (model X.prog X.w) X.A (PySem.call (.builtin "object.__ne__") ([.ref a] ++ [u]) >>= fun v => pure (some v)) (fun r s' => wpAny (model X.prog X.w) X.A (match r with | some .notImplemented | none => pure none | some v => pure (some v)) (fun r s' => ∃ v, r = some v ∧ EP X pins σ Q v s') X.xe s') X.xe s := by
      refine wpAny_bind (wpAny_mono call (fun v s' hv => wpAny_pure ?_) fun _ _ x => x)
      obtain ⟨h1, h2⟩ := hv
      cases v <;> first | exact absurd rfl h1 | exact wpAny_pure ⟨_, rfl, h2⟩
    refine wpAny_bind (wpAny_askSetting (wpAny_ite ?_))
    split
    · exact wpAny_bind (wpAny_pure (wpAny_pure (by exact fin)))
    · exact wpAny_tryCatch (wpAny_bind (wpAny_pure (wpAny_pure (by exact fin))))
  unfold richCompare
  simp only [oneThing_ref]
  refine wpAny_holding (wpAny_bind (wpAny_cRoomFor sb.room.units0 ?_))
  refine wpAny_bind (J.type.here (wpAny_bind (l1.here ?_)))
  split
  · rename_i q
    have e : PySem.W.subIn X.K tb (.ref C) = some false := by
      rcases Bool.or_eq_true_iff.mp l2 with e | e
      · rw [beq_iff_eq.mp e] at q; simp at q
      · exact beq_iff_eq.mp e
    refine wpAny_bind ((PySem.W.looks_subIn X0 e).here ?_)
    simp only [Bool.false_eq_true, if_false]
    refine wpAny_bind (wpAny_mono one (fun r s' z => ?_) fun _ _ e => e)
    obtain ⟨v, rfl, hq⟩ := z
    exact wpAny_pure hq
  · refine wpAny_bind (wpAny_pure ?_)
    simp only [Bool.false_eq_true, if_false]
    refine wpAny_bind (wpAny_mono one (fun r s' z => ?_) fun _ _ e => e)
    obtain ⟨v, rfl, hq⟩ := z
    exact wpAny_pure hq
end
end Sv
/-! a in [None, 7, a dict, a text] where a's class has an own __eq__; own text -/
namespace Sv
open PySem PySem.Spec PyProof.Rows L2
open PySem.W (Looks)
open PySem.AutoSeq1 (wpAny_loadPart')
open PySem.MeetsSeq PySem.MeetsSeq2 PySem.MeetsSeq3 PySem.SeqRoads2 PySem.SeqAt
section
variable {M : Model} {A : Around} {E : Value → Shared → Prop} {s : Shared} {Q : PySem.Fin → Shared → Prop}
theorem int_decl {b C dx : Addr} {i : Int} {t : Tok} (hb : s.heap.get? b = some (PySem.W.instObj C dx)) (h : Q (.done (.ret .notImplemented)) s) : wpAny M A (Builtin.«int.__eq__» ⟨[.int i t, .ref b], []⟩) Q E s := by
  obtain ⟨hp, g, d, tk, os⟩ := s
  wp_walk
  exact h
theorem str_decl {b C dx : Addr} {i : Str} {t : Tok} (hb : s.heap.get? b = some (PySem.W.instObj C dx)) (h : Q (.done (.ret .notImplemented)) s) : wpAny M A (Builtin.«str.__eq__» ⟨[.str i t, .ref b], []⟩) Q E s := by
  obtain ⟨hp, g, d, tk, os⟩ := s
  wp_walk
  exact h
theorem dict_decl {a b C dx : Addr} (hb : s.heap.get? b = some (PySem.W.instObj C dx)) (hs : Looks M s.heap (isSubtype (.ref C) (.type "dict")) false) (h : Q (.done (.ret .notImplemented)) s) : wpAny M A (Builtin.«dict.__eq__» ⟨[.ref a, .ref b], []⟩) Q E s := by
  obtain ⟨hp, g, d, tk, os⟩ := s
  wp_walk using wpAny_loadPart' hb
  refine hs.here ?_
  simp only [Bool.not_false, if_true]
  exact wpAny_bind (wpAny_rule (wpAny_pure h))
end
section
variable {X : Cx} {CX : CXT} {n : Nat} {C f : Addr} {fd : FuncData} {ps : List Str} {sp : Sp} {E : XK}
/-- what stands left of the own thing -/
def Lf (z : V) (H : Hp) : Prop := z = .non ∨ (∃ i, z = .int i) ∨ (∃ t, z = .str t) ∨ ∃ b kvs, z = .ref b ∧ H b = some (.dK kvs)
structure NoSub (K : PySem.W.Frag) (C : Addr) : Prop where
  n : PySem.W.subIn K (.ref C) (.type "NoneType") = some false
  i : PySem.W.subIn K (.ref C) (.type "int") = some false
  s : PySem.W.subIn K (.ref C) (.type "str") = some false
  d : PySem.W.subIn K (.ref C) (.type "dict") = some false
theorem rc_refl {A : Around} {s : Shared} {v : Value} {T id : String} {a dx : Addr} {od : Obj} {K : PySem.W.Frag} {P : Program} {w : World} {E : Value → Shared → Prop} {Q : Value → Shared → Prop} (hu : A.units < cLine) (X0 : K.In s.heap) (J : PySem.W.InstAt s.heap a (PySem.W.instObj C dx) C (some od)) (hT : s.TypeIs v T) (slot : Slot T (cmpInfo .Eq).2.1 id)
    (hcall : ∀ Q' : Value → Shared → Prop, Q' .notImplemented s → wpAny (model P w) A (call (.builtin id) [v, .ref a]) Q' E s) (hsub : PySem.W.subIn K (.ref C) (.type T) = some false)
    (hs : PySem.W.findIn K (.ref C) "__eq__" = some (some (.ref f))) (hf : PySem.W.isFn K (.ref f) = true) (own : wpAny (model P w) A (call (.ref f) [.ref a, v]) (fun r s' => ∃ b, r = .bool b ∧ Q (.bool b) s') E s) :
    wpAny (model P w) A (richCompare .Eq v (.ref a)) Q E s := by
  simp only [richCompare, cmpInfo_Eq, hT.oneThing_none]
  refine wpAny_holding (wpAny_bind (wpAny_cRoomFor hu ?_))
  refine wpAny_bind (wpAny_typeOf hT (wpAny_bind (J.type.here ?_)))
  have hne : (Value.type T != Value.ref C) = true := by simp
  simp only [hne, if_true]
  refine wpAny_bind ((PySem.W.looks_subIn X0 hsub).here ?_)
  simp only [Bool.false_eq_true, if_false, Bool.not_false, if_true]
  refine wpAny_bind (m := tryCompare v _ (.ref a)) (wpAny_tryCompare_declines hT slot (hcall _ ⟨rfl, ?_⟩))
  refine wpAny_bind (m := tryCompare (.ref a) _ v) ?_
  unfold tryCompare
  refine wpAny_bind (PySem.W.ifBound_K X0 J hs hf (wpAny_mono own (fun r s' z => ?_) fun _ _ x => x))
  obtain ⟨b, rfl, q⟩ := z
  exact wpAny_pure (wpAny_pure q)
theorem eqB_left (F : FnOk X.prog X.w X.K X.mg X.base CX n f fd ps sp) (hs : PySem.W.findIn X.K (.ref C) "__eq__" = some (some (.ref f))) (hf : PySem.W.isFn X.K (.ref f) = true) (hb : Binds X.K fd ps []) (hx : Passes CX X E) (ns : NoSub X.K C)
    {A : Around} {pins : List (Addr × Obj)} {s : Shared} {σ : L2.St} {H : Hp} {a dx : Addr} {fs : List (Str × V)} {z : V} {u : Value} {Qb : Hp → Prop}
    (sb : Sub X n A) (I : Inv X pins σ H s) (ha : H a = some (.ins C dx fs)) (rz : RelV z u) (hz : Lf z H) (h : sp [.ref a, z] H (fun v H' => ∃ r, v = .bl r ∧ (r = false ∧ Qb H')) E) :
    wpAny (model X.prog X.w) A (eqBool u (.ref a)) (fun r s' => r = false ∧ ∃ H', Inv X pins σ H' s' ∧ Qb H') X.xe s := by
  obtain ⟨mA, OM, _⟩ := ins_get I.hok ha
  obtain ⟨od, J, _⟩ := OM.look
  obtain ⟨m, hF⟩ := I.fr
  have X0 := I.ok.mod.kin.keeps hF.keep
  have hu := sb.room.units0
  have own : wpAny (model X.prog X.w) A (call (.ref f) [.ref a, u]) (fun r s' => ∃ b, r = .bool b ∧ ∃ r', Value.bool b = .bool r' ∧ (r' = false ∧ ∃ H', Inv X pins σ H' s' ∧ Qb H')) X.xe s := by
    refine wpAny_mono (own_call F hb hx (Qb := fun r H' => r = false ∧ Qb H') sb I rz h) (fun v s' z => ?_) fun _ _ x => x
    obtain ⟨r, H', rfl, I', hr, q⟩ := z
    exact ⟨r, rfl, r, rfl, hr, H', I', q⟩
  have fin : wpAny (model X.prog X.w) A (richCompare .Eq u (.ref a)) (fun v s' => ∃ r', v = .bool r' ∧ (r' = false ∧ ∃ H', Inv X pins σ H' s' ∧ Qb H')) X.xe s → u ≠ .ref a → (∀ x t, u ≠ .float x t) → wpAny (model X.prog X.w) A (eqBool u (.ref a)) (fun r s' => r = false ∧ ∃ H', Inv X pins σ H' s' ∧ Qb H') X.xe s := fun hr hne hfl => by
    unfold eqBool
    refine wpAny_holding ?_
    refine wpAny_ite_split (fun hab => absurd (eq_of_beq hab) hne) (fun _ => ?_)
    have tail : wpAny (model X.prog X.w) A (richCompare .Eq u (.ref a) >>= fun v => truthOfDropped v) (fun r s' => r = false ∧ ∃ H', Inv X pins σ H' s' ∧ Qb H') X.xe s := by
      refine wpAny_bind (wpAny_mono hr (fun v s' hv => ?_) fun _ _ x => x)
      obtain ⟨r, rfl, q⟩ := hv
      exact wpAny_truthy_bool q
    cases u <;> first | exact tail | exact absurd rfl (hfl _ _)
  rcases hz with rfl | ⟨i, rfl⟩ | ⟨t, rfl⟩ | ⟨b, kvs, rfl, hkv⟩
  · cases rz
    exact fin (rc_refl hu X0 J (T := "NoneType") rfl PySem.F.slot_NoneType_eq (fun Q' q => call_gives PySem.F.slot_NoneType_eq rfl PySem.F.entry_NoneType_eq (PySem.F.args_NoneType_eq_2 _ _) (NoneType___eq___none_ref_0 a) q) ns.n hs hf own) (fun e => by cases e) (fun _ _ e => by cases e)
  · obtain ⟨t, rfl⟩ := rz
    exact fin (rc_refl hu X0 J (T := "int") (typeIs_int s i t) PySem.F.slot_int_eq (fun Q' q => GQ.call_here PySem.F.slot_int_eq (typeIs_int s i t) PySem.F.entry_int_eq (PySem.F.args_int_eq_2 _ _) (int_decl OM.obj q)) ns.i hs hf own) (fun e => by cases e) (fun _ _ e => by cases e)
  · obtain ⟨k, rfl⟩ := rz
    exact fin (rc_refl hu X0 J (T := "str") (typeIs_str s t k) PySem.F.slot_str_eq (fun Q' q => GQ.call_here PySem.F.slot_str_eq (typeIs_str s t k) PySem.F.entry_str_eq (PySem.F.args_str_eq_2 _ _) (str_decl OM.obj q)) ns.s hs hf own) (fun e => by cases e) (fun _ _ e => by cases e)
  · cases rz
    have hT : s.TypeIs (.ref b) "dict" := by
      obtain ⟨_, _, vs, _, dd⟩ := dk_rd I.hok (.of hkv)
      exact dd.typeIs
    refine fin (rc_refl hu X0 J (T := "dict") hT PySem.F.slot_dict_eq (fun Q' q => GQ.call_here PySem.F.slot_dict_eq hT PySem.F.entry_dict_eq (PySem.F.args_dict_eq_2 _ _) (dict_decl OM.obj (PySem.W.looks_subIn X0 ns.d) q)) ns.d hs hf own) (fun e => ?_) (fun _ _ e => by cases e)
    cases e
    rw [hkv] at ha
    cases ha
/-- at each turn the list is read anew: N items, the i-th unlike x -/
def ListN (prog : Program) (w : World) (A : Around) (E : Value → Shared → Prop) (l : Addr) (x : Value) (N : Nat) (I : Nat → Shared → Prop) : Prop :=
  ∀ i s, I i s → ∃ (items : Array Value) (dd : Option Addr) (n : Nat) (sl : Array (Option Value)), s.heap.get? l = some { cls := .type "list", dict := dd, data := .seq items n, slots := sl } ∧ items.size = N ∧
    ∀ (h1 : i < items.size), wpAny (model prog w) A.in1 (eqBool items[i] x) (fun r s' => r = false ∧ I (i + 1) s') E s
theorem in_loopN {prog : Program} {w : World} {A : Around} {R : Result → Shared → Prop} (l : Addr) (x : Value) (N : Nat) (I : Nat → Shared → Prop) (hl : ListN prog w A (fun e s' => R (.error e) s') l x N I)
    (fin : ∀ s, I N s → R (.ok (.ret (.bool false))) s) (k : Nat) :
    ∀ i : Nat, N - i = k → i ≤ N → ∀ s, I i s →
      wpAny (model prog w) A.in1 (Builtin.«list.__contains__.loop» ⟨[.ref l, x, rawInt i], []⟩) (GQ.FinOf prog w A R) (fun e s' => R (.error e) s') s := by
  induction k with
  | zero =>
    intro i hk hi s h
    obtain ⟨items, dd, n, sl, hl1, hs1, _⟩ := hl _ _ h
    have hi' : i = N := by omega
    have hR : R (.ok (.ret (.bool false))) s := fin s (hi' ▸ h)
    obtain ⟨hp, g, d, tk, os⟩ := s
    wp_walk using wpAny_loadPart' hl1
    have hi1 : items[((i : Nat) : Int).toNat]? = none := by simp; omega
    rw [hi1]
    wp_walk
    exact hR
  | succ k ih =>
    intro i hk hi s h
    obtain ⟨items, dd, n, sl, hl1, hs1, turn⟩ := hl _ _ h
    have hlt : i < items.size := by omega
    have ht := turn hlt
    obtain ⟨hp, g, d, tk, os⟩ := s
    wp_walk using wpAny_loadPart' hl1
    have hi1 : items[((i : Nat) : Int).toNat]? = some items[i] := by simp [hlt]
    have hc : ((i : Int) + 1) = ((i + 1 : Nat) : Int) := by omega
    rw [hi1]
    refine wpAny_bind (wpAny_mono ht (fun r s2 h2 => ?_) fun _ _ x => x)
    obtain ⟨hr, h2⟩ := h2
    subst hr
    have hrec := ih (i + 1) (by omega) (by omega) s2 h2
    obtain ⟨hp2, g2, d2, tk2, os2⟩ := s2
    wp_walk
    rw [hc]
    exact ⟨plainId_quiet plain_contains_loop _, codeAny_builtin entry_contains_loop (by
      rw [Around.under_plainId plain_contains_loop _]
      exact hrec)⟩
def rInO (X : Cx) (C : Addr) (sp : Sp) (E : XK) : R2 := fun x y H Q => ∃ (a dx p : Addr) (fs : List (Str × V)) (zs : List V) (Pi : Hp → Prop), x = .ref a ∧ y = .ref p ∧ Pi H ∧ (∀ H', Pi H' → H' a = some (.ins C dx fs) ∧ SqL X.K H' p zs ∧ ∀ z, z ∈ zs → Lf z H') ∧
  (∀ H' z, Pi H' → z ∈ zs → sp [.ref a, z] H' (fun v H2 => ∃ r, v = .bl r ∧ (r = false ∧ Pi H2)) E) ∧ ∀ H', Pi H' → Q (.bl false) H'
theorem op_inO_own (F : FnOk X.prog X.w X.K X.mg X.base CX n f fd ps sp) (hs : PySem.W.findIn X.K (.ref C) "__eq__" = some (some (.ref f))) (hf : PySem.W.isFn X.K (.ref f) = true) (hb : Binds X.K fd ps []) (hx : Passes CX X E) (ns : NoSub X.K C) (hr : Room (n + 1) X.A) :
    OpR X (compareOp .In) (rInO X C sp E) := by
  intro pins s σ H x y v u Q I rx ry hq
  obtain ⟨a, dx, p, fs, zs, Pi, rfl, rfl, h0, hP, hc, hQ⟩ := hq
  cases rx
  cases ry
  have sb : Sub X (n + 1) X.A := ⟨hr, rfl⟩
  have sb1 := sb.in1
  obtain ⟨_, hz0, _⟩ := hP H h0
  obtain ⟨its0, r0, pl0, _⟩ := I.list hz0
  have hT : s.TypeIs (.ref p) "list" := by
    obtain ⟨⟨cls, dd, data, sl⟩, ho, hc, n, hd⟩ := pl0.isList
    exact ⟨_, ho, hc⟩
  show wpAny (model X.prog X.w) X.A (do return .bool (← contains (.ref p) (.ref a))) (EP X pins σ Q) X.xe s
  have hl : ListN X.prog X.w X.A X.xe p (.ref a) zs.length (fun _ s' => ∃ H', Inv X pins σ H' s' ∧ Pi H') := by
    intro i s1 ⟨H1, I1, p1⟩
    obtain ⟨e1, hz1, lf1⟩ := hP H1 p1
    obtain ⟨its, r, pl, _⟩ := I1.list hz1
    obtain ⟨⟨cls, dd, data, sl⟩, ho, hcl, n', hd⟩ := pl.isList
    simp only at hcl hd
    subst hcl hd
    refine ⟨its.toArray, dd, n', sl, ho, by rw [List.size_toArray, ← r.length], fun h1 => ?_⟩
    have hi : i < its.length := by simpa using h1
    have hiz : i < zs.length := by rw [r.length]; exact hi
    have hv : RelV zs[i] its[i] := by
      obtain ⟨u, hu, ru⟩ := r.get (List.getElem?_eq_getElem hiz)
      rw [List.getElem?_eq_getElem hi] at hu
      rw [Option.some.inj hu]
      exact ru
    have := eqB_left F hs hf hb hx ns sb1 I1 e1 hv (lf1 _ (List.getElem_mem hiz)) (hc H1 _ p1 (List.getElem_mem hiz))
    simpa using this
  have hent : wpAny (model X.prog X.w) X.A.in1 (Builtin.«list.__contains__» ⟨[.ref p, .ref a], []⟩) (GQ.FinOf X.prog X.w X.A (wants (fun v s' => v = .bool false ∧ ∃ H', Inv X pins σ H' s' ∧ Pi H') X.xe)) (fun e s' => wants (fun v s' => v = .bool false ∧ ∃ H', Inv X pins σ H' s' ∧ Pi H') X.xe (.error e) s') s := by
    have hrec := in_loopN (A := X.A) (R := wants (fun v s' => v = .bool false ∧ ∃ H', Inv X pins σ H' s' ∧ Pi H') X.xe) p (.ref a) zs.length _ hl (fun s1 q => ⟨rfl, q⟩) _ 0 rfl (Nat.zero_le _) s ⟨H, I, h0⟩
    obtain ⟨hp, g, d, tk, os⟩ := s
    wp_walk
    exact ⟨plainId_quiet plain_contains_loop _, codeAny_builtin entry_contains_loop (by
      rw [Around.under_plainId plain_contains_loop _]
      exact hrec)⟩
  refine wpAny_bind (wpAny_contains_slot hT PySem.F.slot_list_contains (wpAny_mono (GQ.call_here PySem.F.slot_list_contains hT PySem.F.entry_list_contains (PySem.F.args_list_contains_2 _ _) hent) (fun v s' hv => ?_) fun _ _ e => e))
  obtain ⟨rfl, H', I', p'⟩ := hv
  exact wpAny_truthy_bool (wpAny_pure ⟨.bl false, H', I', rfl, hQ H' p'⟩)
end
end Sv
set_option maxHeartbeats 4000000
namespace Pa
open PySem PySem.Spec PyProof.Rows L2 Ty
/-! ### what a grammar tells of itself -/
theorem GrS.same {K : PySem.W.Frag} {C : Addr} {H H' : Hp} {g : Addr} {ks : Kds} {rs : Rls} {bs : Brs} {st : Str} (h : GrS K C H g ks rs bs st) (s : Same H H') : GrS K C H' g ks rs bs st := by
  obtain ⟨⟨dx, c, pd, hd, ed, wd, fs, cb, pk, ek, wk, h1, h2, h3, h4, h5, h6, h7, h8, h9, h10, h11, h12, h13, h14, h15, h16, h17⟩, dx2, la, D0, fs2, kv, rv, i1, i2, i3, i4, i5, i6, i7⟩ := h
  exact ⟨⟨dx, c, pd, hd, ed, wd, fs, cb, pk, ek, wk, s _ _ h1, h2, h3, h4, h5, h6, h7, h8.same s, paired_imp (fun _ _ r => r.tk (Tk.of_same s)) h9, s _ _ h10, paired_imp (fun _ _ r => r.tk (Tk.of_same s)) h11, s _ _ h12, s _ _ h13, paired_imp (fun _ _ r => r.tk (Tk.of_same s)) h14, s _ _ h15, h16, h17⟩, dx2, la, D0, fs2, kv, rv, s _ _ i1, i2, i3, s _ _ i4, paired_imp (fun _ _ r => r.tk (Tk.of_same s)) i5, s _ _ i6, paired_imp (fun _ _ r => r.tk (Tk.of_same s) fun b xs _ e => s _ _ e) i7⟩
theorem pkv_keys {H : Hp} : ∀ {pk : List (Key × V)} {ks : Kds}, Paired (PkV H) pk ks → pk.map (·.1) = (ks.map (·.1)).map Sum.inr
  | _, _, .nil => rfl
  | _, _, .cons h t => by rw [List.map_cons, List.map_cons, List.map_cons, pkv_keys t, h.1]
theorem pkv_get {H : Hp} {x : Str} {p : Pat} : ∀ {pk : List (Key × V)} {ks : Kds}, Paired (PkV H) pk ks → (ks.map fun k => (k.1, k.2.1)).lookup x = some p → ∃ u, valV pk (Sum.inr x : Key) = some u ∧ RP H p u
  | _, _, .nil, h => by cases h
  | kv :: _, (n, q, b) :: ks, .cons h t, hl => by
    obtain ⟨e1, r⟩ := h
    rw [List.map_cons, List.lookup_cons] at hl
    by_cases e : x = n
    · subst e
      rw [beq_self_eq_true] at hl
      cases hl
      exact ⟨kv.2, valV_pos e1, r⟩
    · rw [show (x == (n, q, b).1) = false from beq_eq_false_iff_ne.mpr e] at hl
      rw [valV_neg (fun q => e (Sum.inr.inj (e1.symm.trans q)).symm)]
      exact pkv_get t hl
theorem spe_keysC {H : Hp} : ∀ {kvs : List (Key × V)} {as : List (Str × List Str)}, Paired (SpE H) kvs as → kvs.map (·.1) = (as.map (·.1)).map Sum.inr
  | _, _, .nil => rfl
  | _, _, .cons h t => by rw [List.map_cons, List.map_cons, List.map_cons, spe_keysC t, h.1]
theorem homes_keysV (rs : Rls) : ((homesOf rs).map fun h => ((Sum.inr h.1 : Key), V.str h.2)).map (·.1) = ((altsOf rs).map (·.1)).map Sum.inr := by
  rw [← homes_keys]
  simp only [List.map_map]
  rfl
theorem home_none {rs : Rls} {l : Str} : (homeP rs l).isSome = decide (l ∈ (altsOf rs).map (·.1)) := by
  rw [← key_in (homes_keysV rs) l, homes_at l (homesOf rs)]
  show ((homesOf rs).lookup l).isSome = _
  cases (homesOf rs).lookup l <;> rfl
/-! ### errors of one field -/
theorem scNoLabel : FnScope ["self", "label"] ["self", "label"] (defScope sNoLabel) := ⟨rfl, rfl, rfl, by decide +kernel, rfl, by decide +kernel, by decide +kernel⟩
theorem scNoLayout : FnScope ["self", "label"] ["self", "label"] (defScope sNoLayout) := ⟨rfl, rfl, rfl, by decide +kernel, rfl, by decide +kernel, by decide +kernel⟩
def spErr (K : PySem.W.Frag) (C : Addr) (x : Str) : Sp := fun vs H Q _ => ∃ (a : Addr) (u : V), vs = [.ref a, u] ∧ OexC K C ∧ PySem.W.findIn K (.ref C) x = some none ∧ H a = some (exo a C none) ∧
  ∀ d H', H d = none → d ≠ a → H' a = some (exo a C (some d)) → H' d = some (exd d [(x, u)]) → (∀ c, c ≠ a → c ≠ d → H' c = H c) → Q .non H'
/-- how a refusal with one field leaves -/
def Out1 (E : XK) (C : Addr) (x : Str) (H : Hp) (u : V) : Prop := ∀ dd H', H dd = none → Same H H' → H' dd = some (.xd [(x, u)]) → E (.ref C) (some dd) H'
theorem Out1.same {E : XK} {C : Addr} {x : Str} {H H1 : Hp} {u : V} (o : Out1 E C x H u) (s : Same H H1) : Out1 E C x H1 u := fun dd H' h1 h2 h3 => o dd H' (by
  cases q : H dd with
  | none => rfl
  | some u => rw [s _ _ q] at h1; cases h1) (s.trans h2) h3
/-- what is known of such a class -/
structure ErrK (K : PySem.W.Frag) (mg : Str → Option Value) (C f : Addr) (n x : Str) : Prop where
  t : OexC K C
  fd : PySem.W.findIn K (.ref C) x = some none
  i : PySem.W.findIn K (.ref C) "__init__" = some (some (.ref f))
  y : PySem.W.typeIn K (.ref f) = some (.type "function")
  m : mg n = some (.ref C)
theorem raise1 {K : PySem.W.Frag} {C : Addr} {H : Hp} {E : XK} {x : Str} {u : V} (T : OexC K C) (n : PySem.W.findIn K (.ref C) x = some none) (q : Out1 E C x H u) :
    [u].length ≤ 1000 ∧ ∀ a, H a = none → spErr K C x (.ref a :: ([u] ++ [])) (upd H a (exo a C none))
      (fun u H2 => u = .non ∧ ∃ (d : Addr) (fs : List (Str × V)), H2 a = some (exo a C (some d)) ∧ H2 d = some (exd d fs) ∧ H d = none ∧ E (.ref C) (some d) (upd (del H2 a) d (.xd fs))) (fun _ _ _ => False) := by
  refine ⟨(by show 1 ≤ 1000; decide), fun a ha => ⟨a, _, rfl, T, n, upd_same, fun d H' hd hne h1 h2 h4 => ⟨rfl, d, _, h1, h2, ?_, ?_⟩⟩⟩
  · rw [upd_ne hne] at hd; exact hd
  · rw [upd_ne hne] at hd
    refine q d _ hd (fun b o e => ?_) upd_same
    have hb : b ≠ a := ne_of_none e ha
    have hbd : b ≠ d := ne_of_none e hd
    rw [upd_ne hbd, del_ne hb, h4 b hb hbd, upd_ne hb]
    exact e
section
variable {P : Program} {w : World} {K : PySem.W.Frag} {mg : Str → Option Value} {base : Heap} {f C CY : Addr} {fd : FuncData} {mc : Value}
theorem ok_nolabel (F : Fun K "__init__" "NoLabel.__init__" sNoLabel f fd) (mY : mg "YardError" = some (.ref CY)) (r : ClX.CRead K CY mc) (vV : PySem.W.findCls K (.ref CY) mc "__init__" = some (.val (.builtin "ValueError.__init__"))) :
    FnOk P w K mg base CX0 1 f fd ["self", "label"] (spErr K C "label") := by
  refine F.ok scNoLabel (fun vs H Q E h => ?_) (fun cdv A outer s H vs Q E hr h => ?_)
  · obtain ⟨a, u, rfl, _⟩ := h
    rfl
  obtain ⟨a, u, rfl, T, n1, ha, q⟩ := h
  refine ⟨_, pss_cons (ps_expr (pe_oinit rfl mY r vV (pa_cons (pv 0) (pa_cons pe_str pa_nil)))) (pss_one (ps_ost (f := "label") (pv 0) (pv 1))), ?_⟩
  refine ⟨_, rfl, a, C, _, rfl, by decide, T, ha, _, rfl, _, rfl, a, C, rfl, T, n1, .inl ⟨ha, fun d hd hn => ?_⟩⟩
  refine q d _ hd hn upd_same (by rw [upd_ne hn]; exact upd_same) (fun c h1 h2 => by rw [upd_ne h1, upd_ne h2])
theorem ok_nolayout (F : Fun K "__init__" "NoLayout.__init__" sNoLayout f fd) (mY : mg "YardError" = some (.ref CY)) (r : ClX.CRead K CY mc) (vV : PySem.W.findCls K (.ref CY) mc "__init__" = some (.val (.builtin "ValueError.__init__"))) :
    FnOk P w K mg base CX0 1 f fd ["self", "label"] (spErr K C "label") := by
  refine F.ok scNoLayout (fun vs H Q E h => ?_) (fun cdv A outer s H vs Q E hr h => ?_)
  · obtain ⟨a, u, rfl, _⟩ := h
    rfl
  obtain ⟨a, u, rfl, T, n1, ha, q⟩ := h
  refine ⟨_, pss_cons (ps_expr (pe_oinit rfl mY r vV (pa_cons (pv 0) (pa_cons pe_str pa_nil)))) (pss_one (ps_ost (f := "label") (pv 0) (pv 1))), ?_⟩
  refine ⟨_, rfl, a, C, _, rfl, by decide, T, ha, _, rfl, _, rfl, a, C, rfl, T, n1, .inl ⟨ha, fun d hd hn => ?_⟩⟩
  refine q d _ hd hn upd_same (by rw [upd_ne hn]; exact upd_same) (fun c h1 h2 => by rw [upd_ne h1, upd_ne h2])
end
/-! ### labels, and an alternative's row -/
theorem scLabels : FnScope ["self"] ["self"] (defScope gLabels) := ⟨rfl, rfl, rfl, by decide +kernel, rfl, by decide +kernel, by decide +kernel⟩
theorem scRowOf : FnScope ["self", "label"] ["self", "label"] (defScope gRowOf) := ⟨rfl, rfl, rfl, by decide +kernel, rfl, by decide +kernel, by decide +kernel⟩
abbrev labsOf (rs : Rls) : List Str := (altsOf rs).map (·.1)
def spLabels (K : PySem.W.Frag) (C : Addr) : Sp := fun vs H Q _ => ∃ (g : Addr) (ks : Kds) (rs : Rls) (bs : Brs) (st : Str), vs = [.ref g] ∧ GrS K C H g ks rs bs st ∧ ∀ p, H p = none → Q (.ref p) (upd H p (.lst ((labsOf rs).map V.str)))
def spRowN (K : PySem.W.Frag) (C CL : Addr) : Sp := fun vs H Q E => ∃ (g : Addr) (ks : Kds) (rs : Rls) (bs : Brs) (st x : Str), vs = [.ref g, .str x] ∧ GrS K C H g ks rs bs st ∧ (x ∈ labsOf rs → ∀ b, H b = some (.tup ((spelledP rs x).map V.str)) → Q (.ref b) H) ∧ (x ∉ labsOf rs → Out1 E CL "label" H (.str x))
section
variable {P : Program} {w : World} {K : PySem.W.Frag} {mg : Str → Option Value} {base : Heap} {f C CN fN CL fL : Addr} {fd dL : FuncData}
theorem ok_labels (F : Fun K "labels" "Grammar.labels" gLabels f fd) (T : GTxt K mg C CN fN) (mll : mg "list" = none) : FnOk P w K mg base CX0 1 f fd ["self"] (spLabels K C) := by
  refine F.ok scLabels (fun vs H Q E h => ?_) (fun cdv A outer s H vs Q E hr h => ?_)
  · obtain ⟨_, _, _, _, _, rfl, _⟩ := h
    rfl
  refine ⟨_, pss_one (ps_ret (pe_callTy (call_list_dK rfl) rfl mll (by decide +kernel) (pa_cons (pe_fld (pv 0) rfl) pa_nil))), ?_⟩
  obtain ⟨g, ks, rs, bs, st, rfl, G, q⟩ := h
  obtain ⟨dx, c, pd, hd, ed, wd, fs, cb, pk, ek, wk, h1, h2, h3, h4, h5, h6, h7, h8, h9, h10, h11, h12, h13, h14, h15, h16, h17⟩ := G.ob
  refine ⟨_, rfl, g, C, dx, _, _, rfl, h1, T.cl, T.nH, h5, hd, _, rfl, h12, fun p hp => ?_⟩
  have e : ((homesOf rs).map fun h => ((Sum.inr h.1 : Key), V.str h.2)).map (fun kv => kV kv.1) = (labsOf rs).map V.str := by
    unfold labsOf
    rw [← homes_keys]
    simp only [List.map_map]
    rfl
  rw [e]
  exact q p hp
theorem ok_rown (F : Fun K "row_of" "Grammar.row_of" gRowOf f fd) (T : GTxt K mg C CN fN) (EL : ErrK K mg CL fL "NoLabel" "label") (GL : FnOk P w K mg base CX0 1 fL dL ["self", "label"] (spErr K CL "label")) (bL : Binds K dL ["self", "label"] []) :
    FnOk P w K mg base (L2.CX P w) 3 f fd ["self", "label"] (spRowN K C CL) := by
  refine F.okX scRowOf (fun vs H Q E h => ?_) (fun cdv A outer s H vs Q E hr h => ?_)
  · obtain ⟨_, _, _, _, _, _, rfl, _⟩ := h
    rfl
  have hu1 := hu_of hr
  refine ⟨_, pss_cons (ps_if (pt_cmp (pc_dnotin hu1 (pv 1) (pe_fld (pv 0) rfl))) (pss_one (ps_raise rfl (takes_of rfl rfl rfl rfl) (pmk_oex EL.t EL.i EL.y GL hr bL .nil pass0 rfl EL.m (pa_cons (pv 1) pa_nil)))) pss_nil)
    (pss_one (ps_ret (pe_dget hu1 (pe_fld (pv 0) rfl) (pv 1) (fun _ _ => rfl)))), ?_⟩
  obtain ⟨g, ks, rs, bs, st, x, rfl, G, q1, q2⟩ := h
  obtain ⟨dx, c, pd, hd, ed, wd, fs, cb, pk, ek, wk, h1, h2, h3, h4, h5, h6, h7, h8, h9, h10, h11, h12, h13, h14, h15, h16, h17⟩ := G.ob
  refine ⟨_, rfl, _, rfl, g, C, dx, _, _, rfl, h1, T.cl, T.nL, h6, ed, _, rfl, DGet.k (k := Sum.inr x) h13, _, rfl, ?_⟩
  rw [key_in (spe_keysC h14) x]
  by_cases hx : x ∈ labsOf rs
  · rw [decide_eq_true hx]
    refine iteF ?_
    rcases spelled_at x h14 with ⟨b, e1, e2⟩ | ⟨e1, e2⟩
    · refine ⟨_, rfl, g, C, dx, _, _, rfl, h1, T.cl, T.nL, h6, _, rfl, ed, _, rfl, ?_, q1 hx b e2⟩
      rw [← e1]
      exact DGet.k (k := Sum.inr x) h13
    · have := key_in (spe_keysC h14) x
      rw [e1, decide_eq_true hx] at this
      cases this
  · rw [decide_eq_false hx]
    exact iteT ⟨_, rfl, raise1 EL.t EL.fd (q2 hx)⟩
end
end Pa
set_option maxHeartbeats 1000000
namespace Pa
open PySem PySem.Spec PyProof.Rows L2 Ty Se
/-! ### a grammar's rows as data; Grammar.__eq__ -/
def LowC (x : Str) : Prop := ∀ c, c ∈ x.cps.toList → c < 128
theorem LowC.ok {x : Str} (h : LowC x) : PyData.strOk x = true := by
  show x.cps.all (· < 0x110000) = true
  rw [← Array.all_toList, List.all_eq_true]
  intro c hc
  have := h c hc
  exact decide_eq_true (by omega)
theorem lay_all {l : List PyData} (h : ∀ d, d ∈ l → d.canLay0 = true) : PyData.canLayAll0 l = true := by
  induction l with
  | nil => rfl
  | cons d l ih =>
    show (d.canLay0 && PyData.canLayAll0 l) = true
    rw [h d List.mem_cons_self, ih fun e he => h e (List.mem_cons_of_mem _ he)]; rfl
theorem depth_all {l : List PyData} {n : Nat} (h : ∀ d, d ∈ l → d.depth ≤ n) : PyData.depthAll l ≤ n := by
  induction l with
  | nil => exact Nat.zero_le _
  | cons d l ih =>
    show max d.depth (PyData.depthAll l) ≤ n
    have h1 := h d List.mem_cons_self
    have h2 := ih fun e he => h e (List.mem_cons_of_mem _ he)
    omega
def patE : Pat → PyData
  | .sg x => .tuple [.str "signs", .str x]
  | .em => .tuple [.str "empty"]
  | .th p q => .tuple [.str "then", patE p, patE q]
  | .oo p q => .tuple [.str "or", patE p, patE q]
  | .ag p => .tuple [.str "again", patE p]
  | .mo p => .tuple [.str "more", patE p]
  | .mb p => .tuple [.str "maybe", patE p]
def PLow : Pat → Prop
  | .sg x => LowC x
  | .em => True
  | .th a b => PLow a ∧ PLow b
  | .oo a b => PLow a ∧ PLow b
  | .ag a => PLow a
  | .mo a => PLow a
  | .mb a => PLow a
theorem patE_lay : ∀ {p : Pat}, PLow p → (patE p).canLay0 = true
  | .sg x, h => by
    show (PyData.strOk "signs" && (PyData.strOk x && true)) = true
    rw [LowC.ok h]; decide +kernel
  | .em, _ => by decide +kernel
  | .th a b, h => by
    show (PyData.strOk "then" && ((patE a).canLay0 && ((patE b).canLay0 && true))) = true
    rw [patE_lay h.1, patE_lay h.2]; decide +kernel
  | .oo a b, h => by
    show (PyData.strOk "or" && ((patE a).canLay0 && ((patE b).canLay0 && true))) = true
    rw [patE_lay h.1, patE_lay h.2]; decide +kernel
  | .ag a, h => by
    show (PyData.strOk "again" && ((patE a).canLay0 && true)) = true
    rw [patE_lay (p := a) h]; decide +kernel
  | .mo a, h => by
    show (PyData.strOk "more" && ((patE a).canLay0 && true)) = true
    rw [patE_lay (p := a) h]; decide +kernel
  | .mb a, h => by
    show (PyData.strOk "maybe" && ((patE a).canLay0 && true)) = true
    rw [patE_lay (p := a) h]; decide +kernel
theorem patE_depth : ∀ p : Pat, (patE p).depth ≤ deepP p
  | .sg _ => Nat.le_refl _
  | .em => Nat.le_refl _
  | .th a b => by
    have h1 := patE_depth a
    have h2 := patE_depth b
    show max 0 (max (patE a).depth (max (patE b).depth 0)) + 1 ≤ max (deepP a) (deepP b) + 1
    omega
  | .oo a b => by
    have h1 := patE_depth a
    have h2 := patE_depth b
    show max 0 (max (patE a).depth (max (patE b).depth 0)) + 1 ≤ max (deepP a) (deepP b) + 1
    omega
  | .ag a => by
    have h1 := patE_depth a
    show max 0 (max (patE a).depth 0) + 1 ≤ deepP a + 1
    omega
  | .mo a => by
    have h1 := patE_depth a
    show max 0 (max (patE a).depth 0) + 1 ≤ deepP a + 1
    omega
  | .mb a => by
    have h1 := patE_depth a
    show max 0 (max (patE a).depth 0) + 1 ≤ deepP a + 1
    omega
theorem RP.dp {K : PySem.W.Frag} {H : Hp} : ∀ {p : Pat} {v : V}, RP H p v → Dp K H v (patE p)
  | .sg x, v, h => by obtain ⟨a, rfl, h⟩ := h; exact .tup (SqT.of h) (.cons (.str _) (.cons (.str _) .nil))
  | .em, v, h => by obtain ⟨a, rfl, h⟩ := h; exact .tup (SqT.of h) (.cons (.str _) .nil)
  | .th p q, v, h => by obtain ⟨a, u, w, rfl, h, r1, r2⟩ := h; exact .tup (SqT.of h) (.cons (.str _) (.cons (RP.dp r1) (.cons (RP.dp r2) .nil)))
  | .oo p q, v, h => by obtain ⟨a, u, w, rfl, h, r1, r2⟩ := h; exact .tup (SqT.of h) (.cons (.str _) (.cons (RP.dp r1) (.cons (RP.dp r2) .nil)))
  | .ag p, v, h => by obtain ⟨a, u, rfl, h, r1⟩ := h; exact .tup (SqT.of h) (.cons (.str _) (.cons (RP.dp r1) .nil))
  | .mo p, v, h => by obtain ⟨a, u, rfl, h, r1⟩ := h; exact .tup (SqT.of h) (.cons (.str _) (.cons (RP.dp r1) .nil))
  | .mb p, v, h => by obtain ⟨a, u, rfl, h, r1⟩ := h; exact .tup (SqT.of h) (.cons (.str _) (.cons (RP.dp r1) .nil))
theorem DpAll.of {K : PySem.W.Frag} {H : Hp} {α : Type} {R : V → α → Prop} {g : α → PyData} (hR : ∀ v x, R v x → Dp K H v (g x)) : ∀ {vs : List V} {xs : List α}, Paired R vs xs → DpAll K H vs (xs.map g)
  | _, _, .nil => .nil
  | _, _, .cons h t => .cons (hR _ _ h) (DpAll.of hR t)
theorem DpAll.strs {K : PySem.W.Frag} {H : Hp} : ∀ l : List Str, DpAll K H (l.map V.str) (l.map PyData.str)
  | [] => .nil
  | x :: l => .cons (.str x) (DpAll.strs l)
def kdE (k : Str × Pat × Bool) : PyData := .tuple [.str k.1, patE k.2.1, .bool k.2.2]
def alE (a : Str × List Str) : PyData := .tuple [.str a.1, .tuple (a.2.map PyData.str)]
def rlE (r : Str × List (Str × List Str)) : PyData := .tuple [.str r.1, .list (r.2.map alE)]
def gD (ks : Kds) (rs : Rls) (st : Str) : PyData := .tuple [.list (ks.map kdE), .list (rs.map rlE), .str st, .tuple []]
/-- names and signs of a grammar are plain -/
structure GLow (ks : Kds) (rs : Rls) (st : Str) : Prop where
  k : ∀ k, k ∈ ks → LowC k.1 ∧ PLow k.2.1 ∧ deepP k.2.1 ≤ 40
  r : ∀ r, r ∈ rs → LowC r.1 ∧ ∀ a, a ∈ r.2 → LowC a.1 ∧ ∀ x, x ∈ a.2 → LowC x
  s : LowC st
theorem strs_lay {l : List Str} (h : ∀ x, x ∈ l → LowC x) : PyData.canLayAll0 (l.map PyData.str) = true := lay_all fun d hd => by
  obtain ⟨x, hx, rfl⟩ := List.mem_map.mp hd
  exact (h x hx).ok
theorem strs_depth (l : List Str) : PyData.depthAll (l.map PyData.str) ≤ 0 := depth_all fun d hd => by
  obtain ⟨x, hx, rfl⟩ := List.mem_map.mp hd
  exact Nat.le_refl _
theorem gD_shaped {ks : Kds} {rs : Rls} {st : Str} (h : GLow ks rs st) : SeqAt.shaped (gD ks rs st) = true := by
  have l1 : PyData.canLayAll0 (ks.map kdE) = true := lay_all fun d hd => by
    obtain ⟨k, hk, rfl⟩ := List.mem_map.mp hd
    have := h.k k hk
    show (PyData.strOk k.1 && ((patE k.2.1).canLay0 && (true && true))) = true
    rw [this.1.ok, patE_lay this.2.1]; rfl
  have l2 : PyData.canLayAll0 (rs.map rlE) = true := lay_all fun d hd => by
    obtain ⟨r, hr, rfl⟩ := List.mem_map.mp hd
    have := h.r r hr
    have la : PyData.canLayAll0 (r.2.map alE) = true := lay_all fun d hd => by
      obtain ⟨a, ha, rfl⟩ := List.mem_map.mp hd
      have h2 := this.2 a ha
      show (PyData.strOk a.1 && (PyData.canLayAll0 (a.2.map PyData.str) && true)) = true
      rw [h2.1.ok, strs_lay h2.2]; rfl
    show (PyData.strOk r.1 && (PyData.canLayAll0 (r.2.map alE) && true)) = true
    rw [this.1.ok, la]; rfl
  have d1 : PyData.depthAll (ks.map kdE) ≤ 41 := depth_all fun d hd => by
    obtain ⟨k, hk, rfl⟩ := List.mem_map.mp hd
    have := (h.k k hk).2.2
    have h2 := patE_depth k.2.1
    show max 0 (max (patE k.2.1).depth (max 0 0)) + 1 ≤ 41
    omega
  have d2 : PyData.depthAll (rs.map rlE) ≤ 4 := depth_all fun d hd => by
    obtain ⟨r, hr, rfl⟩ := List.mem_map.mp hd
    have da : PyData.depthAll (r.2.map alE) ≤ 2 := depth_all fun d hd => by
      obtain ⟨a, ha, rfl⟩ := List.mem_map.mp hd
      have := strs_depth a.2
      show max 0 (max (PyData.depthAll (a.2.map PyData.str) + 1) 0) + 1 ≤ 2
      omega
    show max 0 (max (PyData.depthAll (r.2.map alE) + 1) 0) + 1 ≤ 4
    omega
  have dd : (gD ks rs st).depth ≤ 64 := by
    show max (PyData.depthAll (ks.map kdE) + 1) (max (PyData.depthAll (rs.map rlE) + 1) (max 0 (max (0 + 1) 0))) + 1 ≤ 64
    omega
  unfold SeqAt.shaped
  rw [decide_eq_true dd, Bool.and_true]
  show (PyData.canLayAll0 (ks.map kdE) && (PyData.canLayAll0 (rs.map rlE) && (PyData.strOk st && (true && true)))) = true
  rw [l1, l2, h.s.ok]; rfl
theorem eqv_self {d : PyData} (h : SeqAt.shaped d = true) : PyData.eqv d d = true := PySem.SeqAt.eqv_refl d (SeqAt.canLay_of_shaped h)
theorem gD_eqv {ks : Kds} {rs : Rls} {st st2 : Str} (h : GLow ks rs st) : PyData.eqv (gD ks rs st) (gD ks rs st2) = decide (st = st2) := by
  have hs := SeqAt.canLay_of_shaped (gD_shaped h)
  have hs2 : (PyData.canLayAll0 (ks.map kdE) && (PyData.canLayAll0 (rs.map rlE) && (PyData.strOk st && (true && true)))) = true := hs
  have e1 : PyData.eqv (.list (ks.map kdE)) (.list (ks.map kdE)) = true := PySem.SeqAt.eqv_refl _ (by
    show PyData.canLayAll0 (ks.map kdE) = true
    simp only [Bool.and_eq_true] at hs2
    exact hs2.1)
  have e2 : PyData.eqv (.list (rs.map rlE)) (.list (rs.map rlE)) = true := PySem.SeqAt.eqv_refl _ (by
    show PyData.canLayAll0 (rs.map rlE) = true
    simp only [Bool.and_eq_true] at hs2
    exact hs2.2.1)
  show (PyData.eqv (.list (ks.map kdE)) (.list (ks.map kdE)) && (PyData.eqv (.list (rs.map rlE)) (.list (rs.map rlE)) && ((st == st2) && (true && true)))) = _
  rw [e1, e2, beq_str]
  simp
end Pa
set_option maxHeartbeats 1000000
namespace Pa
open PySem PySem.Spec PyProof.Rows L2 Ty Se Sv
/-! ### Grammar.__eq__ -/
/-- what of the text a class with an own __eq__ has -/
structure OwC (K : PySem.W.Frag) (C f : Addr) : Prop where
  eq : PySem.W.findIn K (.ref C) "__eq__" = some (some (.ref f))
  fn : PySem.W.isFn K (.ref f) = true
  ne : PySem.W.findIn K (.ref C) "__ne__" = some (some (.builtin "object.__ne__"))
  ob : PySem.W.subIn K (.ref C) (.type "object") = some true
  ca : PySem.W.findIn K (.ref C) "__class__" = some (some (.builtin "object.__class__"))
  cn : PySem.W.specialIn K (.builtin "object.__class__") "__get__" = some (some (.builtin "getset_descriptor.__get__"))
  ct : PySem.W.takesIn K (.builtin "object.__class__") = some true
  cm : PySem.W.mroIn K C (.type "object") = some true
  cs : PySem.W.kitOne K (.ref C) (.ref C) = some true
theorem OwC.ty {K : PySem.W.Frag} {C f : Addr} (O : OwC K C f) (c : Cls K C) {H : Hp} {a dx : Addr} {fs : List (Str × V)} (e : H a = some (.ins C dx fs)) : TyX K H (.ref a) (.ref C) := .base (.ins e c O.ca O.cn O.ct O.cm)
theorem scGEq : FnScope ["self", "other", "mine"] ["self", "other"] (defScope gEq) := ⟨rfl, rfl, rfl, by decide +kernel, rfl, by decide +kernel, by decide +kernel⟩
def spGEq (K : PySem.W.Frag) (C : Addr) : Sp := fun vs H Q _ => ∃ (g g2 : Addr) (ks : Kds) (rs : Rls) (st st2 : Str), vs = [.ref g, .ref g2] ∧ GrS K C H g ks rs [] st ∧ GrS K C H g2 ks rs [] st2 ∧ GLow ks rs st ∧ GLow ks rs st2 ∧ ∀ H', Same H H' → Q (.bl (decide (st = st2))) H'
theorem gr_dp {K : PySem.W.Frag} {C : Addr} {H H2 : Hp} {g : Addr} {ks : Kds} {rs : Rls} {st : Str} (G : GrS K C H g ks rs [] st) (s : Same H H2) : ∃ (dx la D0 c : Addr) (fs : List (Str × V)), H g = some (.ins C dx fs) ∧ fs.lookup ("kind_rows" : Str) = some (.ref la) ∧ fs.lookup ("rule_rows" : Str) = some (.ref D0) ∧ fs.lookup ("first_rule" : Str) = some (.str st) ∧ fs.lookup ("bar_rows" : Str) = some (.ref c) ∧
    DpAll K H2 [.ref la, .ref D0, .str st, .ref c] [.list (ks.map kdE), .list (rs.map rlE), .str st, .tuple []] := by
  have G2 := G.same s
  obtain ⟨⟨dx, c, pd, hd, ed, wd, fs, cb, pk, ek, wk, h1, h2, h3, h4, h5, h6, h7, h8, h9, h10, h11, h12, h13, h14, h15, h16, h17⟩, dx2, la, D0, fs2, kv, rv, i1, i2, i3, i4, i5, i6, i7⟩ := G
  have e := h1.symm.trans i1
  cases e
  refine ⟨dx, la, D0, c, fs, h1, i2, i3, h3, h2, .cons (.lst (SqL.of (s _ _ i4)) (DpAll.of (fun v k r => ?_) i5)) (.cons (.lst (SqL.of (s _ _ i6)) (DpAll.of (fun v r rr => ?_) i7)) (.cons (.str _) (.cons ?_ .nil)))⟩
  · obtain ⟨a, u, rfl, e1, e2⟩ := r
    exact .tup (SqT.of (s _ _ e1)) (.cons (.str _) (.cons (e2.tk (Tk.of_same s)).dp (.cons (.bl _) .nil)))
  · obtain ⟨a, b, xs, rfl, e1, e2, _, e3⟩ := rr
    refine .tup (SqT.of (s _ _ e1)) (.cons (.str _) (.cons (.lst (SqL.of (s _ _ e2)) (DpAll.of (fun v x q => ?_) e3)) .nil))
    obtain ⟨a, b, rfl, e1, e2⟩ := q
    exact .tup (SqT.of (s _ _ e1)) (.cons (.str _) (.cons (.tup (SqT.of (s _ _ e2)) (DpAll.strs _)) .nil))
  · cases h9
    exact .tup (h8.same s) .nil
section
variable {P : Program} {w : World} {K : PySem.W.Frag} {mg : Str → Option Value} {base : Heap} {f C CN fN : Addr} {fd : FuncData}
theorem ok_geq (F : Fun K "__eq__" "Grammar.__eq__" gEq f fd) (T : GTxt K mg C CN fN) (O : OwC K C f) (mG : mg "Grammar" = some (.ref C)) (mi : mg "isinstance" = none) : FnOk P w K mg base CX0 1 f fd ["self", "other"] (spGEq K C) := by
  refine F.ok scGEq (fun vs H Q E h => ?_) (fun cdv A outer s H vs Q E hr h => ?_)
  · obtain ⟨_, _, _, _, _, _, rfl, _⟩ := h
    rfl
  have hu64 := hr.units
  refine ⟨_, pss_cons (ps_if (pt_not (pt_val (pe_callB call_isi rfl mi (by decide +kernel) (pa_cons (pv 1) (pa_cons (pe_glob rfl mG (show RelV (.ref C) (.ref C) from rfl)) pa_nil))))) (pss_one (ps_ret pe_bl)) pss_nil)
    (pss_cons (ps_set (i := 2) scGEq.nd rfl (.inl rfl) (pe_tup (pa_cons (pe_fld (pv 0) rfl) (pa_cons (pe_fld (pv 0) rfl) (pa_cons (pe_fld (pv 0) rfl) (pa_cons (pe_fld (pv 0) rfl) pa_nil))))))
    (pss_one (ps_ret (pe_cmpR (op_eqD hu64) (pv 2) (pe_tup (pa_cons (pe_fld (pv 1) rfl) (pa_cons (pe_fld (pv 1) rfl) (pa_cons (pe_fld (pv 1) rfl) (pa_cons (pe_fld (pv 1) rfl) pa_nil))))) (nomark _))))), ?_⟩
  obtain ⟨g, g2, ks, rs, st, st2, rfl, G1, G2, L1, L2, q⟩ := h
  obtain ⟨dx, la, D0, c, fs, h1, h2, h3, h4, h5, _⟩ := gr_dp G1 same_refl
  obtain ⟨ex, la', D0', c', fs', k1, k2, k3, k4, k5, _⟩ := gr_dp G2 same_refl
  refine ⟨_, rfl, .ref g2, .ref C, _, _, true, rfl, .own C, O.ty T.cl k1, O.cs, ⟨true, rfl, iteF ?_⟩⟩
  refine ⟨_, rfl, g, C, dx, _, _, rfl, h1, T.cl, T.nK, h2, _, rfl, g, C, dx, _, _, rfl, h1, T.cl, T.nR, h3, _, rfl, g, C, dx, _, _, rfl, h1, T.cl, T.nF, h4, _, rfl, g, C, dx, _, _, rfl, h1, T.cl, T.nB, h5, (by show 4 ≤ sizeLine; decide), fun t ht => ?_⟩
  have s1 := same_new ht (.tup [.ref la, .ref D0, .str st, .ref c])
  have e1 : (upd H t (.tup [.ref la, .ref D0, .str st, .ref c])) t = some (.tup [.ref la, .ref D0, .str st, .ref c]) := upd_same
  generalize upd H t (.tup [.ref la, .ref D0, .str st, .ref c]) = H1 at s1 e1 ⊢
  refine ⟨_, rfl, _, rfl, g2, C, ex, _, _, rfl, s1 _ _ k1, T.cl, T.nK, k2, _, rfl, g2, C, ex, _, _, rfl, s1 _ _ k1, T.cl, T.nR, k3, _, rfl, g2, C, ex, _, _, rfl, s1 _ _ k1, T.cl, T.nF, k4, _, rfl, g2, C, ex, _, _, rfl, s1 _ _ k1, T.cl, T.nB, k5, (by show 4 ≤ sizeLine; decide), fun t2 ht2 => ?_⟩
  have s2 := s1.trans (same_new ht2 (.tup [.ref la', .ref D0', .str st2, .ref c']))
  have e1' := same_new ht2 (.tup [.ref la', .ref D0', .str st2, .ref c']) _ _ e1
  obtain ⟨_, _, _, _, _, i1, i2, i3, i4, i5, dp1⟩ := gr_dp G1 s2
  obtain ⟨_, _, _, _, _, j1, j2, j3, j4, j5, dp2⟩ := gr_dp G2 s2
  cases h1.symm.trans i1
  cases k1.symm.trans j1
  cases h2.symm.trans i2
  cases h3.symm.trans i3
  cases h5.symm.trans i5
  cases k2.symm.trans j2
  cases k3.symm.trans j3
  cases k5.symm.trans j5
  refine ⟨gD ks rs st, gD ks rs st2, .tup (SqT.of e1') dp1, .tup (SqT.of upd_same) dp2, gD_shaped L1, gD_shaped L2, ?_⟩
  rw [gD_eqv L1]
  exact q _ s2
end
end Pa
/-! d.get(x, y) of a dict that stands in the module, texts to numbers; own text -/
namespace Sv
open PySem PySem.Spec PyProof.Rows L2
/-- a module's dict of texts to numbers -/
def KDict (K : PySem.W.Frag) (w : World) (d : Addr) (kvs : List (Str × Int)) : Prop := (d == sysModules) = false ∧ (kvs.map (·.1)).Nodup ∧ ∃ (es : Array DictEntry) (ep : Nat), K.lookup d = some ⟨.type "dict", none, .dict es ep, #[]⟩ ∧
  Paired (fun (e : DictEntry) (kv : Str × Int) => e.hash = keyH w (Sum.inr kv.1) ∧ (∃ t, e.key = .str kv.1 t) ∧ ∃ t, e.val = .int kv.2 t) es.toList kvs
theorem KDict.of {P : Program} {K : PySem.W.Frag} {w : World} {d : Addr} {kvs : List (Str × Int)} {h : Heap} (D : KDict K w d kvs) (X : K.In h) : ∃ vs : List (Key × Value), Paired (fun (kv : Str × Int) (q : Key × Value) => q.1 = Sum.inr kv.1 ∧ RelV (.int kv.2) q.2) kvs vs ∧ h.DictOf (mixKind P w) d vs := by
  obtain ⟨_, hn, es, ep, hl, pp⟩ := D
  have ho := X _ _ hl
  have key : ∀ {el : List DictEntry} {kvs : List (Str × Int)}, Paired (fun (e : DictEntry) (kv : Str × Int) => e.hash = keyH w (Sum.inr kv.1) ∧ (∃ t, e.key = .str kv.1 t) ∧ ∃ t, e.val = .int kv.2 t) el kvs → ∃ vs : List (Key × Value), Paired (fun (kv : Str × Int) (q : Key × Value) => q.1 = Sum.inr kv.1 ∧ RelV (.int kv.2) q.2) kvs vs ∧ Pairs (mixKind P w) el vs ∧ (∀ e ∈ el, ∃ k, (mixKind P w).is k e.key = true ∧ e.hash = (mixKind P w).hash k) ∧ vs.map (·.1) = kvs.map fun kv => Sum.inr kv.1 := by
    intro el kvs p
    induction p with
    | nil => exact ⟨[], .nil, .nil, (fun e h => by cases h), rfl⟩
    | @cons e kv el kvs h _ ih =>
      obtain ⟨vs, p1, p2, p3, p4⟩ := ih
      obtain ⟨h1, ⟨t, h2⟩, u, h3⟩ := h
      have hk : (mixKind P w).is (Sum.inr kv.1) e.key = true := by
        rw [h2]
        show keyIs (Sum.inr kv.1) (.str kv.1 t) = true
        show Value.isStrOf kv.1 (.str kv.1 t) = true
        simp [Value.isStrOf]
      refine ⟨(Sum.inr kv.1, e.val) :: vs, .cons ⟨rfl, u, h3⟩ p1, .cons hk rfl p2, fun e' he => ?_, by rw [List.map_cons, List.map_cons, p4]⟩
      rcases List.mem_cons.mp he with rfl | he
      · exact ⟨_, hk, h1⟩
      · exact p3 e' he
  obtain ⟨vs, p1, p2, p3, p4⟩ := key pp
  refine ⟨vs, p1, _, es, ep, ho, ⟨rfl, rfl, rfl⟩, rfl, fun e he => p3 e (Array.mem_toList_iff.mpr he), p2, ?_⟩
  have e : (kvs.map fun kv => (Sum.inr kv.1 : Key)) = (kvs.map (·.1)).map Sum.inr := by rw [List.map_map]; rfl
  rw [p4, e]
  exact List.Pairwise.map _ (fun a b h e => h (Sum.inr.inj e)) hn
theorem kval_at {x : Str} : ∀ {kvs : List (Str × Int)} {vs : List (Key × Value)}, Paired (fun (kv : Str × Int) (q : Key × Value) => q.1 = Sum.inr kv.1 ∧ RelV (.int kv.2) q.2) kvs vs → RelO ((kvs.lookup x).map V.int) (valueAt vs (Sum.inr x : Key))
  | _, _, .nil => trivial
  | kv :: l, q :: m, .cons h t => by
    have ih := kval_at (x := x) t
    obtain ⟨h1, h2⟩ := h
    obtain ⟨k, n⟩ := kv
    have hv : valueAt (q :: m) (Sum.inr x : Key) = if q.1 = Sum.inr x then some q.2 else valueAt m (Sum.inr x) := by
      unfold valueAt
      rw [List.find?_cons]
      by_cases e : q.1 = (Sum.inr x : Key)
      · rw [if_pos e, decide_eq_true e]; rfl
      · rw [if_neg e, decide_eq_false e]
    rw [hv, List.lookup_cons]
    by_cases e : x = k
    · subst e
      rw [if_pos h1, beq_self_eq_true]
      exact h2
    · rw [if_neg (fun q => e (Sum.inr.inj (q.symm.trans h1))), beq_eq_false_iff_ne.mpr e]
      exact ih
def tDGetK (kvs : List (Str × Int)) (ty tx : TE) : TE := fun σ H Q => ty σ H fun y H2 => tx σ H2 fun z H3 => ∃ x, y = .str x ∧ Q (((kvs.lookup x).map V.int).getD z) H3
section
variable {X : Cx} {o e f : Expr} {ty tx : TE} {apos cpos : Pos} {a : Addr} {kvs : List (Str × Int)}
theorem pe_dgetK (ho : PE X o (tC (.ref a))) (D : KDict X.K X.w a kvs) (he : PE X e ty) (hf : PE X f tx) (m : M2 X o "get" apos e f cpos) : PE X (.Call (.Attribute o "get" apos) [e, f] [] cpos) (tDGetK kvs ty tx) := by
  refine ⟨fun pins s σ H Q I h => ?_⟩
  refine wpAny_Call_method m.base m.few m.line PySem.F.plainAttrs_dict PySem.F.slot_dict_get PySem.F.type_dict_get (thn (ho.run pins s σ H (fun x H1 => x = .ref a ∧ H1 = H) I ⟨rfl, rfl⟩) fun u s1 ⟨x, H1, I1, rx, ex, eH⟩ => ?_)
  subst ex eH
  obtain rfl : u = Value.ref a := rx
  have hD : ∀ {s : Shared} {H : Hp}, Inv X pins σ H s → ∃ vs : List (Key × Value), Paired (fun (kv : Str × Int) (q : Key × Value) => q.1 = Sum.inr kv.1 ∧ RelV (.int kv.2) q.2) kvs vs ∧ s.heap.DictOf (mixKind X.prog X.w) a vs := fun I => D.of I.kIn
  obtain ⟨vs, pv, dd⟩ := hD I1
  refine ⟨dd.typeIs, fun b q => ?_, ?_⟩
  · cases q
    obtain ⟨ob, _, _, h1, h2, _⟩ := dd
    exact ⟨ob, h1, h2.2.1⟩
  rw [m.trees]
  refine Calls.callWith_builtin rfl (Calls.evalArgs_plain (Calls.spliced_cons (thn (he.run pins s1 σ _ _ I1 h) fun iv s2 ⟨y, H2, I2, ry, q2⟩ =>
    Calls.spliced_cons (thn (hf.run pins s2 σ H2 _ I2 q2) fun fv s3 ⟨z, H3, I3, rz, x, ey, q3⟩ => Calls.spliced_nil ?_))))
  subst ey
  obtain ⟨vs3, pv3, dd3⟩ := hD I3
  refine call_meetsIn PySem.F.slot_dict_get dd3.typeIs PySem.F.entry_dict_get (PySem.F.args_dict_get_3 _ _ _) (meets_dict_get_default (mixKind X.prog X.w) a (kV_is (k := Sum.inr x) ry) D.1 fv) ⟨_, dd3.mapOf, _, H3, I3.tok _, ?_, q3⟩
  exact (kval_at pv3).getD rz
end
end Sv
set_option maxHeartbeats 1000000
namespace Pa
open PySem PySem.Spec PyProof.Rows L2 Ty Se Sv
/-! ### marks -/
abbrev marksL : List Str := ["near", "blank", "row", "in", "out", "soft"]
abbrev stepsL : List (Str × Int) := [("in", 1), ("out", -1)]
def stepN (x : Str) : Int := (stepsL.lookup x).getD 0
def stepsP : Int → List Str → Bool
  | d, [] => decide (d = 0)
  | d, x :: l => if d + stepN x < 0 then false else stepsP (d + stepN x) l
/-- marks as they are handed in: a tuple or a list of texts -/
def NtV (H : Hp) (v : V) (n : Bool × List Str) : Prop := ∃ a, v = .ref a ∧ H a = some (if n.1 then .tup (n.2.map V.str) else .lst (n.2.map V.str))
def rightP (rs : Rls) (tag : Str) (n : Bool × List Str) : Bool := decide (tag ∈ labsOf rs) && (n.1 && (decide (n.2.length = (spelledP rs tag).length - 1) && (n.2.all (fun x => decide (x ∈ marksL)) && stepsP 0 n.2)))
theorem scSteps : FnScope ["marks", "deep", "mark"] ["marks"] (defScope sSteps) := ⟨rfl, rfl, rfl, by decide +kernel, rfl, by decide +kernel, by decide +kernel⟩
def spSteps : Sp := fun vs H Q _ => ∃ (a : Addr) (l : List Str), vs = [.ref a] ∧ H a = some (.tup (l.map V.str)) ∧ l.length ≤ 1000 ∧ Q (.bl (stepsP 0 l)) H
theorem stepN_le (x : Str) : -1 ≤ stepN x ∧ stepN x ≤ 1 := by
  unfold stepN
  rw [List.lookup_cons]
  by_cases e : x = "in"
  · rw [e, beq_self_eq_true]; decide
  · rw [beq_eq_false_iff_ne.mpr e, List.lookup_cons]
    by_cases e2 : x = "out"
    · rw [e2, beq_self_eq_true]; decide
    · rw [beq_eq_false_iff_ne.mpr e2]
      exact ⟨by show (-1 : Int) ≤ 0; decide, by show (0 : Int) ≤ 1; decide⟩
theorem step_get (x : Str) : ((stepsL.lookup x).map V.int).getD (.int 0) = .int (stepN x) := by
  unfold stepN
  cases stepsL.lookup x <;> rfl
section
variable {P : Program} {w : World} {K : PySem.W.Frag} {mg : Str → Option Value} {base : Heap} {f dS : Addr} {fd : FuncData}
theorem ok_steps (F : Fun K "steps_right" "steps_right" sSteps f fd) (mS : mg "STEPS" = some (.ref dS)) (DS : KDict K w dS stepsL) : FnOk P w K mg base CX0 1 f fd ["marks"] spSteps := by
  refine F.ok scSteps (fun vs H Q E h => ?_) (fun cdv A outer s H vs Q E hr h => ?_)
  · obtain ⟨_, _, rfl, _⟩ := h
    rfl
  refine ⟨_, pss_cons (ps_set (i := 1) scSteps.nd rfl (.inl rfl) pe_int)
    (pss_cons (ps_for PassesOwn.never rfl (pi_tup (pv 0)) (pg_name (i := 2) scSteps.nd rfl (Or.inl rfl))
      (pss_cons (ps_aug (i := 1) scSteps.nd rfl (Or.inl rfl) (pe_dgetK (pe_glob rfl mS (show RelV (.ref dS) (.ref dS) from rfl)) DS (pv 2) pe_int ⟨rfl, rfl, rfl, rfl⟩) ip_add)
      (pss_one (ps_if (pt_cmpR op_lt (pv 1) pe_int (nomark _)) (pss_one (ps_ret pe_bl)) pss_nil))))
    (pss_one (ps_ret (pe_cmpR op_eq (pv 1) pe_int (nomark _))))), ?_⟩
  obtain ⟨a, l, rfl, ha, hl, q⟩ := h
  refine ⟨_, rfl, a, rfl, ⟨_, SqT.of ha⟩, ?_⟩
  refine for_tup (K := K) (xs := l.map V.str) (fun i σ H' => ∃ (d : Int) (x2 : Option V), σ = [some (.ref a), some (.int d), x2] ∧ H' = H ∧ stepsP 0 l = stepsP d (l.drop i)) ⟨0, _, rfl, rfl, rfl⟩ (fun i σ H' _ h => by obtain ⟨_, _, _, rfl, _⟩ := h; exact SqT.of ha) (fun i v σ H' hv h => ?turn) (fun σ H' h => ?done)
  case turn =>
    obtain ⟨d, x2, rfl, rfl, h1⟩ := h
    rw [List.getElem?_map] at hv
    cases e : l[i]? with
    | none => rw [e] at hv; cases hv
    | some x =>
      rw [e] at hv
      cases hv
      have hi := (List.getElem?_eq_some_iff.mp e).1
      have hdr : l.drop i = x :: l.drop (i + 1) := by
        rw [List.drop_eq_getElem_cons hi]
        congr 1
        exact Option.some.inj ((List.getElem?_eq_getElem hi).symm.trans e)
      rw [hdr] at h1
      refine ⟨_, rfl, _, rfl, x, rfl, ?_⟩
      rw [step_get]
      refine ⟨d, _, rfl, rfl, ?_⟩
      refine ⟨_, rfl, _, _, rfl, rfl, _, rfl, ?_⟩
      have e3 : stepsP d (x :: l.drop (i + 1)) = if d + stepN x < 0 then false else stepsP (d + stepN x) (l.drop (i + 1)) := rfl
      rw [e3] at h1
      by_cases hc : d + stepN x < 0
      · rw [if_pos hc] at h1
        refine ifT (decide_eq_true hc) ?_
        rw [← h1]
        exact q
      · rw [if_neg hc] at h1
        exact ifF (decide_eq_false hc) ⟨_, _, rfl, rfl, h1⟩
  obtain ⟨d, x2, rfl, rfl, h1⟩ := h
  rw [List.length_map, List.drop_length] at h1
  refine ⟨_, rfl, rfl, ?_⟩
  have e3 : stepsP d [] = decide (d = 0) := rfl
  rw [dec_int, ← e3, ← h1]
  exact q
end
end Pa
set_option maxHeartbeats 1000000
namespace Pa
open PySem PySem.Spec PyProof.Rows L2 Ty Se Sv
/-! ### marks_right -/
theorem in_strs (x : Str) : ∀ hs : List Str, inV (.str x) (hs.map V.str) = decide (x ∈ hs)
  | [] => rfl
  | e :: es => by
    have ih := in_strs x es
    unfold inV at ih ⊢
    rw [List.map_cons, List.any_cons, ih]
    show (eqV (.str e) (.str x) || _) = _
    have : eqV (.str e) (.str x) = decide (x = e) := by
      show (e == x) = _
      rw [Bool.eq_iff_iff, beq_iff_eq, decide_eq_true_eq]
      exact eq_comm
    rw [this, Bool.eq_iff_iff]
    simp [List.mem_cons]
theorem strs_flat (hs : List Str) : (hs.map V.str).all flatV = true := by
  rw [List.all_eq_true]
  intro v hv
  obtain ⟨x, _, rfl⟩ := List.mem_map.mp hv
  rfl
theorem strs_at {l : List Str} {i : Nat} {v : V} (h : (l.map V.str)[i]? = some v) : ∃ x, l[i]? = some x ∧ v = V.str x := by
  rw [List.getElem?_map] at h
  cases e : l[i]? with
  | none => rw [e] at h; cases h
  | some x => rw [e] at h; exact ⟨x, rfl, (Option.some.inj h).symm⟩
theorem bools_map {α : Type} {g : α → Bool} : ∀ {acc : List V} {l : List α}, Paired (fun v x => v = V.bl (g x)) acc l → acc = (l.map g).map V.bl
  | _, _, .nil => rfl
  | _, _, .cons h t => by rw [List.map_cons, List.map_cons, h, bools_map t]
theorem all_id {α : Type} {g : α → Bool} (l : List α) : (l.map g).all id = l.all g := by rw [List.all_map]; rfl
/-- an alternative's row, of a label that is one -/
def spRowOf (K : PySem.W.Frag) (C : Addr) : Sp := fun vs H Q _ => ∃ (g : Addr) (ks : Kds) (rs : Rls) (bs : Brs) (st x : Str), vs = [.ref g, .str x] ∧ GrS K C H g ks rs bs st ∧ x ∈ labsOf rs ∧ ∀ b, H b = some (.tup ((spelledP rs x).map V.str)) → Q (.ref b) H
theorem scMarksR : FnScope ["grammar", "label", "marks", "mark"] ["grammar", "label", "marks"] (defScope sMarksR) := ⟨rfl, rfl, rfl, by decide +kernel, rfl, by decide +kernel, by decide +kernel⟩
def spMarksR (K : PySem.W.Frag) (C : Addr) : Sp := fun vs H Q _ => ∃ (g : Addr) (v : V) (ks : Kds) (rs : Rls) (bs : Brs) (st tag : Str) (n : Bool × List Str), vs = [.ref g, .str tag, v] ∧ GrS K C H g ks rs bs st ∧ NtV H v n ∧ n.2.length ≤ 1000 ∧ ∀ H', Same H H' → Q (.bl (rightP rs tag n)) H'
section
variable {P : Program} {w : World} {K : PySem.W.Frag} {mg : Str → Option Value} {base : Heap} {f C CN fN fL fR fS dM : Addr} {fd dL dR dS : FuncData}
theorem ok_rowof (F : Fun K "row_of" "Grammar.row_of" gRowOf f fd) (T : GTxt K mg C CN fN) : FnOk P w K mg base CX0 1 f fd ["self", "label"] (spRowOf K C) := by
  refine F.ok scRowOf (fun vs H Q E h => ?_) (fun cdv A outer s H vs Q E hr h => ?_)
  · obtain ⟨_, _, _, _, _, _, rfl, _⟩ := h
    rfl
  have hu1 := hu_of hr
  obtain ⟨g, ks, rs, bs, st, x, rfl, G, hx, q⟩ := h
  obtain ⟨dx, c, pd, hd, ed, wd, fs, cb, pk, ek, wk, h1, h2, h3, h4, h5, h6, h7, h8, h9, h10, h11, h12, h13, h14, h15, h16, h17⟩ := G.ob
  refine ⟨_, pss_cons (ps_if (pt_cmp (pc_dnotin hu1 (pv 1) (pe_fld (pv 0) rfl))) pss_never pss_nil)
    (pss_one (ps_ret (pe_dget hu1 (pe_fld (pv 0) rfl) (pv 1) (fun _ _ => rfl)))), ?_⟩
  refine ⟨_, rfl, _, rfl, g, C, dx, _, _, rfl, h1, T.cl, T.nL, h6, ed, _, rfl, DGet.k (k := Sum.inr x) h13, _, rfl, ?_⟩
  rw [key_in (spe_keysC h14) x, decide_eq_true hx]
  refine iteF ?_
  rcases spelled_at x h14 with ⟨b, e1, e2⟩ | ⟨e1, e2⟩
  · refine ⟨_, rfl, g, C, dx, _, _, rfl, h1, T.cl, T.nL, h6, _, rfl, ed, _, rfl, ?_, q b e2⟩
    rw [← e1]
    exact DGet.k (k := Sum.inr x) h13
  · have := key_in (spe_keysC h14) x
    rw [e1, decide_eq_true hx] at this
    cases this
theorem ok_marksr (F : Fun K "marks_right" "marks_right" sMarksR f fd) (T : GTxt K mg C CN fN)
    (GL : FnOk P w K mg base CX0 1 fL dL ["self"] (spLabels K C)) (bL : L2.Binds K dL ["self"] []) (ML : Meth K C "labels" fL)
    (GR : FnOk P w K mg base CX0 1 fR dR ["self", "label"] (spRowOf K C)) (bR : L2.Binds K dR ["self", "label"] []) (MR : Meth K C "row_of" fR)
    (GS : FnOk P w K mg base CX0 1 fS dS ["marks"] spSteps) (bS : L2.Binds K dS ["marks"] []) (kS : PySem.W.keepIn K (.ref fS) = true) (mS : mg "steps_right" = some (.ref fS))
    (mM : mg "MARKS" = some (.ref dM)) (hM : ∀ H, SqT K H dM (marksL.map V.str)) (mi : mg "isinstance" = none) (mt : mg "tuple" = none) (ms : mg "str" = none) (ml : mg "len" = none) (mx : mg "max" = none) (ma : mg "all" = none) :
    FnOk P w K mg base CX0 2 f fd ["grammar", "label", "marks"] (spMarksR K C) := by
  refine F.ok scMarksR (fun vs H Q E h => ?_) (fun cdv A outer s H vs Q E hr h => ?_)
  · obtain ⟨_, _, _, _, _, _, _, _, rfl, _⟩ := h
    rfl
  refine ⟨_, pss_cons (ps_if (PW.pt (pw_or (pt_cmpR (show OpR _ (compareOp .NotIn) (rIn K true) from op_notIn_seq) (pv 1) (pe_meth0 (pv 0) T.cl ML GL hr bL .nil pass0) rfl) (pw_or1 (pt_not (pt_val (pe_callB call_isi rfl mi (by decide +kernel) (pa_cons (pv 2) (pa_cons (pe_bltn rfl mt (by decide +kernel) (show RelV (.ty "tuple") (.type "tuple") from rfl)) pa_nil)))))))) (pss_one (ps_ret pe_bl)) pss_nil)
    (pss_cons (ps_if (PW.pt (pw_or (pt_cmpR op_ne (pe_callB call_len_seq rfl ml PySem.boot_len (pa_cons (pv 2) pa_nil)) (pe_callB (call_max2 rfl) rfl mx (by decide +kernel) (pa_cons pe_int (pa_cons (pe_op op_sub (pe_callB call_len_seq rfl ml PySem.boot_len (pa_cons (pe_meth (pv 0) T.cl MR GR hr bR .nil pass0 (pa_cons (pv 1) pa_nil)) pa_nil)) pe_int) pa_nil))) (nomark _))
        (pw_or1 (pt_not (pt_val (pe_callB (show CallR _ (.builtin "all") (rAll K) from cr_all rfl) rfl ma (by decide +kernel) (pa_cons (pe_lc (own := [("mark", 3)]) (g := gName 3) (tt := tYes) rfl scMarksR.nd (pi_tup (pv 2)) (blkOk_by (N := ["grammar", "label", "marks", "mark"]) (sc := defScope sMarksR) (by decide +kernel))
          (fun _ _ _ _ _ => pg_name (i := 3) scMarksR.nd rfl (Or.inl rfl)) (fun _ _ _ _ _ => pts_nil) (fun _ _ _ _ _ => pe_callB (show CallR _ (.builtin "isinstance") (rIsi K) from call_isi) rfl mi (by decide +kernel) (pa_cons (pv 3) (pa_cons (pe_bltn rfl ms (by decide +kernel) (show RelV (.ty "str") (.type "str") from rfl)) pa_nil)))) pa_nil))))))) (pss_one (ps_ret pe_bl)) pss_nil)
    (pss_one (ps_ret (pe_and (pe_callB (show CallR _ (.builtin "all") (rAll K) from cr_all rfl) rfl ma (by decide +kernel) (pa_cons (pe_lc (own := [("mark", 3)]) (g := gName 3) (tt := tYes) rfl scMarksR.nd (pi_tup (pv 2)) (blkOk_by (N := ["grammar", "label", "marks", "mark"]) (sc := defScope sMarksR) (by decide +kernel))
          (fun _ _ _ _ _ => pg_name (i := 3) scMarksR.nd rfl (Or.inl rfl)) (fun _ _ _ _ _ => pts_nil) (fun _ _ _ _ _ => pe_cmpR (show OpR _ (compareOp .In) (rIn K false) from op_in_seq) (pv 3) (pe_glob rfl mM (show RelV (.ref dM) (.ref dM) from rfl)) rfl)) pa_nil)) (pe_one (pe_call GS hr rfl mS kS bS .nil pass0 (pa_cons (pv 2) pa_nil))))))), ?_⟩
  obtain ⟨g, v, ks, rs, bs, st, tag, n, rfl, G, NV, hl, q⟩ := h
  obtain ⟨gx, gc, gpd, ghd, ged, gwd, gfs, gcb, gpk, gek, gwk, y1, y2, y3, y4, y5, y6, y7, y8, y9, y10, y11, y12, y13, y14, y15, y16, y17⟩ := id G.ob
  obtain ⟨b, l⟩ := n
  obtain ⟨a, rfl, ha⟩ := NV
  replace hl : l.length ≤ 1000 := hl
  have no : rightP rs tag (b, l) = false → ∀ H', Same H H' → Q (.bl false) H' := fun e H' s => by rw [← e]; exact q H' s
  -- the label, a tuple
  refine ⟨_, rfl, _, rfl, g, gx, gfs, rfl, y1, y17 _ (by simp [methL]), g, ks, rs, bs, st, rfl, G, fun p hp => ?_⟩
  have s1 := same_new hp (.lst ((labsOf rs).map V.str))
  have e1 : (upd H p (.lst ((labsOf rs).map V.str))) p = some (.lst ((labsOf rs).map V.str)) := upd_same
  generalize upd H p (.lst ((labsOf rs).map V.str)) = H1 at s1 e1 ⊢
  refine ⟨p, _, rfl, .inl (SqL.of e1), rfl, strs_flat _, _, rfl, ?_⟩
  dsimp only
  rw [in_strs]
  by_cases ht : tag ∈ labsOf rs
  case neg =>
    rw [decide_eq_false ht]
    refine iteT (iteT (no ?_ H1 s1))
    unfold rightP
    rw [decide_eq_false ht]; rfl
  rw [decide_eq_true ht]
  refine iteF ?_
  cases b with
  | false =>
    refine ⟨_, rfl, .ref a, .ty "tuple", _, _, false, rfl, .ty _, .base (.lst (s1 _ _ ha)), kit_ty (show kitB "list" "tuple" = some false by decide +kernel), false, rfl, iteT (no ?_ H1 s1)⟩
    unfold rightP
    rw [decide_eq_true ht]; rfl
  | true =>
  refine ⟨_, rfl, .ref a, .ty "tuple", _, _, true, rfl, .ty _, .base (.tup (s1 _ _ ha)), kit_ty (show kitB "tuple" "tuple" = some true by decide +kernel), true, rfl, iteF ?_⟩
  -- as many as there are gaps, all texts
  refine ⟨_, rfl, a, _, rfl, .inr (SqT.of (s1 _ _ ha)), ?_⟩
  have y1' := s1 _ _ y1
  refine ⟨_, rfl, g, gx, gfs, rfl, y1', y17 _ (by simp [methL]), _, rfl, g, ks, rs, bs, st, tag, rfl, G.same s1, ht, fun rb hrb => ?_⟩
  refine ⟨rb, _, rfl, .inr (SqT.of hrb), _, _, rfl, rfl, _, _, rfl, ?_⟩
  have emx : (if ((((spelledP rs tag).map V.str).length : Nat) : Int) - 1 > 0 then ((((spelledP rs tag).map V.str).length : Nat) : Int) - 1 else 0) = (((spelledP rs tag).length - 1 : Nat) : Int) := by
    rw [List.length_map]
    split <;> omega
  rw [emx, List.length_map]
  refine ⟨rfl, _, rfl, ?_⟩
  rw [dec_int]
  by_cases hlen : l.length = (spelledP rs tag).length - 1
  case neg =>
    refine ifT (by show (!decide (((l.length : Nat) : Int) = (((spelledP rs tag).length - 1 : Nat) : Int))) = true; rw [decide_eq_false (by omega)]; rfl) (iteT (no ?_ H1 s1))
    unfold rightP
    rw [decide_eq_true ht, decide_eq_false hlen]; rfl
  refine ifF (by show (!decide (((l.length : Nat) : Int) = (((spelledP rs tag).length - 1 : Nat) : Int))) = false; rw [decide_eq_true (by omega)]; rfl) ?_
  refine ⟨_, rfl, a, rfl, ⟨_, SqT.of (s1 _ _ ha)⟩, fun D hD => ?_⟩
  refine lc_tup (K := K) (xs := l.map V.str) (LcR H1 D (fun _ v (x : Str) => v = V.bl ((fun _ => true) x)) l) (.start hD) (fun i H' _ h => by obtain ⟨_, _, _, _, sx⟩ := h; exact SqT.of (sx _ _ (s1 _ _ ha))) (fun i v H' hv h => ?turn1) (fun H2 h => ?done1)
  case turn1 =>
    obtain ⟨acc, f1, f2, f3, f4⟩ := h
    obtain ⟨x, hx, rfl⟩ := strs_at hv
    have hi := (List.getElem?_eq_some_iff.mp hx).1
    refine ⟨rfl, ?_⟩
    simp only [tYes, ↓reduceIte]
    refine ⟨_, rfl, .str x, .ty "str", _, _, true, rfl, .ty _, .base (.str x), kit_ty (show kitB "str" "str" = some true by decide +kernel), acc, f1, by rw [sizeLine_eq, f2]; omega, ?_⟩
    exact LcR.step (fun _ r => r) f1 f2 f3 f4 same_refl hD hx rfl
  obtain ⟨acc, e2, p2, s2'⟩ := h.done (by rw [List.length_map])
  have s2 := s1.trans s2'
  cases bools_map p2
  refine ⟨D, _, rfl, SqL.of e2, ?_⟩
  rw [all_id, List.all_eq_true.mpr (fun _ _ => rfl)]
  refine ⟨true, rfl, iteF ?_⟩
  -- marks that are, in steps
  refine ⟨_, rfl, a, rfl, ⟨_, SqT.of (s2 _ _ ha)⟩, fun D2 hD2 => ?_⟩
  refine lc_tup (K := K) (xs := l.map V.str) (LcR H2 D2 (fun _ v (x : Str) => v = V.bl ((fun x => decide (x ∈ marksL)) x)) l) (.start hD2) (fun i H' _ h => by obtain ⟨_, _, _, _, sx⟩ := h; exact SqT.of (sx _ _ (s2 _ _ ha))) (fun i v H' hv h => ?turn2) (fun H3 h => ?done2)
  case turn2 =>
    obtain ⟨acc, f1, f2, f3, f4⟩ := h
    obtain ⟨x, hx, rfl⟩ := strs_at hv
    have hi := (List.getElem?_eq_some_iff.mp hx).1
    refine ⟨rfl, ?_⟩
    simp only [tYes, ↓reduceIte]
    refine ⟨_, rfl, dM, _, rfl, .inr (hM _), rfl, strs_flat _, acc, f1, by rw [sizeLine_eq, f2]; omega, ?_⟩
    exact LcR.step (fun _ r => r) f1 f2 f3 f4 same_refl hD2 hx (congrArg V.bl (in_strs _ _))
  obtain ⟨acc3, e3, p3, s3'⟩ := h.done (by rw [List.length_map])
  have s3 := s2.trans s3'
  cases bools_map p3
  have fin : rightP rs tag (true, l) = (l.all (fun x => decide (x ∈ marksL)) && stepsP 0 l) := by
    unfold rightP
    rw [decide_eq_true ht, decide_eq_true hlen]; rfl
  refine ⟨D2, _, rfl, SqL.of e3, ?_⟩
  rw [all_id]
  refine ⟨_, rfl, ?_⟩
  cases hall : l.all (fun x => decide (x ∈ marksL)) with
  | false =>
    refine iteF (no ?_ H3 s3)
    rw [fin, hall]; rfl
  | true =>
    refine iteT ⟨_, rfl, a, l, rfl, s3 _ _ ha, hl, ?_⟩
    have := q H3 s3
    rw [fin, hall, Bool.true_and] at this
    exact this
end
end Pa
set_option maxHeartbeats 1000000
namespace Pa
open PySem PySem.Spec PyProof.Rows L2 Ty Se Sv
/-! ### Layout.__init__ -/
theorem GrN.same {C : Addr} {H H' : Hp} {g d : Addr} {o : HO} (N : GrN C H g d) (e : H g = some o) (s : Same H H') : GrN C H' g d := fun dx fs e' => N dx fs (by rw [e, ← e', s _ _ e])
theorem GrS.newN {K : PySem.W.Frag} {C : Addr} {H H' : Hp} {g d : Addr} {ks : Kds} {rs : Rls} {bs : Brs} {st : Str} (h : GrS K C H g ks rs bs st) (n : H d = none) (s : Same H H') : GrN C H' g d := fun dx' fs' e' x hx e => by
  obtain ⟨dx, c, pd, hd, ed, wd, fs, cb, pk, ek, wk, h1, h2, h3, h4, h5, h6, h7, h8, h9, h10, h11, h12, h13, h14, h15, h16, h17⟩ := h.ob
  have q := (s _ _ h1).symm.trans e'
  cases q
  simp only [List.mem_cons, List.not_mem_nil, or_false] at hx
  rcases hx with rfl | rfl | rfl | rfl
  · cases h4.symm.trans e; rw [h10] at n; cases n
  · cases h5.symm.trans e; rw [h12] at n; cases n
  · cases h6.symm.trans e; rw [h13] at n; cases n
  · cases h7.symm.trans e; rw [h15] at n; cases n
theorem GrS.frz {K : PySem.W.Frag} {C : Addr} {H : Hp} {g d : Addr} {ks : Kds} {rs : Rls} {bs : Brs} {st : Str} {kvs : List (Key × V)} (h : GrS K C H g ks rs bs st) (N : GrN C H g d) (e : H d = some (.dK kvs)) (o : HO) : GrS K C (upd H d o) g ks rs bs st := by
  obtain ⟨⟨dx, c, pd, hd, ed, wd, fs, cb, pk, ek, wk, h1, h2, h3, h4, h5, h6, h7, h8, h9, h10, h11, h12, h13, h14, h15, h16, h17⟩, dx2, la, D0, fs2, kv, rv, i1, i2, i3, i4, i5, i6, i7⟩ := h
  have np := N dx fs h1
  have n1 : pd ≠ d := fun q => np "patterns" (by simp) (by rw [h4, q])
  have n2 : hd ≠ d := fun q => np "homes" (by simp) (by rw [h5, q])
  have n3 : ed ≠ d := fun q => np "spelled" (by simp) (by rw [h6, q])
  have n4 : wd ≠ d := fun q => np "label_rows" (by simp) (by rw [h7, q])
  have up : ∀ {c u}, c ≠ d → H c = some u → (upd H d o) c = some u := fun n e => by rw [upd_ne n]; exact e
  have kx : KX [d] H (upd H d o) := KX.upd (by simp) _
  have nD : ∀ {c u}, H c = some u → (∀ kvs, u ≠ .dK kvs) → c ≠ d := fun e' ne q => by rw [q, e] at e'; exact ne _ (Option.some.inj e').symm
  have tk : Tk H (upd H d o) := fun c xs e' => up (nD e' (fun _ h => by cases h)) e'
  have ls : ∀ {b xs}, H b = some (.lst xs) → (upd H d o) b = some (.lst xs) := fun e' => up (nD e' (fun _ h => by cases h)) e'
  have gi := up (nD h1 (fun _ h => by cases h)) h1
  refine ⟨⟨dx, c, pd, hd, ed, wd, fs, cb, pk, ek, wk, gi, h2, h3, h4, h5, h6, h7, kx.seqT h8 (fun r q => ?_), paired_imp (fun _ _ r => r.tk tk) h9, up n1 h10, paired_imp (fun _ _ r => r.tk tk) h11, up n2 h12, up n3 h13, paired_imp (fun _ _ r => r.tk tk) h14, up n4 h15, h16, h17⟩, dx2, la, D0, fs2, kv, rv, up (nD i1 (fun _ h => by cases h)) i1, i2, i3, ls i4, paired_imp (fun _ _ r => r.tk tk) i5, ls i6, paired_imp (fun _ _ r => r.tk tk fun b xs _ e => ls e) i7⟩
  obtain rfl : c = d := by simpa using q
  rcases r with r | ⟨_, r⟩
  · rw [e] at r; cases r
  · rw [e] at r; cases r
/-- notes: labels with marks as handed in -/
abbrev Nts : Type := List (Str × (Bool × List Str))
def NkV (H : Hp) (kv : Key × V) (n : Str × (Bool × List Str)) : Prop := kv.1 = Sum.inr n.1 ∧ NtV H kv.2 n.2
theorem NtV.same {H H' : Hp} {v : V} {n : Bool × List Str} (h : NtV H v n) (s : Same H H') : NtV H' v n := let ⟨a, e, h⟩ := h; ⟨a, e, s _ _ h⟩
theorem NkV.same {H H' : Hp} {kv : Key × V} {n : Str × (Bool × List Str)} (h : NkV H kv n) (s : Same H H') : NkV H' kv n := ⟨h.1, h.2.same s⟩
theorem NtV.at {H : Hp} {v : V} {n : Bool × List Str} (h : NtV H v n) {d : Addr} {kvs : List (Key × V)} (e : H d = some (.dK kvs)) {o : HO} : NtV (upd H d o) v n := by
  obtain ⟨a, rfl, h⟩ := h
  refine ⟨a, rfl, ?_⟩
  rw [upd_ne (fun q => by rw [q, e] at h; obtain ⟨b, l⟩ := n; cases b <;> cases h)]
  exact h
def badP (rs : Rls) (n : Str × (Bool × List Str)) : Bool := !rightP rs n.1 n.2
def firstBad (rs : Rls) (N : Nts) : Option Str := (N.find? (badP rs)).map (·.1)
theorem firstBad_cons (rs : Rls) (n : Str × (Bool × List Str)) (N : Nts) : firstBad rs (n :: N) = if rightP rs n.1 n.2 = true then firstBad rs N else some n.1 := by
  unfold firstBad badP
  rw [List.find?_cons]
  cases rightP rs n.1 n.2 <;> rfl
structure YTxt (K : PySem.W.Frag) (C : Addr) : Prop where
  cl : Cls K C
  nG : NoAttr K C "grammar"
  nM : NoAttr K C "marks_kept"
/-- a layout that stands -/
def LayV (C : Addr) (H : Hp) (p g : Addr) (N : Nts) : Prop := ∃ (dx d : Addr) (kvs : List (Key × V)) (fs : List (Str × V)), H p = some (.ins C dx fs) ∧ fs.lookup ("grammar" : Str) = some (.ref g) ∧ fs.lookup ("marks_kept" : Str) = some (.ref d) ∧ fs.lookup ("marks_of" : Str) = none ∧ fs.lookup ("all_marks" : Str) = none ∧ H d = some (.dK kvs) ∧ Paired (NkV H) kvs N
theorem LayV.same {C : Addr} {H H' : Hp} {p g : Addr} {N : Nts} (h : LayV C H p g N) (s : Same H H') : LayV C H' p g N := by
  obtain ⟨dx, d, kvs, fs, h1, h2, h3, h4, h5, h6, h7⟩ := h
  exact ⟨dx, d, kvs, fs, s _ _ h1, h2, h3, h4, h5, s _ _ h6, paired_imp (fun _ _ r => r.same s) h7⟩
/-- d is not the layout's own dict -/
def LayN (C : Addr) (H : Hp) (p d : Addr) : Prop := ∀ dx fs, H p = some (.ins C dx fs) → fs.lookup ("marks_kept" : Str) ≠ some (.ref d)
theorem LayN.same {C : Addr} {H H' : Hp} {p d : Addr} {o : HO} (N : LayN C H p d) (e : H p = some o) (s : Same H H') : LayN C H' p d := fun dx fs e' => N dx fs (by rw [e, ← e', s _ _ e])
theorem LayV.newN {C : Addr} {H H' : Hp} {p g d : Addr} {N : Nts} (h : LayV C H p g N) (n : H d = none) (s : Same H H') : LayN C H' p d := fun dx' fs' e' e => by
  obtain ⟨dx, m, kvs, fs, h1, h2, h3, h4, h5, h6, h7⟩ := h
  have q := (s _ _ h1).symm.trans e'
  cases q
  cases h3.symm.trans e
  rw [h6] at n
  cases n
theorem LayV.upd {C : Addr} {H : Hp} {p g d : Addr} {N : Nts} {kvs : List (Key × V)} (h : LayV C H p g N) (n : LayN C H p d) (e : H d = some (.dK kvs)) (o : HO) : LayV C (upd H d o) p g N := by
  obtain ⟨dx, m, jvs, fs, h1, h2, h3, h4, h5, h6, h7⟩ := h
  have n1 : m ≠ d := fun q => n _ _ h1 (by rw [h3, q])
  have n2 : p ≠ d := fun q => by rw [q, e] at h1; cases h1
  exact ⟨dx, m, jvs, fs, by rw [upd_ne n2]; exact h1, h2, h3, h4, h5, by rw [upd_ne n1]; exact h6, paired_imp (fun _ _ r => ⟨r.1, r.2.at e⟩) h7⟩
theorem scYInit : FnScope ["self", "grammar", "marks", "label", "some"] ["self", "grammar", "marks"] (defScope yInit) := ⟨rfl, rfl, rfl, by decide +kernel, rfl, by decide +kernel, by decide +kernel⟩
def spYInit (K : PySem.W.Frag) (C CY CL : Addr) : Sp := fun vs H Q E => ∃ (p g d dx : Addr) (ks : Kds) (rs : Rls) (bs : Brs) (st : Str) (kvs : List (Key × V)) (N : Nts), vs = [.ref p, .ref g, .ref d] ∧ H p = some (.ins CY dx []) ∧ GrS K C H g ks rs bs st ∧ GrN C H g d ∧ H d = some (.dK kvs) ∧ Paired (NkV H) kvs N ∧ (∀ n, n ∈ N → n.2.2.length ≤ 1000) ∧
  (firstBad rs N = none → ∀ H', LayV CY H' p g N → (∀ d0, H d0 ≠ none → LayN CY H' p d0) → KX [p] H H' → Q .non H') ∧ (∀ t, firstBad rs N = some t → ∀ H', KX [d] H H' → Out1 E CL "label" H' (.str t))
section
variable {P : Program} {w : World} {K : PySem.W.Frag} {mg : Str → Option Value} {base : Heap} {f C CY CL fL fM : Addr} {fd dL dM : FuncData}
theorem ok_yinit (F : Fun K "__init__" "Layout.__init__" yInit f fd) (T : YTxt K CY)
    (GM : FnOk P w K mg base CX0 2 fM dM ["grammar", "label", "marks"] (spMarksR K C)) (bM : L2.Binds K dM ["grammar", "label", "marks"] []) (kM : PySem.W.keepIn K (.ref fM) = true) (mM : mg "marks_right" = some (.ref fM))
    (EL : ErrK K mg CL fL "NoLayout" "label") (GL : FnOk P w K mg base CX0 1 fL dL ["self", "label"] (spErr K CL "label")) (bL : Binds K dL ["self", "label"] []) (md : mg "dict" = none) :
    FnOk P w K mg base (L2.CX P w) 3 f fd ["self", "grammar", "marks"] (spYInit K C CY CL) := by
  refine F.okX scYInit (fun vs H Q E h => ?_) (fun cdv A outer s H vs Q E hr h => ?_)
  · obtain ⟨_, _, _, _, _, _, _, _, _, _, rfl, _⟩ := h
    rfl
  refine ⟨_, pss_cons (ps_lock (ps_for (passes_of rfl) rfl (pi_items (pv 2)) (pg_tup rfl (pgs_cons (pg_name (i := 3) scYInit.nd rfl (Or.inl rfl)) (pgs_cons (pg_name (i := 4) scYInit.nd rfl (Or.inl rfl)) pgs_nil)))
      (pss_one (ps_if (pt_not (pt_val (pe_call GM hr rfl mM kM bM .nil pass0 (pa_cons (pv 1) (pa_cons (pv 3) (pa_cons (pv 4) pa_nil))))))
        (pss_one (ps_raise rfl (takes_of rfl rfl rfl rfl) (pmk_oex EL.t EL.i EL.y GL (hr.mono (by decide)) bL .nil pass0 rfl EL.m (pa_cons (pv 3) pa_nil)))) pss_nil))))
    (pss_cons (ps_fld (pv 0) (pv 1) rfl)
    (pss_one (ps_fld (pv 0) (pe_callTy call_dictD rfl md (by decide +kernel) (pa_cons (pv 2) pa_nil)) rfl))), ?_⟩
  obtain ⟨p, g, d, dx, ks, rs, bs, st, kvs, N, rfl, hp, G, GN, hd, pN, hsz, q1, q2⟩ := h
  refine ⟨d, .dK kvs, hd, trivial, fun od => ?_⟩
  have pne : p ≠ d := fun e => by rw [e, hd] at hp; cases hp
  have up : ∀ {c u}, c ≠ d → H c = some u → (upd H d (.frz od (.dK kvs))) c = some u := fun n e => by rw [upd_ne n]; exact e
  have efr : (upd H d (.frz od (.dK kvs))) d = some (.frz od (.dK kvs)) := upd_same
  have kxL : KX [d] H (upd H d (.frz od (.dK kvs))) := KX.upd List.mem_cons_self _
  have back : ∀ H', Same (upd H d (.frz od (.dK kvs))) H' → Same H (upd H' d (.dK kvs)) := fun H' s c u e => by
    by_cases q : c = d
    · rw [q, upd_same, ← hd, ← q]; exact e
    · rw [upd_ne q]; exact s _ _ (up q e)
  have GL' := G.frz GN hd (.frz od (.dK kvs))
  have pNL : Paired (NkV (upd H d (.frz od (.dK kvs)))) kvs N := paired_imp (fun _ _ r => ⟨r.1, r.2.at hd⟩) pN
  generalize upd H d (.frz od (.dK kvs)) = HL at up efr kxL back GL' pNL
  have lN : kvs.length = N.length := pN.length
  refine ⟨_, rfl, d, od, kvs, rfl, efr, ?_⟩
  refine for_it walk_items (fun i σ H' => ∃ x1 x2, σ = [some (.ref p), some (.ref g), some (.ref d), x1, x2] ∧ Same HL H' ∧ firstBad rs N = firstBad rs (N.drop i)) ⟨_, _, rfl, same_refl, rfl⟩ (fun i σ H' _ h => by obtain ⟨_, _, _, s, _⟩ := h; exact s _ _ efr) (fun i x σ H1 H2 hi h z => ?turn) (fun σ H' h => ?done)
  case turn =>
    obtain ⟨x1, x2, rfl, s, es⟩ := h
    obtain ⟨t, x, y, rfl, hT, rfl, hx, hy⟩ := z
    have hk : kvs[i]? = some kvs[i] := List.getElem?_eq_getElem hi
    obtain ⟨n, hn, hk1, hk2⟩ := paired_get pNL i _ hk
    dsimp only at hx hy
    rw [hk] at hx hy
    cases hx
    cases hy
    have hdr : N.drop i = n :: N.drop (i + 1) := by
      rw [List.drop_eq_getElem_cons (by omega)]
      congr 1
      exact Option.some.inj ((List.getElem?_eq_getElem (by omega)).symm.trans hn)
    rw [hdr, firstBad_cons] at es
    have s1 := s.trans (same_new hT (.tup [kV (kvs[i].1), kvs[i].2]))
    refine ⟨t, _, rfl, SqT.of upd_same, rfl, _, _, rfl, _, _, rfl, rfl, ?_⟩
    generalize upd H1 t (.tup [kV (kvs[i].1), kvs[i].2]) = H2 at s1 ⊢
    obtain ⟨⟨kk, vv⟩, ekv⟩ : ∃ q, q = kvs[i] := ⟨_, rfl⟩
    rw [← ekv] at hk1 hk2 ⊢
    obtain rfl : kk = Sum.inr n.1 := hk1
    refine ⟨_, rfl, _, rfl, _, rfl, g, _, ks, rs, bs, st, n.1, n.2, rfl, GL'.same s1, hk2.same s1, hsz n (List.mem_of_getElem? hn), fun H3 s3 => ?_⟩
    have s2 := s1.trans s3
    refine ⟨_, rfl, ?_⟩
    cases hr : rightP rs n.1 n.2 with
    | true =>
      rw [hr, if_pos rfl] at es
      exact iteF ⟨_, _, rfl, s2, es⟩
    | false =>
      rw [hr, if_neg Bool.false_ne_true] at es
      exact iteT ⟨_, rfl, raise1 EL.t EL.fd (q2 _ es _ (kxL.trans (KX.of s2)))⟩
  obtain ⟨x1, x2, rfl, s, es⟩ := h
  rw [lN, List.drop_length] at es
  refine ⟨s _ _ efr, ?_⟩
  have sb := back _ s
  have hd1 : (upd H' d (.dK kvs)) d = some (.dK kvs) := upd_same
  generalize upd H' d (.dK kvs) = H1 at sb hd1 ⊢
  refine ⟨_, rfl, _, rfl, p, CY, dx, [], rfl, sb _ _ hp, T.cl, T.nG, (by show 0 < 1000; decide), ?_⟩
  have hd2 : (upd H1 p (.ins CY dx (putF "grammar" (.ref g) []))) d = some (.dK kvs) := by rw [upd_ne (Ne.symm pne)]; exact hd1
  have kx2 : KX [p] H (upd H1 p (.ins CY dx (putF "grammar" (.ref g) []))) := (KX.of sb).put (by simp)
  have e2 : (upd H1 p (.ins CY dx (putF "grammar" (.ref g) []))) p = some (.ins CY dx (putF "grammar" (.ref g) [])) := upd_same
  generalize upd H1 p (.ins CY dx (putF "grammar" (.ref g) [])) = H2 at hd2 kx2 e2 ⊢
  refine ⟨_, rfl, d, kvs, rfl, .inl hd2, fun m hm => ?_⟩
  have mp : m ≠ p := fun e => by rw [e, e2] at hm; cases hm
  have s3 := same_new hm (.dK kvs)
  have kx3 : KX [p] H (upd H2 m (.dK kvs)) := kx2.trans (KX.of s3)
  have e3 : (upd H2 m (.dK kvs)) m = some (.dK kvs) := upd_same
  have p3 := s3 _ _ e2
  generalize upd H2 m (.dK kvs) = H3 at s3 kx3 e3 p3 ⊢
  refine ⟨_, rfl, p, CY, dx, _, rfl, p3, T.cl, T.nM, (by show 1 < 1000; decide), ?_⟩
  have kx4 : KX [p] H (upd H3 p (.ins CY dx (putF "marks_kept" (.ref m) (putF "grammar" (.ref g) [])))) := kx3.put (by simp)
  have hnl : ∀ d0, H d0 ≠ none → LayN CY (upd H3 p (.ins CY dx (putF "marks_kept" (.ref m) (putF "grammar" (.ref g) [])))) p d0 := fun d0 hd0 dx' fs' e' e => by
    rw [upd_same] at e'
    cases e'
    have e : m = d0 := V.ref.inj (Option.some.inj e)
    subst e
    cases q : H m with
    | none => exact hd0 q
    | some o => rw [kx2 _ _ (by simp [mp]) q] at hm; cases hm
  refine q1 (es.trans rfl) _ ⟨dx, m, kvs, _, upd_same, rfl, rfl, rfl, rfl, by rw [upd_ne mp]; exact e3, paired_imp (fun kv n r => ⟨r.1, ?_⟩) pN⟩ hnl kx4
  obtain ⟨a, e, h⟩ := r.2
  refine ⟨a, e, kx4 _ _ (fun q => ?_) h⟩
  obtain rfl : a = p := by simpa using q
  rw [hp] at h
  obtain ⟨_, b, l⟩ := n
  cases b <;> cases h
end
end Pa
set_option maxHeartbeats 4000000
/-! d.update(e) of two dicts; != of two dicts whose values are data; (x, ..) * n with few n; own text -/
namespace Sv
open PySem PySem.Spec PyProof.Rows L2 Ty Se
open PySem.AutoSeq1 (wpAny_loadPart')
def rDUpdate : V → List V → Hp → VK → Prop := fun x vs H Q => ∃ (a o : Addr) (kvs more : List (Key × V)), x = .ref a ∧ vs = [.ref o] ∧ a ≠ o ∧ H a = some (.dK kvs) ∧ H o = some (.dK more) ∧ kvs.length + more.length ≤ sizeLine ∧ Q .non (upd H a (.dK (mergeK kvs more)))
theorem mtd_update {X : Cx} : MtR X "dict.update" rDUpdate := by
  intro pins s σ H x vs v us Q I rx rv h
  obtain ⟨a, o, kvs, more, rfl, rfl, hne, ha, ho, hz, q⟩ := h
  obtain rfl : v = Value.ref a := rx
  obtain ⟨u, rfl, ru⟩ := rv.one
  cases ru
  obtain ⟨za, da, va, ra, dda⟩ := dk_of I.hok ha
  obtain ⟨zo, do', vo, ro, ddo⟩ := dk_of I.hok ho
  refine call_meetsIn PySem.F.slot_dict_update dda.typeIs PySem.F.entry_dict_update (PySem.F.args_dict_update_2 _ _) (meets_dict_update (mixKind X.prog X.w) a o hne do') ⟨va, vo, dda, ddo, by rw [← ra.length, ← ro.length]; exact hz, fun h' d1 d2 hs => ?_⟩
  have he : ∃ q, h'.get? a = some q := let ⟨q, _, _, hq, _⟩ := d1; ⟨q, hq⟩
  exact ⟨.non, _, d_write (t' := s.toks) I (by rw [ha]; exact True.intro) hs he (dk_new (Nat.le_trans (length_mergeK more kvs) hz) da (KV.merge ro ra) d1), rfl, q⟩
def rNeSD (K : PySem.W.Frag) : R2 := fun x y H Q => ∃ a b ks ls, x = .ref a ∧ y = .ref b ∧ H a = some (.dK ks) ∧ H b = some (.dK ls) ∧ ks.length = ls.length ∧ (∀ p ∈ ks, ∃ u, valV ls p.1 = some u ∧ EqD K H p.2 u) ∧ Q (.bl false) H
section
variable {prog : Program} {w : World} {K : Type} [DecidableEq K] {knd : KeyKind prog w K} {A : Around} {s : Shared}
theorem rcP_dictsNe {a b : Addr} {ka kb : List (K × Value)} {r : Bool} (ha : (a == sysModules) = false) (hb : (b == sysModules) = false)
    (da : s.heap.DictOf knd a ka) (db : s.heap.DictOf knd b kb) (hu : A.units < cLine) (hits : ka.length = kb.length → PySem.W.KeqHitsP prog w A.in1 s kb ka r) (E Q : Value → Shared → Prop) (h : Q (.bool (!(ka.length == kb.length && r))) s) : wpAny (model prog w) A (richCompare .NotEq (.ref a) (.ref b)) Q E s := by
  refine wpAny_richCompare_same_room (op := .NotEq) da.typeIs db.typeIs PySem.F.slot_dict_ne (wpAny_call_entry PySem.F.slot_dict_ne da.typeIs PySem.F.entry_dict_ne ?_ (PySem.F.args_dict_ne_2 _ _)) hu
  show wpAny _ _ (Builtin.Dict.dictSlotArgs "__ne__" ⟨[.ref a, .ref b], []⟩ >>= _) _ _ s
  refine wpAny_bind ?_
  unfold Builtin.Dict.dictSlotArgs
  refine wpAny_bind (wpAny_notOrdered_dict da.typeIs ?_)
  show wpAny _ _ (pure (Value.ref a, Value.ref b)) _ _ s
  refine wpAny_pure ?_
  refine wpAny_bind (wpAny_isInstance (T := "dict") db.typeIs PySem.F.sub_dict_dict ?_)
  simp only [Bool.not_true, Bool.false_eq_true, if_false]
  refine wpAny_bind (wpAny_pure (wpAny_bind (wpAny_pure ?_)))
  refine wpAny_bind (PySem.W.samePairsP ha hb da db hits ?_)
  refine wpAny_pure ⟨_, rfl, ?_, ?_⟩
  · exact fun x => nomatch x
  · simpa using h
end
section
variable {X : Cx}
theorem op_neSD (hu : X.A.units + 70 < cLine) : OpR X (compareOp .NotEq) (rNeSD X.K) := by
  intro pins s σ H x y v u Q I rx ry h
  obtain ⟨a, b, ks, ls, rfl, rfl, ha, hb, hl, hp, q⟩ := h
  cases (show v = Value.ref a from rx)
  cases (show u = Value.ref b from ry)
  obtain ⟨_, ya, va, ra, da⟩ := (show ObjOk X.prog X.w H s.heap a (.dK ks) from I.hok a _ ha)
  obtain ⟨_, yb, vb, rb, db⟩ := (show ObjOk X.prog X.w H s.heap b (.dK ls) from I.hok b _ hb)
  have ih : ∀ x y v u, EqD X.K H x y → RelV x v → RelV y u → SeqAt.EqP X.prog X.w X.A.in1 s v u true := fun x y v u h rx ry => by
    obtain ⟨d, e, hd, he, sd, se, q⟩ := h
    obtain ⟨as, r1⟩ := Dp.reads I d x v hd rx
    obtain ⟨bs, r2⟩ := Dp.reads I e y u he ry
    have := SeqAt.eqAt_reads d e X.A.in1 s v u as bs r1 r2 (SeqAt.canLay_of_shaped sd) (SeqAt.canLay_of_shaped se) (SeqAt.room_of_shaped sd (by show X.A.units + 1 + 64 < cLine; omega))
    rw [q] at this
    exact this.eqP
  refine rcP_dictsNe (knd := mixKind X.prog X.w) (r := true) ya yb da db (by omega) (fun _ => hits_run ih rb ra hp) _ _ ?_
  have e : va.length = vb.length := by rw [← ra.length, ← rb.length]; exact hl
  rw [show (!(va.length == vb.length && true)) = false from by rw [e]; simp]
  exact ⟨.bl false, H, I, rfl, q⟩
end
theorem tuple_mul1 (l : Addr) (items : Array Value) (n : Nat) (dd : Option Addr) (sl : Array (Option Value)) (u : Tok) :
    Meets (Builtin.«tuple.__mul__» ⟨[.ref l, .int 1 u], []⟩) (fun _ R s => s.heap.get? l = some { cls := .type "tuple", dict := dd, data := .seq items n, slots := sl } ∧ R (.ok (.ret (Value.ref l))) s) :=
  .of_wp fun prog w A R s h => by
    obtain ⟨hp, g, d, tk, os⟩ := s
    obtain ⟨hl, h⟩ := h
    have f1 := AutoSeq1.idx_int
    wp_walk using wpAny_loadPart' hl
    repeat (first
      | (refine wpAny_ite_true (by simp) ?_; wp_walk using wpAny_loadPart' hl))
    exact ⟨_, rfl, h⟩
theorem tuple_mul0 (l : Addr) (items : Array Value) (n : Nat) (dd : Option Addr) (sl : Array (Option Value)) (u : Tok) (hi : items.isEmpty = false) :
    Meets (Builtin.«tuple.__mul__» ⟨[.ref l, .int 0 u], []⟩) (fun _ R s => s.heap.get? l = some { cls := .type "tuple", dict := dd, data := .seq items n, slots := sl } ∧
      R (.ok (.ret (Value.ref s.heap.objs.size))) { s with heap := s.heap.push { cls := Value.type "tuple", data := Data.seq #[] }, toks := s.toks }) :=
  .of_wp fun prog w A R s h => by
    obtain ⟨hp, g, d, tk, os⟩ := s
    obtain ⟨hl, h⟩ := h
    have f1 := AutoSeq1.idx_int
    wp_walk using wpAny_loadPart' hl
    repeat (first
      | (refine wpAny_ite_false (by rw [hi]; decide) ?_; wp_walk using wpAny_loadPart' hl)
      | (refine wpAny_ite_true (by simp) ?_; wp_walk using wpAny_loadPart' hl))
    exact ⟨_, rfl, h⟩
/-- (x, ..) * n -/
def rRepN : R2 := fun x y H Q => ∃ (l : Addr) (k : Nat) (xs : List V), x = .ref l ∧ y = .int (k : Nat) ∧ H l = some (.tup xs) ∧ xs ≠ [] ∧ k ≤ 1000 ∧ xs.length ≤ 1000 ∧ ∀ p H', (∀ b o, H b = some o → H' b = some o) → H' p = some (.tup (List.replicate k xs).flatten) → Q (.ref p) H'
section
variable {X : Cx}
theorem op_repN : OpR X (binaryOp .Mult) rRepN := by
  intro pins s σ H x y v u Q I rx ry h
  obtain ⟨l, k, xs, rfl, rfl, hT, hne, h2, hz, q⟩ := h
  by_cases hk : 2 ≤ k
  · refine op_repT pins s σ H _ _ v u Q I rx ry ⟨l, k, xs, rfl, rfl, SqT.of hT, hne, by omega, by omega, hz, fun p hp => q p _ (fun b o e => by rw [upd_ne (ne_of_none e hp)]; exact e) (by rw [Int.toNat_natCast]; exact upd_same)⟩
  cases rx
  obtain ⟨t, rfl⟩ := ry
  obtain ⟨its, r, ⟨⟨cls, dd, data, sl⟩, ho, hc, n, hd⟩, hs⟩ := I.tuple (SqT.of hT)
  simp only at hc hd
  subst hc hd
  have hle : its.length = xs.length := r.length.symm
  have hi : its.toArray.isEmpty = false := by
    cases its with
    | nil => exact absurd (List.eq_nil_of_length_eq_zero hle.symm) hne
    | cons a b => rfl
  obtain rfl | rfl : k = 0 ∨ k = 1 := by omega
  · refine wpAny_binaryOp_repeat_ref (T := "tuple") (U := "int") (by decide) ⟨_, ho, rfl⟩ (fun s' => typeIs_int s' _ t) noFill_tuple_mul F.fills_int_mul F.slot_int_rmul repeat_tuple F.slot_int_index.lookup
      (call_meets F.slot_int_rmul (typeIs_int s _ t) F.entry_int_rmul (F.args_int_rmul_2 _ _) (int_rmul_tuple _ t l its.toArray n dd sl)
        ⟨ho, rfl, ⟨_, ho, rfl⟩, call_meets F.slot_tuple_mul ⟨_, ho, rfl⟩ F.entry_tuple_mul (F.args_tuple_mul_2 _ _) (tuple_mul0 l its.toArray n dd sl t hi) ⟨ho, ?_⟩⟩)
    refine ⟨.ref s.heap.objs.size, _, I.laid (t' := s.toks) (o := .tup []) (fun b ob q => Heap.get?_push_of_some _ q) (Nat.le_refl _) ?_, rfl, q _ _ (fun b o e => by rw [upd_ne (ne_of_none e (I.hok.fresh (Nat.le_refl _)))]; exact e) upd_same⟩
    exact ⟨Nat.zero_le _, [], .nil, IsTup.new _ _⟩
  · refine wpAny_binaryOp_repeat_ref (T := "tuple") (U := "int") (by decide) ⟨_, ho, rfl⟩ (fun s' => typeIs_int s' _ t) noFill_tuple_mul F.fills_int_mul F.slot_int_rmul repeat_tuple F.slot_int_index.lookup
      (call_meets F.slot_int_rmul (typeIs_int s _ t) F.entry_int_rmul (F.args_int_rmul_2 _ _) (int_rmul_tuple _ t l its.toArray n dd sl)
        ⟨ho, rfl, ⟨_, ho, rfl⟩, call_meets F.slot_tuple_mul ⟨_, ho, rfl⟩ F.entry_tuple_mul (F.args_tuple_mul_2 _ _) (tuple_mul1 l its.toArray n dd sl t) ⟨ho, ?_⟩⟩)
    refine ⟨.ref l, H, I, rfl, q l H (fun b o e => e) (by rw [hT]; simp)⟩
end
end Sv
set_option maxHeartbeats 1000000
namespace Pa
open PySem PySem.Spec PyProof.Rows L2 Ty Se Sv
/-! ### marks_of -/
def nearP (rs : Rls) (x : Str) : Bool × List Str := (true, List.replicate ((spelledP rs x).length - 1) "near")
def owedP (rs : Rls) (N : Nts) (x : Str) : Bool × List Str := (N.lookup x).getD (nearP rs x)
theorem nts_at {H : Hp} (x : Str) : ∀ {kvs : List (Key × V)} {N : Nts}, Paired (NkV H) kvs N → (∃ n v, N.lookup x = some n ∧ valV kvs (Sum.inr x : Key) = some v ∧ NtV H v n) ∨ (N.lookup x = none ∧ valV kvs (Sum.inr x : Key) = none)
  | _, _, .nil => .inr ⟨rfl, rfl⟩
  | kv :: _, (l, n) :: _, .cons h t => by
    obtain ⟨e1, e2⟩ := h
    by_cases e : l = x
    · subst e
      refine .inl ⟨n, kv.2, ?_, valV_pos e1, e2⟩
      rw [List.lookup_cons, beq_self_eq_true]
    · have : (x == l) = false := beq_eq_false_iff_ne.mpr (Ne.symm e)
      rw [valV_neg (fun q => e (Sum.inr.inj (e1.symm.trans q))), List.lookup_cons, this]
      exact nts_at x t
theorem nts_keys {H : Hp} : ∀ {kvs : List (Key × V)} {N : Nts}, Paired (NkV H) kvs N → kvs.map (·.1) = (N.map (·.1)).map Sum.inr
  | _, _, .nil => rfl
  | _, _, .cons h t => by rw [List.map_cons, List.map_cons, List.map_cons, nts_keys t, h.1]
theorem rep_near {k : Nat} : (List.replicate k [V.str "near"]).flatten = (List.replicate k ("near" : Str)).map V.str := by
  induction k with
  | zero => rfl
  | succ k ih => rw [List.replicate_succ, List.flatten_cons, ih, List.replicate_succ]; rfl
theorem scMarksOf : FnScope ["self", "label"] ["self", "label"] (defScope yMarksOf) := ⟨rfl, rfl, rfl, by decide +kernel, rfl, by decide +kernel, by decide +kernel⟩
def spMarksOf (K : PySem.W.Frag) (C CY : Addr) : Sp := fun vs H Q _ => ∃ (p g : Addr) (ks : Kds) (rs : Rls) (bs : Brs) (st : Str) (N : Nts) (x : Str), vs = [.ref p, .str x] ∧ LayV CY H p g N ∧ GrS K C H g ks rs bs st ∧ (spelledP rs x).length ≤ 1000 ∧ x ∈ labsOf rs ∧ ∀ v H', Same H H' → NtV H' v (owedP rs N x) → Q v H'
def spMarksOfN (K : PySem.W.Frag) (C CY CL : Addr) : Sp := fun vs H Q E => ∃ (p g : Addr) (ks : Kds) (rs : Rls) (bs : Brs) (st : Str) (N : Nts) (x : Str), vs = [.ref p, .str x] ∧ LayV CY H p g N ∧ GrS K C H g ks rs bs st ∧ N.lookup x = none ∧ x ∉ labsOf rs ∧ Out1 E CL "label" H (.str x)
section
variable {P : Program} {w : World} {K : PySem.W.Frag} {mg : Str → Option Value} {base : Heap} {f C CY CL fR : Addr} {fd dR : FuncData} {tN : Tok}
theorem ok_marksof (F : Fun K "marks_of" "Layout.marks_of" yMarksOf f fd) (T : YTxt K CY) (clG : Cls K C)
    (GR : FnOk P w K mg base CX0 1 fR dR ["self", "label"] (spRowOf K C)) (bR : L2.Binds K dR ["self", "label"] []) (MR : Meth K C "row_of" fR) (mN : mg "NEAR" = some (.str "near" tN)) (ml : mg "len" = none) (mx : mg "max" = none) :
    FnOk P w K mg base CX0 2 f fd ["self", "label"] (spMarksOf K C CY) := by
  refine F.ok scMarksOf (fun vs H Q E h => ?_) (fun cdv A outer s H vs Q E hr h => ?_)
  · obtain ⟨_, _, _, _, _, _, _, _, rfl, _⟩ := h
    rfl
  have hu1 := hu_of hr
  refine ⟨_, pss_cons (ps_if (pt_cmp (pc_din hu1 (pv 1) (pe_fld (pv 0) rfl))) (pss_one (ps_ret (pe_dget hu1 (pe_fld (pv 0) rfl) (pv 1) (fun _ _ => rfl)))) pss_nil)
    (pss_one (ps_ret (pe_op op_repN (pe_tup (pa_cons (pe_glob rfl mN (show RelV (.str "near") (.str "near" tN) from ⟨_, rfl⟩)) pa_nil))
      (pe_callB (call_max2 rfl) rfl mx (by decide +kernel) (pa_cons pe_int (pa_cons (pe_op op_sub (pe_callB call_len_seq rfl ml PySem.boot_len (pa_cons (pe_meth (pe_fld (pv 0) rfl) clG MR GR hr bR .nil pass0 (pa_cons (pv 1) pa_nil)) pa_nil)) pe_int) pa_nil)))))), ?_⟩
  obtain ⟨p, g, ks, rs, bs, st, N, x, rfl, L, G, hsz, hx, q⟩ := h
  obtain ⟨dx, d, kvs, fs, h1, h2, h3, h4, h5, h6, h7⟩ := L
  refine ⟨_, rfl, _, rfl, p, CY, dx, _, _, rfl, h1, T.cl, T.nM, h3, d, _, rfl, DGet.k (k := Sum.inr x) h6, _, rfl, ?_⟩
  rcases nts_at x h7 with ⟨n, v, e1, e2, e3⟩ | ⟨e1, e2⟩
  · rw [e2]
    refine iteT ⟨_, rfl, p, CY, dx, _, _, rfl, h1, T.cl, T.nM, h3, _, rfl, d, _, rfl, by rw [← e2]; exact DGet.k (k := Sum.inr x) h6, q _ _ same_refl ?_⟩
    unfold owedP
    rw [e1]
    exact e3
  rw [e2]
  refine iteF ?_
  refine ⟨(by show 1 ≤ sizeLine; decide), fun t ht => ?_⟩
  have s1 := same_new ht (.tup [V.str "near"])
  have e3 : (upd H t (.tup [V.str "near"])) t = some (.tup [V.str "near"]) := upd_same
  have G1 := G.same s1
  have p1 := s1 _ _ h1
  generalize upd H t (.tup [V.str "near"]) = H1 at s1 e3 G1 p1 ⊢
  obtain ⟨gx, gc, gpd, ghd, ged, gwd, gfs, gcb, gpk, gek, gwk, y1, y2, y3, y4, y5, y6, y7, y8, y9, y10, y11, y12, y13, y14, y15, y16, y17⟩ := id G1.ob
  refine ⟨_, rfl, p, CY, dx, _, _, rfl, p1, T.cl, T.nG, h2, g, gx, gfs, rfl, y1, y17 _ (by simp [methL]), _, rfl, g, ks, rs, bs, st, x, rfl, G1, hx, fun b hb => ?_⟩
  refine ⟨b, _, rfl, .inr (SqT.of hb), _, _, rfl, rfl, _, _, rfl, ?_⟩
  have emx : (if ((((spelledP rs x).map V.str).length : Nat) : Int) - 1 > 0 then ((((spelledP rs x).map V.str).length : Nat) : Int) - 1 else 0) = (((spelledP rs x).length - 1 : Nat) : Int) := by
    rw [List.length_map]
    split <;> omega
  rw [emx]
  refine ⟨t, _, _, rfl, rfl, e3, by simp, by omega, by decide, fun z H2 s2 hz => q _ _ (s1.trans s2) ?_⟩
  unfold owedP nearP
  rw [e1]
  exact ⟨z, rfl, by rw [hz, rep_near]; rfl⟩
theorem ok_marksofN (F : Fun K "marks_of" "Layout.marks_of" yMarksOf f fd) (T : YTxt K CY) (clG : Cls K C)
    (GR : FnOk P w K mg base (L2.CX P w) 3 fR dR ["self", "label"] (spRowN K C CL)) (bR : L2.Binds K dR ["self", "label"] []) (MR : Meth K C "row_of" fR) (mN : mg "NEAR" = some (.str "near" tN)) (ml : mg "len" = none) (mx : mg "max" = none) :
    FnOk P w K mg base (L2.CX P w) 4 f fd ["self", "label"] (spMarksOfN K C CY CL) := by
  refine F.okX scMarksOf (fun vs H Q E h => ?_) (fun cdv A outer s H vs Q E hr h => ?_)
  · obtain ⟨_, _, _, _, _, _, _, _, rfl, _⟩ := h
    rfl
  have hu1 := hu_of hr
  refine ⟨_, pss_cons (ps_if (pt_cmp (pc_din hu1 (pv 1) (pe_fld (pv 0) rfl))) pss_never pss_nil)
    (pss_one (ps_ret (pe_op op_repN (pe_tup (pa_cons (pe_glob rfl mN (show RelV (.str "near") (.str "near" tN) from ⟨_, rfl⟩)) pa_nil))
      (pe_callB (call_max2 rfl) rfl mx (by decide +kernel) (pa_cons pe_int (pa_cons (pe_op op_sub (pe_callB call_len_seq rfl ml PySem.boot_len (pa_cons (pe_meth (pe_fld (pv 0) rfl) clG MR GR hr bR .nil (passes_call (takes_of rfl rfl rfl rfl) (fun _ _ _ _ z => z)) (pa_cons (pv 1) pa_nil)) pa_nil)) pe_int) pa_nil)))))), ?_⟩
  obtain ⟨p, g, ks, rs, bs, st, N, x, rfl, L, G, hn, hx, q⟩ := h
  obtain ⟨dx, d, kvs, fs, h1, h2, h3, h4, h5, h6, h7⟩ := L
  refine ⟨_, rfl, _, rfl, p, CY, dx, _, _, rfl, h1, T.cl, T.nM, h3, d, _, rfl, DGet.k (k := Sum.inr x) h6, _, rfl, ?_⟩
  rcases nts_at x h7 with ⟨n, v, e1, e2, e3⟩ | ⟨e1, e2⟩
  · rw [hn] at e1; cases e1
  rw [e2]
  refine iteF ?_
  refine ⟨(by show 1 ≤ sizeLine; decide), fun t ht => ?_⟩
  have s1 := same_new ht (.tup [V.str "near"])
  have G1 := G.same s1
  have p1 := s1 _ _ h1
  have q1 := q.same s1
  generalize upd H t (.tup [V.str "near"]) = H1 at s1 G1 p1 q1 ⊢
  obtain ⟨gx, gc, gpd, ghd, ged, gwd, gfs, gcb, gpk, gek, gwk, y1, y2, y3, y4, y5, y6, y7, y8, y9, y10, y11, y12, y13, y14, y15, y16, y17⟩ := id G1.ob
  exact ⟨_, rfl, p, CY, dx, _, _, rfl, p1, T.cl, T.nG, h2, g, gx, gfs, rfl, y1, y17 _ (by simp [methL]), _, rfl, g, ks, rs, bs, st, x, rfl, G1, fun h => absurd h hx, fun _ => q1⟩
end
end Pa
set_option maxHeartbeats 1000000
namespace Pa
open PySem PySem.Spec PyProof.Rows L2 Ty Se Sv
/-! ### marks as data; all_marks -/
theorem lk_mem {α : Type} {x : Str} {n : α} : ∀ {l : List (Str × α)}, l.lookup x = some n → (x, n) ∈ l
  | [], e => by cases e
  | (y, m) :: l, e => by
    rw [List.lookup_cons] at e
    by_cases q : x = y
    · subst q
      rw [beq_self_eq_true] at e
      cases e
      exact List.mem_cons_self
    · rw [beq_eq_false_iff_ne.mpr q] at e
      exact List.mem_cons_of_mem _ (lk_mem e)
def marksD (l : List Str) : PyData := .tuple (l.map PyData.str)
theorem eqv_strs : ∀ a b : List Str, PyData.eqvAll (a.map PyData.str) (b.map PyData.str) = decide (a = b)
  | [], [] => rfl
  | [], _ :: _ => rfl
  | _ :: _, [] => rfl
  | x :: a, y :: b => by
    show ((x == y) && PyData.eqvAll (a.map PyData.str) (b.map PyData.str)) = _
    rw [eqv_strs a b, Bool.eq_iff_iff]
    simp
theorem marksD_eqv (a b : List Str) : PyData.eqv (marksD a) (marksD b) = decide (a = b) := eqv_strs a b
/-- all marks are some -/
def RtN (rs : Rls) (N : Nts) : Prop := ∀ n, n ∈ N → rightP rs n.1 n.2 = true
theorem right_parts {rs : Rls} {x : Str} {n : Bool × List Str} (h : rightP rs x n = true) : x ∈ labsOf rs ∧ n.1 = true ∧ n.2.length = (spelledP rs x).length - 1 ∧ ∀ m, m ∈ n.2 → m ∈ marksL := by
  unfold rightP at h
  rw [Bool.and_eq_true, Bool.and_eq_true, Bool.and_eq_true, Bool.and_eq_true, decide_eq_true_eq, decide_eq_true_eq, List.all_eq_true] at h
  exact ⟨h.1, h.2.1, h.2.2.1, fun m hm => of_decide_eq_true (h.2.2.2.1 m hm)⟩
theorem owed_ok {rs : Rls} {N : Nts} (h : RtN rs N) (x : Str) : (owedP rs N x).1 = true ∧ ∀ m, m ∈ (owedP rs N x).2 → m ∈ marksL := by
  unfold owedP
  cases e : N.lookup x with
  | none => exact ⟨rfl, fun m hm => by rw [(List.mem_replicate.mp hm).2]; decide⟩
  | some n =>
    have := right_parts (h _ (lk_mem e))
    exact ⟨this.2.1, this.2.2.2⟩
theorem marks_low : ∀ m : Str, m ∈ marksL → LowC m := by
  intro m hm
  simp only [List.mem_cons, List.not_mem_nil, or_false] at hm
  unfold LowC
  rcases hm with rfl | rfl | rfl | rfl | rfl | rfl <;> decide +kernel
theorem marksD_lay {l : List Str} (h : ∀ m, m ∈ l → m ∈ marksL) : (marksD l).canLay0 = true := strs_lay fun x hx => marks_low x (h x hx)
theorem marksD_depth (l : List Str) : (marksD l).depth ≤ 1 := by
  have := strs_depth l
  show PyData.depthAll (l.map PyData.str) + 1 ≤ 1
  omega
theorem marksD_shaped {l : List Str} (h : ∀ m, m ∈ l → m ∈ marksL) : SeqAt.shaped (marksD l) = true := by
  have := marksD_depth l
  unfold SeqAt.shaped
  rw [marksD_lay h, decide_eq_true (by omega : (marksD l).depth ≤ 64)]; rfl
def allE (rs : Rls) (N : Nts) (x : Str) : PyData := .tuple [.str x, marksD (owedP rs N x).2]
def allD (rs : Rls) (N : Nts) : PyData := .list ((labsOf rs).map (allE rs N))
def sameP (rs : Rls) (N M : Nts) : Bool := (labsOf rs).all fun x => decide ((owedP rs N x).2 = (owedP rs M x).2)
theorem allE_eqv (rs : Rls) (N M : Nts) : ∀ l : List Str, PyData.eqvAll (l.map (allE rs N)) (l.map (allE rs M)) = l.all fun x => decide ((owedP rs N x).2 = (owedP rs M x).2)
  | [] => rfl
  | x :: l => by
    show (((x == x) && (PyData.eqv (marksD (owedP rs N x).2) (marksD (owedP rs M x).2) && true)) && PyData.eqvAll (l.map (allE rs N)) (l.map (allE rs M))) = _
    rw [allE_eqv rs N M l, marksD_eqv, beq_self_eq_true, Bool.true_and, Bool.and_true, List.all_cons]
theorem allD_eqv (rs : Rls) (N M : Nts) : PyData.eqv (allD rs N) (allD rs M) = sameP rs N M := allE_eqv rs N M _
theorem allD_shaped {rs : Rls} {N : Nts} (h : RtN rs N) (hl : ∀ x, x ∈ labsOf rs → LowC x) : SeqAt.shaped (allD rs N) = true := by
  have l1 : PyData.canLayAll0 ((labsOf rs).map (allE rs N)) = true := lay_all fun d hd => by
    obtain ⟨x, hx, rfl⟩ := List.mem_map.mp hd
    show (PyData.strOk x && ((marksD (owedP rs N x).2).canLay0 && true)) = true
    rw [(hl x hx).ok, marksD_lay (owed_ok h x).2]; rfl
  have d1 : PyData.depthAll ((labsOf rs).map (allE rs N)) ≤ 2 := depth_all fun d hd => by
    obtain ⟨x, hx, rfl⟩ := List.mem_map.mp hd
    have := marksD_depth (owedP rs N x).2
    show max 0 (max (marksD (owedP rs N x).2).depth 0) + 1 ≤ 2
    omega
  have dd : (allD rs N).depth ≤ 64 := by
    show PyData.depthAll ((labsOf rs).map (allE rs N)) + 1 ≤ 64
    omega
  unfold SeqAt.shaped
  rw [decide_eq_true dd, Bool.and_true]
  exact l1
theorem labs_low {ks : Kds} {rs : Rls} {st : Str} (h : GLow ks rs st) : ∀ x, x ∈ labsOf rs → LowC x := fun x hx => by
  obtain ⟨a, ha, rfl⟩ := List.mem_map.mp hx
  obtain ⟨r, hr, ha⟩ := List.mem_flatMap.mp ha
  exact ((h.r r hr).2 a ha).1
/-- what all_marks tells of a label -/
def AmV (rs : Rls) (N : Nts) (H : Hp) (v : V) (x : Str) : Prop := ∃ t m, v = .ref t ∧ H t = some (.tup [.str x, .ref m]) ∧ H m = some (.tup ((owedP rs N x).2.map V.str))
theorem AmV.tk {rs : Rls} {N : Nts} {H H' : Hp} {v : V} {x : Str} (h : AmV rs N H v x) (t : Tk H H') : AmV rs N H' v x := by
  obtain ⟨a, m, e, h1, h2⟩ := h
  exact ⟨a, m, e, t _ _ h1, t _ _ h2⟩
theorem am_dp {K : PySem.W.Frag} {rs : Rls} {N : Nts} {H : Hp} {a : Addr} {acc : List V} (h : H a = some (.lst acc)) (p : Paired (AmV rs N H) acc (labsOf rs)) : Dp K H (.ref a) (allD rs N) :=
  .lst (SqL.of h) (DpAll.of (fun v x r => by
    obtain ⟨t, m, rfl, h1, h2⟩ := r
    exact .tup (SqT.of h1) (.cons (.str _) (.cons (.tup (SqT.of h2) (DpAll.strs _)) .nil))) p)
theorem scYAll : FnScope ["self", "label"] ["self"] (defScope yAll) := ⟨rfl, rfl, rfl, by decide +kernel, rfl, by decide +kernel, by decide +kernel⟩
def spYAll (K : PySem.W.Frag) (C CY : Addr) : Sp := fun vs H Q _ => ∃ (p g : Addr) (ks : Kds) (rs : Rls) (bs : Brs) (st : Str) (N : Nts), vs = [.ref p] ∧ LayV CY H p g N ∧ GrS K C H g ks rs bs st ∧ (∀ x, (spelledP rs x).length ≤ 1000) ∧ (labsOf rs).length ≤ 1000 ∧ RtN rs N ∧
  ∀ a acc H', Same H H' → H' a = some (.lst acc) → Paired (AmV rs N H') acc (labsOf rs) → Q (.ref a) H'
section
variable {P : Program} {w : World} {K : PySem.W.Frag} {mg : Str → Option Value} {base : Heap} {f C CY fL fM : Addr} {fd dL dM : FuncData}
theorem ok_yall (F : Fun K "all_marks" "Layout.all_marks" yAll f fd) (T : YTxt K CY) (clG : Cls K C)
    (GL : FnOk P w K mg base CX0 1 fL dL ["self"] (spLabels K C)) (bL : L2.Binds K dL ["self"] []) (ML : Meth K C "labels" fL)
    (GM : FnOk P w K mg base CX0 2 fM dM ["self", "label"] (spMarksOf K C CY)) (bM : L2.Binds K dM ["self", "label"] []) (MM : Meth K CY "marks_of" fM) :
    FnOk P w K mg base CX0 3 f fd ["self"] (spYAll K C CY) := by
  refine F.ok scYAll (fun vs H Q E h => ?_) (fun cdv A outer s H vs Q E hr h => ?_)
  · obtain ⟨_, _, _, _, _, _, _, rfl, _⟩ := h
    rfl
  have GL' := GL.mono (show 1 ≤ 2 by decide)
  refine ⟨_, pss_one (ps_ret (pe_lc (own := [("label", 1)]) (g := gName 1) (tt := tYes) rfl scYAll.nd (pi_list (pe_meth0 (pe_fld (pv 0) rfl) clG ML GL' hr bL .nil pass0)) (blkOk_by (N := ["self", "label"]) (sc := defScope yAll) (by decide +kernel))
      (fun _ _ _ _ _ => pg_name (i := 1) scYAll.nd rfl (Or.inl rfl)) (fun _ _ _ _ _ => pts_nil) (fun _ _ _ _ _ => pe_tup (pa_cons (pv 1) (pa_cons (pe_meth (pv 0) T.cl MM GM hr bM .nil pass0 (pa_cons (pv 1) pa_nil)) pa_nil))))), ?_⟩
  obtain ⟨p, g, ks, rs, bs, st, N, rfl, L, G, hsz, hlen, hN, q⟩ := h
  obtain ⟨dx, d, kvs, fs, h1, h2, h3, h4, h5, h6, h7⟩ := id L
  obtain ⟨gx, gc, gpd, ghd, ged, gwd, gfs, gcb, gpk, gek, gwk, y1, y2, y3, y4, y5, y6, y7, y8, y9, y10, y11, y12, y13, y14, y15, y16, y17⟩ := id G.ob
  refine ⟨_, rfl, p, CY, dx, _, _, rfl, h1, T.cl, T.nG, h2, g, gx, gfs, rfl, y1, y17 _ (by simp [methL]), g, ks, rs, bs, st, rfl, G, fun lp hlp => ?_⟩
  have s1 := same_new hlp (.lst ((labsOf rs).map V.str))
  have e1 : (upd H lp (.lst ((labsOf rs).map V.str))) lp = some (.lst ((labsOf rs).map V.str)) := upd_same
  generalize upd H lp (.lst ((labsOf rs).map V.str)) = H1 at s1 e1 ⊢
  refine ⟨lp, rfl, ⟨_, SqL.of e1⟩, fun D hD => ?_⟩
  refine lc_list (K := K) (xs := (labsOf rs).map V.str) (LcR H1 D (AmV rs N) (labsOf rs)) (.start hD) (fun i H' _ h => by obtain ⟨_, _, _, _, sx⟩ := h; exact SqL.of (sx _ _ e1)) (fun i v H' hv h => ?turn) (fun H2 h => ?done)
  case turn =>
    obtain ⟨acc, f1, f2, f3, f4⟩ := h
    obtain ⟨x, hx, rfl⟩ := strs_at hv
    have hi := (List.getElem?_eq_some_iff.mp hx).1
    have sx := s1.trans f4
    refine ⟨rfl, ?_⟩
    simp only [tYes, ↓reduceIte]
    refine ⟨_, rfl, _, rfl, p, dx, fs, rfl, sx _ _ h1, h4, _, rfl, p, g, ks, rs, bs, st, N, x, rfl, L.same sx, G.same sx, hsz x, List.mem_of_getElem? hx, fun v H2 s2 nt => ⟨(by show 2 ≤ sizeLine; decide), fun t ht => ?_⟩⟩
    obtain ⟨m, rfl, hm⟩ := nt
    rw [(owed_ok hN x).1, if_pos rfl] at hm
    have s3 := same_new ht (.tup [V.str x, .ref m])
    refine ⟨acc, s3 _ _ (s2 _ _ f1), by rw [sizeLine_eq, f2]; omega, ?_⟩
    exact LcR.step (fun t r => r.tk t) f1 f2 f3 f4 (s2.trans s3) hD hx ⟨t, m, rfl, upd_same, s3 _ _ hm⟩
  obtain ⟨acc, e2, p2, s2'⟩ := h.done (by rw [List.length_map])
  exact q _ _ _ (s1.trans s2') e2 p2
end
end Pa
set_option maxHeartbeats 1000000
namespace Pa
open PySem PySem.Spec PyProof.Rows L2 Ty Se Sv
/-! ### Layout.__eq__ -/
theorem scYEq : FnScope ["self", "other"] ["self", "other"] (defScope yEq) := ⟨rfl, rfl, rfl, by decide +kernel, rfl, by decide +kernel, by decide +kernel⟩
def spYEq (K : PySem.W.Frag) (C CY : Addr) : Sp := fun vs H Q _ => ∃ (p : Addr) (z : V), vs = [.ref p, z] ∧
  ((∃ (q g g2 : Addr) (ks : Kds) (rs : Rls) (st st2 : Str) (N M : Nts), z = .ref q ∧ LayV CY H p g N ∧ LayV CY H q g2 M ∧ GrS K C H g ks rs [] st ∧ GrS K C H g2 ks rs [] st2 ∧ GLow ks rs st ∧ GLow ks rs st2 ∧ (∀ x, (spelledP rs x).length ≤ 1000) ∧ (labsOf rs).length ≤ 1000 ∧ RtN rs N ∧ RtN rs M ∧ ∀ H', Same H H' → Q (.bl (decide (st = st2) && sameP rs N M)) H') ∨
  (∃ t, TyX K H z t ∧ PySem.W.kitOne K t (.ref CY) = some false ∧ Q (.bl false) H))
section
variable {P : Program} {w : World} {K : PySem.W.Frag} {mg : Str → Option Value} {base : Heap} {f C CY fE fA : Addr} {fd dE dA : FuncData}
theorem ok_yeq (F : Fun K "__eq__" "Layout.__eq__" yEq f fd) (T : YTxt K CY) (OY : OwC K CY f) (OG : OwC K C fE)
    (GE : FnOk P w K mg base CX0 1 fE dE ["self", "other"] (spGEq K C)) (bE : L2.Binds K dE ["self", "other"] [])
    (GA : FnOk P w K mg base CX0 3 fA dA ["self"] (spYAll K C CY)) (bA : L2.Binds K dA ["self"] []) (MA : Meth K CY "all_marks" fA) (mY : mg "Layout" = some (.ref CY)) (mi : mg "isinstance" = none) :
    FnOk P w K mg base CX0 4 f fd ["self", "other"] (spYEq K C CY) := by
  refine F.ok scYEq (fun vs H Q E h => ?_) (fun cdv A outer s H vs Q E hr h => ?_)
  · obtain ⟨_, _, rfl, _⟩ := h
    rfl
  have hu64 := hr.units
  have GE' := GE.mono (show 1 ≤ 3 by decide)
  refine ⟨_, pss_cons (ps_if (pt_not (pt_val (pe_callB call_isi rfl mi (by decide +kernel) (pa_cons (pv 1) (pa_cons (pe_glob rfl mY (show RelV (.ref CY) (.ref CY) from rfl)) pa_nil))))) (pss_one (ps_ret pe_bl)) pss_nil)
    (pss_one (ps_ret (pe_and (pe_cmpR (op_eqO_own GE' OG.eq OG.fn bE pass0 hr) (pe_fld (pv 0) rfl) (pe_fld (pv 1) rfl) (nomark _))
      (pe_one (pe_cmpR (op_eqD hu64) (pe_meth0 (pv 0) T.cl MA GA hr bA .nil pass0) (pe_meth0 (pv 1) T.cl MA GA hr bA .nil pass0) (nomark _)))))), ?_⟩
  obtain ⟨p, z, rfl, h⟩ := h
  rcases h with ⟨q, g, g2, ks, rs, st, st2, N, M, rfl, L1, L2, G1, G2, W1, W2, hsz, hlen, hN, hM, hq⟩ | ⟨t, ht, hk, hq⟩
  case inr => exact ⟨_, rfl, z, .ref CY, t, _, false, rfl, .own CY, ht, hk, false, rfl, iteT hq⟩
  obtain ⟨dx, d, kvs, fs, h1, h2, h3, h4, h5, h6, h7⟩ := id L1
  obtain ⟨ex, e, jvs, js, k1, k2, k3, k4, k5, k6, k7⟩ := id L2
  obtain ⟨gx, _, _, _, _, _, gfs, _, _, _, _, y1, _⟩ := id G1.ob
  obtain ⟨gx2, _, _, _, _, _, gfs2, _, _, _, _, z1, _⟩ := id G2.ob
  refine ⟨_, rfl, .ref q, .ref CY, _, _, true, rfl, .own CY, OY.ty T.cl k1, OY.cs, ⟨true, rfl, iteF ?_⟩⟩
  refine ⟨_, rfl, p, CY, dx, _, _, rfl, h1, T.cl, T.nG, h2, _, rfl, q, CY, ex, _, _, rfl, k1, T.cl, T.nG, k2, g, gx, gfs, rfl, y1, .inl ⟨g2, gx2, gfs2, rfl, z1⟩, g, g2, ks, rs, st, st2, rfl, G1, G2, W1, W2, fun H1 s1 => ⟨_, rfl, _, rfl, ?_⟩⟩
  by_cases hst : st = st2
  case neg =>
    rw [decide_eq_false hst]
    have := hq H1 s1
    rw [decide_eq_false hst] at this
    exact iteF this
  rw [decide_eq_true hst]
  refine iteT ?_
  refine ⟨_, rfl, p, dx, fs, rfl, s1 _ _ h1, h5, p, g, ks, rs, [], st, N, rfl, L1.same s1, G1.same s1, hsz, hlen, hN, fun a acc H2 s2 ea pa => ?_⟩
  have s12 := s1.trans s2
  refine ⟨_, rfl, q, ex, js, rfl, s12 _ _ k1, k5, q, g2, ks, rs, [], st2, M, rfl, L2.same s12, G2.same s12, hsz, hlen, hM, fun b acc2 H3 s3 eb pb => ?_⟩
  refine ⟨allD rs N, allD rs M, am_dp (s3 _ _ ea) (paired_imp (fun _ _ r => r.tk (Tk.of_same s3)) pa), am_dp eb pb, allD_shaped hN (labs_low W1), allD_shaped hM (labs_low W1), ?_⟩
  rw [allD_eqv]
  have := hq H3 (s12.trans s3)
  rw [decide_eq_true hst, Bool.true_and] at this
  exact this
end
end Pa
set_option maxHeartbeats 1000000
namespace Pa
open PySem PySem.Spec PyProof.Rows L2 Ty Se Sv
/-! ### readings made weaker; patterns written out -/
theorem pe_imp {X : Cx} {e : Expr} {t t' : TE} (h : PE X e t) (k : ∀ σ H Q, t' σ H Q → t σ H Q) : PE X e t' := ⟨fun pins s σ H Q I q => h.run pins s σ H Q I (k _ _ _ q)⟩
theorem ps_imp {X : Cx} {e : Stmt} {t t' : TS} (h : PS X e t) (k : ∀ D σ H, t' D σ H → t D σ H) : PS X e t' := ⟨fun pins s σ H D I q => h.run pins s σ H D I (k _ _ _ q)⟩
theorem pss_imp {X : Cx} {e : List Stmt} {t t' : TS} (h : PSs X e t) (k : ∀ D σ H, t' D σ H → t D σ H) : PSs X e t' := ⟨fun pins s σ H D I q => h.run pins s σ H D I (k _ _ _ q)⟩
/-- a statement from one state to another -/
def tH (Pre Post : L2.St → Hp → Prop) : TS := fun D σ H => Pre σ H ∧ ∀ σ' H', Post σ' H' → D.nx σ' H'
def tPat (p : Pat) : TE := fun _ H Q => ∀ v H', Same H H' → RP H' p v → Q v H'
def tKd (k : Str × Pat × Bool) : TE := fun _ H Q => ∀ v H', Same H H' → KdV H' v k → Q v H'
theorem t_sg {x : Str} (σ : L2.St) (H : Hp) (Q : VK) (h : tPat (.sg x) σ H Q) : tTup (tCons (tC (.str "signs")) (tCons (tC (.str x)) tNil)) σ H Q :=
  ⟨(by show 2 ≤ sizeLine; decide), fun t ht => h _ _ (same_new ht _) ⟨t, rfl, upd_same⟩⟩
theorem t_mo {p : Pat} (σ : L2.St) (H : Hp) (Q : VK) (h : tPat (.mo p) σ H Q) : tTup (tCons (tC (.str "more")) (tCons (tPat p) tNil)) σ H Q := fun v H1 s1 r1 =>
  ⟨(by show 2 ≤ sizeLine; decide), fun t ht => h _ _ (s1.trans (same_new ht _)) ⟨t, v, rfl, upd_same, r1.tk (Tk.of_same (same_new ht _))⟩⟩
theorem t_th {p q : Pat} (σ : L2.St) (H : Hp) (Q : VK) (h : tPat (.th p q) σ H Q) : tTup (tCons (tC (.str "then")) (tCons (tPat p) (tCons (tPat q) tNil))) σ H Q := fun v H1 s1 r1 u H2 s2 r2 =>
  ⟨(by show 3 ≤ sizeLine; decide), fun t ht => h _ _ ((s1.trans s2).trans (same_new ht _)) ⟨t, v, u, rfl, upd_same, (r1.tk (Tk.of_same s2)).tk (Tk.of_same (same_new ht _)), r2.tk (Tk.of_same (same_new ht _))⟩⟩
theorem t_kd {n : Str} {p : Pat} {b : Bool} (σ : L2.St) (H : Hp) (Q : VK) (h : tKd (n, p, b) σ H Q) : tTup (tCons (tC (.str n)) (tCons (tPat p) (tCons (tC (.bl b)) tNil))) σ H Q := fun v H1 s1 r1 =>
  ⟨(by show 3 ≤ sizeLine; decide), fun t ht => h _ _ (s1.trans (same_new ht _)) ⟨t, v, rfl, upd_same, r1.tk (Tk.of_same (same_new ht _))⟩⟩
/-! ### the kinds -/
def baseK : Kds := [("id", .mo (.sg "ab"), false), ("num", .mo (.sg "01"), false), ("eq", .sg "=", false), ("same", .th (.sg "=") (.sg "="), false), ("lp", .sg "(", false), ("rp", .sg ")", false), ("sep", .sg ";", false)]
abbrev keyK : Str × Pat × Bool := ("key", .th (.sg "a") (.sg "b"), false)
abbrev mixK : Str × Pat × Bool := ("mix", .th (.sg "ab") (.th (.sg "01") (.sg "ab")), false)
abbrev farK : Str × Pat × Bool := ("far", .th (.sg "b") (.th (.sg " ") (.sg "b")), false)
abbrev texK : Str × Pat × Bool := ("tex", .th (.sg "'") (.th (.mo (.sg "\n a")) (.sg "'")), false)
abbrev hashK : Str × Pat × Bool := ("hash", .sg "#", false)
abbrev remK : Str × Pat × Bool := ("rem", .th (.sg "#") (.mo (.sg " ab")), true)
def blankP : List Pat := [.sg "\n ", .mo (.sg "\n "), .mo (.sg " ")]
def fullK (b : Pat) : Kds := baseK ++ [keyK] ++ [mixK] ++ [farK] ++ [texK] ++ [hashK, remK] ++ [(("blank" : Str), b, true)]
def KsOk (ks : Kds) : Prop := ∃ b ks0, b ∈ blankP ∧ ks0.Sublist (fullK b) ∧ baseK.Sublist ks0 ∧ ks.Perm ks0
def lowB (x : Str) : Bool := x.cps.toList.all fun c => decide (c < 128)
theorem lowB_of {x : Str} (h : lowB x = true) : LowC x := fun c hc => of_decide_eq_true (List.all_eq_true.mp h c hc)
def plowB : Pat → Bool
  | .sg x => lowB x
  | .em => true
  | .th a b => plowB a && plowB b
  | .oo a b => plowB a && plowB b
  | .ag a => plowB a
  | .mo a => plowB a
  | .mb a => plowB a
theorem plowB_of : ∀ {p : Pat}, plowB p = true → PLow p
  | .sg _, h => lowB_of h
  | .em, _ => trivial
  | .th _ _, h => by rw [plowB, Bool.and_eq_true] at h; exact ⟨plowB_of h.1, plowB_of h.2⟩
  | .oo _ _, h => by rw [plowB, Bool.and_eq_true] at h; exact ⟨plowB_of h.1, plowB_of h.2⟩
  | .ag a, h => plowB_of (p := a) h
  | .mo a, h => plowB_of (p := a) h
  | .mb a, h => plowB_of (p := a) h
abbrev headsL : List Str := ["head", "part", "list", "more"]
def kdB (k : Str × Pat × Bool) : Bool := nameP k.1 && !bareP k.2.1 && lowB k.1 && plowB k.2.1 && decide (deepP k.2.1 ≤ 4) && decide (sizeP k.2.1 ≤ 1000) && decide (k.1.length ≤ 16) && decide (k.1 ∉ headsL)
theorem full_good : ∀ b, b ∈ blankP → ((fullK b).all kdB && decide ((fullK b).map (·.1)).Nodup && decide (signsN (fullK b) ≤ 40) && decide ((fullK b).length = 14)) = true := by decide +kernel
structure KdG (k : Str × Pat × Bool) : Prop where
  name : nameP k.1 = true
  bare : bareP k.2.1 = false
  low : LowC k.1
  plow : PLow k.2.1
  deep : deepP k.2.1 ≤ 4
  size : sizeP k.2.1 ≤ 1000
  len : k.1.length ≤ 16
  head : k.1 ∉ headsL
theorem kdB_of {k : Str × Pat × Bool} (h : kdB k = true) : KdG k := by
  unfold kdB at h
  simp only [Bool.and_eq_true, decide_eq_true_eq, Bool.not_eq_true'] at h
  obtain ⟨⟨⟨⟨⟨⟨⟨h1, h2⟩, h3⟩, h4⟩, h5⟩, h6⟩, h7⟩, h8⟩ := h
  exact ⟨h1, h2, lowB_of h3, plowB_of h4, h5, h6, h7, h8⟩
theorem sub_signs {l m : Kds} (h : l.Sublist m) : signsN l ≤ signsN m := by
  induction h with
  | slnil => exact Nat.le_refl _
  | cons a _ ih => show _ ≤ cntP a.2.1 + signsN _; omega
  | cons_cons a _ ih => show cntP a.2.1 + signsN _ ≤ cntP a.2.1 + signsN _; omega
theorem perm_signs {l m : Kds} (h : l.Perm m) : signsN l = signsN m := (h.map fun k : Str × Pat × Bool => cntP k.2.1).sum_nat
structure KsG (ks : Kds) : Prop where
  good : ∀ k, k ∈ ks → KdG k
  nodup : (ks.map (·.1)).Nodup
  signs : signsN ks ≤ 40
  len : ks.length ≤ 14
  has : ∃ k, k ∈ ks ∧ k.2.2 = false
theorem KsOk.g {ks : Kds} (h : KsOk ks) : KsG ks := by
  obtain ⟨b, ks0, hb, h1, h2, h3⟩ := h
  have hf := full_good b hb
  simp only [Bool.and_eq_true, decide_eq_true_eq] at hf
  obtain ⟨⟨⟨f1, f2⟩, f3⟩, f4⟩ := hf
  refine ⟨fun k hk => kdB_of (List.all_eq_true.mp f1 k (h1.subset (h3.subset hk))), ?_, ?_, ?_, ?_⟩
  · exact (h3.map (·.1)).nodup_iff.mpr ((h1.map (·.1)).nodup f2)
  · rw [perm_signs h3]
    exact Nat.le_trans (sub_signs h1) f3
  · rw [h3.length_eq, ← f4]
    exact h1.length_le
  · exact ⟨("id", .mo (.sg "ab"), false), h3.symm.subset (h2.subset (by unfold baseK; exact List.mem_cons_self)), rfl⟩
end Pa
set_option maxHeartbeats 2000000
namespace Pa
open PySem PySem.Spec PyProof.Rows L2 Ty Se Sv
/-! ### _law_kinds_drawn -/
theorem scKindsD : FnScope ["jar", "rack", "within", "remark", "blanks", "found"] ["jar"] (defScope lKindsD) := ⟨rfl, rfl, rfl, by decide +kernel, rfl, by decide +kernel, by decide +kernel⟩
theorem paired_erase {α β : Type} {P : α → β → Prop} : ∀ {l : List α} {m : List β}, Paired P l m → ∀ i, Paired P (l.eraseIdx i) (m.eraseIdx i)
  | _, _, .nil, _ => .nil
  | _, _, .cons _ t, 0 => t
  | _, _, .cons h t, i + 1 => .cons h (paired_erase t i)
theorem perm_erase {α : Type} : ∀ {l : List α} {i : Nat} (h : i < l.length), (l[i] :: l.eraseIdx i).Perm l
  | _ :: _, 0, _ => List.Perm.refl _
  | a :: l, i + 1, h => by
    have h' : i < l.length := by rw [List.length_cons] at h; omega
    show (l[i] :: a :: l.eraseIdx i).Perm (a :: l)
    exact (List.Perm.swap a l[i] _).trans ((perm_erase h').cons a)
theorem seq_in {n : Nat} {r : Int} (h0 : 0 ≤ r) (h1 : r < (n : Nat)) : seqIndex? r n = some r.toNat := by
  unfold seqIndex?
  have e1 : ¬ r < 0 := by omega
  simp only [if_neg e1]
  rw [decide_eq_true h0, decide_eq_true h1]
  rfl
def spKindsD : Sp := fun vs H Q _ => ∃ (j : Addr) (C : Nat), vs = [.ref j] ∧ Jar j H C ∧ C ≤ 999900000 ∧
  ∀ (p : Addr) (ks : Kds) (H' : Hp), H p = none → p ≠ j → KL H' p ks → KsOk ks → Jar j H' (C + 21) → Keep j H H' → Q (.ref p) H'
/-- the rack as it grows -/
def RkS (j : Addr) (H0 : Hp) (C : Nat) (full : Kds) (σ : L2.St) (H : Hp) : Prop := ∃ (p : Addr) (acc : List V) (ks : Kds) (x2 x3 x4 x5 : Option V), σ = [some (.ref j), some (.ref p), x2, x3, x4, x5] ∧ H0 p = none ∧ p ≠ j ∧ H p = some (.lst acc) ∧ Paired (KdV H) acc ks ∧ ks.Sublist full ∧ full.length ≤ 20 ∧ baseK.Sublist ks ∧ Jar j H C ∧ Keep j H0 H
theorem RkS.more {j : Addr} {H0 H H' : Hp} {C : Nat} {full add : Kds} {p : Addr} {acc : List V} {ks : Kds} {x2 x3 x4 x5 : Option V} (h0 : H0 p = none) (hp : p ≠ j) (e : H' p = some (.lst acc)) (pa : Paired (KdV H') acc (ks ++ add)) (hs : ks.Sublist full) (hl : (full ++ add).length ≤ 20) (hb : baseK.Sublist ks) (hj : Jar j H' C) (kp : Keep j H0 H') : RkS j H0 C (full ++ add) [some (.ref j), some (.ref p), x2, x3, x4, x5] H' :=
  ⟨p, acc, _, _, _, _, _, rfl, h0, hp, e, pa, hs.append (List.Sublist.refl add), hl, hb.trans (List.sublist_append_left _ _), hj, kp⟩
theorem RkS.less {j : Addr} {H0 H' : Hp} {C : Nat} {full add : Kds} {p : Addr} {acc : List V} {ks : Kds} {x2 x3 x4 x5 : Option V} (h0 : H0 p = none) (hp : p ≠ j) (e : H' p = some (.lst acc)) (pa : Paired (KdV H') acc ks) (hs : ks.Sublist full) (hl : (full ++ add).length ≤ 20) (hb : baseK.Sublist ks) (hj : Jar j H' C) (kp : Keep j H0 H') : RkS j H0 C (full ++ add) [some (.ref j), some (.ref p), x2, x3, x4, x5] H' :=
  ⟨p, acc, _, _, _, _, _, rfl, h0, hp, e, pa, hs.trans (List.sublist_append_left _ _), hl, hb, hj, kp⟩
section
variable {P : Program} {w : World} {K : PySem.W.Frag} {mg : Str → Option Value} {base : Heap} {f g : Addr} {fd gd : FuncData}
theorem ok_kindsd (F : Fun K "_law_kinds_drawn" "_law_kinds_drawn" lKindsD f fd)
    (G : FnOk P w K mg base CX0 1 g gd ["jar", "many"] spDrawn) (bG : L2.Binds K gd ["jar", "many"] []) (kG : PySem.W.keepIn K (.ref g) = true) (mG : mg "_law_dip" = some (.ref g)) (ml : mg "len" = none) :
    FnOk P w K mg base CX0 2 f fd ["jar"] spKindsD := by
  refine F.ok scKindsD (fun vs H Q E h => ?_) (fun cdv A outer s0 H vs Q E hr h => ?_)
  · obtain ⟨_, _, rfl, _⟩ := h
    rfl
  have hu64 := hr.units
  obtain ⟨j, C, rfl, hj, hC, q⟩ := h
  refine ⟨_, (pss_cons (ps_set (i := 1) scKindsD.nd rfl (.inl rfl) (pe_lst (pa_cons (pe_imp (pe_tup (pa_cons pe_str (pa_cons (pe_imp (pe_tup (pa_cons pe_str (pa_cons (pe_imp (pe_tup (pa_cons pe_str (pa_cons pe_str pa_nil))) t_sg) pa_nil))) t_mo) (pa_cons pe_bl pa_nil)))) t_kd) (pa_cons (pe_imp (pe_tup (pa_cons pe_str (pa_cons (pe_imp (pe_tup (pa_cons pe_str (pa_cons (pe_imp (pe_tup (pa_cons pe_str (pa_cons pe_str pa_nil))) t_sg) pa_nil))) t_mo) (pa_cons pe_bl pa_nil)))) t_kd) pa_nil))))
    (pss_cons (ps_set (i := 1) scKindsD.nd rfl (.inl rfl) (pe_op op_cat (pv 1) (pe_lst (pa_cons (pe_imp (pe_tup (pa_cons pe_str (pa_cons (pe_imp (pe_tup (pa_cons pe_str (pa_cons pe_str pa_nil))) t_sg) (pa_cons pe_bl pa_nil)))) t_kd) (pa_cons (pe_imp (pe_tup (pa_cons pe_str (pa_cons (pe_imp (pe_tup (pa_cons pe_str (pa_cons (pe_imp (pe_tup (pa_cons pe_str (pa_cons pe_str pa_nil))) t_sg) (pa_cons (pe_imp (pe_tup (pa_cons pe_str (pa_cons pe_str pa_nil))) t_sg) pa_nil)))) t_th) (pa_cons pe_bl pa_nil)))) t_kd) pa_nil)))))
    (pss_cons (ps_set (i := 1) scKindsD.nd rfl (.inl rfl) (pe_op op_cat (pv 1) (pe_lst (pa_cons (pe_imp (pe_tup (pa_cons pe_str (pa_cons (pe_imp (pe_tup (pa_cons pe_str (pa_cons pe_str pa_nil))) t_sg) (pa_cons pe_bl pa_nil)))) t_kd) (pa_cons (pe_imp (pe_tup (pa_cons pe_str (pa_cons (pe_imp (pe_tup (pa_cons pe_str (pa_cons pe_str pa_nil))) t_sg) (pa_cons pe_bl pa_nil)))) t_kd) (pa_cons (pe_imp (pe_tup (pa_cons pe_str (pa_cons (pe_imp (pe_tup (pa_cons pe_str (pa_cons pe_str pa_nil))) t_sg) (pa_cons pe_bl pa_nil)))) t_kd) pa_nil))))))
    (pss_cons (show PS _ _ (tH (RkS j H (C + 0) (baseK)) (RkS j H (C + 1) (baseK ++ [keyK]))) from ps_imp (ps_if (pt_cmpR op_eq (pe_call G hr rfl mG kG bG .nil pass0 (pa_cons (pv 0) (pa_cons pe_int pa_nil))) pe_int (nomark _)) (pss_one (ps_expr (pe_bm PySem.F.plainAttrs_list PySem.F.slot_list_append PySem.F.type_list_append mt_append (pv 1) (pa_cons (pe_imp (pe_tup (pa_cons pe_str (pa_cons (pe_imp (pe_tup (pa_cons pe_str (pa_cons (pe_imp (pe_tup (pa_cons pe_str (pa_cons pe_str pa_nil))) t_sg) (pa_cons (pe_imp (pe_tup (pa_cons pe_str (pa_cons pe_str pa_nil))) t_sg) pa_nil)))) t_th) (pa_cons pe_bl pa_nil)))) t_kd) pa_nil)))) pss_nil) (fun D σ H1 h => by
      obtain ⟨⟨p, acc, ks, x2, x3, x4, x5, rfl, h0, hp, e, pa, hs, hl, hb, hj1, kp⟩, h⟩ := h
      refine ⟨_, rfl, j, C + 0, 3, rfl, hj1, by omega, by decide, by decide, fun r H2 r0 r1 hj2 kp2 => ⟨rfl, _, rfl, ?_⟩⟩
      have e2 := kp2 _ _ hp e
      have pa2 := paired_imp (fun _ _ r => r.tk (Tk.of_keep hj1 kp2)) pa
      rw [dec_int]
      by_cases hc : r = 0
      · refine ifT (decide_eq_true hc) ⟨_, rfl, .inl ⟨rfl, _, SqL.of e2⟩, fun v H3 s3 r3 => ?_⟩
        refine ⟨p, acc, v, rfl, rfl, s3 _ _ e2, by rw [sizeLine_eq, pa.length]; have := hs.length_le; omega, h _ _ ?_⟩
        have t3 : Tk H3 (upd H3 p (.lst (acc ++ [v]))) := Tk.lst (s3 _ _ e2)
        exact RkS.more (H := H) (add := [keyK]) h0 hp upd_same (paired_snoc (paired_imp (fun _ _ r => (r.tk (Tk.of_same s3)).tk t3) pa2) (r3.tk t3)) hs (Nat.le_of_ble_eq_true rfl) hb ((hj2.keep s3).upd hp) (((kp.trans kp2).trans (Keep.of_same s3)).upd h0)
      · exact ifF (decide_eq_false hc) (h _ _ (RkS.less (add := [keyK]) h0 hp e2 pa2 hs (Nat.le_of_ble_eq_true rfl) hb hj2 (kp.trans kp2)))))
    (pss_cons (show PS _ _ (tH (RkS j H (C + 1) (baseK ++ [keyK])) (RkS j H (C + 2) (baseK ++ [keyK] ++ [mixK]))) from ps_imp (ps_if (pt_cmpR op_eq (pe_call G hr rfl mG kG bG .nil pass0 (pa_cons (pv 0) (pa_cons pe_int pa_nil))) pe_int (nomark _)) (pss_one (ps_expr (pe_bm PySem.F.plainAttrs_list PySem.F.slot_list_append PySem.F.type_list_append mt_append (pv 1) (pa_cons (pe_imp (pe_tup (pa_cons pe_str (pa_cons (pe_imp (pe_tup (pa_cons pe_str (pa_cons (pe_imp (pe_tup (pa_cons pe_str (pa_cons pe_str pa_nil))) t_sg) (pa_cons (pe_imp (pe_tup (pa_cons pe_str (pa_cons (pe_imp (pe_tup (pa_cons pe_str (pa_cons pe_str pa_nil))) t_sg) (pa_cons (pe_imp (pe_tup (pa_cons pe_str (pa_cons pe_str pa_nil))) t_sg) pa_nil)))) t_th) pa_nil)))) t_th) (pa_cons pe_bl pa_nil)))) t_kd) pa_nil)))) pss_nil) (fun D σ H1 h => by
      obtain ⟨⟨p, acc, ks, x2, x3, x4, x5, rfl, h0, hp, e, pa, hs, hl, hb, hj1, kp⟩, h⟩ := h
      refine ⟨_, rfl, j, C + 1, 4, rfl, hj1, by omega, by decide, by decide, fun r H2 r0 r1 hj2 kp2 => ⟨rfl, _, rfl, ?_⟩⟩
      have e2 := kp2 _ _ hp e
      have pa2 := paired_imp (fun _ _ r => r.tk (Tk.of_keep hj1 kp2)) pa
      rw [dec_int]
      by_cases hc : r = 0
      · refine ifT (decide_eq_true hc) ⟨_, rfl, .inl ⟨rfl, _, SqL.of e2⟩, fun v H3 s3 r3 => ?_⟩
        refine ⟨p, acc, v, rfl, rfl, s3 _ _ e2, by rw [sizeLine_eq, pa.length]; have := hs.length_le; omega, h _ _ ?_⟩
        have t3 : Tk H3 (upd H3 p (.lst (acc ++ [v]))) := Tk.lst (s3 _ _ e2)
        exact RkS.more (H := H) (add := [mixK]) h0 hp upd_same (paired_snoc (paired_imp (fun _ _ r => (r.tk (Tk.of_same s3)).tk t3) pa2) (r3.tk t3)) hs (Nat.le_of_ble_eq_true rfl) hb ((hj2.keep s3).upd hp) (((kp.trans kp2).trans (Keep.of_same s3)).upd h0)
      · exact ifF (decide_eq_false hc) (h _ _ (RkS.less (add := [mixK]) h0 hp e2 pa2 hs (Nat.le_of_ble_eq_true rfl) hb hj2 (kp.trans kp2)))))
    (pss_cons (show PS _ _ (tH (RkS j H (C + 2) (baseK ++ [keyK] ++ [mixK])) (RkS j H (C + 3) (baseK ++ [keyK] ++ [mixK] ++ [farK]))) from ps_imp (ps_if (pt_cmpR op_eq (pe_call G hr rfl mG kG bG .nil pass0 (pa_cons (pv 0) (pa_cons pe_int pa_nil))) pe_int (nomark _)) (pss_one (ps_expr (pe_bm PySem.F.plainAttrs_list PySem.F.slot_list_append PySem.F.type_list_append mt_append (pv 1) (pa_cons (pe_imp (pe_tup (pa_cons pe_str (pa_cons (pe_imp (pe_tup (pa_cons pe_str (pa_cons (pe_imp (pe_tup (pa_cons pe_str (pa_cons pe_str pa_nil))) t_sg) (pa_cons (pe_imp (pe_tup (pa_cons pe_str (pa_cons (pe_imp (pe_tup (pa_cons pe_str (pa_cons pe_str pa_nil))) t_sg) (pa_cons (pe_imp (pe_tup (pa_cons pe_str (pa_cons pe_str pa_nil))) t_sg) pa_nil)))) t_th) pa_nil)))) t_th) (pa_cons pe_bl pa_nil)))) t_kd) pa_nil)))) pss_nil) (fun D σ H1 h => by
      obtain ⟨⟨p, acc, ks, x2, x3, x4, x5, rfl, h0, hp, e, pa, hs, hl, hb, hj1, kp⟩, h⟩ := h
      refine ⟨_, rfl, j, C + 2, 8, rfl, hj1, by omega, by decide, by decide, fun r H2 r0 r1 hj2 kp2 => ⟨rfl, _, rfl, ?_⟩⟩
      have e2 := kp2 _ _ hp e
      have pa2 := paired_imp (fun _ _ r => r.tk (Tk.of_keep hj1 kp2)) pa
      rw [dec_int]
      by_cases hc : r = 0
      · refine ifT (decide_eq_true hc) ⟨_, rfl, .inl ⟨rfl, _, SqL.of e2⟩, fun v H3 s3 r3 => ?_⟩
        refine ⟨p, acc, v, rfl, rfl, s3 _ _ e2, by rw [sizeLine_eq, pa.length]; have := hs.length_le; omega, h _ _ ?_⟩
        have t3 : Tk H3 (upd H3 p (.lst (acc ++ [v]))) := Tk.lst (s3 _ _ e2)
        exact RkS.more (H := H) (add := [farK]) h0 hp upd_same (paired_snoc (paired_imp (fun _ _ r => (r.tk (Tk.of_same s3)).tk t3) pa2) (r3.tk t3)) hs (Nat.le_of_ble_eq_true rfl) hb ((hj2.keep s3).upd hp) (((kp.trans kp2).trans (Keep.of_same s3)).upd h0)
      · exact ifF (decide_eq_false hc) (h _ _ (RkS.less (add := [farK]) h0 hp e2 pa2 hs (Nat.le_of_ble_eq_true rfl) hb hj2 (kp.trans kp2)))))
    (pss_cons (show PS _ _ (tH (RkS j H (C + 3) (baseK ++ [keyK] ++ [mixK] ++ [farK])) (RkS j H (C + 4) (baseK ++ [keyK] ++ [mixK] ++ [farK] ++ [texK]))) from ps_imp (ps_if (pt_cmpR op_eq (pe_call G hr rfl mG kG bG .nil pass0 (pa_cons (pv 0) (pa_cons pe_int pa_nil))) pe_int (nomark _)) (pss_cons (ps_set (i := 2) scKindsD.nd rfl (.inl rfl) (pe_imp (pe_tup (pa_cons pe_str (pa_cons (pe_imp (pe_tup (pa_cons pe_str (pa_cons pe_str pa_nil))) t_sg) pa_nil))) t_mo)) (pss_one (ps_expr (pe_bm PySem.F.plainAttrs_list PySem.F.slot_list_append PySem.F.type_list_append mt_append (pv 1) (pa_cons (pe_tup (pa_cons pe_str (pa_cons (pe_tup (pa_cons pe_str (pa_cons (pe_imp (pe_tup (pa_cons pe_str (pa_cons pe_str pa_nil))) t_sg) (pa_cons (pe_tup (pa_cons pe_str (pa_cons (pv 2) (pa_cons (pe_imp (pe_tup (pa_cons pe_str (pa_cons pe_str pa_nil))) t_sg) pa_nil)))) pa_nil)))) (pa_cons pe_bl pa_nil)))) pa_nil))))) pss_nil) (fun D σ H1 h => by
      obtain ⟨⟨p, acc, ks, x2, x3, x4, x5, rfl, h0, hp, e, pa, hs, hl, hb, hj1, kp⟩, h⟩ := h
      refine ⟨_, rfl, j, C + 3, 4, rfl, hj1, by omega, by decide, by decide, fun r H2 r0 r1 hj2 kp2 => ⟨rfl, _, rfl, ?_⟩⟩
      have e2 := kp2 _ _ hp e
      have pa2 := paired_imp (fun _ _ r => r.tk (Tk.of_keep hj1 kp2)) pa
      rw [dec_int]
      by_cases hc : r = 0
      · refine ifT (decide_eq_true hc) (fun u H3 s3 r3 => ⟨_, rfl, .inl ⟨rfl, _, SqL.of (s3 _ _ e2)⟩, fun v4 H4 s4 r4 => ⟨_, rfl, fun v5 H5 s5 r5 => ⟨(by show 3 ≤ sizeLine; decide), fun t6 h6 => ⟨(by show 3 ≤ sizeLine; decide), fun t7 h7 => ⟨(by show 3 ≤ sizeLine; decide), fun t8 h8 => ?_⟩⟩⟩⟩⟩)
        have s6 := same_new h6 (.tup [V.str "then", u, v5])
        have e6 : (upd H5 t6 (.tup [V.str "then", u, v5])) t6 = some (.tup [V.str "then", u, v5]) := upd_same
        generalize upd H5 t6 (.tup [V.str "then", u, v5]) = H6 at *
        have s7 := same_new h7 (.tup [V.str "then", v4, .ref t6])
        have e7 : (upd H6 t7 (.tup [V.str "then", v4, .ref t6])) t7 = some (.tup [V.str "then", v4, .ref t6]) := upd_same
        generalize upd H6 t7 (.tup [V.str "then", v4, .ref t6]) = H7 at *
        have s8 := same_new h8 (.tup [V.str "tex", .ref t7, .bl false])
        have e8 : (upd H7 t8 (.tup [V.str "tex", .ref t7, .bl false])) t8 = some (.tup [V.str "tex", .ref t7, .bl false]) := upd_same
        generalize upd H7 t8 (.tup [V.str "tex", .ref t7, .bl false]) = H8 at *
        have s38 : Same H3 H8 := s4.trans (s5.trans (s6.trans (s7.trans s8)))
        have s28 : Same H2 H8 := s3.trans s38
        have kd : KdV H8 (.ref t8) texK := ⟨t8, .ref t7, rfl, e8, t7, v4, .ref t6, rfl, s8 _ _ e7, r4.tk (Tk.of_same (s5.trans (s6.trans (s7.trans s8)))), t6, u, v5, rfl, s8 _ _ (s7 _ _ e6), r3.tk (Tk.of_same s38), r5.tk (Tk.of_same (s6.trans (s7.trans s8)))⟩
        refine ⟨p, acc, .ref t8, rfl, rfl, s28 _ _ e2, by rw [sizeLine_eq, pa.length]; have := hs.length_le; omega, h _ _ ?_⟩
        have t9 : Tk H8 (upd H8 p (.lst (acc ++ [.ref t8]))) := Tk.lst (s28 _ _ e2)
        exact RkS.more (H := H) (add := [texK]) h0 hp upd_same (paired_snoc (paired_imp (fun _ _ r => (r.tk (Tk.of_same s28)).tk t9) pa2) (kd.tk t9)) hs (Nat.le_of_ble_eq_true rfl) hb ((hj2.keep s28).upd hp) (((kp.trans kp2).trans (Keep.of_same s28)).upd h0)
      · exact ifF (decide_eq_false hc) (h _ _ (RkS.less (add := [texK]) h0 hp e2 pa2 hs (Nat.le_of_ble_eq_true rfl) hb hj2 (kp.trans kp2)))))
    (pss_cons (show PS _ _ (tH (RkS j H (C + 4) (baseK ++ [keyK] ++ [mixK] ++ [farK] ++ [texK])) (RkS j H (C + 5) (baseK ++ [keyK] ++ [mixK] ++ [farK] ++ [texK] ++ [hashK, remK]))) from ps_imp (ps_if (pt_cmpR op_eq (pe_call G hr rfl mG kG bG .nil pass0 (pa_cons (pv 0) (pa_cons pe_int pa_nil))) pe_int (nomark _)) (pss_cons (ps_set (i := 3) scKindsD.nd rfl (.inl rfl) (pe_imp (pe_tup (pa_cons pe_str (pa_cons (pe_imp (pe_tup (pa_cons pe_str (pa_cons pe_str pa_nil))) t_sg) (pa_cons (pe_imp (pe_tup (pa_cons pe_str (pa_cons (pe_imp (pe_tup (pa_cons pe_str (pa_cons pe_str pa_nil))) t_sg) pa_nil))) t_mo) pa_nil)))) t_th)) (pss_one (ps_set (i := 1) scKindsD.nd rfl (.inl rfl) (pe_op op_cat (pv 1) (pe_lst (pa_cons (pe_imp (pe_tup (pa_cons pe_str (pa_cons (pe_imp (pe_tup (pa_cons pe_str (pa_cons pe_str pa_nil))) t_sg) (pa_cons pe_bl pa_nil)))) t_kd) (pa_cons (pe_tup (pa_cons pe_str (pa_cons (pv 3) (pa_cons pe_bl pa_nil)))) pa_nil))))))) pss_nil) (fun D σ H1 h => by
      obtain ⟨⟨p, acc, ks, x2, x3, x4, x5, rfl, h0, hp, e, pa, hs, hl, hb, hj1, kp⟩, h⟩ := h
      refine ⟨_, rfl, j, C + 4, 4, rfl, hj1, by omega, by decide, by decide, fun r H2 r0 r1 hj2 kp2 => ⟨rfl, _, rfl, ?_⟩⟩
      have e2 := kp2 _ _ hp e
      have pa2 := paired_imp (fun _ _ r => r.tk (Tk.of_keep hj1 kp2)) pa
      rw [dec_int]
      by_cases hc : r = 0
      · refine ifT (decide_eq_true hc) (fun u H3 s3 r3 => ⟨_, rfl, fun v4 H4 s4 r4 => ⟨_, rfl, (by show 3 ≤ sizeLine; decide), fun t5 h5 => ⟨(by show 2 ≤ sizeLine; decide), fun l6 h6 => ?_⟩⟩⟩)
        have s5 := same_new h5 (.tup [V.str "rem", u, .bl true])
        have e5 : (upd H4 t5 (.tup [V.str "rem", u, .bl true])) t5 = some (.tup [V.str "rem", u, .bl true]) := upd_same
        generalize upd H4 t5 (.tup [V.str "rem", u, .bl true]) = H5 at *
        have s6 := same_new h6 (.lst [v4, .ref t5])
        have e6 : (upd H5 l6 (.lst [v4, .ref t5])) l6 = some (.lst [v4, .ref t5]) := upd_same
        generalize upd H5 l6 (.lst [v4, .ref t5]) = H6 at *
        have s26 : Same H2 H6 := s3.trans (s4.trans (s5.trans s6))
        refine ⟨p, l6, acc, [v4, .ref t5], rfl, rfl, s26 _ _ e2, e6, by rw [sizeLine_eq, pa.length]; have := hs.length_le; simp; omega, fun l7 h7 => h _ _ ?_⟩
        have s7 := same_new h7 (.lst (acc ++ [v4, .ref t5]))
        have s27 := s26.trans s7
        have s67 := (s6.trans s7)
        have kk := (kp.trans kp2).trans (Keep.of_same s26)
        have l7j : l7 ≠ j := (hj2.keep s26).ne h7
        exact RkS.more (H := H) (add := [hashK, remK]) (new_back kk l7j h7) l7j upd_same (paired_app (paired_imp (fun _ _ r => r.tk (Tk.of_same s27)) pa2) (.cons ((r4.tk (Tk.of_same s5)).tk (Tk.of_same s67)) (.cons ⟨t5, u, rfl, s67 _ _ e5, r3.tk (Tk.of_same (s4.trans (s5.trans s67)))⟩ .nil))) hs (Nat.le_of_ble_eq_true rfl) hb (hj2.keep s27) (kk.trans (Keep.of_same s7))
      · exact ifF (decide_eq_false hc) (h _ _ (RkS.less (add := [hashK, remK]) h0 hp e2 pa2 hs (Nat.le_of_ble_eq_true rfl) hb hj2 (kp.trans kp2)))))
    (pss_cons (show PS _ _ (tH (RkS j H (C + 5) (baseK ++ [keyK] ++ [mixK] ++ [farK] ++ [texK] ++ [hashK, remK])) (fun σ H1 => ∃ b, b ∈ blankP ∧ RkS j H (C + 7) (fullK b) σ H1)) from ps_imp (ps_if (pt_cmpR op_gt (pe_call G hr rfl mG kG bG .nil pass0 (pa_cons (pv 0) (pa_cons pe_int pa_nil))) pe_int (nomark _)) (pss_cons (ps_set (i := 4) scKindsD.nd rfl (.inl rfl) (pe_ix ix_list (pe_lst (pa_cons (pe_imp (pe_tup (pa_cons pe_str (pa_cons pe_str pa_nil))) t_sg) (pa_cons (pe_imp (pe_tup (pa_cons pe_str (pa_cons (pe_imp (pe_tup (pa_cons pe_str (pa_cons pe_str pa_nil))) t_sg) pa_nil))) t_mo) (pa_cons (pe_imp (pe_tup (pa_cons pe_str (pa_cons (pe_imp (pe_tup (pa_cons pe_str (pa_cons pe_str pa_nil))) t_sg) pa_nil))) t_mo) pa_nil)))) (pe_call G hr rfl mG kG bG .nil pass0 (pa_cons (pv 0) (pa_cons pe_int pa_nil))) (fun _ _ => rfl))) (pss_one (ps_expr (pe_bm PySem.F.plainAttrs_list PySem.F.slot_list_append PySem.F.type_list_append mt_append (pv 1) (pa_cons (pe_tup (pa_cons pe_str (pa_cons (pv 4) (pa_cons pe_bl pa_nil)))) pa_nil))))) pss_nil) (fun D σ H1 h => by
      obtain ⟨⟨p, acc, ks, x2, x3, x4, x5, rfl, h0, hp, e, pa, hs, hl, hb, hj1, kp⟩, h⟩ := h
      refine ⟨_, rfl, j, C + 5, 8, rfl, hj1, by omega, by decide, by decide, fun r H2 r0 r1 hj2 kp2 => ⟨_, _, rfl, rfl, _, rfl, ?_⟩⟩
      have e2 := kp2 _ _ hp e
      have pa2 := paired_imp (fun _ _ r => r.tk (Tk.of_keep hj1 kp2)) pa
      by_cases hc : r > 0
      · refine ifT (decide_eq_true hc) (fun v3 H3 s3 r3 v4 H4 s4 r4 v5 H5 s5 r5 => ⟨(by show 3 ≤ sizeLine; decide), fun l6 h6 => ?_⟩)
        have s6 := same_new h6 (.lst [v3, v4, v5])
        have e6 : (upd H5 l6 (.lst [v3, v4, v5])) l6 = some (.lst [v3, v4, v5]) := upd_same
        generalize upd H5 l6 (.lst [v3, v4, v5]) = H6 at *
        have s26 : Same H2 H6 := s3.trans (s4.trans (s5.trans s6))
        have hj6 := hj2.keep s26
        have l6j : l6 ≠ j := (hj2.keep (s3.trans (s4.trans s5))).ne h6
        refine ⟨_, rfl, j, C + 6, 3, rfl, hj6, by omega, by decide, by decide, fun i H7 i0 i1 hj7 kp7 => ?_⟩
        have tk7 := Tk.of_keep hj6 kp7
        have tk6 : Tk H5 H7 := (Tk.of_same s6).trans tk7
        obtain ⟨v, b, ea, rb, hbl⟩ : ∃ v b, atI [v3, v4, v5] i = some v ∧ RP H7 b v ∧ b ∈ blankP := by
          obtain rfl | rfl | rfl : i = 0 ∨ i = 1 ∨ i = 2 := by omega
          · exact ⟨v3, _, rfl, r3.tk ((Tk.of_same (s4.trans s5)).trans tk6), by simp [blankP]⟩
          · exact ⟨v4, _, rfl, r4.tk ((Tk.of_same s5).trans tk6), by simp [blankP]⟩
          · exact ⟨v5, _, rfl, r5.tk tk6, by simp [blankP]⟩
        have e7 := kp7 _ _ hp (s26 _ _ e2)
        refine ⟨l6, _, _, _, rfl, rfl, SqL.of (kp7 _ _ l6j e6), ea, _, rfl, .inl ⟨rfl, _, SqL.of e7⟩, _, rfl, (by show 3 ≤ sizeLine; decide), fun t8 h8 => ?_⟩
        have s8 := same_new h8 (.tup [V.str "blank", v, .bl true])
        have e8 : (upd H7 t8 (.tup [V.str "blank", v, .bl true])) t8 = some (.tup [V.str "blank", v, .bl true]) := upd_same
        generalize upd H7 t8 (.tup [V.str "blank", v, .bl true]) = H8 at *
        have kd : KdV H8 (.ref t8) (("blank" : Str), b, true) := ⟨t8, v, rfl, e8, rb.tk (Tk.of_same s8)⟩
        refine ⟨p, acc, .ref t8, rfl, rfl, s8 _ _ e7, by rw [sizeLine_eq, pa.length]; have := hs.length_le; omega, h _ _ ⟨b, hbl, ?_⟩⟩
        have t9 : Tk H8 (upd H8 p (.lst (acc ++ [.ref t8]))) := Tk.lst (s8 _ _ e7)
        exact RkS.more (H := H) (add := [(("blank" : Str), b, true)]) h0 hp upd_same (paired_snoc (paired_imp (fun _ _ r => ((r.tk ((Tk.of_same s26).trans tk7)).tk (Tk.of_same s8)).tk t9) pa2) (kd.tk t9)) hs (Nat.le_of_ble_eq_true rfl) hb ((hj7.keep s8).upd hp) ((((kp.trans kp2).trans (Keep.of_same s26)).trans (kp7.trans (Keep.of_same s8))).upd h0)
      · exact ifF (decide_eq_false hc) (h _ _ ⟨.sg "\n ", by simp [blankP], RkS.less (add := [(("blank" : Str), .sg "\n ", true)]) h0 hp e2 pa2 hs (Nat.le_of_ble_eq_true rfl) hb (hj2.mono (by omega)) (kp.trans kp2)⟩)))
    (pss_cons (ps_set (i := 5) scKindsD.nd rfl (.inl rfl) (pe_lst pa_nil))
    (pss_cons (ps_while PassesOwn.never (pt_cmpR (op_neL0 hu64) (pv 1) (pe_lst pa_nil) (nomark _)) (pss_one (ps_expr (pe_bm PySem.F.plainAttrs_list PySem.F.slot_list_append PySem.F.type_list_append mt_append (pv 5) (pa_cons (pe_bm PySem.F.plainAttrs_list PySem.F.slot_list_pop PySem.F.type_list_pop mt_popAt (pv 1) (pa_cons (pe_call G hr rfl mG kG bG .nil pass0 (pa_cons (pv 0) (pa_cons (pe_callB call_len_seq rfl ml PySem.boot_len (pa_cons (pv 1) pa_nil)) pa_nil))) pa_nil)) pa_nil)))))
    (pss_one (ps_ret (pv 5)))))))))))))), ?_⟩
  refine fun v1 H1 s1 r1 v2 H2 s2 r2 => ⟨(by show 2 ≤ sizeLine; decide), fun l3 h3 => ?_⟩
  have s3 := same_new h3 (.lst [v1, v2])
  have e3 : (upd H2 l3 (.lst [v1, v2])) l3 = some (.lst [v1, v2]) := upd_same
  have p3 : Paired (KdV (upd H2 l3 (.lst [v1, v2]))) [v1, v2] (baseK.take 2) := .cons (r1.tk (Tk.of_same (s2.trans s3))) (.cons (r2.tk (Tk.of_same s3)) .nil)
  replace s3 := s1.trans (s2.trans s3)
  generalize upd H2 l3 (.lst [v1, v2]) = H3 at s3 e3 p3 ⊢
  refine ⟨_, rfl, fun v4 H4 s4 r4 v5 H5 s5 r5 => ⟨(by show 2 ≤ sizeLine; decide), fun l6 h6 => ?_⟩⟩
  have s6 := same_new h6 (.lst [v4, v5])
  have e6 : (upd H5 l6 (.lst [v4, v5])) l6 = some (.lst [v4, v5]) := upd_same
  generalize upd H5 l6 (.lst [v4, v5]) = H6 at s6 e6 ⊢
  refine ⟨l3, l6, _, _, rfl, rfl, s6 _ _ (s5 _ _ (s4 _ _ e3)), e6, (by show 4 ≤ sizeLine; decide), fun l7 h7 => ?_⟩
  have s7 := same_new h7 (.lst ([v1, v2] ++ [v4, v5]))
  have e7 : (upd H6 l7 (.lst ([v1, v2] ++ [v4, v5]))) l7 = some (.lst [v1, v2, v4, v5]) := upd_same
  have p7 : Paired (KdV (upd H6 l7 (.lst ([v1, v2] ++ [v4, v5])))) [v1, v2, v4, v5] (baseK.take 4) := paired_app (paired_imp (fun _ _ r => r.tk (Tk.of_same (s4.trans (s5.trans (s6.trans s7))))) p3) (.cons (r4.tk (Tk.of_same (s5.trans (s6.trans s7)))) (.cons (r5.tk (Tk.of_same (s6.trans s7))) .nil))
  replace s7 := s3.trans (s4.trans (s5.trans (s6.trans s7)))
  generalize upd H6 l7 (.lst ([v1, v2] ++ [v4, v5])) = H7 at s7 e7 p7 ⊢
  refine ⟨_, rfl, fun v8 H8 s8 r8 v9 H9 s9 r9 v10 H10 s10 r10 => ⟨(by show 3 ≤ sizeLine; decide), fun l11 h11 => ?_⟩⟩
  have s11 := same_new h11 (.lst [v8, v9, v10])
  have e11 : (upd H10 l11 (.lst [v8, v9, v10])) l11 = some (.lst [v8, v9, v10]) := upd_same
  generalize upd H10 l11 (.lst [v8, v9, v10]) = H11 at s11 e11 ⊢
  refine ⟨l7, l11, _, _, rfl, rfl, s11 _ _ (s10 _ _ (s9 _ _ (s8 _ _ e7))), e11, (by show 7 ≤ sizeLine; decide), fun l12 h12 => ?_⟩
  have s12 := same_new h12 (.lst ([v1, v2, v4, v5] ++ [v8, v9, v10]))
  have s812 := s8.trans (s9.trans (s10.trans (s11.trans s12)))
  have p12 : Paired (KdV (upd H11 l12 (.lst ([v1, v2, v4, v5] ++ [v8, v9, v10])))) [v1, v2, v4, v5, v8, v9, v10] baseK := paired_app (paired_imp (fun _ _ r => r.tk (Tk.of_same s812)) p7) (.cons (r8.tk (Tk.of_same (s9.trans (s10.trans (s11.trans s12))))) (.cons (r9.tk (Tk.of_same (s10.trans (s11.trans s12)))) (.cons (r10.tk (Tk.of_same (s11.trans s12))) .nil)))
  have sA : Same H (upd H11 l12 (.lst ([v1, v2, v4, v5] ++ [v8, v9, v10]))) := s7.trans s812
  have l12n : H l12 = none := new_of (s7.trans (s8.trans (s9.trans (s10.trans s11)))) h12
  refine ⟨⟨l12, _, _, _, _, _, _, rfl, l12n, hj.ne l12n, upd_same, p12, List.Sublist.refl _, (by decide), List.Sublist.refl _, hj.keep sA, Keep.of_same sA⟩, fun σ1 H1 w1 => ⟨w1, fun σ2 H2 w2 => ⟨w2, fun σ3 H3 w3 => ⟨w3, fun σ4 H4 w4 => ⟨w4, fun σ5 H5 w5 => ⟨w5, fun σ6 H6 w6 => ?_⟩⟩⟩⟩⟩⟩
  obtain ⟨b, hb, p, acc, ks0, x2, x3, x4, x5, rfl, h0, hp, e, pa, hs, hl, hbs, hj6, kp⟩ := w6
  refine ⟨(by show 0 ≤ sizeLine; decide), fun fp hfp => ?_⟩
  have fpp : p ≠ fp := fun z => by rw [← z, e] at hfp; cases hfp
  have sf := same_new hfp (.lst [])
  have fpj := hj6.ne hfp
  have fp0 := new_back kp fpj hfp
  have l0 : ks0.length ≤ 14 := by
    have := hs.length_le
    have e14 : (fullK b).length = 14 := rfl
    omega
  refine ⟨fun m σ H' => ∃ (acc fa : List V) (ks fks : Kds) (x2 x3 x4 : Option V), σ = [some (.ref j), some (.ref p), x2, x3, x4, some (.ref fp)] ∧ H' p = some (.lst acc) ∧ Paired (KdV H') acc ks ∧ H' fp = some (.lst fa) ∧ Paired (KdV H') fa fks ∧ (fks ++ ks).Perm ks0 ∧ ks.length = m ∧ m ≤ 14 ∧ fks.length ≤ 14 ∧ Jar j H' (C + 7 + (14 - m)) ∧ Keep j H H', ⟨ks0.length, acc, [], ks0, [], _, _, _, rfl, sf _ _ e, paired_imp (fun _ _ r => r.tk (Tk.of_same sf)) pa, upd_same, .nil, List.Perm.refl _, rfl, l0, Nat.zero_le _, (hj6.keep sf).mono (by omega), kp.trans (Keep.of_same sf)⟩, ?_⟩
  rintro m σ H1 ⟨acc, fa, ks, fks, x2, x3, x4, rfl, e1, p1, e2, p2, hpm, rfl, hm, hf, hj1, k1⟩
  refine ⟨_, rfl, (by show 0 ≤ sizeLine; decide), fun ne hne => ?_⟩
  have sn := same_new hne (.lst [])
  have en : (upd H1 ne (.lst [])) ne = some (.lst []) := upd_same
  replace e1 := sn _ _ e1
  replace e2 := sn _ _ e2
  replace p1 := paired_imp (fun _ _ r => KdV.tk r (Tk.of_same sn)) p1
  replace p2 := paired_imp (fun _ _ r => KdV.tk r (Tk.of_same sn)) p2
  replace hj1 := hj1.keep sn
  replace k1 := k1.trans (Keep.of_same sn)
  generalize upd H1 ne (.lst []) = H2 at *
  refine ⟨p, ne, acc, rfl, rfl, e1, en, ?_⟩
  have hlen := p1.length
  have hlen2 := p2.length
  cases ks with
  | nil =>
    cases p1
    refine ⟨_, rfl, ?_⟩
    refine ifF rfl ⟨_, rfl, q fp fks H2 fp0 fpj ⟨fa, e2, p2⟩ ⟨b, ks0, hb, hs, hbs, by rw [List.append_nil] at hpm; exact hpm⟩ (hj1.mono (by simp)) k1⟩
  | cons k0 ks =>
    have hacc : acc.isEmpty = false := by cases p1; rfl
    refine ⟨_, rfl, ?_⟩
    rw [hacc]
    refine ifT rfl ?_
    refine ⟨fun σ' H' => ∃ m', m' < (k0 :: ks).length ∧ ∃ (acc fa : List V) (ks fks : Kds) (x2 x3 x4 : Option V), σ' = [some (.ref j), some (.ref p), x2, x3, x4, some (.ref fp)] ∧ H' p = some (.lst acc) ∧ Paired (KdV H') acc ks ∧ H' fp = some (.lst fa) ∧ Paired (KdV H') fa fks ∧ (fks ++ ks).Perm ks0 ∧ ks.length = m' ∧ m' ≤ 14 ∧ fks.length ≤ 14 ∧ Jar j H' (C + 7 + (14 - m')) ∧ Keep j H H', fun _ _ z => z, ?_⟩
    have hpos : 0 < acc.length := by rw [hlen]; simp
    refine ⟨_, rfl, .inl ⟨rfl, _, SqL.of e2⟩, _, rfl, .inl ⟨rfl, _, SqL.of e1⟩, _, rfl, _, rfl, p, _, rfl, .inl (SqL.of e1), j, _, ((acc.length : Nat) : Int), rfl, hj1, by omega, by omega, by rw [hlen]; omega, fun r H3 r0 r1 hj3 kp3 => ?_⟩
    have hi : r.toNat < acc.length := by omega
    have ep := kp3 _ _ hp e1
    have ef := kp3 _ _ fpj e2
    have tk3 := Tk.of_keep hj1 kp3
    have hk : r.toNat < (k0 :: ks).length := by omega
    obtain ⟨k, hk1, rk⟩ := paired_get p1 r.toNat _ (List.getElem?_eq_getElem hi)
    have hk2 : (k0 :: ks)[r.toNat] = k := Option.some.inj ((List.getElem?_eq_getElem hk).symm.trans hk1)
    refine ⟨p, acc, r, r.toNat, acc[r.toNat], rfl, rfl, ep, by omega, by omega, ?_, List.getElem?_eq_getElem hi, ?_⟩
    · exact seq_in r0 (by omega)
    have tk4 : Tk H3 (upd H3 p (.lst (acc.eraseIdx r.toNat))) := Tk.lst ep
    refine ⟨fp, fa, _, rfl, rfl, by rw [upd_ne (Ne.symm fpp)]; exact ef, by rw [sizeLine_eq, hlen2]; omega, ?_⟩
    have ef4 : (upd H3 p (.lst (acc.eraseIdx r.toNat))) fp = some (.lst fa) := by rw [upd_ne (Ne.symm fpp)]; exact ef
    have ep4 : (upd H3 p (.lst (acc.eraseIdx r.toNat))) p = some (.lst (acc.eraseIdx r.toNat)) := upd_same
    have j4 : Jar j (upd H3 p (.lst (acc.eraseIdx r.toNat))) _ := hj3.upd hp
    have k4 : Keep j H (upd H3 p (.lst (acc.eraseIdx r.toNat))) := (k1.trans kp3).upd h0
    generalize upd H3 p (.lst (acc.eraseIdx r.toNat)) = H4 at *
    have tk5 : Tk H4 (upd H4 fp (.lst (fa ++ [acc[r.toNat]]))) := Tk.lst ef4
    have tkA := tk3.trans (tk4.trans tk5)
    have hle : ((k0 :: ks).eraseIdx r.toNat).length = ks.length := by rw [List.length_eraseIdx, if_pos hk, List.length_cons]; omega
    have pz := hpm.length_eq
    rw [List.length_append] at pz
    refine ⟨ks.length, by simp, acc.eraseIdx r.toNat, fa ++ [acc[r.toNat]], (k0 :: ks).eraseIdx r.toNat, fks ++ [k], _, _, _, rfl, by rw [upd_ne fpp]; exact ep4, paired_imp (fun _ _ r => KdV.tk r tkA) (paired_erase p1 _), upd_same, paired_snoc (paired_imp (fun _ _ r => KdV.tk r tkA) p2) (rk.tk tkA), ?_, hle, by simp at hm; omega, by rw [List.length_append]; simp at pz ⊢; omega, (j4.upd fpj).mono (by simp at hm ⊢; omega), k4.upd fp0⟩
    refine List.Perm.trans ?_ hpm
    rw [List.append_assoc]
    refine List.Perm.append_left fks ?_
    rw [List.singleton_append, ← hk2]
    exact perm_erase hk
end
end Pa
set_option maxHeartbeats 1000000
namespace Pa
open PySem PySem.Spec PyProof.Rows L2 Ty Se Sv
/-! ### plain: a drawn grammar is refused by nothing -/
theorem altsN_len : ∀ rs : Rls, altsN rs = (altsOf rs).length
  | [] => rfl
  | r :: rs => by
    show _ + altsN rs = (r.2 ++ altsOf rs).length
    rw [List.length_append, altsN_len rs]
theorem mem_lookup {β : Type} {s : Str} {b : β} : ∀ {l : List (Str × β)}, (l.map (·.1)).Nodup → (s, b) ∈ l → l.lookup s = some b
  | [], _, h => by cases h
  | (n, c) :: l, hn, h => by
    rw [List.lookup_cons]
    obtain ⟨h1, h2⟩ := List.nodup_cons.mp hn
    rcases List.mem_cons.mp h with e | h
    · obtain ⟨e1, e2⟩ := Prod.mk.inj e
      subst e1; subst e2; simp
    · have : s ≠ n := fun e => h1 (by rw [← e]; exact List.mem_map.mpr ⟨_, h, rfl⟩)
      rw [beq_eq_false_iff_ne.mpr this]
      exact mem_lookup h2 h
theorem sym_cons (names heads skips : List Str) (s : Str) (ss : List Str) : symE names heads skips (s :: ss) = if s ∉ names ∧ s ∉ heads then some (("symbol" : Str), some s) else if s ∈ skips then some (("skipped" : Str), some s) else symE names heads skips ss := rfl
theorem kind_good : ∀ {ks : Kds} {met : List Str}, (∀ k, k ∈ ks → nameP k.1 = true ∧ bareP k.2.1 = false) → (ks.map (·.1)).Nodup → (∀ k, k ∈ ks → k.1 ∉ met) → kindE met ks = none
  | [], _, _, _, _ => rfl
  | (n, p, s) :: ks, met, hg, hn, hm => by
    have e : kindE met ((n, p, s) :: ks) = if nameP n = false then some (("name" : Str), some n) else if n ∈ met then some (("twice" : Str), some n) else if bareP p = true then some (("empty" : Str), some n) else kindE (met ++ [n]) ks := rfl
    have h0 := hg _ List.mem_cons_self
    have h1 : nameP n = true := h0.1
    have h2 : bareP p = false := h0.2
    rw [e, if_neg (by rw [h1]; decide), if_neg (hm _ List.mem_cons_self), if_neg (by rw [h2]; decide)]
    obtain ⟨n1, n2⟩ := List.nodup_cons.mp hn
    refine kind_good (fun k hk => hg k (List.mem_cons_of_mem _ hk)) n2 fun k hk m => ?_
    rcases List.mem_append.mp m with m | m
    · exact hm k (List.mem_cons_of_mem _ hk) m
    · exact n1 (List.mem_map.mpr ⟨k, hk, List.mem_singleton.mp m⟩)
theorem alt_good : ∀ {as : List (Str × List Str)} {ls : List Str}, (∀ a, a ∈ as → nameP a.1 = true ∧ a.2.length ≤ 6) → (as.map (·.1)).Nodup → (∀ a, a ∈ as → a.1 ∉ ls) → altE ls as = none
  | [], _, _, _, _ => rfl
  | (l, row) :: as, ls, hg, hn, hm => by
    have e : altE ls ((l, row) :: as) = if nameP l = false then some (("label" : Str), some l) else if l ∈ ls then some (("again" : Str), some l) else if 6 < row.length then some (("long" : Str), some l) else altE (ls ++ [l]) as := rfl
    have h0 := hg _ List.mem_cons_self
    have h1 : nameP l = true := h0.1
    have h2 : row.length ≤ 6 := h0.2
    rw [e, if_neg (by rw [h1]; decide), if_neg (hm _ List.mem_cons_self), if_neg (by omega)]
    obtain ⟨n1, n2⟩ := List.nodup_cons.mp hn
    refine alt_good (fun k hk => hg k (List.mem_cons_of_mem _ hk)) n2 fun k hk m => ?_
    rcases List.mem_append.mp m with m | m
    · exact hm k (List.mem_cons_of_mem _ hk) m
    · exact n1 (List.mem_map.mpr ⟨k, hk, List.mem_singleton.mp m⟩)
theorem rule_good : ∀ {rs : Rls} {met ls : List Str}, (∀ r, r ∈ rs → nameP r.1 = true ∧ r.2 ≠ [] ∧ ∀ a, a ∈ r.2 → nameP a.1 = true ∧ a.2.length ≤ 6) → (rs.map (·.1)).Nodup → (∀ r, r ∈ rs → r.1 ∉ met) → ((altsOf rs).map (·.1)).Nodup → (∀ a, a ∈ altsOf rs → a.1 ∉ ls) → ruleE met ls rs = none
  | [], _, _, _, _, _, _, _ => rfl
  | (n, as) :: rs, met, ls, hg, hn, hm, hl, hls => by
    have e : ruleE met ls ((n, as) :: rs) = if nameP n = false then some (("name" : Str), some n) else if n ∈ met then some (("twice" : Str), some n) else if as = [] then some (("bare" : Str), some n) else
      match altE ls as with
      | some e => some e
      | none => ruleE (met ++ [n]) (ls ++ as.map (·.1)) rs := rfl
    obtain ⟨h1, h2, h3⟩ := hg _ List.mem_cons_self
    have h1 : nameP n = true := h1
    have h2 : as ≠ [] := h2
    have ea : altsOf ((n, as) :: rs) = as ++ altsOf rs := rfl
    rw [ea] at hl hls
    rw [List.map_append] at hl
    obtain ⟨l1, l2, l3⟩ := List.nodup_append.mp hl
    rw [e, if_neg (by rw [h1]; decide), if_neg (hm _ List.mem_cons_self), if_neg h2, alt_good h3 l1 fun a ha => hls a (List.mem_append_left _ ha)]
    obtain ⟨n1, n2⟩ := List.nodup_cons.mp hn
    refine rule_good (fun k hk => hg k (List.mem_cons_of_mem _ hk)) n2 (fun k hk m => ?_) l2 fun a ha m => ?_
    · rcases List.mem_append.mp m with m | m
      · exact hm k (List.mem_cons_of_mem _ hk) m
      · exact n1 (List.mem_map.mpr ⟨k, hk, List.mem_singleton.mp m⟩)
    · rcases List.mem_append.mp m with m | m
      · exact hls a (List.mem_append_right _ ha) m
      · exact l3 _ m _ (List.mem_map.mpr ⟨a, ha, rfl⟩) rfl
theorem sym_good {names heads skips : List Str} : ∀ {l : List Str}, (∀ x, x ∈ l → (x ∈ names ∨ x ∈ heads) ∧ x ∉ skips) → symE names heads skips l = none
  | [], _ => rfl
  | x :: l, h => by
    obtain ⟨h1, h2⟩ := h x List.mem_cons_self
    rw [sym_cons, if_neg (fun q => h1.elim q.1 q.2), if_neg h2]
    exact sym_good fun y hy => h y (List.mem_cons_of_mem _ hy)
def labC (n : Nat) : Str := ("l" : Str) ++ (⟨#[97 + n]⟩ : Str)
def labL (n : Nat) : List Str := (List.range n).map labC
theorem lab_good : ∀ i, i < 26 → (nameP (labC i) && lowB (labC i) && decide ((labC i).length = 2)) = true := by decide +kernel
theorem lab_nodup : ∀ n, n < 27 → (labL n).Nodup := by decide +kernel
theorem heads_good : ∀ x, x ∈ headsL → (nameP x && lowB x && decide (x.length ≤ 4)) = true := by decide +kernel
theorem heads_nodup : headsL.Nodup := by decide +kernel
structure RsOk (ks : Kds) (rs : Rls) : Prop where
  heads : ∃ m, 2 ≤ m ∧ m ≤ 4 ∧ rs.map (·.1) = headsL.take m
  rows : ∀ r, r ∈ rs → r.2 ≠ [] ∧ r.2.length ≤ 4 ∧ ∀ a, a ∈ r.2 → a.2.length ≤ 6 ∧ ∀ x, x ∈ a.2 → x ∈ rs.map (·.1) ∨ ∃ k, k ∈ ks ∧ k.1 = x ∧ k.2.2 = false
  labs : labsOf rs = labL (labsOf rs).length
  few : (labsOf rs).length ≤ 16
section
variable {ks : Kds} {rs : Rls}
theorem RsOk.nodup (h : RsOk ks rs) : (rs.map (·.1)).Nodup := by
  obtain ⟨m, _, _, e⟩ := h.heads
  rw [e]
  exact (List.take_sublist m headsL).nodup heads_nodup
theorem RsOk.len (h : RsOk ks rs) : 2 ≤ rs.length ∧ rs.length ≤ 4 := by
  obtain ⟨m, h1, h2, e⟩ := h.heads
  have := congrArg List.length e
  rw [List.length_map, List.length_take] at this
  have e4 : headsL.length = 4 := rfl
  omega
theorem RsOk.head (h : RsOk ks rs) : ∀ x, x ∈ rs.map (·.1) → x ∈ headsL := fun x hx => by
  obtain ⟨m, _, _, e⟩ := h.heads
  rw [e] at hx
  exact List.mem_of_mem_take hx
theorem RsOk.nodupL (h : RsOk ks rs) : (labsOf rs).Nodup := by
  rw [h.labs]
  have := h.few
  exact lab_nodup _ (by omega)
theorem RsOk.lab (h : RsOk ks rs) : ∀ x, x ∈ labsOf rs → nameP x = true ∧ LowC x ∧ x.length = 2 := fun x hx => by
  rw [h.labs] at hx
  obtain ⟨i, hi, rfl⟩ := List.mem_map.mp hx
  have := h.few
  have hg := lab_good i (by have := List.mem_range.mp hi; omega)
  simp only [Bool.and_eq_true, decide_eq_true_eq] at hg
  exact ⟨hg.1.1, lowB_of hg.1.2, hg.2⟩
theorem RsOk.hd (h : RsOk ks rs) : ∀ x, x ∈ rs.map (·.1) → nameP x = true ∧ LowC x ∧ x.length ≤ 4 := fun x hx => by
  have hg := heads_good x (h.head x hx)
  simp only [Bool.and_eq_true, decide_eq_true_eq] at hg
  exact ⟨hg.1.1, lowB_of hg.1.2, hg.2⟩
theorem alt_lab {r : Str × List (Str × List Str)} {a : Str × List Str} (hr : r ∈ rs) (ha : a ∈ r.2) : a.1 ∈ labsOf rs := List.mem_map.mpr ⟨a, List.mem_flatMap.mpr ⟨r, hr, ha⟩, rfl⟩
theorem RsOk.gram (hk : KsG ks) (h : RsOk ks rs) {start : Str} (hs : start ∈ rs.map (·.1)) : gramE ks rs start [] = none := by
  obtain ⟨n2, n4⟩ := h.len
  have hal : (altsOf rs).length ≤ 16 := by
    have := h.few
    rwa [List.length_map] at this
  have hmany : manyE ks rs [] = false := by
    unfold manyE
    have h1 := hk.len
    have h2 := hk.signs
    rw [decide_eq_false (show ¬ ks = [] from fun e => by obtain ⟨k, q, _⟩ := hk.has; rw [e] at q; cases q), decide_eq_false (show ¬ rs = [] from fun e => by rw [e] at n2; simp at n2), decide_eq_false (show ¬ 14 < ks.length by omega), decide_eq_false (show ¬ 40 < signsN ks by omega), decide_eq_false (show ¬ 40 < rs.length by omega), altsN_len, decide_eq_false (show ¬ 100 < (altsOf rs).length by omega)]
    rfl
  have hkd : kindE [] ks = none := kind_good (fun k q => ⟨(hk.good k q).name, (hk.good k q).bare⟩) hk.nodup fun k _ m => by cases m
  have hrl : ruleE (ks.map (·.1)) [] rs = none := by
    refine rule_good (fun r hr => ?_) h.nodup (fun r hr m => ?_) h.nodupL fun a _ m => by cases m
    · obtain ⟨g1, g2, g3⟩ := h.rows r hr
      exact ⟨(h.hd _ (List.mem_map.mpr ⟨r, hr, rfl⟩)).1, g1, fun a ha => ⟨(h.lab _ (alt_lab hr ha)).1, (g3 a ha).1⟩⟩
    · obtain ⟨k, q, e⟩ := List.mem_map.mp m
      exact (hk.good k q).head (by rw [e]; exact h.head _ (List.mem_map.mpr ⟨r, hr, rfl⟩))
  have hsy : symE (ks.map (·.1)) (rs.map (·.1)) ((ks.filter fun k => k.2.2).map (·.1)) (rowsOf rs).flatten = none := by
    refine sym_good fun x hx => ?_
    obtain ⟨row, hrow, hx⟩ := List.mem_flatten.mp hx
    obtain ⟨r, hr, m⟩ := List.mem_flatMap.mp hrow
    obtain ⟨a, ha, rfl⟩ := List.mem_map.mp m
    rcases ((h.rows r hr).2.2 a ha).2 x hx with m | ⟨k, q, e, b⟩
    · refine ⟨.inr m, fun ms => ?_⟩
      obtain ⟨k, q, e⟩ := List.mem_map.mp ms
      exact (hk.good k (List.mem_filter.mp q).1).head (by rw [e]; exact h.head x m)
    · refine ⟨.inl (List.mem_map.mpr ⟨k, q, e⟩), fun ms => ?_⟩
      obtain ⟨k2, q2, e2⟩ := List.mem_map.mp ms
      obtain ⟨q3, q4⟩ := List.mem_filter.mp q2
      have l1 := mem_lookup (b := k.2) hk.nodup (show (x, k.2) ∈ ks by rw [← e]; exact q)
      have l2 := mem_lookup (b := k2.2) hk.nodup (show (x, k2.2) ∈ ks by rw [← e2]; exact q3)
      rw [l1] at l2
      rw [← Option.some.inj l2, b] at q4
      cases q4
  unfold gramE
  rw [hmany, if_neg Bool.false_ne_true, hkd, hrl, hsy]
  show (if start ∉ rs.map (·.1) then _ else _) = none
  rw [if_neg (fun h => h hs)]
  rfl
theorem RsOk.low (hk : KsG ks) (h : RsOk ks rs) {start : Str} (hs : start ∈ rs.map (·.1)) : GLow ks rs start := by
  refine ⟨fun k q => ⟨(hk.good k q).low, (hk.good k q).plow, by have := (hk.good k q).deep; omega⟩, fun r hr => ⟨(h.hd _ (List.mem_map.mpr ⟨r, hr, rfl⟩)).2.1, fun a ha => ⟨(h.lab _ (alt_lab hr ha)).2.1, fun x hx => ?_⟩⟩, (h.hd _ hs).2.1⟩
  rcases ((h.rows r hr).2.2 a ha).2 x hx with m | ⟨k, q, e, b⟩
  · exact (h.hd _ m).2.1
  · rw [← e]; exact (hk.good k q).low
theorem RsOk.bd (hk : KsG ks) (h : RsOk ks rs) : GBd 4 ks rs [] := by
  obtain ⟨n2, n4⟩ := h.len
  have hal : (altsOf rs).length ≤ 16 := by
    have := h.few
    rwa [List.length_map] at this
  have := hk.len
  refine ⟨by omega, by omega, Nat.zero_le _, by omega, fun k q => ⟨by have := (hk.good k q).len; omega, (hk.good k q).size, (hk.good k q).deep⟩, fun r hr => ⟨by have := (h.hd _ (List.mem_map.mpr ⟨r, hr, rfl⟩)).2.2; omega, fun a ha => ⟨by have := (h.lab _ (alt_lab hr ha)).2.2; omega, by have := ((h.rows r hr).2.2 a ha).1; omega⟩⟩⟩
theorem RsOk.spl (h : RsOk ks rs) (x : Str) : (spelledP rs x).length ≤ 6 := by
  unfold spelledP
  cases e : (rs.flatMap (·.2)).lookup x with
  | none => exact Nat.zero_le _
  | some row =>
    obtain ⟨r, hr, ha⟩ := List.mem_flatMap.mp (lk_mem e)
    exact ((h.rows r hr).2.2 _ ha).1
end
end Pa
set_option maxHeartbeats 4000000
namespace Pa
open PySem PySem.Spec PyProof.Rows L2 Ty Se Sv
/-! ### _law_rules_drawn -/
abbrev nRD : List Str := ["jar", "rack", "names", "name", "kinds", "letters", "rules", "many", "rows", "k", "pool", "mould", "skips", "lap"]
theorem scRD : FnScope nRD ["jar", "rack"] (defScope lRulesD) := ⟨rfl, rfl, rfl, by decide +kernel, rfl, by decide +kernel, by decide +kernel⟩
def RowV (H : Hp) (v : V) (row : List Str) : Prop := ∃ t, v = .ref t ∧ H t = some (.tup (row.map V.str))
theorem RowV.tk {H H' : Hp} {v : V} {row : List Str} (h : RowV H v row) (t : Tk H H') : RowV H' v row := by
  obtain ⟨a, e, h1⟩ := h
  exact ⟨a, e, t _ _ h1⟩
def kindsN (ks : Kds) : List Str := (ks.filter fun k => !k.2.2).map (·.1)
theorem kinds_take (ks : Kds) {i : Nat} {k : Str × Pat × Bool} (h : ks[i]? = some k) : kindsN (ks.take (i + 1)) = kindsN (ks.take i) ++ (if k.2.2 = true then [] else [k.1]) := by
  unfold kindsN
  rw [List.take_add_one, h, Option.toList_some, List.filter_append, List.map_append]
  congr 1
  obtain ⟨n, p, b⟩ := k
  cases b <;> rfl
theorem kinds_le (ks : Kds) : (kindsN ks).length ≤ ks.length := by
  unfold kindsN
  rw [List.length_map]
  exact List.length_filter_le _ _
theorem kinds_mem {ks : Kds} {x : Str} (h : x ∈ kindsN ks) : ∃ k, k ∈ ks ∧ k.1 = x ∧ k.2.2 = false := by
  obtain ⟨k, hk, e⟩ := List.mem_map.mp h
  obtain ⟨h1, h2⟩ := List.mem_filter.mp hk
  exact ⟨k, h1, e, by simpa using h2⟩
theorem lab_ltr {n : Nat} (h : n < 26) : atI ("abcdefghijklmnopqrstuvwxyz" : Str).cps.toList (n : Nat) = some (97 + n) := by
  have : ∀ n, n < 26 → atI ("abcdefghijklmnopqrstuvwxyz" : Str).cps.toList (n : Nat) = some (97 + n) := by decide +kernel
  exact this n h
theorem labL_app (a b : Nat) : labL a ++ (List.range b).map (fun k => labC (a + k)) = labL (a + b) := by
  unfold labL
  rw [List.range_add, List.map_append, List.map_map]
  rfl
def spRulesD : Sp := fun vs H Q _ => ∃ (j a : Addr) (C : Nat) (ks : Kds), vs = [.ref j, .ref a] ∧ Jar j H C ∧ C ≤ 999900000 ∧ KL H a ks ∧ KsG ks ∧
  ∀ (p : Addr) (rs : Rls) (H' : Hp), H p = none → p ≠ j → RL H' p rs → RsOk ks rs → Jar j H' (C + 101) → Keep j H H' → Q (.ref p) H'
section
variable {P : Program} {w : World} {K : PySem.W.Frag} {mg : Str → Option Value} {base : Heap} {f g : Addr} {fd gd : FuncData}
theorem ok_rulesd (F : Fun K "_law_rules_drawn" "_law_rules_drawn" lRulesD f fd)
    (G : FnOk P w K mg base CX0 1 g gd ["jar", "many"] spDrawn) (bG : L2.Binds K gd ["jar", "many"] []) (kG : PySem.W.keepIn K (.ref g) = true) (mG : mg "_law_dip" = some (.ref g)) (ml : mg "len" = none) (mr : mg "range" = none) (mt : mg "tuple" = none) :
    FnOk P w K mg base CX0 2 f fd ["jar", "rack"] spRulesD := by
  refine F.ok scRD (fun vs H Q E h => ?_) (fun cdv A outer s0 H vs Q E hr h => ?_)
  · obtain ⟨_, _, _, _, rfl, _⟩ := h
    rfl
  obtain ⟨j, a, C, ks, rfl, hj, hC, ⟨ka, hka, pka⟩, hG, q⟩ := h
  refine ⟨_, (pss_cons (ps_set (i := 2) scRD.nd rfl (.inl rfl) (pe_slice sl_list (pe_lst (pa_cons pe_str (pa_cons pe_str (pa_cons pe_str (pa_cons pe_str pa_nil))))) po_none (po_some (pe_op op_add pe_int (pe_call G hr rfl mG kG bG .nil pass0 (pa_cons (pv 0) (pa_cons pe_int pa_nil)))))))
    (pss_cons (ps_set (i := 4) scRD.nd rfl (.inr rfl) (pe_lc (own := [("name", 3), ("mould", 11), ("skips", 12)]) (g := gTup K 3 (gCons (gName 3) (gCons (gName 11) (gCons (gName 12) gNil)))) rfl scRD.nd (pi_list (pv 1)) (blkOk_by (N := nRD) (sc := defScope lRulesD) (by decide +kernel)) (fun _ _ _ _ _ => pg_tup rfl (pgs_cons (pg_name (i := 3) scRD.nd rfl (Or.inl rfl)) (pgs_cons (pg_name (i := 11) scRD.nd rfl (Or.inl rfl)) (pgs_cons (pg_name (i := 12) scRD.nd rfl (Or.inl rfl)) pgs_nil)))) (fun _ _ _ _ _ => pts_one (pt_not (pt_val (pv 12)))) (fun _ _ _ _ _ => pv 3)))
    (pss_cons (ps_set (i := 5) scRD.nd rfl (.inr rfl) pe_str)
    (pss_cons (ps_set (i := 6) scRD.nd rfl (.inl rfl) (pe_lst pa_nil))
    (pss_cons (ps_set (i := 7) scRD.nd rfl (.inr rfl) pe_int)
    (pss_cons (ps_for PassesOwn.never rfl (pi_list (pv 2)) (pg_name (i := 3) scRD.nd rfl (Or.inl rfl))
      (pss_cons (ps_set (i := 8) scRD.nd rfl (.inr rfl) (pe_lst pa_nil))
      (pss_cons (ps_for PassesOwn.never rfl (pi_range1 rfl mr (pa_cons (pe_op op_add pe_int (pe_call G hr rfl mG kG bG .nil pass0 (pa_cons (pv 0) (pa_cons pe_int pa_nil)))) pa_nil)) (pg_name (i := 9) scRD.nd rfl (Or.inl rfl))
        (pss_cons (ps_set (i := 10) scRD.nd rfl (.inr rfl) (pe_op op_cat (pe_op op_cat (pv 2) (pv 4)) (pv 4)))
        (pss_one (ps_expr (pe_bm PySem.F.plainAttrs_list PySem.F.slot_list_append PySem.F.type_list_append mt_append (pv 8) (pa_cons (pe_callTy call_tuple_of rfl mt (by decide +kernel) (pa_cons (pe_lc (own := [("lap", 13)]) (g := gName 13) (tt := tYes) rfl scRD.nd (pi_range1 rfl mr (pa_cons (pe_call G hr rfl mG kG bG .nil pass0 (pa_cons (pv 0) (pa_cons (pe_ix ix_list (pe_lst (pa_cons pe_int (pa_cons pe_int (pa_cons pe_int pa_nil)))) (pv 9) (fun _ _ => rfl)) pa_nil))) pa_nil)) (blkOk_by (N := nRD) (sc := defScope lRulesD) (by decide +kernel)) (fun _ _ _ _ _ => pg_name (i := 13) scRD.nd rfl (Or.inl rfl)) (fun _ _ _ _ _ => pts_nil)
          (fun _ _ _ _ _ => pe_ix (show IxR _ (rIxL K) from ix_list) (pv 10) (pe_call G hr rfl mG kG bG .nil pass0 (pa_cons (pv 0) (pa_cons (pe_callB (show CallR _ _ (fun xs H Q => ∃ p ys, xs = [V.ref p] ∧ (SqL K H p ys ∨ SqT K H p ys) ∧ Q (V.int (ys.length : Nat)) H) from call_len_seq) rfl ml PySem.boot_len (pa_cons (pv 10) pa_nil)) pa_nil))) (fun _ _ => rfl))) pa_nil)) pa_nil))))))
      (pss_cons (ps_expr (pe_bm PySem.F.plainAttrs_list PySem.F.slot_list_append PySem.F.type_list_append mt_append (pv 8) (pa_cons (pe_callTy call_tuple_of rfl mt (by decide +kernel) (pa_cons (pe_lc (own := [("lap", 13)]) (g := gName 13) (tt := tYes) rfl scRD.nd (pi_range1 rfl mr (pa_cons (pe_call G hr rfl mG kG bG .nil pass0 (pa_cons (pv 0) (pa_cons pe_int pa_nil))) pa_nil)) (blkOk_by (N := nRD) (sc := defScope lRulesD) (by decide +kernel)) (fun _ _ _ _ _ => pg_name (i := 13) scRD.nd rfl (Or.inl rfl)) (fun _ _ _ _ _ => pts_nil)
          (fun _ _ _ _ _ => pe_ix (show IxR _ (rIxL K) from ix_list) (pv 4) (pe_call G hr rfl mG kG bG .nil pass0 (pa_cons (pv 0) (pa_cons (pe_callB (show CallR _ _ (fun xs H Q => ∃ p ys, xs = [V.ref p] ∧ (SqL K H p ys ∨ SqT K H p ys) ∧ Q (V.int (ys.length : Nat)) H) from call_len_seq) rfl ml PySem.boot_len (pa_cons (pv 4) pa_nil)) pa_nil))) (fun _ _ => rfl))) pa_nil)) pa_nil)))
      (pss_cons (ps_expr (pe_bm PySem.F.plainAttrs_list PySem.F.slot_list_append PySem.F.type_list_append mt_append (pv 6) (pa_cons (pe_tup (pa_cons (pv 3) (pa_cons (pe_lc (own := [("k", 9)]) (g := gName 9) (tt := tYes) rfl scRD.nd (pi_range1 rfl mr (pa_cons (pe_callB call_len_seq rfl ml PySem.boot_len (pa_cons (pv 8) pa_nil)) pa_nil)) (blkOk_by (N := nRD) (sc := defScope lRulesD) (by decide +kernel)) (fun _ _ _ _ _ => pg_name (i := 9) scRD.nd rfl (Or.inl rfl)) (fun _ _ _ _ _ => pts_nil)
          (fun _ _ _ _ _ => pe_tup (pa_cons (pe_op op_add_str pe_str (pe_ix ix_str (pv 5) (pe_op op_add (pv 7) (pv 9)) (fun _ _ => rfl))) (pa_cons (pe_ix (show IxR _ (rIxL K) from ix_list) (pv 8) (pv 9) (fun _ _ => rfl)) pa_nil)))) pa_nil))) pa_nil)))
      (pss_one (ps_set (i := 7) scRD.nd rfl (.inr rfl) (pe_op op_add (pv 7) (pe_callB call_len_seq rfl ml PySem.boot_len (pa_cons (pv 8) pa_nil))))))))))
    (pss_one (ps_ret (pv 6))))))))), ?_⟩
  -- names
  refine ⟨(by show 4 ≤ sizeLine; decide), fun l0 h0 => ?_⟩
  have s0 := same_new h0 (.lst [V.str "head", V.str "part", V.str "list", V.str "more"])
  have e0 : (upd H l0 (.lst [V.str "head", V.str "part", V.str "list", V.str "more"])) l0 = some (.lst (headsL.map V.str)) := upd_same
  have l0j := hj.ne h0
  replace hj := hj.keep s0
  generalize upd H l0 (.lst [V.str "head", V.str "part", V.str "list", V.str "more"]) = H0 at s0 e0 hj ⊢
  refine ⟨_, rfl, j, C, 3, rfl, hj, by omega, by decide, by decide, fun r1 H1 r10 r11 hj1 kp1 => ?_⟩
  have haj : a ≠ j := jar_ne hj (s0 _ _ hka) (ref_int (fun _ _ r => r.ref) pka)
  have tk1 := (Tk.of_same s0).trans (Tk.of_keep hj kp1)
  have hka1 := kp1 _ _ haj (s0 _ _ hka)
  have pka1 := paired_imp (fun _ _ r => KdV.tk r tk1) pka
  obtain ⟨u1, rfl⟩ : ∃ n : Nat, r1 = (n : Int) := ⟨r1.toNat, by omega⟩
  refine ⟨_, _, rfl, rfl, _, rfl, l0, _, rfl, SqL.of (kp1 _ _ l0j e0), fun np hnp => ?_⟩
  have en : cutV (headsL.map V.str) none (some (2 + (u1 : Int))) = (headsL.take (2 + u1)).map V.str := by
    rw [show (2 : Int) + (u1 : Int) = ((2 + u1 : Nat) : Int) by omega, cut_to, List.map_take]
  rw [en]
  obtain ⟨hs, hhs⟩ : ∃ hs, hs = headsL.take (2 + u1) := ⟨_, rfl⟩
  rw [← hhs]
  have lhs : hs.length = 2 + u1 := by rw [hhs, List.length_take]; show min _ 4 = _; omega
  have npj := hj1.ne hnp
  have s2 := same_new hnp (.lst (hs.map V.str))
  have enp2 : (upd H1 np (.lst (hs.map V.str))) np = some (.lst (hs.map V.str)) := upd_same
  have hj2 := hj1.keep s2
  have hka2 := s2 _ _ hka1
  have pka2 := paired_imp (fun _ _ r => KdV.tk r (Tk.of_same s2)) pka1
  have k2 : Keep j H (upd H1 np (.lst (hs.map V.str))) := (Keep.of_same s0).trans (kp1.trans (Keep.of_same s2))
  generalize upd H1 np (.lst (hs.map V.str)) = H2 at enp2 hj2 hka2 pka2 k2 ⊢
  -- kinds
  refine ⟨_, rfl, a, rfl, ⟨_, SqL.of hka2⟩, fun kp hkp => ?_⟩
  have kpj := hj2.ne hkp
  refine lc_list (K := K) (xs := ka) (fun i H' => H' kp = some (.lst ((kindsN (ks.take i)).map V.str)) ∧ Same H2 H') ⟨upd_same, same_new hkp _⟩ (fun i H' _ h => SqL.of (h.2 _ _ hka2)) (fun i v H' hv h => ?turnk) (fun H3 h => ?donek)
  case turnk =>
    obtain ⟨f1, f4⟩ := h
    obtain ⟨⟨n, pt, b⟩, hx, ra, u, rfl, g1, g2⟩ := paired_get pka2 i v hv
    have hi := (List.getElem?_eq_some_iff.mp hx).1
    have hk14 := hG.len
    have hle := kinds_le (ks.take i)
    rw [List.length_take] at hle
    have ht := kinds_take ks hx
    refine ⟨ra, _, rfl, SqT.of (f4 _ _ g1), rfl, _, _, rfl, _, _, rfl, _, _, rfl, rfl, rfl, ?_⟩
    refine ⟨_, rfl, b, rfl, ?_⟩
    cases b with
    | true =>
      simp only [Bool.not_true, Bool.false_eq_true, ↓reduceIte, List.append_nil] at ht ⊢
      exact ⟨by rw [ht]; exact f1, f4⟩
    | false =>
      simp only [Bool.not_false, Bool.false_eq_true, ↓reduceIte] at ht ⊢
      refine ⟨_, rfl, _, f1, by rw [sizeLine_eq, List.length_map]; omega, ?_, same_upd f4 hkp⟩
      rw [ht, upd_same, List.map_append]; rfl
  obtain ⟨ek3, s3⟩ := h
  rw [pka2.length, List.take_length] at ek3
  obtain ⟨kn, hkn⟩ : ∃ kn, kn = kindsN ks := ⟨_, rfl⟩
  rw [← hkn] at ek3
  have hk14 := hG.len
  have kn14 : kn.length ≤ 14 := by rw [hkn]; exact Nat.le_trans (kinds_le ks) hk14
  have kne : kn ≠ [] := fun e => by
    obtain ⟨k, h1, h2⟩ := hG.has
    have : k.1 ∈ kn := by rw [hkn]; exact List.mem_map.mpr ⟨k, List.mem_filter.mpr ⟨h1, by rw [h2]; rfl⟩, rfl⟩
    rw [e] at this; cases this
  have hj3 := hj2.keep s3
  have enp3 := s3 _ _ enp2
  have k3 := k2.trans (Keep.of_same s3)
  refine ⟨(by show 0 ≤ sizeLine; decide), fun rp hrp => ?_⟩
  have rpj := hj3.ne hrp
  have rp0 := new_back k3 rpj hrp
  have s4 := same_new hrp (.lst [])
  have erp4 : (upd H3 rp (.lst [])) rp = some (.lst []) := upd_same
  have hj4 := hj3.keep s4
  have enp4 := s4 _ _ enp3
  have ekp4 := s4 _ _ ek3
  have k4 := k3.trans (Keep.of_same s4)
  have rpnp : np ≠ rp := fun e => by rw [← e, enp3] at hrp; cases hrp
  have rpkp : kp ≠ rp := fun e => by rw [← e, ek3] at hrp; cases hrp
  generalize upd H3 rp (.lst []) = H4 at erp4 hj4 enp4 ekp4 k4 ⊢
  have npX : np ∉ [j, rp] := by simp [npj, rpnp]
  have kpX : kp ∉ [j, rp] := by simp [kpj, rpkp]
  refine ⟨_, rfl, np, rfl, ⟨_, SqL.of enp4⟩, ?_⟩
  refine for_list (K := K) (xs := hs.map V.str) (fun i σ H' => ∃ (x3 x8 x9 x10 x11 x12 x13 : Option V) (acc : List V) (rs : Rls), σ = [some (.ref j), some (.ref a), some (.ref np), x3, some (.ref kp), some (.str "abcdefghijklmnopqrstuvwxyz"), some (.ref rp), some (.int ((labsOf rs).length : Nat)), x8, x9, x10, x11, x12, x13] ∧ H' rp = some (.lst acc) ∧ Paired (RlV (fun b => b ≠ rp ∧ b ≠ j) H') acc rs ∧ rs.map (·.1) = hs.take i ∧ labsOf rs = labL (labsOf rs).length ∧ (labsOf rs).length ≤ 4 * i ∧
      (∀ r, r ∈ rs → r.2 ≠ [] ∧ r.2.length ≤ 4 ∧ ∀ a, a ∈ r.2 → a.2.length ≤ 6 ∧ ∀ x, x ∈ a.2 → x ∈ hs ∨ x ∈ kn) ∧ Jar j H' (C + 1 + 25 * i) ∧ KX [j, rp] H4 H')
    ⟨_, _, _, _, _, _, _, [], [], rfl, erp4, .nil, rfl, rfl, Nat.zero_le _, (fun _ h => by cases h), hj4, KX.of same_refl⟩ (fun i σ H' _ h => by obtain ⟨_, _, _, _, _, _, _, _, _, _, _, _, _, _, _, _, _, k⟩ := h; exact SqL.of (k _ _ npX enp4)) (fun i v σ H' hv h => ?turn) (fun σ H' h => ?done)
  case done =>
    obtain ⟨x3, x8, x9, x10, x11, x12, x13, acc, rs, rfl, e1, pa, hm, hl, hf, hrow, jr, kx⟩ := h
    have lmap : (hs.map V.str).length = hs.length := List.length_map ..
    rw [lmap] at hm hf jr
    rw [List.take_length] at hm
    refine ⟨_, rfl, q rp rs H' rp0 rpj ⟨acc, e1, paired_imp (fun _ _ r => ?_) pa⟩ ⟨⟨2 + u1, by omega, by omega, by rw [hm, hhs]⟩, fun r hr => ⟨(hrow r hr).1, (hrow r hr).2.1, fun a ha => ⟨((hrow r hr).2.2 a ha).1, fun x hx => ?_⟩⟩, hl, by omega⟩ (jr.mono (by omega)) (fun b o nb e => ?_)⟩
    · obtain ⟨a, b, xs, e1, e2, e3, _, e4⟩ := r
      exact ⟨a, b, xs, e1, e2, e3, trivial, e4⟩
    · rcases ((hrow r hr).2.2 a ha).2 x hx with h | h
      · exact .inl (by rw [hm]; exact h)
      · exact .inr (kinds_mem (by rw [← hkn]; exact h))
    · refine kx b o (by simp only [List.mem_cons, List.not_mem_nil, or_false, not_or]; exact ⟨nb, fun z => by rw [z, rp0] at e; cases e⟩) (k4 b o nb e)
  case turn =>
    obtain ⟨x3, x8, x9, x10, x11, x12, x13, acc, rs, rfl, e1, pa, hm, hl, hf, hrow, jr, kx⟩ := h
    obtain ⟨name, hname, rfl⟩ := strs_at hv
    have hi := (List.getElem?_eq_some_iff.mp hname).1
    have enp := kx _ _ npX enp4
    have ekp := kx _ _ kpX ekp4
    -- rows
    refine ⟨(by show 0 ≤ sizeLine; decide), fun rw hrw => ?_⟩
    have rwj := jr.ne hrw
    have srw := same_new hrw (.lst [])
    have erw : (upd H' rw (.lst [])) rw = some (.lst []) := upd_same
    have rwrp : rw ≠ rp := fun z => by rw [z, e1] at hrw; cases hrw
    have rwnp : rw ≠ np := fun z => by rw [z, enp] at hrw; cases hrw
    have rwkp : rw ≠ kp := fun z => by rw [z, ekp] at hrw; cases hrw
    have e1w := srw _ _ e1
    have enpw := srw _ _ enp
    have ekpw := srw _ _ ekp
    have paw := paired_imp (fun _ _ r => RlV.same srw r) pa
    have jrw := jr.keep srw
    have kxw := kx.trans (KX.of srw)
    have old : ∀ {H9 : Hp}, KX [j, rw] (upd H' rw (.lst [])) H9 → KX [j, rp] H4 H9 := fun k => kx.trans (fun c o n e => k c o (by simp only [List.mem_cons, List.not_mem_nil, or_false, not_or] at n ⊢; exact ⟨n.1, fun z => by rw [z, hrw] at e; cases e⟩) (srw _ _ e))
    generalize upd H' rw (.lst []) = Hw at srw erw e1w enpw ekpw paw jrw kxw old ⊢
    have npW : np ∉ [j, rw] := by simp [npj, Ne.symm rwnp]
    have kpW : kp ∉ [j, rw] := by simp [kpj, Ne.symm rwkp]
    have rpW : rp ∉ [j, rw] := by simp [rpj, Ne.symm rwrp]
    refine ⟨_, rfl, j, C + 1 + 25 * i, 3, rfl, jrw, by omega, by decide, by decide, fun r5 H5 r50 r51 hj5 kp5 => ?_⟩
    obtain ⟨u5, rfl⟩ : ∃ n : Nat, r5 = (n : Int) := ⟨r5.toNat, by omega⟩
    refine ⟨_, _, rfl, rfl, 1 + (u5 : Int), rfl, by omega, by omega, ?_⟩
    refine for_range (lo := 0) (n := (1 + (u5 : Int)).toNat) (fun i5 σ H' => ∃ (x9 x10 x11 x12 x13 : Option V) (racc : List V) (rws : List (List Str)), σ = [some (.ref j), some (.ref a), some (.ref np), some (.str name), some (.ref kp), some (.str "abcdefghijklmnopqrstuvwxyz"), some (.ref rp), some (.int ((labsOf rs).length : Nat)), some (.ref rw), x9, x10, x11, x12, x13] ∧ H' rw = some (.lst racc) ∧ Paired (RowV H') racc rws ∧ rws.length = i5 ∧ (∀ row, row ∈ rws → row.length ≤ 6 ∧ ∀ x, x ∈ row → x ∈ hs ∨ x ∈ kn) ∧ Jar j H' (C + 2 + 25 * i + 7 * i5) ∧ KX [j, rw] Hw H')
      ⟨_, _, _, _, _, [], [], rfl, kp5 _ _ rwj erw, .nil, rfl, (fun _ h => by cases h), hj5.mono (by omega), fun c o n e => kp5 _ _ (fun z => n (by simp [z])) e⟩ (fun i5 σ H' hi5 h => ?turn5) (fun σ H' h => ?done5)
    case turn5 =>
      obtain ⟨x9, x10, x11, x12, x13, racc, rws, rfl, er, pr, lr, hrw5, jr5, kx5⟩ := h
      have hi3 : i5 < 3 := by omega
      have enp5 := kx5 _ _ npW enpw
      have ekp5 := kx5 _ _ kpW ekpw
      refine ⟨_, rfl, _, rfl, np, kp, _, _, rfl, rfl, enp5, ekp5, by rw [List.length_map, List.length_map, sizeLine_eq]; omega, fun c hc => ?_⟩
      have sc := same_new hc (.lst (hs.map V.str ++ kn.map V.str))
      have ec : (upd H' c (.lst (hs.map V.str ++ kn.map V.str))) c = some (.lst (hs.map V.str ++ kn.map V.str)) := upd_same
      have jrc := jr5.keep sc
      generalize upd H' c (.lst (hs.map V.str ++ kn.map V.str)) = Hc at sc ec jrc ⊢
      refine ⟨_, rfl, c, kp, _, _, rfl, rfl, ec, sc _ _ ekp5, by rw [List.length_append, List.length_map, List.length_map, sizeLine_eq]; omega, fun po hpo => ?_⟩
      have sd := same_new hpo (.lst (hs.map V.str ++ kn.map V.str ++ kn.map V.str))
      have epo : (upd Hc po (.lst (hs.map V.str ++ kn.map V.str ++ kn.map V.str))) po = some (.lst ((hs ++ kn ++ kn).map V.str)) := by rw [List.map_append, List.map_append]; exact upd_same
      have poj := jrc.ne hpo
      have jrd := jrc.keep sd
      have s5d := sc.trans sd
      have porw : po ≠ rw := fun z => by rw [z, sc _ _ er] at hpo; cases hpo
      have erd := s5d _ _ er
      generalize upd Hc po (.lst (hs.map V.str ++ kn.map V.str ++ kn.map V.str)) = Hd at sd epo jrd s5d erd ⊢
      obtain ⟨ss, hss⟩ : ∃ ss, ss = hs ++ kn ++ kn := ⟨_, rfl⟩
      rw [← hss] at epo
      have sne : ss ≠ [] := fun e => by rw [hss] at e; exact kne (List.append_eq_nil_iff.mp e).2
      have s200 : ss.length ≤ 200 := by rw [hss, List.length_append, List.length_append]; omega
      have sin : ∀ x, x ∈ ss → x ∈ hs ∨ x ∈ kn := fun x hx => by
        rw [hss] at hx
        rcases List.mem_append.mp hx with h | h
        · exact List.mem_append.mp h
        · exact .inr h
      refine ⟨_, rfl, .inl ⟨rfl, _, SqL.of erd⟩, _, rfl, (by show 3 ≤ sizeLine; decide), fun z0 hz0 => ?_⟩
      have sz := same_new hz0 (.lst [V.int 5, .int 5, .int 7])
      have ez : (upd Hd z0 (.lst [V.int 5, .int 5, .int 7])) z0 = some (.lst [V.int 5, .int 5, .int 7]) := upd_same
      have jre := jrd.keep sz
      have epo2 := sz _ _ epo
      have erd2 := sz _ _ erd
      have s5e := s5d.trans sz
      generalize upd Hd z0 (.lst [V.int 5, .int 5, .int 7]) = He at sz ez jre epo2 erd2 s5e ⊢
      obtain ⟨m7, hm7, hm5, hm8⟩ : ∃ m7 : Int, atI [V.int 5, .int 5, .int 7] (0 + (i5 : Int)) = some (.int m7) ∧ 0 < m7 ∧ m7 ≤ 7 := by
        obtain rfl | rfl | rfl : i5 = 0 ∨ i5 = 1 ∨ i5 = 2 := by omega
        · exact ⟨5, rfl, by decide, by decide⟩
        · exact ⟨5, rfl, by decide, by decide⟩
        · exact ⟨7, rfl, by decide, by decide⟩
      refine ⟨_, rfl, z0, _, _, _, rfl, rfl, SqL.of ez, hm7, j, _, m7, rfl, jre, by omega, hm5, by omega, fun r6 H6 r60 r61 hj6 kp6 => ?_⟩
      obtain ⟨u6, rfl⟩ : ∃ n : Nat, r6 = (n : Int) := ⟨r6.toNat, by omega⟩
      refine ⟨_, rfl, by omega, by omega, fun D hD => ?_⟩
      have hDj := hj6.ne hD
      have epo6 := kp6 _ _ poj epo2
      have erd6 := kp6 _ _ rwj erd2
      rw [Int.toNat_natCast]
      refine lc_range (lo := 0) (n := u6) (fun i2 H' => ∃ ys : List Str, H' D = some (.lst (ys.map V.str)) ∧ ys.length = i2 ∧ (∀ x, x ∈ ys → x ∈ ss) ∧ Jar j H' ((C + 3 + 25 * i + 7 * i5) + i2) ∧ Keep j H6 H') ⟨[], upd_same, rfl, (fun _ h => by cases h), (hj6.keep (same_new hD _)).mono (by omega), keep_new hD _⟩ (fun i2 H' hi2 p2 => ?turn6) (fun H6' p2 => ?done6)
      case turn6 =>
        obtain ⟨ys, hys, hyl, hyin, hj', kp'⟩ := p2
        refine ⟨rfl, ?_⟩
        simp only [tYes, ↓reduceIte]
        have es' := kp' _ _ poj epo6
        have s0 : 0 < (ss).length := by
          cases q0 : (ss) with
          | nil => exact absurd q0 sne
          | cons _ _ => simp
        refine ⟨_, rfl, _, rfl, _, rfl, po, _, rfl, .inl (SqL.of es'), j, (C + 3 + 25 * i + 7 * i5) + i2, _, rfl, hj', by omega, by rw [List.length_map]; omega, by rw [List.length_map]; have := s200; omega, fun r3 H7 r30 r31 hj7 kp7 => ?_⟩
        rw [List.length_map] at r31
        obtain ⟨v, hv1, _⟩ := at_in (l := (ss).map V.str) r30 (by rw [List.length_map]; exact r31)
        obtain ⟨x, hx, rfl⟩ := str_at hv1
        refine ⟨po, _, _, _, rfl, rfl, SqL.of (kp7 _ _ poj es'), hv1, _, kp7 _ _ hDj hys, by rw [List.length_map, sizeLine_eq]; omega, ys ++ [x], ?_, ?_, ?_, (hj7.upd hDj).mono (by omega), ?_⟩
        · rw [upd_same, List.map_append]; rfl
        · rw [List.length_append, hyl]; rfl
        · intro z hz
          rcases List.mem_append.mp hz with h | h
          · exact hyin z h
          · rw [List.mem_singleton.mp h]; exact hx
        · intro b o hb ho
          rw [upd_ne (ne_of_none ho hD)]
          exact kp7 b o hb (kp' b o hb ho)
      obtain ⟨ys, hys, hyl, hyin, hj6', kp6'⟩ := p2
      have erw6 := kp6' _ _ rwj erd6
      have Drw : D ≠ rw := fun z => by rw [z, erd6] at hD; cases hD
      refine ⟨D, _, rfl, .inl ⟨SqL.of hys, fun t ht => ?_⟩⟩
      have st := same_new ht (.tup (ys.map V.str))
      have tkf : Tk H' (upd H6' t (.tup (ys.map V.str))) := (Tk.of_same s5e).trans ((Tk.of_keep jre kp6).trans ((Tk.of_keep hj6 kp6').trans (Tk.of_same st)))
      refine ⟨rw, racc, .ref t, rfl, rfl, st _ _ erw6, by rw [sizeLine_eq, pr.length]; omega, ?_⟩
      have tkl : Tk (upd H6' t (.tup (ys.map V.str))) (upd (upd H6' t (.tup (ys.map V.str))) rw (.lst (racc ++ [.ref t]))) := Tk.lst (st _ _ erw6)
      refine ⟨_, _, _, _, _, racc ++ [.ref t], rws ++ [ys], rfl, upd_same, paired_snoc (paired_imp (fun _ _ r => (RowV.tk r tkf).tk tkl) pr) (RowV.tk ⟨t, rfl, upd_same⟩ tkl), by rw [List.length_append, lr]; rfl, fun row hrow => ?_, ((hj6'.keep st).upd rwj).mono (by omega), ?_⟩
      · rcases List.mem_append.mp hrow with h | h
        · exact hrw5 row h
        · rw [List.mem_singleton.mp h]
          exact ⟨by omega, fun x hx => sin x (hyin x hx)⟩
      · refine kx5.trans (KX.put (fun b o n e => st _ _ (kp6' _ _ (fun z => n (by simp [z])) (kp6 _ _ (fun z => n (by simp [z])) (s5e _ _ e)))) (by simp))
    obtain ⟨x9, x10, x11, x12, x13, racc, rws, rfl, er, pr, lr, hrw5, jr5, kx5⟩ := h
    -- the last alternative
    have ekp5 := kx5 _ _ kpW ekpw
    have lrw : rws.length = 1 + u5 := by omega
    refine ⟨_, rfl, .inl ⟨rfl, _, SqL.of er⟩, _, rfl, j, _, 3, rfl, jr5, by omega, by decide, by decide, fun r6 H6 r60 r61 hj6 kp6 => ?_⟩
    obtain ⟨u6, rfl⟩ : ∃ n : Nat, r6 = (n : Int) := ⟨r6.toNat, by omega⟩
    refine ⟨_, rfl, by omega, by omega, fun D hD => ?_⟩
    have hDj := hj6.ne hD
    have ekp6 := kp6 _ _ kpj ekp5
    have erd6 := kp6 _ _ rwj er
    have k200 : kn.length ≤ 200 := by omega
    rw [Int.toNat_natCast]
    refine lc_range (lo := 0) (n := u6) (fun i2 H' => ∃ ys : List Str, H' D = some (.lst (ys.map V.str)) ∧ ys.length = i2 ∧ (∀ x, x ∈ ys → x ∈ kn) ∧ Jar j H' ((C + 3 + 25 * i + 7 * (1 + u5)) + i2) ∧ Keep j H6 H') ⟨[], upd_same, rfl, (fun _ h => by cases h), (hj6.keep (same_new hD _)).mono (by omega), keep_new hD _⟩ (fun i2 H' hi2 p2 => ?turn7) (fun H6' p2 => ?done7)
    case turn7 =>
      obtain ⟨ys, hys, hyl, hyin, hj', kp'⟩ := p2
      refine ⟨rfl, ?_⟩
      simp only [tYes, ↓reduceIte]
      have es' := kp' _ _ kpj ekp6
      have s0 : 0 < (kn).length := by
        cases q0 : (kn) with
        | nil => exact absurd q0 kne
        | cons _ _ => simp
      refine ⟨_, rfl, _, rfl, _, rfl, kp, _, rfl, .inl (SqL.of es'), j, (C + 3 + 25 * i + 7 * (1 + u5)) + i2, _, rfl, hj', by omega, by rw [List.length_map]; omega, by rw [List.length_map]; have := k200; omega, fun r3 H7 r30 r31 hj7 kp7 => ?_⟩
      rw [List.length_map] at r31
      obtain ⟨v, hv1, _⟩ := at_in (l := (kn).map V.str) r30 (by rw [List.length_map]; exact r31)
      obtain ⟨x, hx, rfl⟩ := str_at hv1
      refine ⟨kp, _, _, _, rfl, rfl, SqL.of (kp7 _ _ kpj es'), hv1, _, kp7 _ _ hDj hys, by rw [List.length_map, sizeLine_eq]; omega, ys ++ [x], ?_, ?_, ?_, (hj7.upd hDj).mono (by omega), ?_⟩
      · rw [upd_same, List.map_append]; rfl
      · rw [List.length_append, hyl]; rfl
      · intro z hz
        rcases List.mem_append.mp hz with h | h
        · exact hyin z h
        · rw [List.mem_singleton.mp h]; exact hx
      · intro b o hb ho
        rw [upd_ne (ne_of_none ho hD)]
        exact kp7 b o hb (kp' b o hb ho)
    obtain ⟨ys, hys, hyl, hyin, hj6', kp6'⟩ := p2
    have erw6 := kp6' _ _ rwj erd6
    refine ⟨D, _, rfl, .inl ⟨SqL.of hys, fun t ht => ?_⟩⟩
    have st := same_new ht (.tup (ys.map V.str))
    have tkf : Tk H' (upd H6' t (.tup (ys.map V.str))) := (Tk.of_keep jr5 kp6).trans ((Tk.of_keep hj6 kp6').trans (Tk.of_same st))
    refine ⟨rw, racc, .ref t, rfl, rfl, st _ _ erw6, by rw [sizeLine_eq, pr.length]; omega, ?_⟩
    have tkl : Tk (upd H6' t (.tup (ys.map V.str))) (upd (upd H6' t (.tup (ys.map V.str))) rw (.lst (racc ++ [.ref t]))) := Tk.lst (st _ _ erw6)
    have pr8 : Paired (RowV (upd (upd H6' t (.tup (ys.map V.str))) rw (.lst (racc ++ [.ref t])))) (racc ++ [.ref t]) (rws ++ [ys]) := paired_snoc (paired_imp (fun _ _ r => (RowV.tk r tkf).tk tkl) pr) (RowV.tk ⟨t, rfl, upd_same⟩ tkl)
    have jr8 : Jar j (upd (upd H6' t (.tup (ys.map V.str))) rw (.lst (racc ++ [.ref t]))) (C + 1 + 25 * (i + 1)) := ((hj6'.keep st).upd rwj).mono (by omega)
    have er8 : (upd (upd H6' t (.tup (ys.map V.str))) rw (.lst (racc ++ [.ref t]))) rw = some (.lst (racc ++ [.ref t])) := upd_same
    have kx8 : KX [j, rw] Hw (upd (upd H6' t (.tup (ys.map V.str))) rw (.lst (racc ++ [.ref t]))) := kx5.trans (KX.put (fun b o n e => st _ _ (kp6' _ _ (fun z => n (by simp [z])) (kp6 _ _ (fun z => n (by simp [z])) e))) (by simp))
    generalize upd (upd H6' t (.tup (ys.map V.str))) rw (.lst (racc ++ [.ref t])) = H8 at pr8 jr8 er8 kx8 ⊢
    obtain ⟨rws8, hrws8⟩ : ∃ x, x = rws ++ [ys] := ⟨_, rfl⟩
    obtain ⟨racc8, hracc8⟩ : ∃ x, x = racc ++ [V.ref t] := ⟨_, rfl⟩
    rw [← hrws8, ← hracc8] at pr8
    rw [← hracc8] at er8
    have l8 : rws8.length = 2 + u5 := by rw [hrws8, List.length_append, lrw]; show 1 + u5 + 1 = _; omega
    have ok8 : ∀ row, row ∈ rws8 → row.length ≤ 6 ∧ ∀ x, x ∈ row → x ∈ hs ∨ x ∈ kn := fun row hrow => by
      rw [hrws8] at hrow
      rcases List.mem_append.mp hrow with h | h
      · exact hrw5 row h
      · rw [List.mem_singleton.mp h]
        exact ⟨by omega, fun x hx => .inr (hyin x hx)⟩
    have lr8 := pr8.length
    clear hrw5 pr kx5 jr5 er hrws8 hracc8 tkf tkl
    -- the rule
    have e18 := kx8 _ _ rpW e1w
    refine ⟨_, rfl, .inl ⟨rfl, _, SqL.of e18⟩, _, rfl, _, rfl, rw, _, rfl, .inl (SqL.of er8), ((racc8.length : Nat) : Int), rfl, by omega, by omega, fun L hL => ?_⟩
    have Lj := jr8.ne hL
    have Lrp : L ≠ rp := fun z => by rw [z, e18] at hL; cases hL
    have Lrw : L ≠ rw := fun z => by rw [z, er8] at hL; cases hL
    have hal : (labsOf rs).length + rws8.length < 26 := by omega
    rw [Int.toNat_natCast]
    refine lc_range (lo := 0) (n := racc8.length) (fun i2 H' => ∃ (xs : List V) (as : List (Str × List Str)), H' L = some (.lst xs) ∧ Paired (AltV H') xs as ∧ as.length = i2 ∧ as.map (·.1) = (List.range i2).map (fun k => labC ((labsOf rs).length + k)) ∧ (∀ a, a ∈ as → a.2 ∈ rws8) ∧ Same H8 H') ⟨[], [], upd_same, .nil, rfl, rfl, (fun _ h => by cases h), same_new hL _⟩ (fun i2 H' hi2 p2 => ?turn9) (fun H9 p2 => ?done9)
    case turn9 =>
      obtain ⟨xs, as, f1, f2, f3, f4, f5, f6⟩ := p2
      have hk : i2 < racc8.length := hi2
      obtain ⟨row, hrow, t9, ht9, et9⟩ := paired_get pr8 i2 _ (List.getElem?_eq_getElem hk)
      refine ⟨rfl, ?_⟩
      simp only [tYes, ↓reduceIte]
      have hat : atI ("abcdefghijklmnopqrstuvwxyz" : Str).cps.toList ((((labsOf rs).length : Nat) : Int) + (0 + (i2 : Int))) = some (97 + ((labsOf rs).length + i2)) := by
        rw [show (((labsOf rs).length : Nat) : Int) + (0 + (i2 : Int)) = (((labsOf rs).length + i2 : Nat) : Int) by omega]
        exact lab_ltr (by omega)
      have hat2 : atI racc8 (0 + (i2 : Int)) = some (V.ref t9) := by
        rw [show (0 : Int) + (i2 : Int) = ((i2 : Nat) : Int) by omega, ← ht9]
        exact atI_nat (List.getElem?_eq_getElem hk)
      refine ⟨_, rfl, _, rfl, _, rfl, _, _, rfl, rfl, _, _, _, rfl, rfl, (by decide), hat, _, _, rfl, rfl, (by show 1 + 1 ≤ sizeLine; decide), _, rfl, _, rfl, rw, racc8, _, .ref t9, rfl, rfl, SqL.of (f6 _ _ er8), hat2, (by show 2 ≤ sizeLine; decide), fun t ht => ?_⟩
      have s9 := same_new ht (.tup [V.str (labC ((labsOf rs).length + i2)), .ref t9])
      refine ⟨xs, s9 _ _ f1, by rw [sizeLine_eq, f2.length]; omega, xs ++ [.ref t], as ++ [(labC ((labsOf rs).length + i2), row)], upd_same, ?_, by rw [List.length_append, f3]; rfl, by rw [List.map_append, f4, List.range_succ, List.map_append]; rfl, fun a ha => ?_, same_upd (f6.trans s9) hL⟩
      · have tz : Tk (upd H' t (.tup [V.str (labC ((labsOf rs).length + i2)), .ref t9])) (upd (upd H' t (.tup [V.str (labC ((labsOf rs).length + i2)), .ref t9])) L (.lst (xs ++ [.ref t]))) := Tk.lst (s9 _ _ f1)
        exact paired_snoc (paired_imp (fun _ _ r => (AltV.tk r (Tk.of_same s9)).tk tz) f2) (AltV.tk ⟨t, t9, rfl, upd_same, s9 _ _ (f6 _ _ et9)⟩ tz)
      · rcases List.mem_append.mp ha with h | h
        · exact f5 a h
        · rw [List.mem_singleton.mp h]; exact List.mem_of_getElem? hrow
    obtain ⟨xs, as, f1, f2, f3, f4, f5, f6⟩ := p2
    refine ⟨(by show 2 ≤ sizeLine; decide), fun t ht => ?_⟩
    have s9 := same_new ht (.tup [V.str name, .ref L])
    have f69 := f6.trans s9
    have e19 := f69 _ _ e18
    have et : (upd H9 t (.tup [V.str name, .ref L])) t = some (.tup [V.str name, .ref L]) := upd_same
    have f19 := s9 _ _ f1
    have f29 := paired_imp (fun _ _ r => AltV.tk r (Tk.of_same s9)) f2
    have jr9 := jr8.keep f69
    have er9 := f69 _ _ er8
    have kx9 := kx8.trans (KX.of f69)
    generalize upd H9 t (.tup [V.str name, .ref L]) = H10 at e19 et f19 f29 jr9 er9 kx9 f69 ⊢
    refine ⟨rp, acc, .ref t, rfl, rfl, e19, by rw [sizeLine_eq, pa.length]; have := congrArg List.length hm; rw [List.length_map, List.length_take] at this; omega, ?_⟩
    have tz : Tk H10 (upd H10 rp (.lst (acc ++ [.ref t]))) := Tk.lst e19
    have er11 : (upd H10 rp (.lst (acc ++ [.ref t]))) rw = some (.lst racc8) := by rw [upd_ne rwrp]; exact er9
    refine ⟨_, rfl, _, rfl, rw, _, rfl, .inl (SqL.of er11), _, _, rfl, rfl, ?_⟩
    have ela : labsOf (rs ++ [(name, as)]) = labsOf rs ++ as.map (·.1) := by
      show List.map _ (List.flatMap _ _) = List.map _ (List.flatMap _ _) ++ _
      rw [List.flatMap_append, List.map_append]
      simp
    have lal : (labsOf (rs ++ [(name, as)])).length = (labsOf rs).length + rws8.length := by rw [ela, List.length_append]; have : (as.map (·.1)).length = as.length := List.length_map ..; omega
    refine ⟨some (.str name), some (.ref rw), x9, x10, x11, x12, x13, acc ++ [.ref t], rs ++ [(name, as)], ?_, upd_same, paired_snoc (paired_imp (fun _ _ r => ?_) pa) ⟨t, L, xs, rfl, by rw [upd_ne (fun z => by rw [z, e19] at et; cases et)]; exact et, by rw [upd_ne Lrp]; exact f19, ⟨Lrp, Lj⟩, paired_imp (fun _ _ r => AltV.tk r tz) f29⟩, ?_, ?_, by rw [lal]; omega, fun r hr => ?_, (jr9.upd rpj).mono (by omega), ?_⟩
    · have el : V.int ((((labsOf rs).length : Nat) : Int) + ((racc8.length : Nat) : Int)) = V.int (((labsOf (rs ++ [(name, as)])).length : Nat) : Int) := congrArg V.int (by rw [lal, lr8]; omega)
      rw [← el]
      rfl
    · have tkx : Tk Hw H10 := fun c zs e => kx9 _ _ (by
        have n1 : c ≠ j := fun z => by obtain ⟨_, _, _, hjw, _⟩ := jrw; rw [z, hjw] at e; cases e
        have n2 : c ≠ rw := fun z => by rw [z, erw] at e; cases e
        simp [n1, n2]) e
      refine RlV.tk r (((Tk.of_same srw).trans tkx).trans tz) fun b zs hb e => ?_
      have n2 : b ≠ rw := fun z => by rw [z, hrw] at e; cases e
      rw [upd_ne hb.1]
      exact kx9 _ _ (by simp [hb.2, n2]) (srw _ _ e)
    · rw [List.map_append, hm, List.take_add_one, hname]; rfl
    · rw [lal, ela, f4, lr8]
      exact (congrArg (· ++ _) hl).trans (labL_app _ _)
    · rcases List.mem_append.mp hr with h | h
      · exact hrow r h
      · rw [List.mem_singleton.mp h]
        refine ⟨fun e => ?_, ?_, fun a ha => ok8 _ (f5 a ha)⟩
        · have : as = [] := e
          rw [this] at f3; simp at f3; omega
        · show as.length ≤ 4
          omega
    · exact (old kx9).put (by simp)
end
end Pa
set_option maxHeartbeats 4000000
namespace Pa
open PySem PySem.Spec PyProof.Rows L2 Ty Se Sv
/-! ### _law_marks -/
def putN (N : Nts) (x : Str) (n : Bool × List Str) : Nts := if (N.any fun m => decide (m.1 = x)) = true then N.map (fun m => if m.1 = x then (m.1, n) else m) else N ++ [(x, n)]
theorem nts_any {H : Hp} (x : Str) : ∀ {kvs : List (Key × V)} {N : Nts}, Paired (NkV H) kvs N → (kvs.any fun kv => decide (kv.1 = (Sum.inr x : Key))) = N.any fun m => decide (m.1 = x)
  | _, _, .nil => rfl
  | _, _, .cons h t => by
    rw [List.any_cons, List.any_cons, nts_any x t, h.1]
    congr 1
    rw [Bool.eq_iff_iff, decide_eq_true_eq, decide_eq_true_eq]
    exact ⟨fun e => Sum.inr.inj e, fun e => by rw [e]⟩
theorem nts_repl {H : Hp} {x : Str} {v : V} {n : Bool × List Str} (h : NtV H v n) : ∀ {kvs : List (Key × V)} {N : Nts}, Paired (NkV H) kvs N → Paired (NkV H) (kvs.map fun kv => if kv.1 = (Sum.inr x : Key) then (kv.1, v) else kv) (N.map fun m => if m.1 = x then (m.1, n) else m)
  | _, _, .nil => .nil
  | kv :: _, m :: _, .cons r t => by
    rw [List.map_cons, List.map_cons]
    refine .cons ?_ (nts_repl h t)
    by_cases e : m.1 = x
    · rw [if_pos (by rw [r.1, e]), if_pos e]
      exact ⟨r.1, h⟩
    · rw [if_neg (by rw [r.1]; exact fun q => e (Sum.inr.inj q)), if_neg e]
      exact r
theorem nts_put {H : Hp} {kvs : List (Key × V)} {N : Nts} {x : Str} {v : V} {n : Bool × List Str} (p : Paired (NkV H) kvs N) (h : NtV H v n) : Paired (NkV H) (putK kvs (Sum.inr x : Key) v) (putN N x n) := by
  unfold putK putN
  rw [nts_any x p]
  split
  · exact nts_repl h p
  · exact paired_snoc p ⟨rfl, h⟩
structure NtsG (B L : Nat) (N : Nts) : Prop where
  nd : (N.map (·.1)).Nodup
  few : N.length ≤ B
  len : ∀ n, n ∈ N → n.2.2.length ≤ L
theorem NtsG.mono {B L B' L' : Nat} {N : Nts} (h : NtsG B L N) (hb : B ≤ B') (hl : L ≤ L') : NtsG B' L' N := ⟨h.nd, Nat.le_trans h.few hb, fun n hn => Nat.le_trans (h.len n hn) hl⟩
theorem NtsG.put {B L : Nat} {N : Nts} {x : Str} {n : Bool × List Str} (h : NtsG B L N) (hn : n.2.length ≤ L) : NtsG (B + 1) L (putN N x n) := by
  unfold putN
  split
  · refine ⟨?_, by rw [List.length_map]; have := h.few; omega, fun m hm => ?_⟩
    · have : (N.map (fun m => if m.1 = x then (m.1, n) else m)).map (·.1) = N.map (·.1) := by
        rw [List.map_map]
        refine List.map_congr_left fun m _ => ?_
        show (if m.1 = x then (m.1, n) else m).1 = m.1
        split <;> rfl
      rw [this]; exact h.nd
    · obtain ⟨m', h', rfl⟩ := List.mem_map.mp hm
      split
      · exact hn
      · exact h.len _ h'
  · rename_i hx
    refine ⟨?_, by rw [List.length_append]; have := h.few; simp; omega, fun m hm => ?_⟩
    · rw [List.map_append, List.nodup_append]
      refine ⟨h.nd, by simp, fun a ha b hb e => ?_⟩
      obtain ⟨m, hm, rfl⟩ := List.mem_map.mp ha
      rw [List.mem_singleton.mp (show b ∈ [x] from hb)] at e
      exact hx (List.any_eq_true.mpr ⟨m, hm, decide_eq_true e⟩)
    · rcases List.mem_append.mp hm with q | q
      · exact h.len m q
      · rw [List.mem_singleton.mp q]; exact hn
abbrev nMk : List Str := ["jar", "rules", "found", "name", "rows", "tag", "row", "notes", "deep", "k", "mark"]
theorem scMk : FnScope nMk ["jar", "rules"] (defScope lMarks) := ⟨rfl, rfl, rfl, by decide +kernel, rfl, by decide +kernel, by decide +kernel⟩
/-- a mark put otherwise -/
def tMk (n : Nat) : TS := fun D σ H => ∃ (j r : Addr) (x1 x2 x3 x4 x5 x7 : Option V) (d k : Int) (row : List Str) (C : Nat) (m : Str), σ = [some (.ref j), x1, x2, x3, x4, x5, some (.ref r), x7, some (.int d), some (.int k), some (.str m)] ∧ m ∈ marksL ∧ Jar j H C ∧ C ≤ 999999999 ∧ H r = some (.tup (row.map V.str)) ∧
  ∀ (m' : Str) H', m' ∈ marksL → Jar j H' (C + n) → Keep j H H' → D.nx [some (.ref j), x1, x2, x3, x4, x5, some (.ref r), x7, some (.int d), some (.int k), some (.str m')] H'
def tNo (K : PySem.W.Frag) : TS := fun D σ H => ∃ (x0 x1 x2 x3 x4 x5 x6 x9 x10 : Option V) (n : Addr) (d : Int) (ms : List Str), σ = [x0, x1, x2, x3, x4, x5, x6, some (.ref n), some (.int d), x9, x10] ∧ H n = some (.lst (ms.map V.str)) ∧ (∀ m, m ∈ ms → m ∈ marksL) ∧ ms.length ≤ 5 ∧
  ∀ (n' : Addr) (ms' : List Str) H', Same H H' → H' n' = some (.lst (ms'.map V.str)) → (∀ m, m ∈ ms' → m ∈ marksL) → ms'.length ≤ 5 → D.nx [x0, x1, x2, x3, x4, x5, x6, some (.ref n'), some (.int d), x9, x10] H'
def spMarks : Sp := fun vs H Q _ => ∃ (j b : Addr) (C : Nat) (rs : Rls), vs = [.ref j, .ref b] ∧ Jar j H C ∧ C ≤ 999900000 ∧ RL H b rs ∧ rs.length ≤ 4 ∧ (∀ r, r ∈ rs → r.2.length ≤ 4 ∧ ∀ a, a ∈ r.2 → a.2.length ≤ 6) ∧
  ∀ (p : Addr) (kvs : List (Key × V)) (N : Nts) (H' : Hp), H p = none → p ≠ j → H' p = some (.dK kvs) → Paired (NkV H') kvs N → NtsG 16 5 N → Jar j H' (C + 176) → Keep j H H' → Q (.ref p) H'
theorem NtV.tk {H H' : Hp} {v : V} {n : Bool × List Str} (h : NtV H v n) (j : Addr) (jr : ∃ a b c : Int, H j = some (.lst [.int a, .int b, .int c])) (k : Keep j H H') : NtV H' v n := by
  obtain ⟨a, rfl, h⟩ := h
  refine ⟨a, rfl, k _ _ (fun q => ?_) h⟩
  obtain ⟨x, y, z, e⟩ := jr
  rw [q, e] at h
  obtain ⟨b, l⟩ := n
  cases b with
  | true => cases h
  | false =>
    have e2 : [V.int x, .int y, .int z] = l.map V.str := HO.lst.inj (Option.some.inj h)
    cases l with
    | nil => cases e2
    | cons c l => cases e2
theorem NkV.keep {j : Addr} {C : Nat} {H H' : Hp} {kv : Key × V} {n : Str × (Bool × List Str)} (h : NkV H kv n) (jr : Jar j H C) (k : Keep j H H') : NkV H' kv n := by
  obtain ⟨a, b, c, e, _⟩ := jr
  exact ⟨h.1, h.2.tk j ⟨a, b, c, e⟩ k⟩
section
variable {P : Program} {w : World} {K : PySem.W.Frag} {mg : Str → Option Value} {base : Heap} {f g : Addr} {fd gd : FuncData}
theorem ok_marks (F : Fun K "_law_marks" "_law_marks" lMarks f fd)
    (G : FnOk P w K mg base CX0 1 g gd ["jar", "many"] spDrawn) (bG : L2.Binds K gd ["jar", "many"] []) (kG : PySem.W.keepIn K (.ref g) = true) (mG : mg "_law_dip" = some (.ref g)) (ml : mg "len" = none) (mr : mg "range" = none) (mt : mg "tuple" = none) (mi : mg "int" = none) :
    FnOk P w K mg base CX0 2 f fd ["jar", "rules"] spMarks := by
  refine F.ok scMk (fun vs H Q E h => ?_) (fun cdv A outer s0 H vs Q E hr h => ?_)
  · obtain ⟨_, _, _, _, rfl, _⟩ := h
    rfl
  have hu1 := hu_of hr
  refine ⟨_, pss_cons (ps_set (i := 2) scMk.nd rfl (.inl rfl) pe_dnewK)
    (pss_cons (ps_for PassesOwn.never rfl (pi_list (pv 1)) (pg_tup rfl (pgs_cons (pg_name (i := 3) scMk.nd rfl (Or.inl rfl)) (pgs_cons (pg_name (i := 4) scMk.nd rfl (Or.inl rfl)) pgs_nil)))
      (pss_one (ps_for PassesOwn.never rfl (pi_list (pv 4)) (pg_tup rfl (pgs_cons (pg_name (i := 5) scMk.nd rfl (Or.inl rfl)) (pgs_cons (pg_name (i := 6) scMk.nd rfl (Or.inl rfl)) pgs_nil)))
      (pss_cons (ps_set (i := 7) scMk.nd rfl (.inl rfl) (pe_lst pa_nil))
      (pss_cons (ps_set (i := 8) scMk.nd rfl (.inl rfl) pe_int)
      (pss_cons (ps_for PassesOwn.never rfl (pi_range1 rfl mr (pa_cons (pe_op op_sub (pe_callB call_len_seq rfl ml PySem.boot_len (pa_cons (pv 6) pa_nil)) pe_int) pa_nil)) (pg_name (i := 9) scMk.nd rfl (Or.inl rfl))
        (pss_cons (ps_set (i := 10) scMk.nd rfl (.inl rfl) (pe_ix ix_list (pe_lst (pa_cons pe_str (pa_cons pe_str (pa_cons pe_str (pa_cons pe_str (pa_cons pe_str (pa_cons pe_str (pa_cons pe_str pa_nil)))))))) (pe_call G hr rfl mG kG bG .nil pass0 (pa_cons (pv 0) (pa_cons pe_int pa_nil))) (fun _ _ => rfl)))
        (pss_cons (show PS _ _ (tMk 1) from ps_imp (ps_if (PW.pt (pw_and (pt_cmpR op_gt (pv 8) pe_int (nomark _)) (pw_and1 (PW.pt (pw_or (pt_cmpR op_ge (pe_op op_add (pe_op op_add (pv 9) pe_int) (pv 8)) (pe_op op_sub (pe_callB call_len_seq rfl ml PySem.boot_len (pa_cons (pv 6) pa_nil)) pe_int) (nomark _)) (pw_or1 (pt_cmpR op_eq (pe_call G hr rfl mG kG bG .nil pass0 (pa_cons (pv 0) (pa_cons pe_int pa_nil))) pe_int (nomark _)))))))) (pss_one (ps_set (i := 10) scMk.nd rfl (.inl rfl) pe_str)) pss_nil) (fun D σ H1 h => by
          obtain ⟨j, r, x1, x2, x3, x4, x5, x7, d, k, row, C, m, rfl, hm, hj, hC, er, h⟩ := h
          have same : ∀ m' : Str, m' ∈ marksL → D.nx [some (.ref j), x1, x2, x3, x4, x5, some (.ref r), x7, some (.int d), some (.int k), some (.str m')] H1 := fun m' h' => h m' H1 h' (hj.mono (by omega)) (Keep.of_same same_refl)
          refine ⟨_, rfl, _, _, rfl, rfl, _, rfl, ?_⟩
          by_cases c1 : 0 < d
          case neg => exact ifF (decide_eq_false c1) (ifF rfl (same m hm))
          refine ifT (decide_eq_true c1) ⟨_, rfl, _, _, rfl, rfl, _, rfl, _, _, rfl, rfl, _, rfl, r, _, rfl, .inr (SqT.of er), _, _, rfl, rfl, _, _, rfl, rfl, _, rfl, ?_⟩
          rcases Bool.eq_false_or_eq_true (decide ((((row.map V.str).length : Nat) : Int) - 1 ≤ k + 1 + d)) with c2 | c2
          · exact ifT c2 (ifT rfl (same "out" (by decide)))
          refine ifF c2 ⟨_, rfl, j, C, 2, rfl, hj, by omega, by decide, by decide, fun z H2 z0 z1 hj2 kp2 => ⟨rfl, _, rfl, ?_⟩⟩
          rw [dec_int]
          by_cases c3 : z = 0
          · exact ifT (decide_eq_true c3) (h "out" H2 (by decide) hj2 kp2)
          · exact ifF (decide_eq_false c3) (h m H2 hm hj2 kp2)))
        (pss_cons (show PS _ _ (tMk 0) from ps_imp (ps_if (PW.pt (pw_and (pt_cmpR op_eq (pv 10) pe_str (nomark _)) (pw_and1 (pt_cmpR op_ge (pe_op op_add (pe_op op_add (pv 9) pe_int) (pv 8)) (pe_op op_add (pe_op op_sub (pe_callB call_len_seq rfl ml PySem.boot_len (pa_cons (pv 6) pa_nil)) pe_int) pe_int) (nomark _))))) (pss_one (ps_set (i := 10) scMk.nd rfl (.inl rfl) pe_str)) pss_nil) (fun D σ H1 h => by
          obtain ⟨j, r, x1, x2, x3, x4, x5, x7, d, k, row, C, m, rfl, hm, hj, hC, er, h⟩ := h
          have same : ∀ m' : Str, m' ∈ marksL → D.nx [some (.ref j), x1, x2, x3, x4, x5, some (.ref r), x7, some (.int d), some (.int k), some (.str m')] H1 := fun m' h' => h m' H1 h' hj (Keep.of_same same_refl)
          refine ⟨_, rfl, rfl, _, rfl, ?_⟩
          rcases Bool.eq_false_or_eq_true (decide (V.str m = V.str "in")) with c1 | c1
          case inr => exact ifF c1 (ifF rfl (same m hm))
          refine ifT c1 ⟨_, rfl, _, _, rfl, rfl, _, rfl, _, _, rfl, rfl, _, rfl, r, _, rfl, .inr (SqT.of er), _, _, rfl, rfl, _, _, rfl, rfl, _, _, rfl, rfl, _, rfl, ?_⟩
          rcases Bool.eq_false_or_eq_true (decide ((((row.map V.str).length : Nat) : Int) - 1 + 1 ≤ k + 2 + d)) with c2 | c2
          · exact ifT c2 (same "row" (by decide))
          · exact ifF c2 (same m hm)))
        (pss_cons (ps_set (i := 8) scMk.nd rfl (.inl rfl) (pe_op op_sub (pe_op op_add (pv 8) (pe_callTy call_int1 rfl mi (by decide +kernel) (pa_cons (pe_cmpR op_eq (pv 10) pe_str (nomark _)) pa_nil))) (pe_callTy call_int1 rfl mi (by decide +kernel) (pa_cons (pe_cmpR op_eq (pv 10) pe_str (nomark _)) pa_nil))))
        (pss_one (ps_expr (pe_bm PySem.F.plainAttrs_list PySem.F.slot_list_append PySem.F.type_list_append mt_append (pv 7) (pa_cons (pv 10) pa_nil)))))))))
      (pss_cons (show PS _ _ (tNo K) from ps_imp (ps_if (pt_cmpR op_ne (pv 8) pe_int (nomark _)) (pss_one (ps_setLc (i := 7) (own := [("mark", 10)]) (g := gName 10) (tt := tYes) rfl scMk.nd rfl rfl (sw_true rfl rfl rfl (by decide +kernel)) (pi_list (pv 7)) (blkOk_by (N := nMk) (sc := defScope lMarks) (by decide +kernel)) (fun _ _ _ _ _ => pg_name (i := 10) scMk.nd rfl (Or.inl rfl)) (fun _ _ _ _ _ => pts_nil)
        (fun _ _ _ _ _ => pe_ifExp (pt_cmpR (show OpR _ (compareOp .In) (rIn K false) from op_in_seq) (pv 10) (pe_lst (pa_cons pe_str (pa_cons pe_str pa_nil))) rfl) pe_str (pv 10)))) pss_nil) (fun D σ H1 h => by
        obtain ⟨x0, x1, x2, x3, x4, x5, x6, x9, x10, n, d, ms, rfl, en, hms, hle, h⟩ := h
        refine ⟨_, rfl, rfl, _, rfl, ?_⟩
        rcases Bool.eq_false_or_eq_true (decide (V.int d = V.int 0)) with c1 | c1
        · exact ifF (by rw [c1]; rfl) (h n ms H1 same_refl en hms hle)
        refine ifT (by rw [c1]; rfl) ⟨_, rfl, n, rfl, ⟨_, SqL.of en⟩, fun D1 hD => ?_⟩
        refine lc_list (K := K) (xs := ms.map V.str) (fun i H' => ∃ ys : List Str, H' D1 = some (.lst (ys.map V.str)) ∧ ys.length = i ∧ (∀ y, y ∈ ys → y ∈ marksL) ∧ Same H1 H') ⟨[], upd_same, rfl, (fun _ h => by cases h), same_new hD _⟩ (fun i H' _ h => by obtain ⟨_, _, _, _, sx⟩ := h; exact SqL.of (sx _ _ en)) (fun i v H' hv h => ?turnq) (fun H2 h2 => ?doneq)
        case turnq =>
          obtain ⟨ys, f1, f2, f3, f4⟩ := h
          obtain ⟨x, hx, rfl⟩ := strs_at hv
          have hi := (List.getElem?_eq_some_iff.mp hx).1
          refine ⟨rfl, ?_⟩
          simp only [tYes, ↓reduceIte]
          refine ⟨_, rfl, (by show 2 ≤ sizeLine; decide), fun l hl => ⟨l, _, rfl, .inl (SqL.of upd_same), rfl, rfl, _, rfl, ?_⟩⟩
          have sl := same_new hl (.lst [V.str "in", .str "out"])
          have hA : ∀ y : Str, y ∈ marksL → ∃ ys2 : List Str, (upd (upd H' l (.lst [V.str "in", .str "out"])) D1 (.lst (ys.map V.str ++ [V.str y]))) D1 = some (.lst (ys2.map V.str)) ∧ ys2.length = i + 1 ∧ (∀ y, y ∈ ys2 → y ∈ marksL) ∧ Same H1 (upd (upd H' l (.lst [V.str "in", .str "out"])) D1 (.lst (ys.map V.str ++ [V.str y]))) := fun y hy =>
            ⟨ys ++ [y], by rw [upd_same, List.map_append]; rfl, by rw [List.length_append, f2]; rfl, fun z hz => by
              rcases List.mem_append.mp hz with q | q
              · exact f3 z q
              · rw [List.mem_singleton.mp q]; exact hy, same_upd (f4.trans sl) hD⟩
          rcases Bool.eq_false_or_eq_true (inV (V.str x) [V.str "in", .str "out"]) with c2 | c2
          · exact ifT c2 ⟨_, sl _ _ f1, by rw [List.length_map, sizeLine_eq]; omega, hA "soft" (by decide)⟩
          · exact ifF c2 ⟨_, rfl, _, sl _ _ f1, by rw [List.length_map, sizeLine_eq]; omega, hA x (hms x (List.mem_of_getElem? hx))⟩
        obtain ⟨ys, f1, f2, f3, f4⟩ := h2
        exact h D1 ys H2 f4 f1 f3 (by rw [List.length_map] at f2; omega)))
      (pss_one (ps_if (pt_cmpR op_gt (pe_call G hr rfl mG kG bG .nil pass0 (pa_cons (pv 0) (pa_cons pe_int pa_nil))) pe_int (nomark _)) (pss_one (ps_dput hu1 (pv 2) (pv 5) (pe_callTy call_tuple_of rfl mt (by decide +kernel) (pa_cons (pv 7) pa_nil)) rfl)) pss_nil)))))))))
    (pss_one (ps_ret (pv 2)))), ?_⟩
  obtain ⟨j, b, C, rs, rfl, hj, hC, ⟨rb, hrb, prb⟩, hrl, hok, q⟩ := h
  refine fun fo hfo => ?_
  have foj := hj.ne hfo
  have s1 := same_new hfo (.dK [])
  have ef1 : (upd H fo (.dK [])) fo = some (.dK []) := upd_same
  have hj1 := hj.keep s1
  have hrb1 := s1 _ _ hrb
  have bj : b ≠ j := jar_ne hj hrb (ref_int (fun _ _ r => r.ref) prb)
  have bfo : b ≠ fo := fun z => by rw [z, hfo] at hrb; cases hrb
  have prb1 := paired_imp (fun _ _ r => RlV.same s1 r) prb
  have prf : Paired (RlV (fun c => c ≠ fo) (upd H fo (.dK []))) rb rs := paired_imp (fun v r z => by
    obtain ⟨x, y, zs, e1, e2, e3, _, e4⟩ := z
    exact ⟨x, y, zs, e1, e2, e3, (fun z => by rw [z, ef1] at e3; cases e3), e4⟩) prb1
  have k1 : Keep j H (upd H fo (.dK [])) := Keep.of_same s1
  have old : ∀ {H9 : Hp}, KX [j, fo] (upd H fo (.dK [])) H9 → Keep j H H9 := fun k b o nb e => k b o (by simp only [List.mem_cons, List.not_mem_nil, or_false, not_or]; exact ⟨nb, fun z => by rw [z, hfo] at e; cases e⟩) (s1 _ _ e)
  generalize upd H fo (.dK []) = H1 at ef1 hj1 hrb1 prf old ⊢
  have bX : b ∉ [j, fo] := by simp [bj, bfo]
  refine ⟨_, rfl, b, rfl, ⟨_, SqL.of hrb1⟩, ?_⟩
  refine for_list (K := K) (xs := rb) (fun i σ H' => ∃ (x3 x4 x5 x6 x7 x8 x9 x10 : Option V) (kvs : List (Key × V)) (N : Nts), σ = [some (.ref j), some (.ref b), some (.ref fo), x3, x4, x5, x6, x7, x8, x9, x10] ∧ H' fo = some (.dK kvs) ∧ Paired (NkV H') kvs N ∧ NtsG (4 * i) 5 N ∧ Jar j H' (C + 44 * i) ∧ KX [j, fo] H1 H')
    ⟨_, _, _, _, _, _, _, _, [], [], rfl, ef1, .nil, ⟨.nil, Nat.zero_le _, (fun _ h => by cases h)⟩, hj1, KX.of same_refl⟩ (fun i σ H' _ h => by obtain ⟨_, _, _, _, _, _, _, _, _, _, _, _, _, _, _, k⟩ := h; exact SqL.of (k _ _ bX hrb1)) (fun i v σ H' hv h => ?turn) (fun σ H' h => ?done)
  case done =>
    obtain ⟨x3, x4, x5, x6, x7, x8, x9, x10, kvs, N, rfl, e1, pN, hN, jr, kx⟩ := h
    have hl := prf.length
    exact ⟨_, rfl, q fo kvs N H' hfo foj e1 pN (hN.mono (by omega) (Nat.le_refl _)) (jr.mono (by omega)) (old kx)⟩
  case turn =>
    obtain ⟨x3, x4, x5, x6, x7, x8, x9, x10, kvs, N, rfl, e1, pN, hN, jr, kx⟩ := h
    obtain ⟨⟨name, as⟩, hri, ra, ab, xs, rfl, g1, g2, gfo, g4⟩ := paired_get prf i v hv
    have hi : i < rs.length := (List.getElem?_eq_some_iff.mp hri).1
    have rok := hok _ (List.mem_of_getElem? hri)
    have las : as.length ≤ 4 := rok.1
    have tkx : Tk H1 H' := fun c zs e => kx _ _ (by
      have n1 : c ≠ j := fun z => by obtain ⟨_, _, _, hjw, _⟩ := hj1; rw [z, hjw] at e; cases e
      have n2 : c ≠ fo := fun z => by rw [z, ef1] at e; cases e
      simp [n1, n2]) e
    have abj : ab ≠ j := jar_ne hj1 g2 (ref_int (fun _ _ r => r.ref) g4)
    have g2' := kx _ _ (by simp [abj, gfo]) g2
    have g4' := paired_imp (fun _ _ r => AltV.tk r tkx) g4
    have lxs := g4.length
    refine ⟨ra, _, rfl, SqT.of (tkx _ _ g1), rfl, _, _, rfl, _, _, rfl, rfl, ?_⟩
    refine ⟨_, rfl, ab, rfl, ⟨_, SqL.of g2'⟩, ?_⟩
    refine for_list (K := K) (xs := xs) (fun t σ H' => ∃ (x3 x4 x5 x6 x7 x8 x9 x10 : Option V) (kvs : List (Key × V)) (N : Nts), σ = [some (.ref j), some (.ref b), some (.ref fo), x3, x4, x5, x6, x7, x8, x9, x10] ∧ H' fo = some (.dK kvs) ∧ Paired (NkV H') kvs N ∧ NtsG (4 * i + t) 5 N ∧ Jar j H' (C + 44 * i + 11 * t) ∧ KX [j, fo] H1 H')
      ⟨_, _, _, _, _, _, _, _, kvs, N, rfl, e1, pN, hN, jr, kx⟩ (fun t σ H' _ h => by obtain ⟨_, _, _, _, _, _, _, _, _, _, _, _, _, _, _, k⟩ := h; exact SqL.of (k _ _ (by simp [abj, gfo]) g2)) (fun t v σ H' hv h => ?turn2) (fun σ H' h => ?done2)
    case done2 =>
      obtain ⟨x3, x4, x5, x6, x7, x8, x9, x10, kvs, N, rfl, e1, pN, hN, jr, kx⟩ := h
      exact ⟨_, _, _, _, _, _, _, _, kvs, N, rfl, e1, pN, hN.mono (by omega) (Nat.le_refl _), jr.mono (by omega), kx⟩
    case turn2 =>
      clear e1 pN hN jr kx tkx g2' g4'
      obtain ⟨x3, x4, x5, x6, x7, x8, x9, x10, kvs, N, rfl, e1, pN, hN, jr, kx⟩ := h
      obtain ⟨⟨tag, row⟩, hti, ta, tb, rfl, g5, g6⟩ := paired_get g4 t v hv
      have ht : t < as.length := (List.getElem?_eq_some_iff.mp hti).1
      have lrow : row.length ≤ 6 := rok.2 _ (List.mem_of_getElem? hti)
      have tkx : Tk H1 H' := fun c zs e => kx _ _ (by
        have n1 : c ≠ j := fun z => by obtain ⟨_, _, _, hjw, _⟩ := hj1; rw [z, hjw] at e; cases e
        have n2 : c ≠ fo := fun z => by rw [z, ef1] at e; cases e
        simp [n1, n2]) e
      refine ⟨ta, _, rfl, SqT.of (tkx _ _ g5), rfl, _, _, rfl, _, _, rfl, rfl, ?_⟩
      have g6' := tkx _ _ g6
      refine ⟨(by show 0 ≤ sizeLine; decide), fun np hnp => ?_⟩
      have npj := jr.ne hnp
      have npfo : np ≠ fo := fun z => by rw [z, e1] at hnp; cases hnp
      have sn := same_new hnp (.lst [])
      have enp : (upd H' np (.lst [])) np = some (.lst ([] : List V)) := upd_same
      have e1n := sn _ _ e1
      have pNn := paired_imp (fun _ _ r => NkV.same r sn) pN
      have jrn := jr.keep sn
      have kxn := kx.trans (KX.of sn)
      have g6n := sn _ _ g6'
      generalize upd H' np (.lst []) = H2 at sn enp e1n pNn jrn kxn g6n ⊢
      refine ⟨_, rfl, tb, _, rfl, .inr (SqT.of g6n), _, _, rfl, rfl, (((row.map V.str).length : Nat) : Int) - 1, rfl, by omega, by rw [List.length_map]; omega, ?_⟩
      refine for_range (lo := 0) (n := ((((row.map V.str).length : Nat) : Int) - 1).toNat) (fun k σ H3 => ∃ (d : Int) (x9 x10 : Option V) (ms : List Str), σ = [some (.ref j), some (.ref b), some (.ref fo), x3, x4, some (.str tag), some (.ref tb), some (.ref np), some (.int d), x9, x10] ∧ H3 np = some (.lst (ms.map V.str)) ∧ (∀ m, m ∈ ms → m ∈ marksL) ∧ ms.length = k ∧ Jar j H3 (C + 44 * i + 11 * t + 2 * k) ∧ KX [j, np] H2 H3)
        ⟨0, _, _, [], rfl, enp, (fun _ h => by cases h), rfl, jrn, KX.of same_refl⟩ (fun k σ H3 hk h => ?turn3) (fun σ H3 h => ?done3)
      case turn3 =>
        rw [List.length_map] at hk
        obtain ⟨d, x9, x10, ms, rfl, f1, f2, f3, f4, f5⟩ := h
        have e3 := f5 _ _ (by simp [npfo.symm, foj]) e1n
        have ntup : ∀ {c zs}, H2 c = some (.tup zs) → H3 c = some (.tup zs) := fun {c zs} e => f5 _ _ (by
          have n1 : c ≠ j := fun z => by obtain ⟨_, _, _, hjw, _⟩ := jrn; rw [z, hjw] at e; cases e
          have n2 : c ≠ np := fun z => by rw [z, enp] at e; cases e
          simp [n1, n2]) e
        refine ⟨(by show 7 ≤ sizeLine; decide), fun l hl => ?_⟩
        have sl := same_new hl (.lst [V.str "near", .str "blank", .str "row", .str "soft", .str "in", .str "soft", .str "blank"])
        have el : (upd H3 l (.lst [V.str "near", .str "blank", .str "row", .str "soft", .str "in", .str "soft", .str "blank"])) l = some (.lst ((["near", "blank", "row", "soft", "in", "soft", "blank"] : List Str).map V.str)) := upd_same
        have jl := f4.keep sl
        have lj := f4.ne hl
        generalize upd H3 l (.lst [V.str "near", .str "blank", .str "row", .str "soft", .str "in", .str "soft", .str "blank"]) = H4 at sl el jl ⊢
        refine ⟨_, rfl, j, _, 7, rfl, jl, by omega, by decide, by decide, fun r5 H5 r50 r51 hj5 kp5 => ?_⟩
        obtain ⟨v5, hv5, _⟩ := at_in (l := (["near", "blank", "row", "soft", "in", "soft", "blank"] : List Str).map V.str) r50 r51
        obtain ⟨m5, hm5, rfl⟩ := str_at hv5
        have hm5' : m5 ∈ marksL := by
          simp only [List.mem_cons, List.not_mem_nil, or_false] at hm5 ⊢
          rcases hm5 with h | h | h | h | h | h | h <;> simp [h]
        have t5 := kp5 _ _ (fun z => by obtain ⟨_, _, _, hjw, _⟩ := jl; have := sl _ _ (ntup g6n); rw [z, hjw] at this; cases this) (sl _ _ (ntup g6n))
        refine ⟨l, _, _, _, rfl, rfl, SqL.of (kp5 _ _ lj el), hv5, j, tb, _, _, _, _, _, _, _, _, row, C + 44 * i + 11 * t + 2 * k + 1, m5, rfl, hm5', hj5, by omega, t5, fun m6 H6 hm6 hj6 kp6 => ?_⟩
        have t6 := kp6 _ _ (fun z => by obtain ⟨_, _, _, hjw, _⟩ := hj5; rw [z, hjw] at t5; cases t5) t5
        refine ⟨j, tb, _, _, _, _, _, _, _, _, row, C + 44 * i + 11 * t + 2 * k + 2, m6, rfl, hm6, hj6, by omega, t6, fun m7 H7 hm7 hj7 kp7 => ?_⟩
        refine ⟨_, rfl, _, rfl, rfl, .inr ⟨_, rfl, _, _, rfl, rfl, _, rfl, rfl, .inr ⟨_, rfl, _, _, rfl, rfl, ?_⟩⟩⟩
        have en7 := kp7 _ _ npj (kp6 _ _ npj (kp5 _ _ npj (sl _ _ f1)))
        refine ⟨_, rfl, .inl ⟨rfl, _, SqL.of en7⟩, _, rfl, np, _, _, rfl, rfl, en7, by rw [List.length_map, sizeLine_eq]; omega, ?_⟩
        refine ⟨_, _, _, ms ++ [m7], rfl, by rw [upd_same, List.map_append]; rfl, fun m hm => ?_, by rw [List.length_append, f3]; rfl, (hj7.upd npj).mono (by omega), KX.put (fun c o n e => kp7 _ _ (fun z => n (by simp [z])) (kp6 _ _ (fun z => n (by simp [z])) (kp5 _ _ (fun z => n (by simp [z])) (sl _ _ (f5 _ _ n e))))) (by simp)⟩
        rcases List.mem_append.mp hm with h | h
        · exact f2 m h
        · rw [List.mem_singleton.mp h]; exact hm7
      rw [List.length_map] at h
      obtain ⟨d, x9, x10, ms, rfl, f1, f2, f3, f4, f5⟩ := h
      have e3 := f5 _ _ (by simp [npfo.symm, foj]) e1n
      refine ⟨_, _, _, _, _, _, _, _, _, np, d, ms, rfl, f1, f2, by omega, fun n6 m6 H6 s6 en6 hm6 lm6 => ?_⟩
      have jr6 := f4.keep s6
      have e6 := s6 _ _ e3
      have n6j : n6 ≠ j := jar_ne jr6 en6 (str_int _)
      have n6fo : n6 ≠ fo := fun z => by rw [z, e6] at en6; cases en6
      -- what was there stays
      have kp26 : KX [j, fo] H1 H6 := kx.trans (fun c o n e => s6 _ _ (f5 _ _ (by simp only [List.mem_cons, List.not_mem_nil, or_false, not_or] at n ⊢; exact ⟨n.1, fun z => by rw [z, hnp] at e; cases e⟩) (sn _ _ e)))
      have pN6 : Paired (NkV H6) kvs N := paired_imp (fun kv n r => by
        obtain ⟨r1, c, r2, r3⟩ := r
        refine ⟨r1, c, r2, s6 _ _ (f5 _ _ ?_ (sn _ _ r3))⟩
        have n1 : c ≠ np := fun z => by rw [z, hnp] at r3; cases r3
        have n2 : c ≠ j := fun z => by
          obtain ⟨a, b, c, hjw, _⟩ := jr
          rw [z, hjw] at r3
          obtain ⟨_, bb, l⟩ := n
          cases bb with
          | true => cases r3
          | false =>
            have e2 : [V.int a, .int b, .int c] = l.map V.str := HO.lst.inj (Option.some.inj r3)
            cases l with
            | nil => cases e2
            | cons c l => cases e2
        simp [n1, n2]) pN
      refine ⟨_, rfl, j, _, 4, rfl, jr6, by omega, by decide, by decide, fun r7 H7 r70 r71 hj7 kp7 => ⟨_, _, rfl, rfl, _, rfl, ?_⟩⟩
      have e7 := kp7 _ _ foj e6
      have kx7 : KX [j, fo] H1 H7 := kp26.trans (fun c o n e => kp7 _ _ (fun z => n (by simp [z])) e)
      have pN7 := paired_imp (fun _ _ r => NkV.keep r jr6 kp7) pN6
      by_cases c7 : 0 < r7
      case neg => exact ifF (decide_eq_false c7) ⟨_, _, _, _, _, _, _, _, kvs, N, rfl, e7, pN7, hN.mono (by omega) (Nat.le_refl _), hj7.mono (by omega), kx7⟩
      have en7 := kp7 _ _ n6j en6
      refine ifT (decide_eq_true c7) ⟨_, rfl, n6, _, rfl, .inl ⟨SqL.of en7, fun z hz => ?_⟩⟩
      have sz := same_new hz (.tup (m6.map V.str))
      have ez := sz _ _ e7
      have hft := hN.few
      have zfo : z ≠ fo := fun q => by rw [q, e7] at hz; cases hz
      refine ⟨_, rfl, _, rfl, fo, _, rfl, DPut.k (k := Sum.inr tag) ez (by rw [sizeLine_eq, pN7.length]; omega), ?_⟩
      have pN8 : Paired (NkV (upd H7 z (.tup (m6.map V.str)))) (putK kvs (Sum.inr tag : Key) (.ref z)) (putN N tag (true, m6)) := nts_put (paired_imp (fun _ _ r => NkV.same r sz) pN7) ⟨z, rfl, upd_same⟩
      have jz := hj7.keep sz
      have kxz := kx7.trans (KX.of sz)
      generalize upd H7 z (.tup (m6.map V.str)) = H8 at ez pN8 jz kxz ⊢
      exact ⟨_, _, _, _, _, _, _, _, _, _, rfl, upd_same, paired_imp (fun _ _ r => ⟨r.1, r.2.at ez⟩) pN8, (hN.put lm6), (jz.upd foj).mono (by omega), kxz.put (by simp)⟩
end
end Pa
set_option maxHeartbeats 2000000
namespace Pa
open PySem PySem.Spec PyProof.Rows L2 Ty Se Sv
/-! ### _law_marks_right -/
theorem stepN_eq (x : Str) : stepN x = (if decide (V.str x = V.str "in") = true then 1 else 0) - (if decide (V.str x = V.str "out") = true then 1 else 0) := by
  unfold stepN
  rw [List.lookup_cons]
  by_cases e : x = "in"
  · rw [e, beq_self_eq_true]; rfl
  · rw [beq_eq_false_iff_ne.mpr e, List.lookup_cons, decide_eq_false (fun q => e (V.str.inj q))]
    by_cases e2 : x = "out"
    · rw [e2, beq_self_eq_true]; rfl
    · rw [beq_eq_false_iff_ne.mpr e2, decide_eq_false (fun q => e2 (V.str.inj q))]; rfl
theorem steps_cons (x : Str) (d : Int) (l : List Str) : ((x :: l).all (fun m => decide (m ∈ marksL)) && stepsP d (x :: l)) = if x ∉ marksL then false else if d + stepN x < 0 then false else (l.all (fun m => decide (m ∈ marksL)) && stepsP (d + stepN x) l) := by
  have e3 : stepsP d (x :: l) = if d + stepN x < 0 then false else stepsP (d + stepN x) l := rfl
  rw [e3, List.all_cons]
  by_cases h : x ∈ marksL
  · have hn : ¬ (x ∉ marksL) := fun q => q h
    rw [decide_eq_true h, Bool.true_and, if_neg hn]
    by_cases hc : d + stepN x < 0
    · rw [if_pos hc, if_pos hc, Bool.and_false]
    · rw [if_neg hc, if_neg hc]
  · rw [decide_eq_false h, if_pos h]; rfl
abbrev nMR : List Str := ["rows", "tag", "notes", "deep", "mark"]
theorem scMR : FnScope nMR ["rows", "tag", "notes"] (defScope lMarksR) := ⟨rfl, rfl, rfl, by decide +kernel, rfl, by decide +kernel, by decide +kernel⟩
def spMR : Sp := fun vs H Q _ => ∃ (d : Addr) (tag : Str) (v : V) (wk : List (Key × V)) (rs : Rls) (n : Bool × List Str), vs = [.ref d, .str tag, v] ∧ H d = some (.dK wk) ∧ Paired (SpE H) wk (altsOf rs) ∧ NtV H v n ∧ n.2.length ≤ 1000 ∧ ∀ H', Same H H' → Q (.bl (rightP rs tag n)) H'
section
variable {P : Program} {w : World} {K : PySem.W.Frag} {mg : Str → Option Value} {base : Heap} {f : Addr} {fd : FuncData}
theorem ok_mr (F : Fun K "_law_marks_right" "_law_marks_right" lMarksR f fd) (mi : mg "isinstance" = none) (mt : mg "tuple" = none) (ml : mg "len" = none) (mx : mg "max" = none) (mn : mg "int" = none) :
    FnOk P w K mg base CX0 1 f fd ["rows", "tag", "notes"] spMR := by
  refine F.ok scMR (fun vs H Q E h => ?_) (fun cdv A outer s H vs Q E hr h => ?_)
  · obtain ⟨_, _, _, _, _, _, rfl, _⟩ := h
    rfl
  have hu1 := hu_of hr
  refine ⟨_, pss_cons (ps_if (PW.pt (pw_or (pt_cmp (pc_dnotin hu1 (pv 1) (pv 0))) (pw_or (pt_not (pt_val (pe_callB call_isi rfl mi (by decide +kernel) (pa_cons (pv 2) (pa_cons (pe_bltn rfl mt (by decide +kernel) (show RelV (.ty "tuple") (.type "tuple") from rfl)) pa_nil)))))
      (pw_or1 (pt_cmpR op_ne (pe_callB call_len_seq rfl ml PySem.boot_len (pa_cons (pv 2) pa_nil)) (pe_callB (call_max2 rfl) rfl mx (by decide +kernel) (pa_cons pe_int (pa_cons (pe_op op_sub (pe_callB call_len_seq rfl ml PySem.boot_len (pa_cons (pe_dget hu1 (pv 0) (pv 1) (fun _ _ => rfl)) pa_nil)) pe_int) pa_nil))) (nomark _)))))) (pss_one (ps_ret pe_bl)) pss_nil)
    (pss_cons (ps_set (i := 3) scMR.nd rfl (.inl rfl) pe_int)
    (pss_cons (ps_for PassesOwn.never rfl (pi_tup (pv 2)) (pg_name (i := 4) scMR.nd rfl (Or.inl rfl))
      (pss_cons (ps_if (pt_cmpR (show OpR _ (compareOp .NotIn) (rIn K true) from op_notIn_seq) (pv 4) (pe_lst (pa_cons pe_str (pa_cons pe_str (pa_cons pe_str (pa_cons pe_str (pa_cons pe_str (pa_cons pe_str pa_nil))))))) rfl) (pss_one (ps_ret pe_bl)) pss_nil)
      (pss_cons (ps_set (i := 3) scMR.nd rfl (.inl rfl) (pe_op op_sub (pe_op op_add (pv 3) (pe_callTy call_int1 rfl mn (by decide +kernel) (pa_cons (pe_cmpR op_eq (pv 4) pe_str (nomark _)) pa_nil))) (pe_callTy call_int1 rfl mn (by decide +kernel) (pa_cons (pe_cmpR op_eq (pv 4) pe_str (nomark _)) pa_nil))))
      (pss_one (ps_if (pt_cmpR op_lt (pv 3) pe_int (nomark _)) (pss_one (ps_ret pe_bl)) pss_nil)))))
    (pss_one (ps_ret (pe_cmpR op_eq (pv 3) pe_int (nomark _)))))), ?_⟩
  obtain ⟨d, tag, v, wk, rs, n, rfl, hd, pw, NV, hl, q⟩ := h
  obtain ⟨b, l⟩ := n
  obtain ⟨a, rfl, ha⟩ := NV
  replace hl : l.length ≤ 1000 := hl
  have no : rightP rs tag (b, l) = false → ∀ H', Same H H' → Q (.bl false) H' := fun e H' s => by rw [← e]; exact q H' s
  refine ⟨_, rfl, _, rfl, d, _, rfl, DGet.k (k := Sum.inr tag) hd, _, rfl, ?_⟩
  rw [key_in (spe_keysC pw) tag]
  by_cases ht : tag ∈ labsOf rs
  case neg =>
    rw [decide_eq_false ht]
    refine iteT (iteT (no ?_ H same_refl))
    unfold rightP
    rw [decide_eq_false ht]; rfl
  rw [decide_eq_true ht]
  refine iteF ?_
  cases b with
  | false =>
    refine ⟨_, rfl, .ref a, .ty "tuple", _, _, false, rfl, .ty _, .base (.lst ha), kit_ty (show kitB "list" "tuple" = some false by decide +kernel), false, rfl, no ?_ H same_refl⟩
    unfold rightP
    rw [decide_eq_true ht]; rfl
  | true =>
  refine ⟨_, rfl, .ref a, .ty "tuple", _, _, true, rfl, .ty _, .base (.tup ha), kit_ty (show kitB "tuple" "tuple" = some true by decide +kernel), true, rfl, iteF ?_⟩
  refine ⟨_, rfl, a, _, rfl, .inr (SqT.of ha), ?_⟩
  rcases spelled_at tag pw with ⟨rb, e1, e2⟩ | ⟨e1, e2⟩
  case inr =>
    have := key_in (spe_keysC pw) tag
    rw [e1, decide_eq_true ht] at this
    cases this
  refine ⟨_, rfl, _, rfl, d, _, rfl, by rw [← e1]; exact DGet.k (k := Sum.inr tag) hd, rb, _, rfl, .inr (SqT.of e2), _, _, rfl, rfl, _, _, rfl, ?_⟩
  have es : spelledP rs tag = ((altsOf rs).lookup tag).getD [] := rfl
  rw [← es]
  have emx : (if ((((spelledP rs tag).map V.str).length : Nat) : Int) - 1 > 0 then ((((spelledP rs tag).map V.str).length : Nat) : Int) - 1 else 0) = (((spelledP rs tag).length - 1 : Nat) : Int) := by
    rw [List.length_map]
    split <;> omega
  rw [emx, List.length_map]
  refine ⟨rfl, _, rfl, ?_⟩
  rw [dec_int]
  by_cases hlen : l.length = (spelledP rs tag).length - 1
  case neg =>
    refine ifT (by show (!decide (((l.length : Nat) : Int) = (((spelledP rs tag).length - 1 : Nat) : Int))) = true; rw [decide_eq_false (by omega)]; rfl) (no ?_ H same_refl)
    unfold rightP
    rw [decide_eq_true ht, decide_eq_false hlen]; rfl
  refine ifF (by show (!decide (((l.length : Nat) : Int) = (((spelledP rs tag).length - 1 : Nat) : Int))) = false; rw [decide_eq_true (by omega)]; rfl) ?_
  have fin : rightP rs tag (true, l) = (l.all (fun x => decide (x ∈ marksL)) && stepsP 0 l) := by
    unfold rightP
    rw [decide_eq_true ht, decide_eq_true hlen]; rfl
  rw [fin] at q
  clear no
  refine ⟨_, rfl, a, rfl, ⟨_, SqT.of ha⟩, ?_⟩
  refine for_tup (K := K) (xs := l.map V.str) (fun i σ H' => ∃ (dd : Int) (x4 : Option V), σ = [some (.ref d), some (.str tag), some (.ref a), some (.int dd), x4] ∧ Same H H' ∧ (l.all (fun x => decide (x ∈ marksL)) && stepsP 0 l) = ((l.drop i).all (fun x => decide (x ∈ marksL)) && stepsP dd (l.drop i))) ⟨0, _, rfl, same_refl, rfl⟩ (fun i σ H' _ h => by obtain ⟨_, _, _, s, _⟩ := h; exact SqT.of (s _ _ ha)) (fun i v σ H' hv h => ?turn) (fun σ H' h => ?done)
  case turn =>
    obtain ⟨dd, x4, rfl, s1, h1⟩ := h
    obtain ⟨x, e, rfl⟩ := strs_at hv
    have hi := (List.getElem?_eq_some_iff.mp e).1
    have hdr : l.drop i = x :: l.drop (i + 1) := by
      rw [List.drop_eq_getElem_cons hi]
      congr 1
      exact Option.some.inj ((List.getElem?_eq_getElem hi).symm.trans e)
    rw [hdr, steps_cons] at h1
    refine ⟨_, rfl, (by show 6 ≤ sizeLine; decide), fun p hp => ?_⟩
    have sp := s1.trans (same_new hp (.lst [V.str "near", .str "blank", .str "row", .str "in", .str "out", .str "soft"]))
    have ep : (upd H' p (.lst [V.str "near", .str "blank", .str "row", .str "in", .str "out", .str "soft"])) p = some (.lst (marksL.map V.str)) := upd_same
    generalize upd H' p (.lst [V.str "near", .str "blank", .str "row", .str "in", .str "out", .str "soft"]) = H2 at sp ep ⊢
    refine ⟨p, _, rfl, .inl (SqL.of ep), rfl, strs_flat _, _, rfl, ?_⟩
    dsimp only
    rw [in_strs]
    by_cases hx : x ∈ marksL
    case neg =>
      rw [if_pos hx] at h1
      rw [decide_eq_false hx]
      refine iteT ?_
      rw [h1] at q
      exact q _ sp
    rw [if_neg (fun z => z hx)] at h1
    rw [decide_eq_true hx]
    refine iteF ⟨_, rfl, _, rfl, rfl, .inr ⟨_, rfl, _, _, rfl, rfl, _, rfl, rfl, .inr ⟨_, rfl, _, _, rfl, rfl, ?_⟩⟩⟩
    have en : dd + (if decide (V.str x = V.str "in") = true then (1 : Int) else 0) - (if decide (V.str x = V.str "out") = true then (1 : Int) else 0) = dd + stepN x := by rw [stepN_eq]; omega
    refine ⟨_, rfl, _, _, rfl, rfl, _, rfl, ?_⟩
    rw [en]
    by_cases hc : dd + stepN x < 0
    · rw [if_pos hc] at h1
      refine ifT (decide_eq_true hc) ?_
      rw [h1] at q
      exact q _ sp
    · rw [if_neg hc] at h1
      exact ifF (decide_eq_false hc) ⟨_, _, rfl, sp, by rw [en]; exact h1⟩
  obtain ⟨dd, x4, rfl, s1, h1⟩ := h
  rw [List.length_map, List.drop_length] at h1
  refine ⟨_, rfl, rfl, ?_⟩
  have e3 : (([] : List Str).all (fun x => decide (x ∈ marksL)) && stepsP dd []) = decide (dd = 0) := rfl
  rw [dec_int, ← e3, ← h1]
  exact q _ s1
end
end Pa
/-! own forms: t != (), slices and sums of tuples by what the result holds -/
namespace Se
open PySem PySem.Spec PyProof.Rows L2 Ty
section
variable {X : Cx}
def rNeT0 (K : PySem.W.Frag) : R2 := fun x y H Q => ∃ a b xs, x = .ref a ∧ y = .ref b ∧ SqT K H a xs ∧ SqT K H b [] ∧ Q (.bl (!decide (xs = []))) H
theorem op_neT0 (hu : X.A.units < cLine) : OpR X (compareOp .NotEq) (rNeT0 X.K) := by
  intro pins s σ H x y v u Q I rx ry h
  obtain ⟨a, b, xs, rfl, rfl, ha, hb, q⟩ := h
  cases rx
  cases ry
  obtain ⟨its, r1, p1, _⟩ := I.tuple ha
  obtain ⟨its2, r2, p2, _⟩ := I.tuple hb
  cases r2
  have hlen := r1.length
  refine (SeqAt.RcNeAt.tuples (e := fun _ => true) p1 p2 hu (fun k h1 h2 => absurd h2 (by simp))) X.prog X.w _ _ ⟨.bl _, H, I, rfl, ?_⟩
  have e : ((List.range (min its.toArray.size ([] : List Value).toArray.size)).all (fun _ => true) && its.toArray.size == ([] : List Value).toArray.size) = decide (xs = []) := by
    cases xs with
    | nil =>
      cases its with
      | nil => rfl
      | cons => cases hlen
    | cons =>
      cases its with
      | nil => cases hlen
      | cons => simp
  rw [e]
  exact q
theorem same_rf {H : Hp} : Same H H := fun _ _ h => h
theorem cutQ_whole {xs : List V} {lo hi : Option Int} (h : HT.sIx xs.length 0 lo = 0 ∧ HT.sIx xs.length xs.length hi = xs.length) : cutV xs lo hi = xs := by
  unfold cutV
  rw [h.1, h.2]
  exact List.take_length
def rSlQ : V → Option Int → Option Int → Hp → VK → Prop := fun x lo hi H Q => ∃ a xs, x = .ref a ∧ H a = some (.tup xs) ∧ ∀ p H', Same H H' → H' p = some (.tup (cutV xs lo hi)) → Q (.ref p) H'
theorem sl_q : SlR X rSlQ := by
  intro pins s σ H x v vl vu lo hi sl Q I rx hs pl pu h
  obtain ⟨a, xs, rfl, ha, g⟩ := h
  exact sl_tupA pins s σ H _ v vl vu lo hi sl Q I rx hs pl pu ⟨a, xs, rfl, SqT.of ha, fun w => g a H same_rf (by rw [cutQ_whole w]; exact ha), fun _ p hp => g p _ (same_new hp _) upd_same⟩
def rCatQ : R2 := fun x y H Q => ∃ a b xs ys, x = .ref a ∧ y = .ref b ∧ H a = some (.tup xs) ∧ H b = some (.tup ys) ∧ xs.length + ys.length ≤ sizeLine ∧ ∀ p H', Same H H' → H' p = some (.tup (xs ++ ys)) → Q (.ref p) H'
theorem cat_q : OpR X (binaryOp .Add) rCatQ := by
  intro pins s σ H x y v u Q I rx ry h
  obtain ⟨a, b, xs, ys, rfl, rfl, ha, hb, hz, g⟩ := h
  exact op_catA pins s σ H _ _ v u Q I rx ry ⟨a, b, xs, ys, rfl, rfl, SqT.of ha, SqT.of hb, hz, fun e => g b H same_rf (by rw [e]; exact hb), fun _ e => g a H same_rf (by rw [e, List.append_nil]; exact ha), fun _ _ p hp => g p _ (same_new hp _) upd_same⟩
end
end Se
set_option maxHeartbeats 4000000
/-! t[::-1] of a tuple -/
namespace Se
open PySem PySem.Spec PyProof.Rows L2 Ty
section
variable {X : Cx}
/-- a tuple turned round -/
def tRevT (te : TE) : TE := fun σ H Q => te σ H fun x H1 => ∃ a xs, x = .ref a ∧ H1 a = some (.tup xs) ∧ ∀ p, H1 p = none → Q (.ref p) (upd H1 p (.tup xs.reverse))
theorem pe_revT {e : Expr} {te : TE} {k : Nat} {p1 p2 p3 pos : Pos} (he : PE X e te) : PE X (.Subscript e (.Slice none none (some (.UnaryOp .USub (.Constant (.int 1) k p1) p2)) p3) pos) (tRevT te) := by
  refine ⟨fun pins s σ H Q I h => ?_⟩
  refine Subscript_ (thn (he.run pins s σ H _ I h) fun v s1 hv => ?_)
  obtain ⟨x, H1, I1, r1, a, xs, rfl, ha, q⟩ := hv
  cases r1
  refine wpAny_Slice (thn (po_none.run pins s1 σ H1 (fun o H2 => o = none ∧ H2 = H1) I1 ⟨rfl, rfl⟩) fun vl s2 hv => ?_)
  obtain ⟨o1, H2, I2, pl, rfl, rfl⟩ := hv
  refine thn (po_none.run pins s2 σ H2 (fun o H3 => o = none ∧ H3 = H2) I2 ⟨rfl, rfl⟩) fun vu s3 hv => ?_
  obtain ⟨o2, H3, I3, pu, rfl, rfl⟩ := hv
  refine part_back I3 fun vs u s4 ev I4 => ?_
  subst ev
  cases pl
  cases pu
  have I5 : Inv X pins σ H3 { s4 with heap := s4.heap.push { cls := .type "slice", data := .fields #[.none, .none, .int (-1) u] } } := I4.kept (t' := s4.toks) fun b ob q => Heap.get?_push_of_some _ q
  obtain ⟨its, r, ht, hz⟩ := I5.tuple (SqT.of ha)
  have hlen := r.length
  refine tail_any (ops := [.ref a, .ref s4.heap.objs.size]) ht.typeIs (PyProof.Rows.slot_tuple_getitem.lookup) ?_ (by with_unfolding_all rfl)
  refine getItem_tuple_back (u := u) ht ⟨_, Heap.get?_push_size _ rfl, rfl, rfl⟩ ?_ (by rw [← hlen]; exact hz)
  refine ⟨.ref _, _, I5.laid (t' := s4.toks) (o := .tup xs.reverse) (fun b ob q => Heap.get?_push_of_some _ q) (Nat.le_refl _) ?_, rfl, q _ (I5.hok.fresh (Nat.le_refl _))⟩
  exact ⟨by rw [List.length_reverse]; exact hz, _, r.reverse, _, Heap.get?_push_size _ rfl, rfl, 0, rfl⟩
end
end Se
set_option maxHeartbeats 2000000
namespace Pa
open PySem PySem.Spec PyProof.Rows L2 Ty Se Sv
/-! ### _law_spoilt -/
theorem cut_strs (l : List Str) (lo hi : Option Int) : ∃ m : List Str, cutV (l.map V.str) lo hi = m.map V.str ∧ m.length ≤ l.length := by
  unfold cutV
  refine ⟨(l.drop (HT.sIx (l.map V.str).length 0 lo)).take (HT.sIx (l.map V.str).length (l.map V.str).length hi - HT.sIx (l.map V.str).length 0 lo), ?_, ?_⟩
  · rw [List.map_take, List.map_drop]
  · rw [List.length_take, List.length_drop]; omega
theorem scSp : FnScope ["jar", "notes", "at", "word", "some"] ["jar", "notes"] (defScope lSpoilt) := ⟨rfl, rfl, rfl, by decide +kernel, rfl, by decide +kernel, by decide +kernel⟩
def tSpE : TE := fun σ H Q => ∃ (x0 x4 : Option V) (a : Addr) (l : List Str) (i : Int) (w : Str), σ = [x0, some (.ref a), some (.int i), some (.str w), x4] ∧ H a = some (.tup (l.map V.str)) ∧ l.length ≤ 500 ∧ ∀ v n H', Same H H' → NtV H' v n → n.2.length ≤ 2 * l.length + 2 → Q v H'
/-- one of some -/
def NtB (B : Nat) (H : Hp) (v : V) : Prop := ∃ n, NtV H v n ∧ n.2.length ≤ B
theorem NtB.same {B : Nat} {H H' : Hp} {v : V} (h : NtB B H v) (s : Same H H') : NtB B H' v := let ⟨n, h1, h2⟩ := h; ⟨n, h1.same s, h2⟩
theorem NtV.keep {j : Addr} {C : Nat} {H H' : Hp} {v : V} {n : Bool × List Str} (h : NtV H v n) (jr : Jar j H C) (k : Keep j H H') : NtV H' v n := by
  obtain ⟨a, b, c, e, _⟩ := jr
  exact h.tk j ⟨a, b, c, e⟩ k
theorem NtV.ref {H : Hp} {v : V} {n : Bool × List Str} (h : NtV H v n) : ∃ a, v = .ref a := let ⟨a, e, _⟩ := h; ⟨a, e⟩
def spSpoilt : Sp := fun vs H Q _ => ∃ (j a : Addr) (C : Nat) (l : List Str), vs = [.ref j, .ref a] ∧ Jar j H C ∧ C ≤ 999990000 ∧ H a = some (.tup (l.map V.str)) ∧ l.length ≤ 500 ∧
  ∀ v n H', NtV H' v n → n.2.length ≤ 2 * l.length + 2 → Jar j H' (C + 3) → Keep j H H' → Q v H'
section
variable {P : Program} {w : World} {K : PySem.W.Frag} {mg : Str → Option Value} {base : Heap} {f g : Addr} {fd gd : FuncData}
theorem ok_spoilt (F : Fun K "_law_spoilt" "_law_spoilt" lSpoilt f fd)
    (G : FnOk P w K mg base CX0 1 g gd ["jar", "many"] spDrawn) (bG : L2.Binds K gd ["jar", "many"] []) (kG : PySem.W.keepIn K (.ref g) = true) (mG : mg "_law_dip" = some (.ref g)) (ml : mg "len" = none) (mll : mg "list" = none) :
    FnOk P w K mg base CX0 2 f fd ["jar", "notes"] spSpoilt := by
  refine F.ok scSp (fun vs H Q E h => ?_) (fun cdv A outer s0 H vs Q E hr h => ?_)
  · obtain ⟨_, _, _, _, rfl, _⟩ := h
    rfl
  refine ⟨_, pss_cons (ps_set (i := 2) scSp.nd rfl (.inl rfl) (pe_call G hr rfl mG kG bG .nil pass0 (pa_cons (pv 0) (pa_cons (pe_op op_add (pe_callB call_len_seq rfl ml PySem.boot_len (pa_cons (pv 1) pa_nil)) pe_int) pa_nil))))
    (pss_cons (ps_set (i := 3) scSp.nd rfl (.inl rfl) (pe_ix ix_list (pe_lst (pa_cons pe_str (pa_cons pe_str (pa_cons pe_str (pa_cons pe_str (pa_cons pe_str (pa_cons pe_str (pa_cons pe_str (pa_cons pe_str pa_nil))))))))) (pe_call G hr rfl mG kG bG .nil pass0 (pa_cons (pv 0) (pa_cons pe_int pa_nil))) (fun _ _ => rfl)))
    (pss_cons (ps_set (i := 4) scSp.nd rfl (.inl rfl) (pe_lst (pa_cons (show PE _ _ (tSpE) from pe_imp (pe_op cat_q (pe_op cat_q (pe_slice sl_q (pv 1) po_none (po_some (pv 2))) (pe_tup (pa_cons (pv 3) pa_nil))) (pe_slice sl_q (pv 1) (po_some (pe_op op_add (pv 2) pe_int)) po_none)) (fun σ H1 Q1 h => by
          obtain ⟨x0, x4, a, l, i, w, rfl, ha, hl, h⟩ := h
          refine ⟨_, rfl, _, rfl, _, rfl, a, _, rfl, ha, fun p1 H2 s2 e2 => ⟨_, rfl, (by show 1 ≤ sizeLine; decide), fun t ht => ?_⟩⟩
          have st := same_new ht (.tup [V.str w])
          have et : (upd H2 t (.tup [V.str w])) t = some (.tup [V.str w]) := upd_same
          generalize upd H2 t (.tup [V.str w]) = H3 at st et ⊢
          obtain ⟨m1, q1, l1⟩ := cut_strs l none (some i)
          rw [q1] at e2
          refine ⟨p1, t, _, _, rfl, rfl, st _ _ e2, et, by rw [List.length_map, sizeLine_eq]; show _ + 1 ≤ _; omega, fun p2 H4 s4 e4 => ?_⟩
          have s14 := s2.trans (st.trans s4)
          refine ⟨_, rfl, _, rfl, _, _, rfl, rfl, _, rfl, a, _, rfl, s14 _ _ ha, fun p3 H5 s5 e5 => ?_⟩
          obtain ⟨m2, q2, l2⟩ := cut_strs l (some (i + 1)) none
          rw [q2] at e5
          refine ⟨p2, p3, _, _, rfl, rfl, s5 _ _ e4, e5, by rw [List.length_append, List.length_map, List.length_map, sizeLine_eq]; show _ + 1 + _ ≤ _; omega, fun p6 H6 s6 e6 => ?_⟩
          refine h (.ref p6) (true, m1 ++ [w] ++ m2) H6 (s14.trans (s5.trans s6)) ⟨p6, rfl, ?_⟩ ?_
          · rw [if_pos rfl, e6, List.map_append, List.map_append]; rfl
          · show (m1 ++ [w] ++ m2).length ≤ _
            rw [List.length_append, List.length_append]; show _ + 1 + _ ≤ _; omega))
      (pa_cons (show PE _ _ (tSpE) from pe_imp (pe_op cat_q (pe_op cat_q (pe_slice sl_q (pv 1) po_none (po_some (pv 2))) (pe_tup (pa_cons (pv 3) pa_nil))) (pe_slice sl_q (pv 1) (po_some (pv 2)) po_none)) (fun σ H1 Q1 h => by
          obtain ⟨x0, x4, a, l, i, w, rfl, ha, hl, h⟩ := h
          refine ⟨_, rfl, _, rfl, _, rfl, a, _, rfl, ha, fun p1 H2 s2 e2 => ⟨_, rfl, (by show 1 ≤ sizeLine; decide), fun t ht => ?_⟩⟩
          have st := same_new ht (.tup [V.str w])
          have et : (upd H2 t (.tup [V.str w])) t = some (.tup [V.str w]) := upd_same
          generalize upd H2 t (.tup [V.str w]) = H3 at st et ⊢
          obtain ⟨m1, q1, l1⟩ := cut_strs l none (some i)
          rw [q1] at e2
          refine ⟨p1, t, _, _, rfl, rfl, st _ _ e2, et, by rw [List.length_map, sizeLine_eq]; show _ + 1 ≤ _; omega, fun p2 H4 s4 e4 => ?_⟩
          have s14 := s2.trans (st.trans s4)
          refine ⟨_, rfl, _, rfl, _, rfl, a, _, rfl, s14 _ _ ha, fun p3 H5 s5 e5 => ?_⟩
          obtain ⟨m2, q2, l2⟩ := cut_strs l (some i) none
          rw [q2] at e5
          refine ⟨p2, p3, _, _, rfl, rfl, s5 _ _ e4, e5, by rw [List.length_append, List.length_map, List.length_map, sizeLine_eq]; show _ + 1 + _ ≤ _; omega, fun p6 H6 s6 e6 => ?_⟩
          refine h (.ref p6) (true, m1 ++ [w] ++ m2) H6 (s14.trans (s5.trans s6)) ⟨p6, rfl, ?_⟩ ?_
          · rw [if_pos rfl, e6, List.map_append, List.map_append]; rfl
          · show (m1 ++ [w] ++ m2).length ≤ _
            rw [List.length_append, List.length_append]; show _ + 1 + _ ≤ _; omega))
      (pa_cons (show PE _ _ (tSpE) from pe_imp (pe_slice sl_q (pv 1) (po_some pe_int) po_none) (fun σ H1 Q1 h => by
          obtain ⟨x0, x4, a, l, i, w, rfl, ha, hl, h⟩ := h
          refine ⟨_, rfl, _, rfl, a, _, rfl, ha, fun p1 H2 s2 e2 => ?_⟩
          obtain ⟨m1, q1, l1⟩ := cut_strs l (some 1) none
          rw [q1] at e2
          exact h (.ref p1) (true, m1) H2 s2 ⟨p1, rfl, e2⟩ (by show m1.length ≤ _; omega)))
      (pa_cons (show PE _ _ (tSpE) from pe_imp (pe_callTy call_list_of rfl mll (by decide +kernel) (pa_cons (pv 1) pa_nil)) (fun σ H1 Q1 h => by
          obtain ⟨x0, x4, a, l, i, w, rfl, ha, hl, h⟩ := h
          exact ⟨_, rfl, a, _, rfl, .inr (SqT.of ha), fun p hp => h (.ref p) (false, l) _ (same_new hp _) ⟨p, rfl, upd_same⟩ (by show l.length ≤ _; omega)⟩))
      pa_nil))))))
    (pss_cons (ps_set (i := 4) scSp.nd rfl (.inl rfl) (pe_op op_cat (pv 4) (pe_lst (pa_cons (show PE _ _ (tSpE) from pe_imp (pe_revT (pv 1)) (fun σ H1 Q1 h => by
          obtain ⟨x0, x4, a, l, i, w, rfl, ha, hl, h⟩ := h
          refine ⟨_, rfl, a, _, rfl, ha, fun p hp => h (.ref p) (true, l.reverse) _ (same_new hp _) ⟨p, rfl, ?_⟩ (by show l.reverse.length ≤ _; rw [List.length_reverse]; omega)⟩
          rw [if_pos rfl, List.map_reverse]
          exact upd_same))
      (pa_cons (show PE _ _ (tSpE) from pe_imp (pe_op cat_q (pv 1) (pe_tup (pa_cons pe_str (pa_cons pe_str pa_nil)))) (fun σ H1 Q1 h => by
          obtain ⟨x0, x4, a, l, i, w, rfl, ha, hl, h⟩ := h
          refine ⟨_, rfl, (by show 2 ≤ sizeLine; decide), fun t ht => ?_⟩
          have st := same_new ht (.tup [V.str "in", .str "out"])
          refine ⟨a, t, _, _, rfl, rfl, st _ _ ha, upd_same, by rw [List.length_map, sizeLine_eq]; show _ + 2 ≤ _; omega, fun p1 H2 s2 e2 => ?_⟩
          refine h (.ref p1) (true, l ++ (["in", "out"] : List Str)) H2 (st.trans s2) ⟨p1, rfl, ?_⟩ (by show (l ++ (["in", "out"] : List Str)).length ≤ _; rw [List.length_append]; show _ + 2 ≤ _; omega)
          rw [if_pos rfl, e2, List.map_append]; rfl))
      (pa_cons (show PE _ _ (tSpE) from pe_imp (pe_slice sl_q (pe_tup (pa_cons pe_str (pa_cons pe_str pa_nil))) po_none (po_some (pe_callB call_len_seq rfl ml PySem.boot_len (pa_cons (pv 1) pa_nil)))) (fun σ H1 Q1 h => by
          obtain ⟨x0, x4, a, l, i, w, rfl, ha, hl, h⟩ := h
          refine ⟨(by show 2 ≤ sizeLine; decide), fun t ht => ?_⟩
          have st := same_new ht (.tup [V.str "out", .str "in"])
          refine ⟨_, rfl, a, _, rfl, .inr (SqT.of (st _ _ ha)), _, rfl, t, _, rfl, upd_same, fun p1 H2 s2 e2 => ?_⟩
          obtain ⟨m1, q1, l1⟩ := cut_strs (["out", "in"] : List Str) none (some (((l.map V.str).length : Nat) : Int))
          have e3 : H2 p1 = some (.tup (m1.map V.str)) := e2.trans (congrArg (fun x => some (HO.tup x)) q1)
          exact h (.ref p1) (true, m1) H2 (st.trans s2) ⟨p1, rfl, e3⟩ (by show m1.length ≤ _; have : (["out", "in"] : List Str).length = 2 := rfl; omega)))
      pa_nil))))))
    (pss_one (ps_ret (pe_ix ix_list (pv 4) (pe_call G hr rfl mG kG bG .nil pass0 (pa_cons (pv 0) (pa_cons pe_int pa_nil))) (fun _ _ => rfl))))))), ?_⟩
  obtain ⟨j, a, C, l, rfl, hj, hC, ha, hl, q⟩ := h
  have ne : ∀ {H : Hp} {C : Nat} {b : Addr} {xs : List V}, Jar j H C → H b = some (.tup xs) → b ≠ j := fun {H C b xs} jr e z => by obtain ⟨_, _, _, e2, _⟩ := jr; rw [z, e2] at e; cases e
  refine ⟨_, rfl, _, rfl, a, _, rfl, .inr (SqT.of ha), _, _, rfl, rfl, j, C, _, rfl, hj, by omega, by omega, by rw [List.length_map]; omega, fun i H1 i0 i1 hj1 kp1 => ?_⟩
  have ha1 := kp1 _ _ (ne hj ha) ha
  refine ⟨(by show 8 ≤ sizeLine; decide), fun p hp => ?_⟩
  have sp := same_new hp (.lst [V.str "in", .str "out", .str "near", .str "rows", .str "", .str "soft", .str "In", .str "blank"])
  have ep : (upd H1 p (.lst [V.str "in", .str "out", .str "near", .str "rows", .str "", .str "soft", .str "In", .str "blank"])) p = some (.lst ((["in", "out", "near", "rows", "", "soft", "In", "blank"] : List Str).map V.str)) := upd_same
  have pj := hj1.ne hp
  have hj2 := hj1.keep sp
  have ha2 := sp _ _ ha1
  have k2 := kp1.trans (Keep.of_same sp)
  generalize upd H1 p (.lst [V.str "in", .str "out", .str "near", .str "rows", .str "", .str "soft", .str "In", .str "blank"]) = H2 at ep hj2 ha2 k2 ⊢
  refine ⟨_, rfl, j, _, 8, rfl, hj2, by omega, by decide, by decide, fun r H3 r0 r1 hj3 kp3 => ?_⟩
  obtain ⟨v3, hv3, _⟩ := at_in (l := (["in", "out", "near", "rows", "", "soft", "In", "blank"] : List Str).map V.str) r0 r1
  obtain ⟨w3, _, rfl⟩ := str_at hv3
  have ha3 := kp3 _ _ (ne hj2 ha2) ha2
  have k3 := k2.trans kp3
  refine ⟨p, _, _, _, rfl, rfl, SqL.of (kp3 _ _ pj ep), hv3, ?_⟩
  refine ⟨_, _, a, l, i, w3, rfl, ha3, hl, fun v4 n4 H4 s4 r4 b4 => ?_⟩
  have ha4 := s4 _ _ ha3
  refine ⟨_, _, a, l, i, w3, rfl, ha4, hl, fun v5 n5 H5 s5 r5 b5 => ?_⟩
  have ha5 := s5 _ _ ha4
  refine ⟨_, _, a, l, i, w3, rfl, ha5, hl, fun v6 n6 H6 s6 r6 b6 => ?_⟩
  have ha6 := s6 _ _ ha5
  refine ⟨_, _, a, l, i, w3, rfl, ha6, hl, fun v7 n7 H7 s7 r7 b7 => ?_⟩
  have ha7 := s7 _ _ ha6
  refine ⟨(by show 4 ≤ sizeLine; decide), fun l8 h8 => ?_⟩
  have s8 := same_new h8 (.lst [v4, v5, v6, v7])
  have e8 : (upd H7 l8 (.lst [v4, v5, v6, v7])) l8 = some (.lst [v4, v5, v6, v7]) := upd_same
  have ha8 := s8 _ _ ha7
  have s48 := s5.trans (s6.trans (s7.trans s8))
  have all8 : ∀ v, v ∈ [v4, v5, v6, v7] → NtB (2 * l.length + 2) (upd H7 l8 (.lst [v4, v5, v6, v7])) v := fun v hv => by
    simp only [List.mem_cons, List.not_mem_nil, or_false] at hv
    rcases hv with rfl | rfl | rfl | rfl
    · exact ⟨n4, r4.same s48, b4⟩
    · exact ⟨n5, r5.same (s6.trans (s7.trans s8)), b5⟩
    · exact ⟨n6, r6.same (s7.trans s8), b6⟩
    · exact ⟨n7, r7.same s8, b7⟩
  have s38 := s4.trans s48
  generalize upd H7 l8 (.lst [v4, v5, v6, v7]) = H8 at e8 ha8 all8 s38 ⊢
  refine ⟨_, rfl, ?_⟩
  refine ⟨_, _, a, l, i, w3, rfl, ha8, hl, fun v9 n9 H9 s9 r9 b9 => ?_⟩
  have ha9 := s9 _ _ ha8
  refine ⟨_, _, a, l, i, w3, rfl, ha9, hl, fun v10 n10 H10 s10 r10 b10 => ?_⟩
  have ha10 := s10 _ _ ha9
  refine ⟨_, _, a, l, i, w3, rfl, ha10, hl, fun v11 n11 H11 s11 r11 b11 => ?_⟩
  refine ⟨(by show 3 ≤ sizeLine; decide), fun l12 h12 => ?_⟩
  have s12 := same_new h12 (.lst [v9, v10, v11])
  have e12 : (upd H11 l12 (.lst [v9, v10, v11])) l12 = some (.lst [v9, v10, v11]) := upd_same
  have s812 := s9.trans (s10.trans (s11.trans s12))
  have all12 : ∀ v, v ∈ [v9, v10, v11] → NtB (2 * l.length + 2) (upd H11 l12 (.lst [v9, v10, v11])) v := fun v hv => by
    simp only [List.mem_cons, List.not_mem_nil, or_false] at hv
    rcases hv with rfl | rfl | rfl
    · exact ⟨n9, r9.same (s10.trans (s11.trans s12)), b9⟩
    · exact ⟨n10, r10.same (s11.trans s12), b10⟩
    · exact ⟨n11, r11.same s12, b11⟩
  generalize upd H11 l12 (.lst [v9, v10, v11]) = H12 at e12 all12 s812 ⊢
  refine ⟨l8, l12, _, _, rfl, rfl, s812 _ _ e8, e12, (by show 7 ≤ sizeLine; decide), fun l13 h13 => ?_⟩
  have s13 := same_new h13 (.lst ([v4, v5, v6, v7] ++ [v9, v10, v11]))
  have e13 : (upd H12 l13 (.lst ([v4, v5, v6, v7] ++ [v9, v10, v11]))) l13 = some (.lst ([v4, v5, v6, v7] ++ [v9, v10, v11])) := upd_same
  have all13 : ∀ v, v ∈ [v4, v5, v6, v7] ++ [v9, v10, v11] → NtB (2 * l.length + 2) (upd H12 l13 (.lst ([v4, v5, v6, v7] ++ [v9, v10, v11]))) v := fun v hv => by
    rcases List.mem_append.mp hv with hv | hv
    · exact (all8 v hv).same (s812.trans s13)
    · exact (all12 v hv).same s13
  have sA := s38.trans (s812.trans s13)
  have hj13 := hj3.keep sA
  have l13j : l13 ≠ j := (hj3.keep (s38.trans s812)).ne h13
  generalize upd H12 l13 (.lst ([v4, v5, v6, v7] ++ [v9, v10, v11])) = H13 at e13 all13 sA hj13 ⊢
  refine ⟨_, rfl, _, rfl, j, _, 7, rfl, hj13, by omega, by decide, by decide, fun z H14 z0 z1 hj14 kp14 => ?_⟩
  obtain ⟨v14, hv14, hz14⟩ := at_in (l := [v4, v5, v6, v7] ++ [v9, v10, v11]) z0 z1
  obtain ⟨n, hn, hb⟩ := all13 v14 (List.mem_of_getElem? hz14)
  refine ⟨l13, _, _, _, rfl, rfl, SqL.of (kp14 _ _ l13j e13), hv14, q v14 n H14 (hn.keep hj13 kp14) hb (hj14.mono (by omega)) (k3.trans ((Keep.of_same sA).trans kp14))⟩
end
end Pa
set_option maxHeartbeats 4000000
/-! try: .. except D as e: caught = e, and what stands behind it: the caught error is still known; own text -/
namespace Sv
open PySem PySem.Spec PyProof.Rows L2
section
variable {X : Cx} {pins : List (Addr × Obj)} {σ : L2.St} {H : Hp} {s : Shared}
theorem unkept {q : Addr × Obj} {pn' : List (Addr × Obj)} {xe : Value → Shared → Prop} (I : Inv (X.tr (q :: (X.pn ++ pins)) xe) pn' σ H s) (ok : X.Ok) : Inv X pins σ H s :=
  ⟨ok, I.os, I.bare, I.base, I.loc, I.cell, I.free, I.freeC, fun p hp => I.pin p (List.mem_append_left _ (List.mem_cons_of_mem _ hp)), I.hok, I.len⟩
theorem suite_kept {a : Addr} {q : Addr × Obj} {pn' : List (Addr × Obj)} {xe : Value → Shared → Prop} (I : Inv (X.suite a (q :: (X.pn ++ pins))) pn' σ H s) (ok : X.Ok) : Inv (X.tr (q :: (X.pn ++ pins)) xe) [] σ H s :=
  ⟨ok.toTry _ _, I.os, I.bare, I.base, I.loc, I.cell, I.free, I.freeC, fun p hp => I.pin p (by rw [List.append_nil] at hp; exact List.mem_append_left _ hp), I.hok, I.len⟩
/-- what the clause 'except x as n' wishes of an exception of the body, when what stands behind knows it -/
def wKp (K : PySem.W.Frag) (c : Value) (i : Nat) (ts tk : Addr → Value → Option Addr → TS) (Wout : WX) (D : Ends) : WX := fun cls d σ H =>
  ∃ b, PySem.W.exmOne K cls c = some b ∧ (b = true → ∀ a, H a = none → ts a cls d { nx := fun σ' H' => tk a cls d D (σ'.set i none) H', rt := D.rt, bk := fun σ' H' => D.bk (σ'.set i none) H', ct := fun σ' H' => D.ct (σ'.set i none) H' } (σ.set i (some (.ref a))) H) ∧
    (b = false → Wout cls d σ H)
end
section
variable {X : Cx} {x n : Str} {c : Value} {i : Nat} {body suite rest : List Stmt} {b₀ : Stmt} {np pos pos' : Pos} {tb : WX → TS} {ts tk' : Addr → Value → Option Addr → TS} {tr : TS} {Wout : WX}
theorem pss_try_kept (hs : X.stack = X.env :: X.outer) (hf : X.env.frame = some X.env.locals) (hN : X.N.Nodup) (hi : X.N[i]? = some n) (hln : X.env.kindOf n = some .local) (hc : Names X x c) (tk : Takes X Wout)
    (hb : ∀ (W : WX) (pn : List (Addr × Obj)) (xe : Value → Shared → Prop), Takes (X.tr pn xe) W → PassesOwn (model X.prog X.w) X.A X.env xe → PSs (X.tr pn xe) body (tb W))
    (hsu : ∀ (a : Addr) (oe : Obj) (cls : Value) (d : Option Addr) (pn : List (Addr × Obj)), Zc cls d oe → (∃ vs, oe.data = .fields vs) → PSs (X.suite a ((a, oe) :: pn)) (b₀ :: suite) (ts a cls d))
    (hr : PSs X rest tr)
    (hk : ∀ (a : Addr) (oe : Obj) (cls : Value) (d : Option Addr) (pn : List (Addr × Obj)), Zc cls d oe → (∃ vs, oe.data = .fields vs) → PSs (X.tr ((a, oe) :: pn) X.xe) rest (tk' a cls d)) :
    PSs X (.Try body [.ExceptHandler (some (.Name x np)) (some n) (b₀ :: suite) pos'] [] [] pos :: rest) (fun D σ H => tb (wKp X.K c i ts tk' Wout D) { D with nx := tr D } σ H) := by
  refine ⟨fun pins s σ H D I h => ?_⟩
  have ok := I.ok
  have hfr : X.A.frames = some (X.env :: X.outer) := by rw [ok.frames, hs]
  have hloc : Loc X.env.scope n := .inl hln
  let Qm : Flow → Shared → Prop := fun f s1 => match f with
    | .next => (∃ σ' H', Inv X pins σ' H' s1 ∧ tr D σ' H') ∨ ∃ a oe cls d σ' H', Zc cls d oe ∧ (∃ vs, oe.data = .fields vs) ∧ Inv (X.tr ((a, oe) :: (X.pn ++ pins)) X.xe) [] σ' H' s1 ∧ tk' a cls d D σ' H'
    | f => SP X pins D f s1
  refine wpAny_execs_cons (wpAny_mono (Q := Qm) ?_ (fun f s1 q => ?_) fun _ _ z => z)
  case refine_2 =>
    cases f with
    | next =>
      rcases q with ⟨σ', H', I', q⟩ | ⟨a, oe, cls, d, σ', H', hz, hd, I', q⟩
      · exact hr.run pins s1 σ' H' D I' q
      · refine wpAny_mono ((hk a oe cls d (X.pn ++ pins) hz hd).run [] s1 σ' H' D I' q) (fun f s2 hsp => ?_) fun _ _ z => z
        cases f with
        | next =>
          obtain ⟨σ6, H6, S6, q6⟩ := hsp
          exact ⟨_, _, unkept S6 ok, q6⟩
        | brk =>
          obtain ⟨σ6, H6, S6, q6⟩ := hsp
          exact ⟨_, _, unkept S6 ok, q6⟩
        | cont =>
          obtain ⟨σ6, H6, S6, q6⟩ := hsp
          exact ⟨_, _, unkept S6 ok, q6⟩
        | ret u =>
          obtain ⟨v6, σ6, H6, S6, r6, q6⟩ := hsp
          exact ⟨_, _, _, unkept S6 ok, r6, q6⟩
    | ret v => exact q
    | brk => exact q
    | cont => exact q
  refine wpAny_Try_except ?_
  refine wpAny_mono ((hb (wKp X.K c i ts tk' Wout D) (X.pn ++ pins) (fun e s₁ => wpAny (model X.prog X.w) X.A (noteFrame e X.env) (fun _ s₂ => wpAny (model X.prog X.w) X.A (setFlight e none) (fun _ s₃ =>
    wpAny (model X.prog X.w) X.A (handleBy e X.env [.ExceptHandler (some (.Name x np)) (some n) (b₀ :: suite) pos']) Qm X.xe s₃) X.xe s₂) X.xe s₁) (fun u s' xx => ?_) PassesOwn.looking).run [] s σ H { D with nx := tr D } (I.toTry _) h) (fun f s1 hsp => ?_) (fun e s1 he => he)
  · -- the catch
    obtain ⟨a, B, sI, pins', σ', H', cls, d, rfl, J', nb, up, sky, na, os, ag, b, hb1, hyes, hno⟩ := xx
    have J : Inv X pins σ' H' sI := J'.ofTry ok
    have sky' : Sky B (X.env :: X.outer) a (Zc cls d) X.env.locals s'.heap := by rw [← hs]; exact sky
    show wpAny (model X.prog X.w) X.A (noteFrame (.ref a) X.env) _ _ _
    refine Sky.land Zc.steady hfr hf sky' fun h3 fl3 up3 => ?_
    have J3 : Inv X pins σ' H' { s' with heap := h3 } := J.landed nb fl3.1 (up.trans up3) os ag
    obtain ⟨oe3, vs3, he3, hz3, hd3⟩ := fl3.there
    have notFr : ∀ {h : Heap} {o : Obj} {vs : Array Value}, h.FunFrames B (X.env :: X.outer) → h.get? a = some o → o.data = .fields vs → a ∉ frs (X.env :: X.outer) := fun {h o vs} ff e dd hm => by
      obtain ⟨_, o', e', hnf⟩ := ff.mem hm
      rw [e] at e'; cases e'
      exact hnf _ dd
    have nfr := notFr fl3.2.2.1 he3 hd3
    have nL : a ≠ X.env.locals := fun z => nfr (List.mem_filterMap.mpr ⟨X.env, List.mem_cons_self, by rw [hf, z]⟩)
    have nF : a ∉ X.fs := fun hm => by
      obtain ⟨e, he, q⟩ := List.mem_filterMap.mp hm
      exact nfr (List.mem_filterMap.mpr ⟨e, List.mem_cons_of_mem _ he, q⟩)
    have S3 := J3.suite he3 hd3 na nL nF
    refine wpAny_handleBy_cons (codeAny_handlers_test ?_) (by intro q; cases q)
    have LT : PySem.W.Looks (model X.prog X.w) h3 (typeOf (.ref a)) cls := fun A Q E s k q => wpAny_typeOf_ref (k _ _ he3) (by rw [hz3.1]; exact q)
    have LM := PySem.W.exm_one (M := model X.prog X.w) (J3.kIn) LT hb1
    have test : ∀ {Q : Value → Shared → Prop} {E : Value → Shared → Prop}, Q c { s' with heap := h3 } → wpAny (model X.prog X.w) (X.A.mark (some (.ref a))) (eval (.Name x np) X.env) Q E { s' with heap := h3 } := fun {Q E} q => by
      obtain ⟨hg, hdbg, hm | ⟨hm, hv, hnn⟩⟩ := hc
      · exact ld_glob (X := X.suite a ((a, oe3) :: (X.pn ++ pins))) S3 hg hm q hdbg
      · exact ld_blt (X := X.suite a ((a, oe3) :: (X.pn ++ pins))) S3 hg hm hv q hnn hdbg
    refine test (LM.here ?_)
    cases b with
    | true =>
      refine codeAny_handlers_suite_as ?_
      refine HandSPX.lands_againZ fl3 fun h4 fl4 up4 => ?_
      have J4 : Inv X pins σ' H' { s' with heap := h4 } := J.landed nb fl4.1 ((up.trans up3).trans up4) os ag
      obtain ⟨oe4, vs4, he4, hz4, hd4⟩ := fl4.there
      have S4 := J4.suite he4 hd4 na nL nF
      refine store_ok (X := X.suite a ((a, oe4) :: (X.pn ++ pins))) (v := .ref a) S4 hN hi hloc rfl (fun s5 S5 => ?_) (.inr hln)
      refine wpAny_mono ((hsu a oe4 cls d (X.pn ++ pins) hz4 ⟨_, hd4⟩).run [] s5 _ H' _ S5 (hyes rfl a na)) (fun f s6 hsp => ?_) (fun _ _ z => False.elim z)
      have end_ : ∀ {σ6 : L2.St} {H6 : Hp} {Q : Shared → Prop}, Inv (X.suite a ((a, oe4) :: (X.pn ++ pins))) [] σ6 H6 s6 → (∀ s7, Inv X pins (σ6.set i none) H6 s7 → Q s7) →
          wpAny (model X.prog X.w) X.A (do bindName X.env n .none; unbindBehindTheSuite X.env n pos') (fun _ s7 => Q s7) X.xe s6 := fun {σ6 H6 Q} S6 hq => gone_ok (S6.unsuite ok) hN hi hln hq
      have endK : ∀ {σ6 : L2.St} {H6 : Hp} {Q : Shared → Prop}, Inv (X.suite a ((a, oe4) :: (X.pn ++ pins))) [] σ6 H6 s6 → (∀ s7, Inv (X.tr ((a, oe4) :: (X.pn ++ pins)) X.xe) [] (σ6.set i none) H6 s7 → Q s7) →
          wpAny (model X.prog X.w) X.A (do bindName X.env n .none; unbindBehindTheSuite X.env n pos') (fun _ s7 => Q s7) X.xe s6 := fun {σ6 H6 Q} S6 hq => gone_ok (X := X.tr ((a, oe4) :: (X.pn ++ pins)) X.xe) (suite_kept S6 ok) hN hi hln hq
      cases f with
      | next =>
        obtain ⟨σ6, H6, S6, q6⟩ := hsp
        exact endK S6 fun s7 J7 => .inr ⟨a, oe4, cls, d, _, _, hz4, ⟨_, hd4⟩, J7, q6⟩
      | brk =>
        obtain ⟨σ6, H6, S6, q6⟩ := hsp
        exact end_ S6 fun s7 J7 => ⟨_, _, J7, q6⟩
      | cont =>
        obtain ⟨σ6, H6, S6, q6⟩ := hsp
        exact end_ S6 fun s7 J7 => ⟨_, _, J7, q6⟩
      | ret u =>
        obtain ⟨v6, σ6, H6, S6, r6, q6⟩ := hsp
        exact end_ S6 fun s7 J7 => ⟨_, _, _, J7, r6, q6⟩
    | false =>
      show wpAny _ X.A (handleBy (.ref a) X.env []) _ _ _
      refine wpAny_handleBy_nil ?_
      obtain ⟨k1, k2, k3, oe, vs, T, oT, ts', he, hz, hd, h1, hr⟩ := id fl3
      unfold PySem.passOn
      refine wpAny_bind (wpAny_field he hd h1 ?_)
      rw [if_neg (show ¬ ((Value.ref T == Value.none) = true) from by simp)]
      have fin : wpAny (model X.prog X.w) X.A (setFlight (.ref a) X.env.frame) (fun _ s4 => wpAny (model X.prog X.w) X.A (throw (.ref a) : Sem Flow) Qm X.xe s4) X.xe { s' with heap := h3 } := by
        rw [hf]
        refine HandSPX.setFlight_upZ fl3 fun h4 hh4 up4 => wpAny_throw (tk _ _ ?_)
        exact ⟨a, B, sI, pins, σ', H', cls, d, rfl, J, nb, (up.trans up3).trans up4, .inr (.inr (by rw [hs]; exact hh4)), na, os, ag, hno rfl⟩
      first
        | exact wpAny_bind (wpAny_pure (wpAny_bind fin))
        | exact wpAny_bind fin
  · cases f with
    | next =>
      obtain ⟨σ', H', J', q⟩ := hsp
      exact wpAny_execs_nil (.inl ⟨σ', H', J'.ofTry ok, q⟩)
    | brk =>
      obtain ⟨σ', H', J', q⟩ := hsp
      exact ⟨σ', H', J'.ofTry ok, q⟩
    | cont =>
      obtain ⟨σ', H', J', q⟩ := hsp
      exact ⟨σ', H', J'.ofTry ok, q⟩
    | ret u =>
      obtain ⟨v, σ', H', J', r, q⟩ := hsp
      exact ⟨v, σ', H', J'.ofTry ok, r, q⟩
end
/-- e.f of a known error -/
theorem pe_xfK {X : Cx} {a C : Addr} {oe : Obj} {cls : Value} {d : Option Addr} {e : Expr} {te : TE} {pos : Pos} {n : Str} (T : XfC X.K C) (hno : PySem.W.findIn X.K (.ref C) n = some none)
    (hz : Zc cls d oe) (hf : ∃ vs, oe.data = .fields vs) (hp : (a, oe) ∈ X.pn) (he : PE X e te) (hb : attributeBase e n X.env (eval e X.env) = eval e X.env := by rfl) :
    PE X (.Attribute e n pos) (tXf a cls d C n te) := by
  refine ⟨fun pins s σ H Q I h => ?_⟩
  refine attr_of hb (thn (he.run pins s σ H _ I h) fun u s1 hh => ?_)
  obtain ⟨x, H1, I1, rx, ex, ec, dd, fs, v, ed, ea, l, q⟩ := hh
  subst ex
  obtain rfl : u = Value.ref a := rx
  subst ec
  subst ed
  obtain ⟨ha, _⟩ := I1.pin (a, oe) (List.mem_append_left _ hp)
  obtain ⟨vs, hd⟩ := hf
  have hx : ObjOk X.prog X.w H1 s1.heap dd (.xd fs) := I1.hok dd _ ea
  obtain ⟨mA, hns, hr⟩ := hx
  obtain ⟨od, ho, hl⟩ := lookIn_ns hns
  obtain ⟨u, hu, ru⟩ := RelO.some_of (v := v) (o := mA n) (by rw [← l]; exact hr n)
  have J : PySem.W.InstAt s1.heap a oe C (some od) := ⟨ha, hz.1, by unfold PySem.W.notCls; rw [hd] <;> rfl, by rw [hz.2]; exact ho⟩
  exact HandSPX.exc_get I1.kIn J T.ga T.gg T.exC (PySem.W.findObj_own T.hdC hno rfl (by rw [hl, hu])) (handed_of ru) ⟨v, H1, I1.tok _, ru, q⟩
/-- isinstance(e, c) of a known error -/
def rIsK (K : PySem.W.Frag) (a : Addr) (cls : Value) (d : Option Addr) : List V → Hp → VK → Prop := fun xs H Q => ∃ (c : V) (cv : Value) (b : Bool) (D dd : Addr) (fs : List (Str × V)), xs = [.ref a, c] ∧ ClsV c cv ∧ cls = .ref D ∧ d = some dd ∧ H dd = some (.xd fs) ∧ ExcC K D ∧ PySem.W.kitOne K (.ref D) cv = some b ∧ Q (.bl b) H
theorem call_isK {X : Cx} {a : Addr} {cls : Value} {d : Option Addr} {oe : Obj} (hz : Zc cls d oe) (hf : ∃ vs, oe.data = .fields vs) (hp : (a, oe) ∈ X.pn) : CallR X (.builtin "isinstance") (rIsK X.K a cls d) := by
  intro pins s σ H xs us Q I r h
  obtain ⟨c, cv, b, D, dd, fs, rfl, hcv, rfl, rfl, hd, C, e, q⟩ := h
  obtain ⟨u1, u2, rfl, r1, r2⟩ := vals2 r
  cases r1
  have e2 := hcv.eq r2
  subst e2
  obtain ⟨hget, _⟩ := I.pin (a, oe) (List.mem_append.mpr (.inl hp))
  obtain ⟨vs, hv⟩ := hf
  have hx : ObjOk X.prog X.w H s.heap dd (.xd fs) := I.hok dd _ hd
  obtain ⟨mA, ⟨od, es, ep, ho, _⟩, _⟩ := hx
  have J : PySem.W.InstAt s.heap a oe D (some od) := ⟨hget, hz.1, by unfold PySem.W.notCls; rw [hv] <;> rfl, by rw [hz.2]; exact ho⟩
  exact PySem.W.kia_one (Pa.kit_caught C) I.kIn J e (fun z => nomatch z) fun tk => ⟨.bl b, H, I.kept (t' := tk) fun _ _ z => z, rfl, q⟩
end Sv
set_option maxHeartbeats 4000000
/-! C(a, ..) and o.m(a, ..) within try; own text -/
namespace Sv
open PySem PySem.Spec PyProof.Rows L2
section
variable {X : Cx} {CX : CXT} {k : Nat} {f C : Addr} {fd : FuncData} {ps : List Str} {sp : Sp} {dvs : List V} {ds : List Value} {x m : Str} {p pos apos : Pos} {e o : Expr} {es : List Expr} {ta : TE} {t : TA}
theorem run_fnAt {E : XK} {pins : List (Addr × Obj)} {σ : L2.St} {H : Hp} {s : Shared} {Q : VK} {us : List Value} {vs : List V} (F : FnOk X.prog X.w X.K X.mg X.base CX k f fd ps sp) (hr : Room k X.A) (hb : Binds X.K fd ps ds) (hd : Vals dvs ds) (hx : PassesAt CX X σ E)
    (I : Inv X pins σ H s) (r : Vals vs us) (h : sp (vs ++ dvs) H Q E) : wpAny (model X.prog X.w) X.A (call (.ref f) us) (EP X pins σ Q) X.xe s := by
  have r2 : Vals (vs ++ dvs) (us ++ ds) := r.append hd
  have hl : (us ++ ds).length = ps.length := by rw [← r2.length]; exact F.len _ _ _ _ h
  refine wpAny_call (codeAny_mono (F.run X.A X.stack s H ⟨us, []⟩ (us ++ ds) (vs ++ dvs) Q E hr I.env0 (hb s us I.kIn hl) r2 h) fun r s' hq => ?_)
  cases r with
  | error e => exact hx pins H s e s' I hq
  | ok fl =>
    cases fl with
    | ret u => exact I.after hq
    | next => exact False.elim hq
    | brk => exact False.elim hq
    | cont => exact False.elim hq
theorem run_makeAt {E : XK} {pins : List (Addr × Obj)} {σ : L2.St} {H : Hp} {s : Shared} {Q : VK} {us : List Value} {vs : List V} (M : L2.Mk X.K C f) (F : FnOk X.prog X.w X.K X.mg X.base CX k f fd ps sp) (hr : Room (k + 1) X.A) (hb : Binds X.K fd ps ds) (hd : Vals dvs ds)
    (hx : PassesAt CX X σ E) (I : Inv X pins σ H s) (r : Vals vs us)
    (h : ∀ x dx, H x = none → H dx = none → dx ≠ x → sp (.ref x :: (vs ++ dvs)) (upd (upd H dx (.own x)) x (.ins C dx [])) (fun v H2 => v = .non ∧ Q (.ref x) H2) E) :
    wpAny (model X.prog X.w) X.A (call (.ref C) us) (EP X pins σ Q) X.xe s := by
  have hq := h (s.heap.objs.size + 1) s.heap.objs.size (I.hok.fresh (Nat.le_succ _)) (I.hok.fresh (Nat.le_refl _)) (Nat.ne_of_lt (Nat.lt_succ_self _))
  have I2 := Inv.made (C := C) I
  have r2 : Vals (V.ref (s.heap.objs.size + 1) :: (vs ++ dvs)) (Value.ref (s.heap.objs.size + 1) :: (us ++ ds)) := .cons rfl (r.append hd)
  have hl : (Value.ref (s.heap.objs.size + 1) :: us ++ ds).length = ps.length := by
    have e := r2.length
    rw [F.len _ _ _ _ hq] at e
    exact e.symm
  refine wpAny_call (make_map (f := f) I.kIn M.makes M.init (beq_iff_eq.mp M.fn) (codeAny_mono (F.run _ X.stack _ _ ⟨Value.ref (s.heap.objs.size + 1) :: us, []⟩ (Value.ref (s.heap.objs.size + 1) :: (us ++ ds)) _ _ E (hr.make C us [])
    (I2.env0.make C us []) (hb _ (Value.ref (s.heap.objs.size + 1) :: us) I2.kIn hl) r2 hq) fun r s' hq' => ?_))
  cases r with
  | error e => exact hx pins _ _ e s' I2 hq'
  | ok fl =>
    cases fl with
    | ret u =>
      obtain ⟨v, H', I3, rv, ev, q3⟩ := I2.after hq'
      subst ev
      exact ⟨rv, ⟨V.ref (s.heap.objs.size + 1), H', I3, rfl, q3⟩⟩
    | next => exact False.elim hq'
    | brk => exact False.elim hq'
    | cont => exact False.elim hq'
def tMakeSt (C : Addr) (sp : Sp) (dvs : List V) (E : L2.St → XK) (t : TA) : TE := fun σ H Q => t σ H fun vs H1 => ∀ x dx, H1 x = none → H1 dx = none → dx ≠ x →
  sp (.ref x :: (vs ++ dvs)) (upd (upd H1 dx (.own x)) x (.ins C dx [])) (fun v H2 => v = .non ∧ Q (.ref x) H2) (E σ)
theorem pe_makeSt {E : L2.St → XK} (M : L2.Mk X.K C f) (F : FnOk X.prog X.w X.K X.mg X.base CX k f fd ps sp) (hr : Room (k + 1) X.A) (hg : Gl X x) (hm : X.mg x = some (.ref C)) (hb : Binds X.K fd ps ds) (hd : Vals dvs ds) (hx : ∀ σ, PassesAt CX X σ (E σ))
    (ha : PA X (e :: es) t) (hdb : (x == ("__debug__" : Str)) = false := by decide) (he : starEach (e :: es) X.env = (false, eval e X.env) :: starEach es X.env := by rfl) (hpl : (backTo pos (starEach es X.env)).any (·.1) = false := by rfl) :
    PE X (.Call (.Name x p) (e :: es) [] pos) (tMakeSt C sp dvs E t) := by
  refine ⟨fun pins s σ H Q I h => ?_⟩
  refine wpAny_Call_Name_kw (ld_glob I hg hm ?_ hdb)
  refine PySem.W.callWith_K (h₀ := X.base) I.ok.mod.kin M.kp (thn (ha.run pos pins s σ H _ I h) fun us s1 ⟨vs, H1, I1, r, q⟩ => ⟨I1.kIn, ?_⟩) he hpl
  exact run_makeAt M F hr hb hd (hx σ) I1 r q
def tMethSt (C : Addr) (m : Str) (sp : Sp) (dvs : List V) (E : L2.St → XK) (ta : TE) (t : TA) : TE := fun σ H Q => ta σ H fun x H1 => ∃ a dx fs, x = .ref a ∧ H1 a = some (.ins C dx fs) ∧ fs.lookup m = none ∧
  t σ H1 fun vs H2 => sp (.ref a :: (vs ++ dvs)) H2 Q (E σ)
theorem pe_methSt {E : L2.St → XK} {pl : Sem Bool} (he : PE X o ta) (c : Cls X.K C) (hm : Meth X.K C m f) (F : FnOk X.prog X.w X.K X.mg X.base CX k f fd ps sp) (hr : Room k X.A) (hb : Binds X.K fd ps ds) (hd : Vals dvs ds) (hx : ∀ σ, PassesAt CX X σ (E σ)) (ha : PA X (e :: es) t)
    (hst : starEach (e :: es) X.env = (false, eval e X.env) :: starEach es X.env := by rfl) (hpl : (backTo pos (starEach es X.env)).any (·.1) = false := by rfl)
    (ht : eval (.Call (.Attribute o m apos) (e :: es) [] pos) X.env = (do
      let ov ← eval o X.env
      standAt apos.atName
      let (f, first) ← holding [ov] (getMethod ov m pl)
      callWith pos f first (backTo pos (starEach (e :: es) X.env)) (backToKw pos (keywordEach [] X.env))) := by rfl) :
    PE X (.Call (.Attribute o m apos) (e :: es) [] pos) (tMethSt C m sp dvs E ta t) := by
  refine ⟨fun pins s σ H Q I h => ?_⟩
  refine PySem.W.methodCall_KW (pl := pl) (thn (he.run pins s σ H _ I h) fun u s1 ⟨x, H1, I1, rx, a, dx, fs, ex, ea, l, q⟩ => ?_) ht
  subst ex
  obtain rfl : u = Value.ref a := rx
  refine getmeth_ok I1 ea c hm l ?_
  refine PySem.W.callWith_K (first := [.ref a]) (h₀ := X.base) I.ok.mod.kin hm.kp (thn (ha.run pos pins s1 σ H1 _ I1 q) fun us s2 ⟨vs, H2, I2, r, q2⟩ => ⟨I2.kIn, ?_⟩) hst hpl
  exact run_fnAt (us := .ref a :: us) (vs := .ref a :: vs) F hr hb hd (hx σ) I2 (.cons rfl r) q2
end
end Sv
set_option maxHeartbeats 2000000
namespace Pa
open PySem PySem.Spec PyProof.Rows L2 Ty Se Sv
/-! ### _law_refused, _law_no_label -/
/-- what is known of a class of refusals that is caught -/
structure RefK (K : PySem.W.Frag) (mg : Str → Option Value) (C CE : Addr) (n : Str) : Prop where
  te : PySem.W.exmOne K (.ref C) (.ref CE) = some true
  EC : ExcC K C
  XT : XfC K C
  n1 : PySem.W.findIn K (.ref C) "label" = some none
  m : mg n = some (.ref C)
theorem scRefd : FnScope ["pages", "notes", "caught", "e"] ["pages", "notes"] (defScope lRefused) := ⟨rfl, rfl, rfl, by decide +kernel, rfl, by decide +kernel, by decide +kernel⟩
theorem scNoLab : FnScope ["plan", "text", "caught", "e"] ["plan", "text"] (defScope lNoLabel) := ⟨rfl, rfl, rfl, by decide +kernel, rfl, by decide +kernel, by decide +kernel⟩
def spRefd (K : PySem.W.Frag) (C : Addr) : Sp := fun vs H Q _ => ∃ (g d : Addr) (ks : Kds) (rs : Rls) (bs : Brs) (st t : Str) (kvs : List (Key × V)) (N : Nts), vs = [.ref g, .ref d] ∧ GrS K C H g ks rs bs st ∧ GrN C H g d ∧ H d = some (.dK kvs) ∧ Paired (NkV H) kvs N ∧ (∀ n, n ∈ N → n.2.2.length ≤ 1000) ∧
  firstBad rs N = some t ∧ ∀ H', KX [d] H H' → Q (.str t) H'
def spNoLab (K : PySem.W.Frag) (C CY : Addr) : Sp := fun vs H Q _ => ∃ (p g : Addr) (ks : Kds) (rs : Rls) (bs : Brs) (st : Str) (N : Nts) (x : Str), vs = [.ref p, .str x] ∧ LayV CY H p g N ∧ GrS K C H g ks rs bs st ∧ N.lookup x = none ∧ x ∉ labsOf rs ∧ ∀ H', Same H H' → Q (.bl true) H'
section
variable {P : Program} {w : World} {K : PySem.W.Frag} {mg : Str → Option Value} {base : Heap} {f fI fM C CY CL CN CE : Addr} {fd dI dM : FuncData}
theorem ok_refd (F : Fun K "_law_refused" "_law_refused" lRefused f fd)
    (GI : FnOk P w K mg base (L2.CX P w) 3 fI dI ["self", "grammar", "marks"] (spYInit K C CY CL)) (bI : L2.Binds K dI ["self", "grammar", "marks"] []) (MK : L2.Mk K CY fI) (mC : mg "Layout" = some (.ref CY))
    (R : RefK K mg CL CE "NoLayout") (mE : mg "YardError" = some (.ref CE)) (mV : mg "ValueError" = none) (kL : PySem.W.kitOne K (.ref CL) (.ref CL) = some true) (kV : PySem.W.kitOne K (.ref CL) (.type "ValueError") = some true) (mi : mg "isinstance" = none) :
    FnOk P w K mg base CX0 5 f fd ["pages", "notes"] (spRefd K C) := by
  refine F.ok scRefd (fun vs H Q E h => ?_) (fun cdv A outer s0 H vs Q E hr h => ?_)
  · obtain ⟨_, _, _, _, _, _, _, _, _, rfl, _⟩ := h
    rfl
  refine ⟨_, pss_cons (ps_set (i := 2) scRefd.nd rfl (.inl rfl) pe_non)
    (pss_try_kept (i := 3) (Wout := fun _ _ _ _ => False) rfl rfl scRefd.nd rfl rfl ⟨rfl, by decide, Or.inl mE⟩ takes0
      (fun W pn xe tk _ => pss_one (ps_expr (pe_makeSt MK GI hr rfl mC bI .nil (fun σ => passAt tk σ) (pa_cons (pv 0) (pa_cons (pv 1) pa_nil)))))
      (fun a oe cls d pn hz hf => pss_one (ps_set (i := 2) scRefd.nd rfl (.inl rfl) (pv 3)))
      pss_never
      (fun a oe cls d pn hz hf => pss_cons (ps_if (pt_cmp (pc_isN (pv 2))) pss_never pss_nil)
        (pss_cons (ps_if (PW.pt (pw_or (pt_not (pt_val (pe_callB (show CallR _ (.builtin "isinstance") (rIsK K a cls d) from call_isK hz hf List.mem_cons_self) rfl mi (by decide +kernel) (pa_cons (pv 2) (pa_cons (pe_glob rfl R.m (show RelV (.ref CL) (.ref CL) from rfl)) pa_nil)))))
            (pw_or1 (pt_not (pt_val (pe_callB (show CallR _ (.builtin "isinstance") (rIsK K a cls d) from call_isK hz hf List.mem_cons_self) rfl mi (by decide +kernel) (pa_cons (pv 2) (pa_cons (pe_bltn rfl mV (by decide +kernel) (show RelV (.ty "ValueError") (.type "ValueError") from rfl)) pa_nil)))))))) pss_never pss_nil)
        (pss_one (ps_ret (pe_xfK R.XT R.n1 hz hf List.mem_cons_self (pv 2))))))), ?_⟩
  obtain ⟨g, d, ks, rs, bs, st, t, kvs, N, rfl, G, GN, hd, pN, hsz, hb, q⟩ := h
  refine ⟨_, rfl, _, rfl, fun x dx hx hdx hne => ?_⟩
  have s2 := same_new hdx (.own x)
  have hx2 : (upd H dx (.own x)) x = none := by rw [upd_ne (Ne.symm hne)]; exact hx
  have s3 := s2.trans (same_new hx2 (.ins CY dx []))
  have e3 : (upd (upd H dx (.own x)) x (.ins CY dx [])) x = some (.ins CY dx []) := upd_same
  obtain ⟨gx, _, _, _, _, _, gfs, _, _, _, _, y1, _⟩ := id G.ob
  generalize upd (upd H dx (.own x)) x (.ins CY dx []) = H3 at s3 e3 ⊢
  refine ⟨x, g, d, dx, ks, rs, bs, st, kvs, N, rfl, e3, G.same s3, GN.same y1 s3, s3 _ _ hd, paired_imp (fun _ _ r => r.same s3) pN, hsz, (fun h0 => by rw [hb] at h0; cases h0), fun t' ht' H' kx dd H4 hdd s4 e4 => ?_⟩
  rw [hb] at ht'
  cases ht'
  refine ⟨true, R.te, fun _ a0 ha0 => ?_, fun h => by cases h⟩
  refine ⟨_, rfl, ?_⟩
  refine ⟨_, rfl, false, rfl, iteF ?_⟩
  refine ⟨_, rfl, .ref CL, _, true, CL, dd, _, rfl, .own CL, rfl, rfl, e4, R.EC, kL, true, rfl, iteF ?_⟩
  refine ⟨_, rfl, .ty "ValueError", _, true, CL, dd, _, rfl, .ty _, rfl, rfl, e4, R.EC, kV, true, rfl, iteF ?_⟩
  exact ⟨_, rfl, rfl, rfl, dd, _, _, rfl, e4, rfl, q _ (((KX.of s3).trans kx).trans (KX.of s4))⟩
theorem ok_nolab (F : Fun K "_law_no_label" "_law_no_label" lNoLabel f fd)
    (GM : FnOk P w K mg base (L2.CX P w) 4 fM dM ["self", "label"] (spMarksOfN K C CY CN)) (bM : L2.Binds K dM ["self", "label"] []) (MM : Meth K CY "marks_of" fM) (clY : Cls K CY)
    (R : RefK K mg CN CN "NoLabel") :
    FnOk P w K mg base CX0 5 f fd ["plan", "text"] (spNoLab K C CY) := by
  refine F.ok scNoLab (fun vs H Q E h => ?_) (fun cdv A outer s0 H vs Q E hr h => ?_)
  · obtain ⟨_, _, _, _, _, _, _, _, rfl, _⟩ := h
    rfl
  refine ⟨_, pss_cons (ps_set (i := 2) scNoLab.nd rfl (.inl rfl) pe_non)
    (pss_try_kept (i := 3) (Wout := fun _ _ _ _ => False) rfl rfl scNoLab.nd rfl rfl ⟨rfl, by decide, Or.inl R.m⟩ takes0
      (fun W pn xe tk _ => pss_one (ps_expr (pe_methSt (pv 0) clY MM GM hr bM .nil (fun σ => passAt tk σ) (pa_cons (pv 1) pa_nil))))
      (fun a oe cls d pn hz hf => pss_one (ps_set (i := 2) scNoLab.nd rfl (.inl rfl) (pv 3)))
      pss_never
      (fun a oe cls d pn hz hf => pss_one (ps_ret (pe_and (pe_cmp (pc_notN (pv 2))) (pe_one (pe_cmpR op_eq (pe_xfK R.XT R.n1 hz hf List.mem_cons_self (pv 2)) (pv 1) (nomark _))))))), ?_⟩
  obtain ⟨p, g, ks, rs, bs, st, N, x, rfl, L, G, hn, hx, q⟩ := h
  obtain ⟨dx, d, kvs, fs, h1, h2, h3, h4, h5, h6, h7⟩ := id L
  refine ⟨_, rfl, p, dx, fs, rfl, h1, h4, _, rfl, p, g, ks, rs, bs, st, N, x, rfl, L, G, hn, hx, fun dd H4 hdd s4 e4 => ?_⟩
  refine ⟨true, R.te, fun _ a0 ha0 => ?_, fun h => by cases h⟩
  refine ⟨_, rfl, ?_⟩
  refine ⟨_, rfl, true, rfl, iteT ?_⟩
  refine ⟨_, rfl, rfl, rfl, dd, _, _, rfl, e4, rfl, _, rfl, rfl, ?_⟩
  rw [decide_eq_true rfl]
  exact q _ s4
end
end Pa
set_option maxHeartbeats 2000000
namespace Pa
open PySem PySem.Spec PyProof.Rows L2 Ty Se Sv
/-! ### plain facts of marks owed -/
theorem first_none {rs : Rls} {N : Nts} (h : RtN rs N) : firstBad rs N = none := by
  unfold firstBad
  rw [List.find?_eq_none.mpr (fun n hn => by unfold badP; rw [h n hn]; decide)]
  rfl
theorem steps_near : ∀ k : Nat, stepsP 0 (List.replicate k ("near" : Str)) = true
  | 0 => rfl
  | k + 1 => by
    have e : stepN "near" = 0 := by decide +kernel
    rw [List.replicate_succ]
    show (if 0 + stepN "near" < 0 then false else stepsP (0 + stepN "near") (List.replicate k ("near" : Str))) = true
    rw [e]
    exact steps_near k
theorem near_right {rs : Rls} {x : Str} (h : x ∈ labsOf rs) : rightP rs x (nearP rs x) = true := by
  unfold rightP nearP
  rw [decide_eq_true h, steps_near, List.length_replicate, decide_eq_true rfl, List.all_eq_true.mpr (fun m hm => by rw [(List.mem_replicate.mp hm).2]; decide)]
  rfl
theorem owed_right {rs : Rls} {N : Nts} (h : RtN rs N) {x : Str} (hx : x ∈ labsOf rs) : rightP rs x (owedP rs N x) = true := by
  unfold owedP
  cases e : N.lookup x with
  | none => exact near_right hx
  | some n => exact h _ (lk_mem e)
theorem owed_len {rs : Rls} {N : Nts} (h : RtN rs N) {x : Str} (hx : x ∈ labsOf rs) : (owedP rs N x).2.length = (spelledP rs x).length - 1 := (right_parts (owed_right h hx)).2.2.1
def owedM (rs : Rls) (N : Nts) (l : List Str) : Nts := l.map fun x => (x, owedP rs N x)
def owedL (rs : Rls) (N : Nts) : Nts := owedM rs N (labsOf rs)
theorem owedM_lookup (rs : Rls) (N : Nts) {x : Str} : ∀ {l : List Str}, x ∈ l → (owedM rs N l).lookup x = some (owedP rs N x)
  | [], h => by cases h
  | y :: l, h => by
    show ((y, owedP rs N y) :: owedM rs N l).lookup x = _
    rw [List.lookup_cons]
    by_cases e : x = y
    · rw [e, beq_self_eq_true]
    · rw [beq_eq_false_iff_ne.mpr e]
      exact owedM_lookup rs N ((List.mem_cons.mp h).resolve_left e)
theorem owedL_owed {rs : Rls} {N : Nts} {x : Str} (h : x ∈ labsOf rs) : owedP rs (owedL rs N) x = owedP rs N x := by
  have e := owedM_lookup rs N h
  show ((owedL rs N).lookup x).getD _ = _
  unfold owedL
  rw [e]; rfl
theorem owedL_right {rs : Rls} {N : Nts} (h : RtN rs N) : RtN rs (owedL rs N) := fun n hn => by
  obtain ⟨x, hx, rfl⟩ := List.mem_map.mp hn
  exact owed_right h hx
theorem same_owedL (rs : Rls) (N : Nts) : sameP rs N (owedL rs N) = true := by
  unfold sameP
  rw [List.all_eq_true]
  intro x hx
  rw [owedL_owed hx]
  exact decide_eq_true rfl
theorem same_self (rs : Rls) (N : Nts) : sameP rs N N = true := by
  unfold sameP
  rw [List.all_eq_true]
  exact fun x _ => decide_eq_true rfl
def pf (rs : Rls) (N : Nts) (x : Str) : Bool := !decide ((owedP rs N x).2 = List.replicate (owedP rs N x).2.length ("near" : Str))
theorem near_eq {rs : Rls} {N : Nts} (h : RtN rs N) : (((labsOf rs).filter (pf rs N)).map V.str).isEmpty = sameP rs N [] := by
  rw [Bool.eq_iff_iff]
  unfold sameP
  rw [List.isEmpty_iff, List.map_eq_nil_iff, List.filter_eq_nil_iff, List.all_eq_true]
  have key : ∀ x, x ∈ labsOf rs → (¬ pf rs N x = true ↔ decide ((owedP rs N x).2 = (owedP rs [] x).2) = true) := fun x hx => by
    have e : (owedP rs [] x).2 = List.replicate ((spelledP rs x).length - 1) ("near" : Str) := rfl
    unfold pf
    rw [e, owed_len h hx]
    cases decide ((owedP rs N x).2 = List.replicate ((spelledP rs x).length - 1) ("near" : Str)) <;> simp
  exact ⟨fun g x hx => (key x hx).mp (g x hx), fun g x hx => (key x hx).mpr (g x hx)⟩
theorem putN_new {N : Nts} {x : Str} {n : Bool × List Str} (h : x ∉ N.map (·.1)) : putN N x n = N ++ [(x, n)] := by
  unfold putN
  rw [if_neg (fun q => by
    obtain ⟨m, hm, e⟩ := List.any_eq_true.mp q
    exact h (List.mem_map.mpr ⟨m, hm, of_decide_eq_true e⟩))]
theorem owed_next {rs : Rls} {N : Nts} {l : List Str} {i : Nat} {x : Str} (hn : l.Nodup) (h : l[i]? = some x) : putN (owedM rs N (l.take i)) x (owedP rs N x) = owedM rs N (l.take (i + 1)) := by
  have hi := (List.getElem?_eq_some_iff.mp h).1
  have hx : x ∉ l.take i := fun m => by
    have e := List.take_append_drop i l
    rw [← e] at hn
    have hd : l.drop i = x :: l.drop (i + 1) := by
      rw [List.drop_eq_getElem_cons hi]
      congr 1
      exact Option.some.inj ((List.getElem?_eq_getElem hi).symm.trans h)
    rw [hd] at hn
    exact (List.nodup_append.mp hn).2.2 _ m _ List.mem_cons_self rfl
  have em : (owedM rs N (l.take i)).map (·.1) = l.take i := by
    unfold owedM
    rw [List.map_map]
    exact List.map_id' _
  rw [putN_new (by rw [em]; exact hx), List.take_add_one, h]
  unfold owedM
  rw [List.map_append]
  rfl
theorem nt_eqd {K : PySem.W.Frag} {H : Hp} {v u : V} {n : Bool × List Str} (h1 : NtV H v n) (h2 : NtV H u n) (ht : n.1 = true) (hm : ∀ m, m ∈ n.2 → m ∈ marksL) : EqD K H v u := by
  obtain ⟨a, rfl, e1⟩ := h1
  obtain ⟨b, rfl, e2⟩ := h2
  rw [if_pos ht] at e1 e2
  exact ⟨marksD n.2, marksD n.2, .tup (SqT.of e1) (DpAll.strs _), .tup (SqT.of e2) (DpAll.strs _), marksD_shaped hm, marksD_shaped hm, eqv_self (marksD_shaped hm)⟩
/-- what notes.get tells -/
theorem nts_get {H : Hp} {rs : Rls} {N : Nts} {kvs : List (Key × V)} {x : Str} {d : V} (p : Paired (NkV H) kvs N) (h : NtV H d (nearP rs x)) : NtV H ((valV kvs (Sum.inr x : Key)).getD d) (owedP rs N x) := by
  unfold owedP
  rcases nts_at x p with ⟨n, v, e1, e2, e3⟩ | ⟨e1, e2⟩
  · rw [e1, e2]; exact e3
  · rw [e1, e2]; exact h
/-! ### what the law holds -/
theorem KL.updD {H : Hp} {a d : Addr} {ks : Kds} {kvs : List (Key × V)} (h : KL H a ks) (e : H d = some (.dK kvs)) (o : HO) : KL (upd H d o) a ks := by
  obtain ⟨xs, e1, p⟩ := h
  have tk : Tk H (upd H d o) := fun c zs q => by rw [upd_ne (fun z => by rw [z, e] at q; cases q)]; exact q
  exact ⟨xs, by rw [upd_ne (fun z => by rw [z, e] at e1; cases e1)]; exact e1, paired_imp (fun _ _ r => r.tk tk) p⟩
theorem RL.updD {H : Hp} {a d : Addr} {rs : Rls} {kvs : List (Key × V)} (h : RL H a rs) (e : H d = some (.dK kvs)) (o : HO) : RL (upd H d o) a rs := by
  obtain ⟨xs, e1, p⟩ := h
  have tk : Tk H (upd H d o) := fun c zs q => by rw [upd_ne (fun z => by rw [z, e] at q; cases q)]; exact q
  have ls : ∀ {b zs}, H b = some (.lst zs) → (upd H d o) b = some (.lst zs) := fun q => by rw [upd_ne (fun z => by rw [z, e] at q; cases q)]; exact q
  exact ⟨xs, ls e1, paired_imp (fun _ _ r => r.tk tk fun b zs _ q => ls q) p⟩
/-- the script stays -/
def Scr (K : PySem.W.Frag) (j sa : Addr) (sx : List V) (H : Hp) : Prop := (Rd H sa (.lst sx) ∧ sa ≠ j) ∨ ∀ H', SqL K H' sa sx
section
variable {K : PySem.W.Frag} {j sa : Addr} {sx : List V} {H H' : Hp}
theorem Scr.sq (h : Scr K j sa sx H) : SqL K H sa sx := by
  rcases h with ⟨h, _⟩ | h
  · exact .inl h
  · exact h H
theorem Scr.same (h : Scr K j sa sx H) (s : Same H H') : Scr K j sa sx H' := by
  rcases h with ⟨h | ⟨o, h⟩, n⟩ | h
  · exact .inl ⟨.inl (s _ _ h), n⟩
  · exact .inl ⟨.inr ⟨o, s _ _ h⟩, n⟩
  · exact .inr h
theorem Scr.keep (h : Scr K j sa sx H) (k : Keep j H H') : Scr K j sa sx H' := by
  rcases h with ⟨h | ⟨o, h⟩, n⟩ | h
  · exact .inl ⟨.inl (k _ _ n h), n⟩
  · exact .inl ⟨.inr ⟨o, k _ _ n h⟩, n⟩
  · exact .inr h
theorem Scr.kx {d : Addr} {jvs : List (Key × V)} (h : Scr K j sa sx H) (e : H d = some (.dK jvs)) (k : KX [d] H H') : Scr K j sa sx H' := by
  rcases h with ⟨h | ⟨o, h⟩, n⟩ | h
  · exact .inl ⟨.inl (k _ _ (fun m => by rw [List.mem_singleton.mp m, e] at h; cases h) h), n⟩
  · exact .inl ⟨.inr ⟨o, k _ _ (fun m => by rw [List.mem_singleton.mp m, e] at h; cases h) h⟩, n⟩
  · exact .inr h
end
structure RS (K : PySem.W.Frag) (j sa : Addr) (sx : List V) (a b rd nd : Addr) (ks : Kds) (rs : Rls) (wk kvs : List (Key × V)) (N : Nts) (H : Hp) : Prop where
  kl : KL H a ks
  rl : RL H b rs
  hrd : H rd = some (.dK wk)
  hwk : Paired (SpE H) wk (altsOf rs)
  hnd : H nd = some (.dK kvs)
  hpn : Paired (NkV H) kvs N
  ne : rd ≠ nd
  z : Scr K j sa sx H
section
variable {K : PySem.W.Frag} {j sa : Addr} {sx : List V} {a b rd nd : Addr} {ks : Kds} {rs : Rls} {wk kvs : List (Key × V)} {N : Nts} {H H' : Hp}
theorem RS.same (h : RS K j sa sx a b rd nd ks rs wk kvs N H) (s : Same H H') : RS K j sa sx a b rd nd ks rs wk kvs N H' :=
  ⟨h.kl.same s, h.rl.same s, s _ _ h.hrd, paired_imp (fun _ _ r => r.tk (Tk.of_same s)) h.hwk, s _ _ h.hnd, paired_imp (fun _ _ r => r.same s) h.hpn, h.ne, h.z.same s⟩
theorem RS.keep {C : Nat} (h : RS K j sa sx a b rd nd ks rs wk kvs N H) (jr : Jar j H C) (k : Keep j H H') : RS K j sa sx a b rd nd ks rs wk kvs N H' :=
  have nj : ∀ {c kvs}, H c = some (.dK kvs) → c ≠ j := fun {c kvs} e z => by obtain ⟨_, _, _, e2, _⟩ := jr; rw [z, e2] at e; cases e
  ⟨h.kl.keep jr k, h.rl.keep jr k, k _ _ (nj h.hrd) h.hrd, paired_imp (fun _ _ r => r.tk (Tk.of_keep jr k)) h.hwk, k _ _ (nj h.hnd) h.hnd, paired_imp (fun _ _ r => r.keep jr k) h.hpn, h.ne, h.z.keep k⟩
theorem RS.updD (h : RS K j sa sx a b rd nd ks rs wk kvs N H) {d : Addr} {jvs : List (Key × V)} (e : H d = some (.dK jvs)) (n1 : rd ≠ d) (n2 : nd ≠ d) (o : HO) : RS K j sa sx a b rd nd ks rs wk kvs N (upd H d o) :=
  have tk : Tk H (L2.upd H d o) := fun c zs q => by rw [upd_ne (fun z => by rw [z, e] at q; cases q)]; exact q
  ⟨h.kl.updD e o, h.rl.updD e o, by rw [upd_ne n1]; exact h.hrd, paired_imp (fun _ _ r => r.tk tk) h.hwk, by rw [upd_ne n2]; exact h.hnd, paired_imp (fun _ _ r => ⟨r.1, r.2.at e⟩) h.hpn, h.ne, h.z.kx e (KX.upd (by simp) o)⟩
end
/-! ### things made -/
abbrev GInitD (K : PySem.W.Frag) (dt f : Addr) (fd : FuncData) : Prop := FunD K "__init__" "Grammar.__init__" (defArgs gInit) (defBody gInit) (defScope gInit) [] [("begin", .non), ("bars", .ref dt)] f fd
section
variable {K : PySem.W.Frag} {f dt : Addr} {fd : FuncData}
theorem ginit_dfl (F : GInitD K dt f fd) : ∃ ds, Vals [V.non, V.ref dt] ds ∧ Binds K fd ["self", "kinds", "rules", "begin", "bars"] ds := by
  refine F.binds0 (ps := ["self", "kinds", "rules", "begin", "bars"]) 3 (by simp) rfl fun D doc pm an cdv ct us ks l1 l2 => ?_
  match us, l1, ks, l2 with
  | [a, b, c], _, [d, e], _ => exact ⟨_, _, _, _, _, _, rfl, rfl, _, _, _, _, _, _, rfl, rfl, rfl⟩
theorem ginit_kw1 (F : GInitD K dt f fd) : ∃ mv : List Value, KBn K fd ["self", "kinds", "rules", "begin", "bars"] 3 ["begin"] (fun us ws => us ++ (ws ++ mv)) (fun vs zs => vs ++ (zs ++ [.ref dt])) := by
  obtain ⟨mv, h⟩ := F.kbinds0 (ps := ["self", "kinds", "rules", "begin", "bars"]) 3 ["begin"] [("bars", .ref dt)] (fun us mv ws => us ++ (ws ++ mv)) (by simp) (fun q hq => by simp at hq ⊢; exact .inr hq) (fun r1 r2 r3 => paired_app r1 (paired_app r3 r2)) (fun D doc pm an cdv ct us mv ws l1 l2 l3 => by
    match us, l1, mv, l2, ws, l3 with
    | [a, b, c], _, [e], _, [d], _ => exact ⟨_, _, _, _, _, _, rfl, rfl, rfl⟩)
  exact ⟨mv, h⟩
end
theorem passF {P : Program} {w : World} {X : Cx} : Passes (L2.CX P w) X E0 := fun _ _ _ _ _ _ _ h => by
  obtain ⟨_, _, _, _, _, _, _, _, _, _, _, _, h⟩ := h
  exact h.elim
section
variable {K : PySem.W.Frag} {C CY CL CN : Addr} {H : Hp}
theorem mk_lay {g d : Addr} {ks : Kds} {rs : Rls} {bs : Brs} {st : Str} {kvs : List (Key × V)} {N : Nts} {Qx : Addr → Hp → Prop} (G : GrS K C H g ks rs bs st) (GN : GrN C H g d) (hd : H d = some (.dK kvs)) (pN : Paired (NkV H) kvs N) (hsz : ∀ n, n ∈ N → n.2.2.length ≤ 1000) (hN : RtN rs N)
    (q : ∀ x H', Same H H' → H x = none → LayV CY H' x g N → (∀ d0, H d0 ≠ none → LayN CY H' x d0) → Qx x H') :
    ∀ x dx, H x = none → H dx = none → dx ≠ x → spYInit K C CY CL (.ref x :: ([V.ref g, .ref d] ++ [])) (upd (upd H dx (.own x)) x (.ins CY dx [])) (fun v H2 => v = .non ∧ Qx x H2) E0 := by
  intro x dx hx hdx hne
  have s2 := same_new hdx (.own x)
  have hx2 : (upd H dx (.own x)) x = none := by rw [upd_ne (Ne.symm hne)]; exact hx
  have s3 := s2.trans (same_new hx2 (.ins CY dx []))
  have e3 : (upd (upd H dx (.own x)) x (.ins CY dx [])) x = some (.ins CY dx []) := upd_same
  obtain ⟨gx, _, _, _, _, _, gfs, _, _, _, _, y1, _⟩ := id G.ob
  generalize upd (upd H dx (.own x)) x (.ins CY dx []) = H3 at s3 e3 ⊢
  refine ⟨x, g, d, dx, ks, rs, bs, st, kvs, N, rfl, e3, G.same s3, GN.same y1 s3, s3 _ _ hd, paired_imp (fun _ _ r => r.same s3) pN, hsz, fun _ H' L LN kx => ⟨rfl, ?_⟩, fun t ht => by rw [first_none hN] at ht; cases ht⟩
  refine q x H' (fun c o e => kx c o (fun m => by rw [List.mem_singleton.mp m, hx] at e; cases e) (s3 _ _ e)) hx L fun d0 h0 => LN d0 (fun z => h0 ?_)
  cases e : H d0 with
  | none => rfl
  | some o => rw [s3 _ _ e] at z; cases z
theorem mk_gr {a b dt : Addr} {ks : Kds} {rs : Rls} {st : Str} {vb : V} {Qx : Addr → Hp → Prop} (ka : KL H a ks) (rb : RL H b rs) (hk : KsG ks) (hr : RsOk ks rs) (hs : st ∈ rs.map (·.1)) (hdt : ∀ H, SqT K H dt []) (hvb : vb = .str st ∨ (vb = .non ∧ ∀ n as t, rs = (n, as) :: t → st = n))
    (q : ∀ x H', Same H H' → H x = none → GrS K C H' x ks rs [] st → (∀ d, H d ≠ none → GrN C H' x d) → Qx x H') :
    ∀ x dx, H x = none → H dx = none → dx ≠ x → spGInit K 4 C CN [.ref x, .ref a, .ref b, vb, .ref dt] (upd (upd H dx (.own x)) x (.ins C dx [])) (fun v H2 => v = .non ∧ Qx x H2) E0 := by
  intro x dx hx hdx hne
  have s2 := same_new hdx (.own x)
  have hx2 : (upd H dx (.own x)) x = none := by rw [upd_ne (Ne.symm hne)]; exact hx
  have s3 := s2.trans (same_new hx2 (.ins C dx []))
  have e3 : (upd (upd H dx (.own x)) x (.ins C dx [])) x = some (.ins C dx []) := upd_same
  generalize upd (upd H dx (.own x)) x (.ins C dx []) = H3 at s3 e3 ⊢
  obtain ⟨xs, hxs, px⟩ := ka
  obtain ⟨ys, hys, py⟩ := rb
  refine ⟨x, a, b, dt, dx, vb, xs, ys, [], ks, rs, [], st, rfl, e3, s3 _ _ hxs, paired_imp (fun _ _ r => r.tk (Tk.of_same s3)) px, s3 _ _ hys, paired_imp (fun _ _ r => r.same s3) py, hdt _, .nil, hvb, hr.bd hk, fun _ H' G GN kx => ⟨rfl, ?_⟩, fun e he => by rw [hr.gram hk hs] at he; cases he⟩
  refine q x H' (fun c o e => kx c o (fun m => by rw [List.mem_singleton.mp m, hx] at e; cases e) (s3 _ _ e)) hx G fun d0 h0 => GN d0 (fun z => h0 ?_)
  cases e : H d0 with
  | none => rfl
  | some o => rw [s3 _ _ e] at z; cases z
end
/-! ### dicts of pairs -/
theorem merge_app : ∀ (kvs acc : List (Key × V)), ((acc ++ kvs).map (·.1)).Nodup → mergeK acc kvs = acc ++ kvs
  | [], acc, _ => by rw [List.append_nil]; rfl
  | kv :: kvs, acc, h => by
    have hn : valV acc kv.1 = none := by
      cases e : valV acc kv.1 with
      | none => rfl
      | some v =>
        have m := valV_in e
        rw [List.map_append, List.map_cons] at h
        exact absurd rfl ((List.nodup_append.mp h).2.2 _ m _ List.mem_cons_self)
    show mergeK (putK acc kv.1 kv.2) kvs = _
    rw [putK_new _ hn, merge_app kvs _ (by rw [List.append_assoc]; exact h), List.append_assoc]
    rfl
theorem merge_nodup {kvs : List (Key × V)} (h : (kvs.map (·.1)).Nodup) : mergeK [] kvs = kvs := merge_app kvs [] h
theorem inr_nodup {l : List Str} (h : l.Nodup) : (l.map (Sum.inr : Str → Key)).Nodup := List.Pairwise.map _ (fun a b h e => h (Sum.inr.inj e)) h
end Pa
set_option maxHeartbeats 4000000
namespace Pa
open PySem PySem.Spec PyProof.Rows L2 Ty Se Sv
/-! ### _law_right, from near on -/
abbrev nRt : List Str := ["jar", "rack", "rules", "rows", "name", "some", "notes", "lap", "tag", "pages", "wrong", "told", "plan", "owed", "found", "near", "other"]
theorem scRt : FnScope nRt ["jar"] (defScope lRight) := ⟨rfl, rfl, rfl, by decide +kernel, rfl, by decide +kernel, by decide +kernel⟩
structure NoKit (K : PySem.W.Frag) (C : Addr) : Prop where
  n : PySem.W.kitOne K (.type "NoneType") (.ref C) = some false
  i : PySem.W.kitOne K (.type "int") (.ref C) = some false
  s : PySem.W.kitOne K (.type "str") (.ref C) = some false
  d : PySem.W.kitOne K (.type "dict") (.ref C) = some false
  sd : PySem.W.subIn K (.type "dict") (.ref C) = some false
theorem NtV.frz {H : Hp} {v : V} {n : Bool × List Str} (h : NtV H v n) {d : Addr} {ob : Obj} {u : HO} (e : H d = some (.frz ob u)) {o : HO} : NtV (L2.upd H d o) v n := by
  obtain ⟨a, rfl, h⟩ := h
  refine ⟨a, rfl, ?_⟩
  rw [upd_ne (fun q => by rw [q, e] at h; obtain ⟨b, l⟩ := n; cases b <;> cases h)]
  exact h
theorem GrN.upd {C : Addr} {H : Hp} {g d t : Addr} (N : GrN C H g d) (n : g ≠ t) (o : HO) : GrN C (L2.upd H t o) g d := fun dx fs e => N dx fs (by rw [upd_ne n] at e; exact e)
theorem LayN.upd {C : Addr} {H : Hp} {p d t : Addr} (N : LayN C H p d) (n : p ≠ t) (o : HO) : LayN C (L2.upd H t o) p d := fun dx fs e => N dx fs (by rw [upd_ne n] at e; exact e)
theorem LayV.ex {C : Addr} {H : Hp} {p g : Addr} {N : Nts} (L : LayV C H p g N) : ∃ dx fs, H p = some (.ins C dx fs) := by
  obtain ⟨dx, _, _, fs, h, _⟩ := L
  exact ⟨dx, fs, h⟩
theorem GrS.ex {K : PySem.W.Frag} {C : Addr} {H : Hp} {g : Addr} {ks : Kds} {rs : Rls} {bs : Brs} {st : Str} (G : GrS K C H g ks rs bs st) : ∃ dx fs, H g = some (.ins C dx fs) := by
  obtain ⟨gx, _, _, _, _, _, gfs, _, _, _, _, y1, _⟩ := G.ob
  exact ⟨gx, gfs, y1⟩
theorem gname_to {i : Nat} {v : V} {σ σ' : L2.St} {H : Hp} {Q : L2.St → Hp → Prop} (e : σ.set i (some v) = σ') (h : Q σ' H) : gName i v σ H Q := by
  subst e
  exact h
theorem GrS.keep {K : PySem.W.Frag} {C : Addr} {H H' : Hp} {g j : Addr} {C0 : Nat} {ks : Kds} {rs : Rls} {bs : Brs} {st : Str} (h : GrS K C H g ks rs bs st) (jr : Jar j H C0) (k : Keep j H H') : GrS K C H' g ks rs bs st := by
  obtain ⟨⟨dx, c, pd, hd, ed, wd, fs, cb, pk, ek, wk, h1, h2, h3, h4, h5, h6, h7, h8, h9, h10, h11, h12, h13, h14, h15, h16, h17⟩, dx2, la, D0, fs2, kv, rv, i1, i2, i3, i4, i5, i6, i7⟩ := h
  have tk := Tk.of_keep jr k
  have nj : ∀ {c u}, H c = some u → (∀ xs, u ≠ .lst xs) → c ≠ j := fun e ne z => by obtain ⟨_, _, _, e2, _⟩ := jr; rw [z, e2] at e; exact ne _ (Option.some.inj e).symm
  have nl : ∀ {c u}, H c = some u → (∀ xs, u ≠ .lst xs) → H' c = some u := fun e ne => k _ _ (nj e ne) e
  have kx : KX [j] H H' := fun c o n e => k c o (fun z => n (by simp [z])) e
  refine ⟨⟨dx, c, pd, hd, ed, wd, fs, cb, pk, ek, wk, nl h1 (fun _ h => by cases h), h2, h3, h4, h5, h6, h7, kx.seqT h8 (fun r q => ?_), paired_imp (fun _ _ r => r.tk tk) h9, nl h10 (fun _ h => by cases h), paired_imp (fun _ _ r => r.tk tk) h11, nl h12 (fun _ h => by cases h), nl h13 (fun _ h => by cases h), paired_imp (fun _ _ r => r.tk tk) h14, nl h15 (fun _ h => by cases h), h16, h17⟩, dx2, la, D0, fs2, kv, rv, nl i1 (fun _ h => by cases h), i2, i3, k _ _ (jar_ne jr i4 (ref_int (fun _ _ r => r.ref) i5)) i4, paired_imp (fun _ _ r => r.tk tk) i5, k _ _ (jar_ne jr i6 (ref_int (fun _ _ r => r.ref) i7)) i6, paired_imp (fun _ _ r => r.keep jr k) i7⟩
  obtain rfl : c = j := by simpa using q
  obtain ⟨_, _, _, e2, _⟩ := jr
  rcases r with r | ⟨_, r⟩
  · rw [e2] at r; cases r
  · rw [e2] at r; cases r
theorem LayV.keep {C : Addr} {H H' : Hp} {p g j : Addr} {C0 : Nat} {N : Nts} (h : LayV C H p g N) (jr : Jar j H C0) (k : Keep j H H') : LayV C H' p g N := by
  obtain ⟨dx, m, kvs, fs, h1, h2, h3, h4, h5, h6, h7⟩ := h
  have nj : ∀ {c u}, H c = some u → (∀ xs, u ≠ .lst xs) → c ≠ j := fun e ne z => by obtain ⟨_, _, _, e2, _⟩ := jr; rw [z, e2] at e; exact ne _ (Option.some.inj e).symm
  exact ⟨dx, m, kvs, fs, k _ _ (nj h1 (fun _ h => by cases h)) h1, h2, h3, h4, h5, k _ _ (nj h6 (fun _ h => by cases h)) h6, paired_imp (fun _ _ r => r.keep jr k) h7⟩
theorem no_lab : ∀ x : Str, x ∈ (["zz", "", "head"] : List Str) → ∀ i, i < 26 → labC i ≠ x := by decide +kernel
theorem wk_key {H : Hp} {wk : List (Key × V)} {rs : Rls} (p : Paired (SpE H) wk (altsOf rs)) {i : Nat} {k : Key} {v : V} (h : wk[i]? = some (k, v)) : ∃ l, k = Sum.inr l ∧ (labsOf rs)[i]? = some l := by
  obtain ⟨⟨l, row⟩, h1, h2, _⟩ := paired_get p i _ h
  exact ⟨l, h2, by rw [List.getElem?_map, h1]; rfl⟩
def tRD (K : PySem.W.Frag) (C CY : Addr) : TS := fun D σ H => ∃ (j sa : Addr) (sx : List V) (a b rd nd g p od : Addr) (ks : Kds) (rs : Rls) (wk kvs ov : List (Key × V)) (N : Nts) (st : Str) (x4 x5 x7 x8 x10 x11 x14 x15 x16 : Option V) (Cj : Nat), σ = [some (.ref j), some (.ref a), some (.ref b), some (.ref rd), x4, x5, some (.ref nd), x7, x8, some (.ref g), x10, x11, some (.ref p), some (.ref od), x14, x15, x16] ∧
  RS K j sa sx a b rd nd ks rs wk kvs N H ∧ KsG ks ∧ RsOk ks rs ∧ NtsG 19 26 N ∧ RtN rs N ∧ GrS K C H g ks rs [] st ∧ GrN C H g rd ∧ GrN C H g nd ∧ (∀ n as t, rs = (n, as) :: t → st = n) ∧ LayV CY H p g N ∧ LayN CY H p rd ∧ H od = some (.dK ov) ∧ Paired (NkV H) ov (owedL rs N) ∧ rd ≠ od ∧
  Jar j H Cj ∧ Cj ≤ 999990000 ∧ ∀ H', Scr K j sa sx H' → D.rt (.bl true) H'
section
variable {P : Program} {w : World} {K : PySem.W.Frag} {mg : Str → Option Value} {base : Heap} {f C CY CL CN dt fYI fM fE fGI fL fDip : Addr} {dYI dM dE dGI dL dDip : FuncData}
theorem right_d (GI : FnOk P w K mg base (L2.CX P w) 3 fYI dYI ["self", "grammar", "marks"] (spYInit K C CY CL)) (bYI : L2.Binds K dYI ["self", "grammar", "marks"] []) (MKY : L2.Mk K CY fYI) (mY : mg "Layout" = some (.ref CY))
    (GM : FnOk P w K mg base CX0 2 fM dM ["self", "label"] (spMarksOf K C CY)) (bM : L2.Binds K dM ["self", "label"] []) (MM : Meth K CY "marks_of" fM) (clY : Cls K CY)
    (GE : FnOk P w K mg base CX0 4 fE dE ["self", "other"] (spYEq K C CY)) (bE : L2.Binds K dE ["self", "other"] []) (OY : OwC K CY fE) (NS : NoSub K CY) (NK : NoKit K CY)
    (GG : FnOk P w K mg base (L2.CX P w) 17 fGI dGI ["self", "kinds", "rules", "begin", "bars"] (spGInit K 4 C CN)) (FD : GInitD K dt fGI dGI) (MKG : L2.Mk K C fGI) (mG : mg "Grammar" = some (.ref C)) (hdt : ∀ H, SqT K H dt [])
    (GL : FnOk P w K mg base CX0 5 fL dL ["plan", "text"] (spNoLab K C CY)) (bL : L2.Binds K dL ["plan", "text"] []) (kL : PySem.W.keepIn K (.ref fL) = true) (mL : mg "_law_no_label" = some (.ref fL))
    (GD : FnOk P w K mg base CX0 1 fDip dDip ["jar", "many"] spDrawn) (bD : L2.Binds K dDip ["jar", "many"] []) (kD : PySem.W.keepIn K (.ref fDip) = true) (mD : mg "_law_dip" = some (.ref fDip))
    (ml : mg "len" = none) (mso : mg "sorted" = none)
    {cdv : Value} {A : Around} {outer : List Env} {s0 : Shared} {H0 : Hp} {E : XK} (hr : Room 20 (A.deeper (envOfC "_law_right" (defScope lRight) s0.heap.objs.size f cdv))) :
    PSs (cxOf CX0 P w K mg base nRt "_law_right" (defScope lRight) f cdv A outer s0 H0 E).nox ((defBody lRight).drop 17) (tRD K C CY) := by
  have hu64 := hr.units
  have hu1 := hu_of hr
  have hrG := hr.mono (show 1 ≤ 20 by decide)
  have hrI := hr.mono (show 3 + 1 ≤ 20 by decide)
  have hrE := hr.mono (show 4 ≤ 20 by decide)
  have hrE5 := hr.mono (show 4 + 1 ≤ 20 by decide)
  have hrGG := hr.mono (show 17 + 1 ≤ 20 by decide)
  have hrL := hr.mono (show 5 ≤ 20 by decide)
  have hrM := hr.mono (show 2 ≤ 20 by decide)
  obtain ⟨mv1, KB1⟩ := ginit_kw1 FD
  refine pss_imp (pss_cons (ps_set (i := 15) scRt.nd rfl (.inl rfl) (pe_cmpR (op_eqL0 hu64) (pe_lock (pe_lc (own := [("tag", 8)]) (g := gName 8) rfl scRt.nd (pi_keys (pv 3)) (blkOk_by (N := nRt) (sc := defScope lRight) (by decide +kernel)) (fun _ _ _ _ _ => pg_name (i := 8) scRt.nd rfl (Or.inl rfl)) (fun _ _ _ _ _ => pts_one (pt_cmpR (show OpR _ (compareOp .NotEq) (rNeD K) from op_neD hu64) (pe_dget hu1 (pv 13) (pv 8) (fun _ _ => rfl)) (pe_op (show OpR _ (binaryOp .Mult) rRepN from op_repN) (pe_tup (pa_cons pe_str pa_nil)) (pe_callB (show CallR _ _ (fun xs H Q => ∃ p ys, xs = [V.ref p] ∧ (SqL K H p ys ∨ SqT K H p ys) ∧ Q (V.int (ys.length : Nat)) H) from call_len_seq) rfl ml PySem.boot_len (pa_cons (pe_dget hu1 (pv 13) (pv 8) (fun _ _ => rfl)) pa_nil))) (nomark _))) (fun _ _ _ _ _ => pv 8))) (pe_lst pa_nil) (nomark _)))
    (pss_cons (ps_if (PW.pt (pw_or (pt_cmpR op_ne (pe_cmpR (op_eqO_own GE OY.eq OY.fn bE pass0 hrE) (pv 12) (pe_make MKY GI hrI rfl mY bYI .nil passF (pa_cons (pv 9) (pa_cons pe_dnewK pa_nil))) (nomark _)) (pv 15) (nomark _)) (pw_or1 (pt_cmpR op_eq (pe_cmpR (op_neO_own GE OY.eq OY.fn bE pass0 hrE5 OY.ne OY.ob) (pv 12) (pe_make MKY GI hrI rfl mY bYI .nil passF (pa_cons (pv 9) (pa_cons pe_dnewK pa_nil))) (nomark _)) (pv 15) (nomark _))))) (pss_one (ps_ret pe_bl)) pss_nil)
    (pss_cons (ps_set (i := 16) scRt.nd rfl (.inl rfl) (pe_makeK MKG GG hrGG rfl mG KB1 passF (pa_cons (pv 1) (pa_cons (pv 2) pa_nil)) (pk_cons (pe_ix ix_tup (pe_ix ix_list (pv 2) (pe_un un_neg pe_int) (fun _ _ => rfl)) pe_int (fun _ _ => rfl)) pk_nil)))
    (pss_cons (ps_set (i := 8) scRt.nd rfl (.inl rfl) (pe_ix ix_list (pe_callB (call_sortedD rfl) rfl mso (by decide +kernel) (pa_cons (pv 3) pa_nil)) pe_int (fun _ _ => rfl)))
    (pss_cons (ps_if (PW.pt (pw_or (pt_cmpR (op_eqO_own GE OY.eq OY.fn bE pass0 hrE) (pv 12) (pe_make MKY GI hrI rfl mY bYI .nil passF (pa_cons (pv 16) (pa_cons (pv 6) pa_nil))) (nomark _)) (pw_or (pt_cmpR (op_inO_own GE OY.eq OY.fn bE pass0 NS hrE5) (pv 12) (pe_lst (pa_cons pe_non (pa_cons pe_int (pa_cons (pv 6) (pa_cons (pv 8) pa_nil))))) rfl) (pw_or1 (pt_not (pt_cmpR (op_neO_own GE OY.eq OY.fn bE pass0 hrE5 OY.ne OY.ob) (pv 12) (pv 6) (nomark _))))))) (pss_one (ps_ret pe_bl)) pss_nil)
    (pss_one (ps_ret (pe_and (pe_call GL hrL rfl mL kL bL .nil pass0 (pa_cons (pv 12) (pa_cons (pe_ix ix_list (pe_lst (pa_cons pe_str (pa_cons pe_str (pa_cons pe_str pa_nil)))) (pe_call GD hrG rfl mD kD bD .nil pass0 (pa_cons (pv 0) (pa_cons pe_int pa_nil))) (fun _ _ => rfl)) pa_nil))) (pe_one (pe_cmpR (op_eqD hu64) (pe_meth (pv 12) clY MM GM hrM bM .nil pass0 (pa_cons (pv 8) pa_nil)) (pe_dget hu1 (pv 13) (pv 8) (fun _ _ => rfl)) (nomark _))))))))))) (fun D σ H h => ?_)
  obtain ⟨j, sa, sx, a, b, rd, nd, g, p, od, ks, rs, wk, kvs, ov, N, st, x4, x5, x7, x8, x10, x11, x14, x15, x16, Cj, rfl, R, hk, hr', hN, hRt, G, Nr, Nn, hst, L, LNr, eod, pO, nro, jr, hC, q⟩ := h
  have hsz : ∀ n, n ∈ N → n.2.2.length ≤ 1000 := fun n hn => Nat.le_trans (hN.len n hn) (by decide)
  have spl : ∀ x, (spelledP rs x).length ≤ 1000 := fun x => Nat.le_trans (hr'.spl x) (by decide)
  have few := hr'.few
  have llen : (labsOf rs).length ≤ 1000 := by omega
  obtain ⟨n2, n4⟩ := hr'.len
  obtain ⟨⟨hn0, as0⟩, rs0, ers⟩ : ∃ r0 t, rs = r0 :: t := by
    cases e : rs with
    | nil => rw [e] at n2; simp at n2
    | cons r t => exact ⟨r, t, rfl⟩
  have est : st = hn0 := hst _ _ _ ers
  have hs : st ∈ rs.map (·.1) := by rw [ers, est]; simp
  have W := hr'.low hk hs
  have sA : (decide (st = st) && sameP rs N []) = sameP rs N [] := by rw [decide_eq_true rfl, Bool.true_and]
  -- near
  refine ⟨rd, .dK wk, R.hrd, trivial, fun ob => ?_⟩
  have efr : (upd H rd (.frz ob (.dK wk))) rd = some (.frz ob (.dK wk)) := upd_same
  have eodL : (upd H rd (.frz ob (.dK wk))) od = some (.dK ov) := by rw [upd_ne (Ne.symm nro)]; exact eod
  have pOL := paired_imp (fun _ _ r => (⟨r.1, r.2.at R.hrd⟩ : NkV (upd H rd (.frz ob (.dK wk))) _ _)) pO
  have wkL := paired_imp (fun _ _ r => SpE.tk r (fun c zs q => (show (upd H rd (.frz ob (.dK wk))) c = _ by rw [upd_ne (fun z => by rw [z, R.hrd] at q; cases q)]; exact q))) R.hwk
  have back : ∀ H', Same (upd H rd (.frz ob (.dK wk))) H' → Same H (upd H' rd (.dK wk)) := fun H' s c u e => by
    by_cases z : c = rd
    · rw [z, upd_same, ← R.hrd, ← z]; exact e
    · rw [upd_ne z]; exact s _ _ (by rw [upd_ne z]; exact e)
  generalize upd H rd (.frz ob (.dK wk)) = HL at efr eodL pOL wkL back ⊢
  refine ⟨_, rfl, rd, ob, rfl, .inl ⟨wk, efr, fun D1 hD1 => ?_⟩⟩
  refine lc_it walk_keys (fun i H' => H' D1 = some (.lst ((((labsOf rs).take i).filter (pf rs N)).map V.str)) ∧ Same HL H') ⟨upd_same, same_new hD1 _⟩ (fun i H' _ h => h.2 _ _ efr) (fun i x H'' H' hi h z => ?turn1) (fun H' h => ?done1)
  case turn1 =>
    obtain ⟨f1, f4⟩ := h
    obtain ⟨rfl, k, v, hkv, rfl⟩ := z
    obtain ⟨l, rfl, hl⟩ := wk_key wkL hkv
    have hlm : l ∈ labsOf rs := List.mem_of_getElem? hl
    obtain ⟨u, hu, m0, rfl, hm0⟩ : ∃ u, valV ov (Sum.inr l : Key) = some u ∧ NtV H' u (owedP rs N l) := by
      rcases nts_at l pOL with ⟨n, u, e1, e2, e3⟩ | ⟨e1, _⟩
      · rw [show (owedL rs N).lookup l = some (owedP rs N l) from owedM_lookup rs N hlm] at e1
        cases e1
        exact ⟨u, e2, e3.same f4⟩
      · rw [show (owedL rs N).lookup l = some (owedP rs N l) from owedM_lookup rs N hlm] at e1; cases e1
    have hm := (owed_ok hRt l).2
    rw [(owed_ok hRt l).1, if_pos rfl] at hm0
    have gO : DGet H' od (.str l) (some (.ref m0)) := by rw [← hu]; exact DGet.k (k := Sum.inr l) (f4 _ _ eodL)
    refine ⟨rfl, ?_⟩
    refine ⟨_, rfl, _, rfl, od, _, rfl, gO, (by show 1 ≤ sizeLine; decide), fun t ht => ?_⟩
    have st1 := same_new ht (.tup [V.str "near"])
    have et : (upd H' t (.tup [V.str "near"])) t = some (.tup [V.str "near"]) := upd_same
    generalize upd H' t (.tup [V.str "near"]) = H2 at st1 et ⊢
    have gO2 : DGet H2 od (.str l) (some (.ref m0)) := by rw [← hu]; exact DGet.k (k := Sum.inr l) (st1 _ _ (f4 _ _ eodL))
    have lm : (owedP rs N l).2.length ≤ 1000 := by rw [owed_len hRt hlm]; have := spl l; omega
    refine ⟨_, rfl, _, rfl, od, _, rfl, gO2, m0, _, rfl, .inr (SqT.of (st1 _ _ hm0)), t, (owedP rs N l).2.length, _, rfl, by rw [List.length_map], et, by simp, by omega, by decide, fun z H3 s3 ez => ?_⟩
    rw [rep_near] at ez
    refine ⟨marksD (owedP rs N l).2, marksD (List.replicate (owedP rs N l).2.length ("near" : Str)), .tup (SqT.of (s3 _ _ (st1 _ _ hm0))) (DpAll.strs _), .tup (SqT.of ez) (DpAll.strs _), marksD_shaped hm, marksD_shaped (fun m h => by rw [(List.mem_replicate.mp h).2]; decide), _, rfl, ?_⟩
    rw [marksD_eqv]
    have hpf : (!decide ((owedP rs N l).2 = List.replicate (owedP rs N l).2.length ("near" : Str))) = pf rs N l := rfl
    rw [hpf]
    have f1' := s3 _ _ (st1 _ _ f1)
    have f4' := f4.trans (st1.trans s3)
    have eft : ((labsOf rs).take (i + 1)).filter (pf rs N) = ((labsOf rs).take i).filter (pf rs N) ++ [l].filter (pf rs N) := by rw [List.take_add_one, hl, Option.toList_some, List.filter_append]
    have hle : (((labsOf rs).take i).filter (pf rs N)).length ≤ 16 := Nat.le_trans (List.length_filter_le _ _) (by rw [List.length_take]; omega)
    cases hp : pf rs N l with
    | true =>
      simp only [↓reduceIte]
      refine ⟨_, rfl, _, f1', by rw [List.length_map, sizeLine_eq]; omega, ?_, same_upd f4' hD1⟩
      rw [eft, upd_same, List.map_append, List.filter_cons_of_pos hp]; rfl
    | false =>
      simp only [Bool.false_eq_true, ↓reduceIte]
      refine ⟨?_, f4'⟩
      rw [eft, List.filter_cons_of_neg (by rw [hp]; decide), List.filter_nil, List.append_nil]
      exact f1'
  obtain ⟨f1, f4⟩ := h
  have lw : wk.length = (labsOf rs).length := by rw [wkL.length, List.length_map]
  rw [lw, List.take_length] at f1
  refine ⟨f4 _ _ efr, ?_⟩
  have s1 := back _ f4
  have D1r : D1 ≠ rd := fun z => by rw [z, efr] at hD1; cases hD1
  have f2 : (upd H' rd (.dK wk)) D1 = some (.lst (((labsOf rs).filter (pf rs N)).map V.str)) := by rw [upd_ne D1r]; exact f1
  generalize upd H' rd (.dK wk) = H1 at s1 f2 ⊢
  refine ⟨(by show 0 ≤ sizeLine; decide), fun ne hne => ⟨D1, ne, _, rfl, rfl, same_new hne _ _ _ f2, upd_same, ?_⟩⟩
  have s2 := s1.trans (same_new hne (.lst []))
  generalize upd H1 ne (.lst []) = H2 at s2 ⊢
  show gName 15 (.bl (((labsOf rs).filter (pf rs N)).map V.str).isEmpty) _ _ _
  rw [near_eq hRt]
  have R2 := R.same s2
  have G2 := G.same s2
  have L2' := L.same s2
  have eod2 := s2 _ _ eod
  have pO2 := paired_imp (fun _ _ r => NkV.same r s2) pO
  have jr2 := jr.keep s2
  obtain ⟨gx, gfs, hg⟩ := G.ex
  obtain ⟨px, pfs, hp⟩ := L.ex
  have Nn2 := Nn.same hg s2
  clear s1 f1 f2 f4 back efr eodL pOL wkL hD1 hne
  refine gname_to (σ' := [some (.ref j), some (.ref a), some (.ref b), some (.ref rd), x4, x5, some (.ref nd), x7, x8, some (.ref g), x10, x11, some (.ref p), some (.ref od), x14, some (.bl (sameP rs N [])), x16]) rfl ?_
  replace hg := s2 _ _ hg
  replace hp := s2 _ _ hp
  clear R G L eod pO jr Nn Nr LNr s2
  -- against a layout of no marks, twice
  have hRt0 : RtN rs [] := fun n hn => by cases hn
  refine ⟨_, rfl, _, rfl, fun d1 hd1 => ?_⟩
  have s3 := same_new hd1 (.dK [])
  have e3 : (upd H2 d1 (.dK [])) d1 = some (.dK []) := upd_same
  have G3 := G2.same s3
  have N3 := G2.newN hd1 s3
  have L3 := L2'.same s3
  have hp3 := s3 _ _ hp
  generalize upd H2 d1 (.dK []) = H3 at s3 e3 G3 N3 L3 hp3 ⊢
  refine mk_lay G3 N3 e3 .nil (fun n hn => by cases hn) hRt0 (fun y1 H4 s4 _ L4 _ => ?_)
  obtain ⟨yx, yfs, hy⟩ := L4.ex
  refine ⟨p, px, pfs, rfl, s4 _ _ hp3, .inl ⟨y1, yx, yfs, rfl, hy⟩, p, _, rfl, .inl ⟨y1, g, g, ks, rs, st, st, N, [], rfl, L3.same s4, L4, G3.same s4, G3.same s4, W, W, spl, llen, hRt, hRt0, fun H5 s5 => ⟨_, rfl, ?_⟩⟩⟩
  rw [sA]
  have s35 := s3.trans (s4.trans s5)
  have G5 := G2.same s35
  have L5 := L2'.same s35
  have hp5 := s35 _ _ hp
  clear L4 hy s4 s5 G3 N3 L3 e3 hp3 s3
  refine ⟨_, rfl, rfl, _, rfl, ?_⟩
  simp only [Bool.false_eq_true, ↓reduceIte]
  refine ifF (by simp) ?_
  refine ⟨_, rfl, _, rfl, fun d2 hd2 => ?_⟩
  have s6 := same_new hd2 (.dK [])
  have e6 : (upd H5 d2 (.dK [])) d2 = some (.dK []) := upd_same
  have G6 := G5.same s6
  have N6 := G5.newN hd2 s6
  have L6 := L5.same s6
  have hp6 := s6 _ _ hp5
  generalize upd H5 d2 (.dK []) = H6 at s6 e6 G6 N6 L6 hp6 ⊢
  refine mk_lay G6 N6 e6 .nil (fun n hn => by cases hn) hRt0 (fun y2 H7 s7 _ L7 _ => ?_)
  obtain ⟨yx, yfs, hy⟩ := L7.ex
  refine ⟨p, px, pfs, rfl, s7 _ _ hp6, .inl ⟨y2, yx, yfs, rfl, hy⟩, p, _, rfl, .inl ⟨y2, g, g, ks, rs, st, st, N, [], rfl, L6.same s7, L7, G6.same s7, G6.same s7, W, W, spl, llen, hRt, hRt0, fun H8 s8 => ⟨_, rfl, ?_⟩⟩⟩
  rw [sA]
  have s28 := s35.trans (s6.trans (s7.trans s8))
  have R8 := R2.same s28
  have G8 := G2.same s28
  have L8 := L2'.same s28
  have eod8 := s28 _ _ eod2
  have pO8 := paired_imp (fun _ _ r => NkV.same r s28) pO2
  have jr8 := jr2.keep s28
  have Nn8 := Nn2.same hg s28
  replace hp := s28 _ _ hp
  clear L7 hy s7 s8 G6 N6 L6 e6 hp6 s6 G5 L5 hp5 R2 G2 L2' eod2 pO2 jr2 Nn2 hg s28 s35
  refine ⟨_, rfl, rfl, _, rfl, ?_⟩
  simp only [↓reduceIte]
  refine ifF (by cases sameP rs N [] <;> rfl) ?_
  -- another beginning
  obtain ⟨ys, hys, pys⟩ := R8.rl
  have ly := pys.length
  have hlast : rs.length - 1 < rs.length := by omega
  obtain ⟨⟨st2, as2⟩, hr2, ra2, rb2, xs2, e2v, g21, _⟩ := paired_get pys (rs.length - 1) _ (List.getElem?_eq_getElem (show rs.length - 1 < ys.length by omega))
  have hs2 : st2 ∈ rs.map (·.1) := List.mem_map.mpr ⟨(st2, as2), List.mem_of_getElem? hr2, rfl⟩
  have hne : st ≠ st2 := fun e => by
    have nd := hr'.nodup
    have h0 : (rs.map (·.1))[0]? = some st := by rw [ers, est]; rfl
    have h1 : (rs.map (·.1))[rs.length - 1]? = some st2 := by rw [List.getElem?_map, hr2]; rfl
    rw [← e] at h1
    have l0 : 0 < (rs.map (·.1)).length := by rw [List.length_map]; omega
    have l1 : rs.length - 1 < (rs.map (·.1)).length := by rw [List.length_map]; omega
    have := (List.getElem_inj (h₀ := l0) (h₁ := l1) nd).mp ((Option.some.inj ((List.getElem?_eq_getElem l0).symm.trans h0)).trans (Option.some.inj ((List.getElem?_eq_getElem l1).symm.trans h1)).symm)
    omega
  have W2 := hr'.low hk hs2
  have hneg : atI ys (-1) = some (.ref ra2) := by
    rw [← e2v]
    unfold atI ixN
    have : ¬ (0 : Int) ≤ -1 := by omega
    rw [if_neg this, if_pos (by omega)]
    show ys[((ys.length : Nat) + (-1 : Int)).toNat]? = _
    rw [show ((ys.length : Nat) + (-1 : Int)).toNat = rs.length - 1 by omega]
    exact List.getElem?_eq_getElem (show rs.length - 1 < ys.length by omega)
  refine ⟨_, rfl, _, rfl, _, rfl, _, rfl, b, ys, _, _, rfl, rfl, SqL.of hys, hneg, ra2, _, _, _, rfl, rfl, SqT.of g21, rfl, rfl, rfl, ?_⟩
  refine mk_gr R8.kl R8.rl hk hr' hs2 hdt (.inl rfl) (fun og H9 s9 _ G9 GN9 => ?_)
  refine gname_to (σ' := [some (.ref j), some (.ref a), some (.ref b), some (.ref rd), x4, x5, some (.ref nd), x7, x8, some (.ref g), x10, x11, some (.ref p), some (.ref od), x14, some (.bl (sameP rs N [])), some (.ref og)]) rfl ?_
  have GNn := GN9 nd (by rw [R8.hnd]; exact fun z => by cases z)
  -- the first label
  have R9 := R8.same s9
  refine ⟨_, rfl, rd, wk, labsOf rs, rfl, .inl R9.hrd, spe_keysC R9.hwk, by omega, fun zs pz perm _ hpz => ?_⟩
  have lz := perm.length_eq
  have lpos : 0 < (labsOf rs).length := by
    have h1 := (hr'.rows _ (List.mem_of_getElem? (show rs[0]? = some (hn0, as0) by rw [ers]; rfl))).1
    have : as0 ≠ [] := h1
    cases as0 with
    | nil => exact absurd rfl this
    | cons x xs => rw [ers]; show 0 < ((x :: xs ++ altsOf rs0).map (·.1)).length; simp
  obtain ⟨tag, zs', ezs⟩ : ∃ t u, zs = t :: u := by
    cases e : zs with
    | nil => rw [e] at lz; rw [← lz] at lpos; exact absurd lpos (Nat.lt_irrefl 0)
    | cons t u => exact ⟨t, u, rfl⟩
  have htag : tag ∈ labsOf rs := perm.subset (by rw [ezs]; exact List.mem_cons_self)
  have s10 := same_new hpz (.lst (zs.map V.str))
  have epz : (upd H9 pz (.lst (zs.map V.str))) pz = some (.lst (zs.map V.str)) := upd_same
  have s810 := s9.trans s10
  generalize upd H9 pz (.lst (zs.map V.str)) = H10 at s10 epz s810 ⊢
  have R10 := R8.same s810
  have G10 := G8.same s810
  have L10 := L8.same s810
  have eod10 := s810 _ _ eod8
  have pO10 := paired_imp (fun _ _ r => NkV.same r s810) pO8
  have jr10 := jr8.keep s810
  have Go := G9.same s10
  obtain ⟨ogx, ogfs, hog⟩ := G9.ex
  have GNo := GNn.same hog s10
  replace hp := s810 _ _ hp
  refine ⟨pz, _, 0, .str tag, rfl, rfl, SqL.of epz, by rw [ezs, List.map_cons]; exact at_zero, ?_⟩
  refine gname_to (σ' := [some (.ref j), some (.ref a), some (.ref b), some (.ref rd), x4, x5, some (.ref nd), x7, some (.str tag), some (.ref g), x10, x11, some (.ref p), some (.ref od), x14, some (.bl (sameP rs N [])), some (.ref og)]) rfl ?_
  clear R8 G8 L8 eod8 pO8 jr8 R9 G9 GN9 GNn s9 s10 s810 epz hpz hog Nn8 pys hys g21
  -- unlike
  refine ⟨_, rfl, _, rfl, _, rfl, ?_⟩
  refine mk_lay Go GNo R10.hnd R10.hpn hsz hRt (fun y3 H11 s11 _ L11 _ => ?_)
  obtain ⟨yx, yfs, hy⟩ := L11.ex
  refine ⟨p, px, pfs, rfl, s11 _ _ hp, .inl ⟨y3, yx, yfs, rfl, hy⟩, p, _, rfl, .inl ⟨y3, g, og, ks, rs, st, st2, N, N, rfl, L10.same s11, L11, G10.same s11, Go.same s11, W, W2, spl, llen, hRt, hRt, fun H12 s12 => ⟨_, rfl, ?_⟩⟩⟩
  rw [show (decide (st = st2) && sameP rs N N) = false from by rw [decide_eq_false hne]; rfl]
  have s112 := s11.trans s12
  refine ⟨_, rfl, ?_⟩
  simp only [Bool.false_eq_true, ↓reduceIte]
  refine ⟨_, rfl, _, rfl, _, rfl, (by show 4 ≤ sizeLine; decide), fun l13 h13 => ?_⟩
  have s13 := s112.trans (same_new h13 (.lst [V.non, .int 7, .ref nd, .str tag]))
  have e13 : (upd H12 l13 (.lst [V.non, .int 7, .ref nd, .str tag])) l13 = some (.lst [V.non, .int 7, .ref nd, .str tag]) := upd_same
  generalize upd H12 l13 (.lst [V.non, .int 7, .ref nd, .str tag]) = H13 at s13 e13 ⊢
  have nd13 := s13 _ _ R10.hnd
  have p13 := s13 _ _ hp
  refine ⟨p, px, l13, pfs, [V.non, .int 7, .ref nd, .str tag], fun H' => H' = H13, rfl, rfl, rfl, fun H' e => ?_, fun H' z e hz => ?_, fun H' e => ?_⟩
  · subst e
    refine ⟨p13, SqL.of e13, fun z hz => ?_⟩
    simp only [List.mem_cons, List.not_mem_nil, or_false] at hz
    rcases hz with rfl | rfl | rfl | rfl
    · exact .inl rfl
    · exact .inr (.inl ⟨_, rfl⟩)
    · exact .inr (.inr (.inr ⟨_, _, rfl, nd13⟩))
    · exact .inr (.inr (.inl ⟨_, rfl⟩))
  · subst e
    simp only [List.mem_cons, List.not_mem_nil, or_false] at hz
    rcases hz with rfl | rfl | rfl | rfl
    · exact ⟨p, _, rfl, .inr ⟨_, .base .non, NK.n, false, rfl, rfl, rfl⟩⟩
    · exact ⟨p, _, rfl, .inr ⟨_, .base (.int _), NK.i, false, rfl, rfl, rfl⟩⟩
    · exact ⟨p, _, rfl, .inr ⟨_, .base (.dK nd13), NK.d, false, rfl, rfl, rfl⟩⟩
    · exact ⟨p, _, rfl, .inr ⟨_, .base (.str _), NK.s, false, rfl, rfl, rfl⟩⟩
  subst e
  refine ⟨_, rfl, ?_⟩
  simp only [Bool.false_eq_true, ↓reduceIte]
  refine ⟨_, rfl, _, rfl, p, px, pfs, rfl, p13, .inr ⟨nd, rfl, NK.sd, _, nd13⟩, p, _, rfl, .inr ⟨_, .base (.dK nd13), NK.d, false, rfl, ?_⟩⟩
  refine ⟨_, rfl, ?_⟩
  simp only [Bool.not_false, Bool.not_true, Bool.false_eq_true, ↓reduceIte]
  -- the end
  have R13 := R10.same s13
  have G13 := G10.same s13
  have L13 := L10.same s13
  have eod13 := s13 _ _ eod10
  have pO13 := paired_imp (fun _ _ r => NkV.same r s13) pO10
  have jr13 := jr10.keep s13
  clear R10 G10 L10 eod10 pO10 jr10 L11 hy Go GNo s11 s12 s112 nd13
  refine ⟨_, rfl, (by show 3 ≤ sizeLine; decide), fun l14 h14 => ?_⟩
  have s14 := same_new h14 (.lst [V.str "zz", .str "", .str "head"])
  have e14 : (upd H' l14 (.lst [V.str "zz", .str "", .str "head"])) l14 = some (.lst ((["zz", "", "head"] : List Str).map V.str)) := upd_same
  have l14j := jr13.ne h14
  have R14 := R13.same s14
  have G14 := G13.same s14
  have L14 := L13.same s14
  have eod14 := s14 _ _ eod13
  have pO14 := paired_imp (fun _ _ r => NkV.same r s14) pO13
  have jr14 := jr13.keep s14
  have hp14 := s14 _ _ p13
  generalize upd H' l14 (.lst [V.str "zz", .str "", .str "head"]) = H14 at e14 R14 G14 L14 eod14 pO14 jr14 hp14 ⊢
  refine ⟨_, rfl, j, Cj, 3, rfl, jr14, by omega, by decide, by decide, fun z H15 z0 z1 jr15 kp15 => ?_⟩
  obtain ⟨v, hv1, _⟩ := at_in (l := (["zz", "", "head"] : List Str).map V.str) z0 z1
  obtain ⟨x, hx, rfl⟩ := str_at hv1
  have hxl : x ∉ labsOf rs := fun m => by
    rw [hr'.labs] at m
    obtain ⟨i, hi, e⟩ := List.mem_map.mp m
    exact no_lab x hx i (by have := List.mem_range.mp hi; omega) e
  have hxn : N.lookup x = none := by
    cases e : N.lookup x with
    | none => rfl
    | some n => exact absurd (right_parts (hRt _ (lk_mem e))).1 hxl
  have pj : ∀ {c u}, H14 c = some u → (∀ xs, u ≠ .lst xs) → c ≠ j := fun e ne z => by obtain ⟨_, _, _, e2, _⟩ := jr14; rw [z, e2] at e; exact ne _ (Option.some.inj e).symm
  refine ⟨l14, _, _, .str x, rfl, rfl, SqL.of (kp15 _ _ l14j e14), hv1, p, g, ks, rs, [], st, N, x, rfl, L14.keep jr14 kp15, G14.keep jr14 kp15, hxn, hxl, fun H16 s16 => ⟨_, rfl, iteT ?_⟩⟩
  have L16 := (L14.keep jr14 kp15).same s16
  have G16 := (G14.keep jr14 kp15).same s16
  have eod16 := s16 _ _ (kp15 _ _ (pj eod14 (fun _ h => by cases h)) eod14)
  have pO16 := paired_imp (fun _ _ r => (NkV.keep r jr14 kp15).same s16) pO14
  have hp16 := s16 _ _ (kp15 _ _ (pj hp14 (fun _ h => by cases h)) hp14)
  obtain ⟨dx, m, jvs, fs, h1, h2, h3, h4, h5, h6, h7⟩ := id L16
  refine ⟨_, rfl, p, dx, fs, rfl, h1, h4, _, rfl, p, g, ks, rs, [], st, N, tag, rfl, L16, G16, spl tag, htag, fun v H17 s17 nt => ?_⟩
  obtain ⟨u, hu, nu⟩ : ∃ u, valV ov (Sum.inr tag : Key) = some u ∧ NtV H17 u (owedP rs N tag) := by
    rcases nts_at tag pO16 with ⟨n, u, e1, e2, e3⟩ | ⟨e1, _⟩
    · rw [show (owedL rs N).lookup tag = some (owedP rs N tag) from owedM_lookup rs N htag] at e1
      cases e1
      exact ⟨u, e2, e3.same s17⟩
    · rw [show (owedL rs N).lookup tag = some (owedP rs N tag) from owedM_lookup rs N htag] at e1; cases e1
  obtain ⟨d, e, dd, de, sd, se, ee⟩ := nt_eqd (K := K) nt nu (owed_ok hRt tag).1 (owed_ok hRt tag).2
  refine ⟨_, rfl, _, rfl, od, _, rfl, by rw [← hu]; exact DGet.k (k := Sum.inr tag) (s17 _ _ eod16), d, e, dd, de, sd, se, ?_⟩
  rw [ee]
  exact q H17 (((R14.keep jr14 kp15).same s16).same s17).z
end
end Pa
set_option maxHeartbeats 4000000
namespace Pa
open PySem PySem.Spec PyProof.Rows L2 Ty Se Sv
/-! ### _law_right, from told on -/
theorem am_pairs {K : PySem.W.Frag} {H : Hp} {rs : Rls} {N : Nts} (hN : RtN rs N) : ∀ {acc : List V} {l : List Str}, Paired (AmV rs N H) acc l → ∃ (ps : List Addr) (kvs : List (Key × V)), acc = ps.map V.ref ∧ Paired (fun p kv => SqT K H p [kV kv.1, kv.2]) ps kvs ∧ Paired (NkV H) kvs (owedM rs N l)
  | _, _, .nil => ⟨[], [], rfl, .nil, .nil⟩
  | _, _, .cons (b := x) h t => by
    obtain ⟨ps, kvs, e, h1, h2⟩ := am_pairs (K := K) hN t
    obtain ⟨a, m, rfl, g1, g2⟩ := h
    exact ⟨a :: ps, (Sum.inr x, .ref m) :: kvs, by rw [e]; rfl, .cons (SqT.of g1) h1, .cons ⟨rfl, m, rfl, by rw [(owed_ok hN x).1]; exact g2⟩ h2⟩
theorem owedM_keys (rs : Rls) (N : Nts) (l : List Str) : (owedM rs N l).map (·.1) = l := by
  unfold owedM
  rw [List.map_map]
  exact List.map_id' _
def tRC (K : PySem.W.Frag) (C : Addr) : TS := fun D σ H => ∃ (j sa : Addr) (sx : List V) (a b rd nd g : Addr) (ks : Kds) (rs : Rls) (wk kvs : List (Key × V)) (N : Nts) (st : Str) (x4 x5 x7 x8 x10 x11 x12 x13 x14 x15 x16 : Option V) (Cj : Nat), σ = [some (.ref j), some (.ref a), some (.ref b), some (.ref rd), x4, x5, some (.ref nd), x7, x8, some (.ref g), x10, x11, x12, x13, x14, x15, x16] ∧
  RS K j sa sx a b rd nd ks rs wk kvs N H ∧ KsG ks ∧ RsOk ks rs ∧ NtsG 19 26 N ∧ RtN rs N ∧ GrS K C H g ks rs [] st ∧ GrN C H g rd ∧ GrN C H g nd ∧ (∀ n as t, rs = (n, as) :: t → st = n) ∧
  Jar j H Cj ∧ Cj ≤ 999990000 ∧ ∀ H', Scr K j sa sx H' → D.rt (.bl true) H'
section
variable {P : Program} {w : World} {K : PySem.W.Frag} {mg : Str → Option Value} {base : Heap} {f C CY CL CN dt fYI fM fE fGI fL fDip : Addr} {dYI dM dE dGI dL dDip : FuncData}
theorem right_c (GI : FnOk P w K mg base (L2.CX P w) 3 fYI dYI ["self", "grammar", "marks"] (spYInit K C CY CL)) (bYI : L2.Binds K dYI ["self", "grammar", "marks"] []) (MKY : L2.Mk K CY fYI) (mY : mg "Layout" = some (.ref CY))
    (GM : FnOk P w K mg base CX0 2 fM dM ["self", "label"] (spMarksOf K C CY)) (bM : L2.Binds K dM ["self", "label"] []) (MM : Meth K CY "marks_of" fM) (clY : Cls K CY)
    (GE : FnOk P w K mg base CX0 4 fE dE ["self", "other"] (spYEq K C CY)) (bE : L2.Binds K dE ["self", "other"] []) (OY : OwC K CY fE) (NS : NoSub K CY) (NK : NoKit K CY)
    (GG : FnOk P w K mg base (L2.CX P w) 17 fGI dGI ["self", "kinds", "rules", "begin", "bars"] (spGInit K 4 C CN)) (FD : GInitD K dt fGI dGI) (MKG : L2.Mk K C fGI) (mG : mg "Grammar" = some (.ref C)) (hdt : ∀ H, SqT K H dt [])
    (GL : FnOk P w K mg base CX0 5 fL dL ["plan", "text"] (spNoLab K C CY)) (bL : L2.Binds K dL ["plan", "text"] []) (kL : PySem.W.keepIn K (.ref fL) = true) (mL : mg "_law_no_label" = some (.ref fL))
    (GD : FnOk P w K mg base CX0 1 fDip dDip ["jar", "many"] spDrawn) (bD : L2.Binds K dDip ["jar", "many"] []) (kD : PySem.W.keepIn K (.ref fDip) = true) (mD : mg "_law_dip" = some (.ref fDip))
    (ml : mg "len" = none) (mso : mg "sorted" = none) (md : mg "dict" = none) (mx : mg "max" = none)
    {cdv : Value} {A : Around} {outer : List Env} {s0 : Shared} {H0 : Hp} {E : XK} (hr : Room 20 (A.deeper (envOfC "_law_right" (defScope lRight) s0.heap.objs.size f cdv))) (hu70 : (A.deeper (envOfC "_law_right" (defScope lRight) s0.heap.objs.size f cdv)).units + 70 < cLine) :
    PSs (cxOf CX0 P w K mg base nRt "_law_right" (defScope lRight) f cdv A outer s0 H0 E).nox ((defBody lRight).drop 10) (tRC K C) := by
  have hu64 := hr.units
  have hu1 := hu_of hr
  have hrI := hr.mono (show 3 + 1 ≤ 20 by decide)
  have hrE := hr.mono (show 4 ≤ 20 by decide)
  have hrE5 := hr.mono (show 4 + 1 ≤ 20 by decide)
  have hrGG := hr.mono (show 17 + 1 ≤ 20 by decide)
  have hrM := hr.mono (show 2 ≤ 20 by decide)
  obtain ⟨ds1, hds, bG⟩ := ginit_dfl FD
  refine pss_imp (pss_cons (ps_set (i := 11) scRt.nd rfl (.inl rfl) (pe_callTy call_dictD rfl md (by decide +kernel) (pa_cons (pv 6) pa_nil)))
    (pss_cons (ps_set (i := 12) scRt.nd rfl (.inr rfl) (pe_make MKY GI hrI rfl mY bYI .nil passF (pa_cons (pv 9) (pa_cons (pv 11) pa_nil))))
    (pss_cons (ps_expr (pe_dclear (pv 11)))
    (pss_cons (ps_set (i := 13) scRt.nd rfl (.inr rfl) pe_dnewK)
    (pss_cons (ps_lock (ps_for PassesOwn.never rfl (pi_keys (pv 3)) (pg_name (i := 8) scRt.nd rfl (Or.inl rfl)) (pss_one (ps_dput hu1 (pv 13) (pv 8) (pe_dget2 hu1 (pv 6) (pv 8) (pe_op (show OpR _ (binaryOp .Mult) rRepN from op_repN) (pe_tup (pa_cons pe_str pa_nil)) (pe_callB (call_max2 rfl) rfl mx (by decide +kernel) (pa_cons pe_int (pa_cons (pe_op op_sub (pe_callB (show CallR _ _ (fun xs H Q => ∃ p ys, xs = [V.ref p] ∧ (SqL K H p ys ∨ SqT K H p ys) ∧ Q (V.int (ys.length : Nat)) H) from call_len_seq) rfl ml PySem.boot_len (pa_cons (pe_dget hu1 (pv 3) (pv 8) (fun _ _ => rfl)) pa_nil)) pe_int) pa_nil)))) ⟨rfl, rfl, rfl, rfl⟩) rfl))))
    (pss_cons (ps_set (i := 14) scRt.nd rfl (.inl rfl) (pe_callTy (call_dictP rfl) rfl md (by decide +kernel) (pa_cons (pe_lock (pe_lc (own := [("tag", 8)]) (g := gName 8) (tt := tYes) rfl scRt.nd (pi_keys (pv 3)) (blkOk_by (N := nRt) (sc := defScope lRight) (by decide +kernel)) (fun _ _ _ _ _ => pg_name (i := 8) scRt.nd rfl (Or.inl rfl)) (fun _ _ _ _ _ => pts_nil) (fun _ _ _ _ _ => pe_tup (pa_cons (pv 8) (pa_cons (pe_meth (pv 12) clY MM GM hrM bM .nil pass0 (pa_cons (pv 8) pa_nil)) pa_nil))))) pa_nil)))
    (pss_cons (ps_if (PW.pt (pw_or (pt_cmpR (op_neSD hu70) (pv 14) (pv 13) (nomark _)) (pw_or (pt_not (pt_cmpR (op_eqO_own GE OY.eq OY.fn bE pass0 hrE) (pv 12) (pe_make MKY GI hrI rfl mY bYI .nil passF (pa_cons (pv 9) (pa_cons (pv 13) pa_nil))) (nomark _))) (pw_or1 (pt_cmpR (op_neO_own GE OY.eq OY.fn bE pass0 hrE5 OY.ne OY.ob) (pv 12) (pe_make MKY GI hrI rfl mY bYI .nil passF (pa_cons (pe_make MKG GG hrGG rfl mG bG hds passF (pa_cons (pv 1) (pa_cons (pv 2) pa_nil))) (pa_cons (pv 6) pa_nil))) (nomark _)))))) (pss_one (ps_ret pe_bl)) pss_nil)
    (right_d GI bYI MKY mY GM bM MM clY GE bE OY NS NK GG FD MKG mG hdt GL bL kL mL GD bD kD mD ml mso hr)))))))) (fun D σ H h => ?_)
  obtain ⟨j, sa, sx, a, b, rd, nd, g, ks, rs, wk, kvs, N, st, x4, x5, x7, x8, x10, x11, x12, x13, x14, x15, x16, Cj, rfl, R, hk, hr', hN, hRt, G, Nr, Nn, hst, jr, hC, q⟩ := h
  have hsz : ∀ n, n ∈ N → n.2.2.length ≤ 1000 := fun n hn => Nat.le_trans (hN.len n hn) (by decide)
  have spl : ∀ x, (spelledP rs x).length ≤ 1000 := fun x => Nat.le_trans (hr'.spl x) (by decide)
  have few := hr'.few
  have llen : (labsOf rs).length ≤ 1000 := by omega
  obtain ⟨n2, n4⟩ := hr'.len
  have hs : st ∈ rs.map (·.1) := by
    cases e : rs with
    | nil => rw [e] at n2; simp at n2
    | cons r t =>
      obtain ⟨n, as⟩ := r
      rw [hst _ _ _ e]; simp
  have W := hr'.low hk hs
  -- told, plan
  refine ⟨_, rfl, nd, kvs, rfl, .inl R.hnd, fun td htd => ?_⟩
  have s1 := same_new htd (.dK kvs)
  have e1 : (upd H td (.dK kvs)) td = some (.dK kvs) := upd_same
  have tdrd : rd ≠ td := fun z => by rw [← z, R.hrd] at htd; cases htd
  have tdnd : nd ≠ td := fun z => by rw [← z, R.hnd] at htd; cases htd
  have tdj := jr.ne htd
  have R1 := R.same s1
  have G1 := G.same s1
  have N1 := G.newN htd s1
  obtain ⟨gx, gfs, hg⟩ := G.ex
  have Nr1 := Nr.same hg s1
  have Nn1 := Nn.same hg s1
  have jr1 := jr.keep s1
  replace hg := s1 _ _ hg
  generalize upd H td (.dK kvs) = H1 at s1 e1 R1 G1 N1 Nr1 Nn1 jr1 hg ⊢
  refine gname_to (σ' := [some (.ref j), some (.ref a), some (.ref b), some (.ref rd), x4, x5, some (.ref nd), x7, x8, some (.ref g), x10, some (.ref td), x12, x13, x14, x15, x16]) rfl ?_
  refine ⟨_, rfl, _, rfl, ?_⟩
  refine mk_lay G1 N1 e1 R1.hpn hsz hRt (fun p H2 s2 hpn L LN => ?_)
  refine gname_to (σ' := [some (.ref j), some (.ref a), some (.ref b), some (.ref rd), x4, x5, some (.ref nd), x7, x8, some (.ref g), x10, some (.ref td), some (.ref p), x13, x14, x15, x16]) rfl ?_
  have LNtd := LN td (by rw [e1]; exact fun z => by cases z)
  have LNrd := LN rd (by rw [R1.hrd]; exact fun z => by cases z)
  have e2 := s2 _ _ e1
  have R2 := R1.same s2
  have G2 := G1.same s2
  have Nt2 := N1.same hg s2
  have Nr2 := Nr1.same hg s2
  have Nn2 := Nn1.same hg s2
  have jr2 := jr1.keep s2
  replace hg := s2 _ _ hg
  obtain ⟨px, pfs, hp⟩ := L.ex
  have gtd : g ≠ td := fun z => by rw [z, e2] at hg; cases hg
  have ptd : p ≠ td := fun z => by rw [z, e2] at hp; cases hp
  -- told.clear()
  refine ⟨_, rfl, .inr (.inr (.inl ⟨rfl, .inl ⟨_, e2⟩⟩)), td, kvs, rfl, rfl, e2, ?_⟩
  have R3 := R2.updD e2 tdrd tdnd (.dK [])
  have G3 := G2.frz Nt2 e2 (.dK [])
  have L3 := L.upd LNtd e2 (.dK [])
  have jr3 : Jar j (upd H2 td (.dK [])) Cj := jr2.upd tdj
  have Nr3 := Nr2.upd gtd (.dK [])
  have Nn3 := Nn2.upd gtd (.dK [])
  have Lr3 := LNrd.upd ptd (.dK [])
  replace hg : (upd H2 td (.dK [])) g = _ := (upd_ne gtd).trans hg
  replace hp : (upd H2 td (.dK [])) p = _ := (upd_ne ptd).trans hp
  generalize upd H2 td (.dK []) = H3 at R3 G3 L3 jr3 Nr3 Nn3 Lr3 hg hp ⊢
  clear R2 G2 Nt2 Nr2 Nn2 jr2 e2 L LN LNtd LNrd R1 G1 N1 Nr1 Nn1 jr1 e1 s1 s2 R G Nr Nn jr hpn
  -- owed
  refine fun od hod => ?_
  have s4 := same_new hod (.dK [])
  have e4 : (upd H3 od (.dK [])) od = some (.dK []) := upd_same
  have nro : rd ≠ od := fun z => by rw [← z, R3.hrd] at hod; cases hod
  have odj := jr3.ne hod
  refine gname_to (σ' := [some (.ref j), some (.ref a), some (.ref b), some (.ref rd), x4, x5, some (.ref nd), x7, x8, some (.ref g), x10, some (.ref td), some (.ref p), some (.ref od), x14, x15, x16]) rfl ?_
  have R4 := R3.same s4
  generalize upd H3 od (.dK []) = H4 at s4 e4 R4 ⊢
  have odnd : nd ≠ od := fun z => by rw [← z, R3.hnd] at hod; cases hod
  refine ⟨rd, .dK wk, R4.hrd, trivial, fun ob => ?_⟩
  have efr : (upd H4 rd (.frz ob (.dK wk))) rd = some (.frz ob (.dK wk)) := upd_same
  have eL : (upd H4 rd (.frz ob (.dK wk))) od = some (.dK []) := by rw [upd_ne (Ne.symm nro)]; exact e4
  have ndL : (upd H4 rd (.frz ob (.dK wk))) nd = some (.dK kvs) := by rw [upd_ne (Ne.symm R4.ne)]; exact R4.hnd
  have pnL := paired_imp (fun _ _ r => (⟨r.1, r.2.at R4.hrd⟩ : NkV (upd H4 rd (.frz ob (.dK wk))) _ _)) R4.hpn
  have wkL := paired_imp (fun _ _ r => SpE.tk r (fun c zs q => (show (upd H4 rd (.frz ob (.dK wk))) c = _ by rw [upd_ne (fun z => by rw [z, R4.hrd] at q; cases q)]; exact q))) R4.hwk
  have back : ∀ H', KX [od] (upd H4 rd (.frz ob (.dK wk))) H' → Same H3 (upd H' rd (.dK wk)) := fun H' s c u e => by
    by_cases z : c = rd
    · rw [z, upd_same, ← R3.hrd, ← z]; exact e
    · rw [upd_ne z]
      exact s _ _ (fun m => by rw [List.mem_singleton.mp m, hod] at e; cases e) (by rw [upd_ne z]; exact s4 _ _ e)
  generalize upd H4 rd (.frz ob (.dK wk)) = HL at efr eL ndL pnL wkL back ⊢
  refine ⟨_, rfl, rd, ob, rfl, .inl ⟨wk, efr, ?_⟩⟩
  have rdX : rd ∉ [od] := by simp [nro]
  have ndX : nd ∉ [od] := by simp [odnd]
  refine for_it walk_keys (fun i σ H' => ∃ (x8 : Option V) (ov : List (Key × V)), σ = [some (.ref j), some (.ref a), some (.ref b), some (.ref rd), x4, x5, some (.ref nd), x7, x8, some (.ref g), x10, some (.ref td), some (.ref p), some (.ref od), x14, x15, x16] ∧ H' od = some (.dK ov) ∧ Paired (NkV H') ov (owedM rs N ((labsOf rs).take i)) ∧ KX [od] HL H') ⟨_, [], rfl, eL, .nil, KX.of same_refl⟩ (fun i σ H' _ h => by obtain ⟨_, _, _, _, _, k⟩ := h; exact k _ _ rdX efr) (fun i x σ H'' H' hi h z => ?turn1) (fun σ H' h => ?done1)
  case turn1 =>
    obtain ⟨x8, ov, rfl, f1, f2, f3⟩ := h
    obtain ⟨rfl, k, v, hkv, rfl⟩ := z
    obtain ⟨l, rfl, hl⟩ := wk_key wkL hkv
    have hlm : l ∈ labsOf rs := List.mem_of_getElem? hl
    have pn' : Paired (NkV H') kvs N := paired_imp (fun kv n r => ⟨r.1, by
      obtain ⟨c, e1, e2⟩ := r.2
      refine ⟨c, e1, f3 _ _ (fun m => ?_) e2⟩
      rw [List.mem_singleton.mp m, eL] at e2
      obtain ⟨_, bb, ll⟩ := n
      cases bb <;> cases e2⟩) pnL
    have nd' := f3 _ _ ndX ndL
    have rd' := f3 _ _ rdX efr
    have hlo : ov.length ≤ 16 := by
      have := f2.length
      unfold owedM at this
      rw [List.length_map, List.length_take] at this
      omega
    refine ⟨_, rfl, nd, rfl, .inl ⟨_, .inl nd'⟩, _, rfl, (by show 1 ≤ sizeLine; decide), fun t ht => ?_⟩
    have st1 := same_new ht (.tup [V.str "near"])
    have et : (upd H' t (.tup [V.str "near"])) t = some (.tup [V.str "near"]) := upd_same
    generalize upd H' t (.tup [V.str "near"]) = H5 at st1 et ⊢
    have tkH : Tk HL H5 := fun c zs e => st1 _ _ (f3 _ _ (fun m => by rw [List.mem_singleton.mp m, eL] at e; cases e) e)
    obtain ⟨rb, er1, er2⟩ : ∃ rb, valV wk (Sum.inr l : Key) = some (.ref rb) ∧ HL rb = some (.tup ((spelledP rs l).map V.str)) := by
      rcases spelled_at l wkL with ⟨rb, e1, e2⟩ | ⟨e1, e2⟩
      · exact ⟨rb, e1, e2⟩
      · have := key_in (spe_keysC wkL) l
        rw [e1, decide_eq_true hlm] at this
        cases this
    have gR : DGet H5 rd (.str l) (some (.ref rb)) := by rw [← er1]; exact .inl ⟨wk, Sum.inr l, .inr ⟨ob, st1 _ _ rd'⟩, rfl, rfl⟩
    refine ⟨_, rfl, _, rfl, rd, _, rfl, gR, rb, _, rfl, .inr (SqT.of (tkH _ _ er2)), _, _, rfl, rfl, _, _, rfl, ?_⟩
    have emx : (if ((((spelledP rs l).map V.str).length : Nat) : Int) - 1 > 0 then ((((spelledP rs l).map V.str).length : Nat) : Int) - 1 else 0) = (((spelledP rs l).length - 1 : Nat) : Int) := by
      rw [List.length_map]
      split <;> omega
    rw [emx]
    have sl := spl l
    refine ⟨t, (spelledP rs l).length - 1, _, rfl, rfl, et, by simp, by omega, by decide, fun z H6 s6 ez => ?_⟩
    rw [rep_near] at ez
    have s56 := st1.trans s6
    refine ⟨_, DGet.k (k := Sum.inr l) (s56 _ _ nd'), ?_⟩
    have nv : NtV H6 ((valV kvs (Sum.inr l : Key)).getD (.ref z)) (owedP rs N l) := nts_get (paired_imp (fun _ _ r => NkV.same r s56) pn') ⟨z, rfl, ez⟩
    have eo := s56 _ _ f1
    refine ⟨_, rfl, _, rfl, od, _, rfl, DPut.k (k := Sum.inr l) eo (by rw [sizeLine_eq]; omega), ?_⟩
    have pz := nts_put (x := l) (paired_imp (fun _ _ r => NkV.same r s56) f2) nv
    rw [owed_next hr'.nodupL hl] at pz
    exact ⟨_, _, rfl, upd_same, paired_imp (fun _ _ r => ⟨r.1, r.2.at eo⟩) pz, (f3.trans (KX.of s56)).put (by simp)⟩
  obtain ⟨x8', ov, rfl, f1, f2, f3⟩ := h
  have lw : wk.length = (labsOf rs).length := by rw [wkL.length, List.length_map]
  rw [lw, List.take_length] at f2
  have rd' := f3 _ _ rdX efr
  refine ⟨rd', ?_⟩
  have s5 := back _ f3
  have eod : (upd H' rd (.dK wk)) od = some (.dK ov) := by rw [upd_ne (Ne.symm nro)]; exact f1
  have pO : Paired (NkV (upd H' rd (.dK wk))) ov (owedL rs N) := paired_imp (fun _ _ r => ⟨r.1, r.2.frz rd'⟩) f2
  generalize upd H' rd (.dK wk) = H5 at s5 eod pO ⊢
  have R5 := R3.same s5
  have G5 := G3.same s5
  have L5 := L3.same s5
  have jr5 := jr3.keep s5
  have Nr5 := Nr3.same hg s5
  have Nn5 := Nn3.same hg s5
  have Lr5 := Lr3.same hp s5
  have No5 : GrN C H5 g od := G3.newN hod s5
  replace hg := s5 _ _ hg
  replace hp := s5 _ _ hp
  clear f1 f2 f3 rd' back efr eL ndL pnL wkL s4 e4 R4 R3 G3 L3 jr3 Nr3 Nn3 Lr3 s5
  -- found
  refine ⟨rd, .dK wk, R5.hrd, trivial, fun ob2 => ?_⟩
  have efr : (upd H5 rd (.frz ob2 (.dK wk))) rd = some (.frz ob2 (.dK wk)) := upd_same
  have GL5 := G5.frz Nr5 R5.hrd (.frz ob2 (.dK wk))
  have LL5 := L5.upd Lr5 R5.hrd (.frz ob2 (.dK wk))
  have wkL := paired_imp (fun _ _ r => SpE.tk r (fun c zs q => (show (upd H5 rd (.frz ob2 (.dK wk))) c = _ by rw [upd_ne (fun z => by rw [z, R5.hrd] at q; cases q)]; exact q))) R5.hwk
  have back : ∀ H', Same (upd H5 rd (.frz ob2 (.dK wk))) H' → Same H5 (upd H' rd (.dK wk)) := fun H' s c u e => by
    by_cases z : c = rd
    · rw [z, upd_same, ← R5.hrd, ← z]; exact e
    · rw [upd_ne z]; exact s _ _ (by rw [upd_ne z]; exact e)
  generalize upd H5 rd (.frz ob2 (.dK wk)) = HM at efr GL5 LL5 wkL back ⊢
  refine ⟨_, rfl, rd, ob2, rfl, .inl ⟨wk, efr, fun D2 hD2 => ?_⟩⟩
  refine lc_it walk_keys (LcR HM D2 (AmV rs N) (labsOf rs)) (.start hD2) (fun i H' _ h => by obtain ⟨_, _, _, _, sx⟩ := h; exact sx _ _ efr) (fun i x H'' H' hi h z => ?turn2) (fun H' h => ?done2)
  case turn2 =>
    obtain ⟨acc, f1, f2, f3, f4⟩ := h
    obtain ⟨rfl, k, v, hkv, rfl⟩ := z
    obtain ⟨l, rfl, hl⟩ := wk_key wkL hkv
    have hi16 : i < (labsOf rs).length := (List.getElem?_eq_some_iff.mp hl).1
    refine ⟨rfl, ?_⟩
    simp only [tYes, ↓reduceIte]
    obtain ⟨dx, m, jvs, fs, h1, h2, h3, h4, h5, h6, h7⟩ := id (LL5.same f4)
    refine ⟨_, rfl, _, rfl, p, dx, fs, rfl, h1, h4, _, rfl, p, g, ks, rs, [], st, N, l, rfl, LL5.same f4, GL5.same f4, spl l, List.mem_of_getElem? hl, fun v H7 s7 nt => ⟨(by show 2 ≤ sizeLine; decide), fun t ht => ?_⟩⟩
    obtain ⟨m2, rfl, hm2⟩ := nt
    rw [(owed_ok hRt l).1, if_pos rfl] at hm2
    have s8 := same_new ht (.tup [V.str l, .ref m2])
    refine ⟨acc, s8 _ _ (s7 _ _ f1), by rw [sizeLine_eq, f2]; omega, ?_⟩
    exact LcR.step (fun t r => r.tk t) f1 f2 f3 f4 (s7.trans s8) hD2 hl ⟨t, m2, rfl, upd_same, s8 _ _ hm2⟩
  obtain ⟨acc, f1, f2, f4⟩ := h.done lw
  have rd2 := f4 _ _ efr
  refine ⟨rd2, ?_⟩
  have s6 := back _ f4
  have D2r : D2 ≠ rd := fun z => by rw [z, efr] at hD2; cases hD2
  have e6 : (upd H' rd (.dK wk)) D2 = some (.lst acc) := by rw [upd_ne D2r]; exact f1
  have p6 : Paired (AmV rs N (upd H' rd (.dK wk))) acc (labsOf rs) := paired_imp (fun _ _ r => AmV.tk r (fun c zs q => by rw [upd_ne (fun z => by rw [z, rd2] at q; cases q)]; exact q)) f2
  generalize upd H' rd (.dK wk) = H6 at s6 e6 p6 ⊢
  obtain ⟨ps, fk, rfl, pp, pf6⟩ := am_pairs (K := K) hRt p6
  refine ⟨D2, ps, fk, rfl, SqL.of e6, pp, fun fd hfd => ?_⟩
  have kf : fk.map (·.1) = (labsOf rs).map Sum.inr := by rw [nts_keys pf6, owedM_keys]
  rw [merge_nodup (by rw [kf]; exact inr_nodup hr'.nodupL)]
  refine gname_to (σ' := [some (.ref j), some (.ref a), some (.ref b), some (.ref rd), x4, x5, some (.ref nd), x7, x8', some (.ref g), x10, some (.ref td), some (.ref p), some (.ref od), some (.ref fd), x15, x16]) rfl ?_
  have s7 := same_new hfd (.dK fk)
  have e7 : (upd H6 fd (.dK fk)) fd = some (.dK fk) := upd_same
  have pf7 := paired_imp (fun _ _ r => NkV.same r s7) pf6
  have s57 := s6.trans s7
  generalize upd H6 fd (.dK fk) = H7 at s7 e7 pf7 s57 ⊢
  have R7 := R5.same s57
  have G7 := G5.same s57
  have L7 := L5.same s57
  have jr7 := jr5.keep s57
  have Nr7 := Nr5.same hg s57
  have Nn7 := Nn5.same hg s57
  have No7 := No5.same hg s57
  have Lr7 := Lr5.same hp s57
  have eod7 := s57 _ _ eod
  have pO7 := paired_imp (fun _ _ r => NkV.same r s57) pO
  replace hg := s57 _ _ hg
  replace hp := s57 _ _ hp
  clear f1 f2 f4 rd2 s6 e6 p6 pp pf6 back efr GL5 LL5 wkL R5 G5 L5 jr5 Nr5 Nn5 No5 Lr5 eod pO s57 s7 hD2 hfd
  -- found != owed
  refine ⟨_, rfl, _, rfl, fd, od, fk, ov, rfl, rfl, e7, eod7, by rw [pf7.length, pO7.length]; rfl, fun kv hkv => ?_, _, rfl, ?_⟩
  · obtain ⟨i, hi⟩ := List.getElem?_of_mem hkv
    obtain ⟨⟨x, n⟩, hx, hx1, hx2⟩ := paired_get pf7 i _ hi
    have hxm : x ∈ labsOf rs ∧ n = owedP rs N x := by
      obtain ⟨y, hy, e⟩ := List.mem_map.mp (List.mem_of_getElem? hx)
      cases e
      exact ⟨hy, rfl⟩
    obtain ⟨hxm, rfl⟩ := hxm
    rcases nts_at x pO7 with ⟨n, u, e1, e2, e3⟩ | ⟨e1, _⟩
    · rw [show (owedL rs N).lookup x = some (owedP rs N x) from owedM_lookup rs N hxm] at e1
      cases e1
      exact ⟨u, by rw [hx1]; exact e2, nt_eqd hx2 e3 (owed_ok hRt x).1 (owed_ok hRt x).2⟩
    · rw [show (owedL rs N).lookup x = some (owedP rs N x) from owedM_lookup rs N hxm] at e1; cases e1
  simp only [Bool.false_eq_true, ↓reduceIte]
  -- plan == Layout(pages, owed)
  refine ⟨_, rfl, _, rfl, _, rfl, ?_⟩
  have hszO : ∀ n, n ∈ owedL rs N → n.2.2.length ≤ 1000 := fun n hn => by
    obtain ⟨x, hx, rfl⟩ := List.mem_map.mp hn
    have h1 := owed_len hRt hx
    have h2 := spl x
    show (owedP rs N x).2.length ≤ 1000
    omega
  refine mk_lay G7 No7 eod7 pO7 hszO (owedL_right hRt) (fun y1 H8 s8 _ L8 _ => ?_)
  obtain ⟨yx, yfs, hy⟩ := L8.ex
  refine ⟨p, px, pfs, rfl, s8 _ _ hp, .inl ⟨y1, yx, yfs, rfl, hy⟩, p, _, rfl, .inl ⟨y1, g, g, ks, rs, st, st, N, owedL rs N, rfl, L7.same s8, L8, G7.same s8, G7.same s8, W, W, spl, llen, hRt, owedL_right hRt, fun H9 s9 => ⟨_, rfl, ?_⟩⟩⟩
  rw [show (decide (st = st) && sameP rs N (owedL rs N)) = true from by rw [decide_eq_true rfl, same_owedL]; rfl]
  have s79 := s8.trans s9
  refine ⟨_, rfl, ?_⟩
  simp only [Bool.false_eq_true, ↓reduceIte, Bool.not_true]
  -- plan != Layout(Grammar(rack, rules), notes)
  have R9 := R7.same s79
  refine ⟨_, rfl, _, rfl, _, rfl, ?_⟩
  refine mk_gr R9.kl R9.rl hk hr' hs hdt (.inr ⟨rfl, hst⟩) (fun g2 H10 s10 _ G10 GN10 => ?_)
  have s710 := s79.trans s10
  have R10 := R7.same s710
  refine ⟨_, rfl, ?_⟩
  refine mk_lay G10 (GN10 nd (by rw [R9.hnd]; exact fun z => by cases z)) R10.hnd R10.hpn hsz hRt (fun y2 H11 s11 _ L11 _ => ?_)
  obtain ⟨yx, yfs, hy⟩ := L11.ex
  have s711 := s710.trans s11
  refine ⟨p, px, pfs, rfl, s711 _ _ hp, .inl ⟨y2, yx, yfs, rfl, hy⟩, p, _, rfl, .inl ⟨y2, g, g2, ks, rs, st, st, N, N, rfl, L7.same s711, L11, G7.same s711, G10.same s11, W, W, spl, llen, hRt, hRt, fun H12 s12 => ⟨_, rfl, ?_⟩⟩⟩
  rw [show (decide (st = st) && sameP rs N N) = true from by rw [decide_eq_true rfl, same_self]; rfl]
  have s712 := s711.trans s12
  refine ⟨_, rfl, ?_⟩
  simp only [↓reduceIte, Bool.not_true, Bool.false_eq_true]
  exact ⟨j, sa, sx, a, b, rd, nd, g, p, od, ks, rs, wk, kvs, ov, N, st, x4, x5, x7, x8', x10, some (.ref td), some (.ref fd), x15, x16, Cj, rfl, R7.same s712, hk, hr', hN, hRt, G7.same s712, Nr7.same hg s712, Nn7.same hg s712, hst, L7.same s712, Lr7.same hp s712, s712 _ _ eod7, paired_imp (fun _ _ r => NkV.same r s712) pO7, nro, jr7.keep s712, hC, q⟩
end
end Pa
set_option maxHeartbeats 4000000
namespace Pa
open PySem PySem.Spec PyProof.Rows L2 Ty Se Sv
/-! ### _law_right -/
theorem RS.put {K : PySem.W.Frag} {j sa : Addr} {sx : List V} {a b rd nd : Addr} {ks : Kds} {rs : Rls} {wk kvs : List (Key × V)} {N : Nts} {H : Hp} (h : RS K j sa sx a b rd nd ks rs wk kvs N H) {x : Str} {v : V} {n : Bool × List Str} (hv : NtV H v n) : RS K j sa sx a b rd nd ks rs wk (putK kvs (Sum.inr x : Key) v) (putN N x n) (L2.upd H nd (.dK (putK kvs (Sum.inr x : Key) v))) :=
  have tk : Tk H (L2.upd H nd (.dK (putK kvs (Sum.inr x : Key) v))) := fun c zs q => by rw [upd_ne (fun z => by rw [z, h.hnd] at q; cases q)]; exact q
  ⟨h.kl.updD h.hnd _, h.rl.updD h.hnd _, by rw [upd_ne h.ne]; exact h.hrd, paired_imp (fun _ _ r => r.tk tk) h.hwk, upd_same, paired_imp (fun _ _ r => ⟨r.1, r.2.at h.hnd⟩) (nts_put (x := x) h.hpn hv), h.ne, h.z.kx h.hnd (KX.upd (by simp) _)⟩
def tS7 (K : PySem.W.Frag) : TS := fun D σ H => ∃ (j sa : Addr) (sx : List V) (a b rd nd : Addr) (ks : Kds) (rs : Rls) (wk kvs : List (Key × V)) (N : Nts) (C : Nat) (x4 x5 x7 x8 x9 x10 x11 x12 x13 x14 x15 x16 : Option V), σ = [some (.ref j), some (.ref a), some (.ref b), some (.ref rd), x4, x5, some (.ref nd), x7, x8, x9, x10, x11, x12, x13, x14, x15, x16] ∧
  RS K j sa sx a b rd nd ks rs wk kvs N H ∧ NtsG 18 26 N ∧ Jar j H C ∧ C ≤ 999980000 ∧ ∀ kvs' N' H', RS K j sa sx a b rd nd ks rs wk kvs' N' H' → NtsG 19 26 N' → Jar j H' (C + 2) → D.nx [some (.ref j), some (.ref a), some (.ref b), some (.ref rd), x4, x5, some (.ref nd), x7, x8, x9, x10, x11, x12, x13, x14, x15, x16] H'
theorem alt_pairs {K : PySem.W.Frag} {H : Hp} : ∀ {xs : List V} {as : List (Str × List Str)}, Paired (AltV H) xs as → ∃ (ps : List Addr) (kvs : List (Key × V)), xs = ps.map V.ref ∧ Paired (fun p kv => SqT K H p [kV kv.1, kv.2]) ps kvs ∧ Paired (SpE H) kvs as
  | _, _, .nil => ⟨[], [], rfl, .nil, .nil⟩
  | _, _, .cons (b := a) h t => by
    obtain ⟨ps, kvs, e, h1, h2⟩ := alt_pairs (K := K) t
    obtain ⟨c, m, rfl, g1, g2⟩ := h
    exact ⟨c :: ps, (Sum.inr a.1, .ref m) :: kvs, by rw [e]; rfl, .cons (SqT.of g1) h1, .cons ⟨rfl, m, rfl, g2⟩ h2⟩
theorem aux_ra {X C0 : V → Hp → Prop} {M : Prop} (f : (∀ y h, C0 y h → X y h) → M) (r : ∀ y h, C0 y h → X y h) : M := f r
theorem first_filter (rs : Rls) (N : Nts) : firstBad rs N = ((N.filter (badP rs)).head?).map (·.1) := by
  unfold firstBad
  rw [List.head?_filter]
def lapL : Nat → Nat
  | 0 => 5
  | 1 => 12
  | _ => 26
theorem lapL_le : ∀ i, lapL i ≤ 26
  | 0 => by decide
  | 1 => by decide
  | _ + 2 => Nat.le_refl _
theorem lapL_next : ∀ i, i < 2 → 2 * lapL i + 2 ≤ lapL (i + 1) := by decide
def spRight (K : PySem.W.Frag) : Sp := fun vs H Q _ => ∃ (j sa : Addr) (sx : List V) (C : Nat), vs = [.ref j] ∧ Jar j H C ∧ C ≤ 999000000 ∧ Scr K j sa sx H ∧ ∀ H', Scr K j sa sx H' → Q (.bl true) H'
section
variable {P : Program} {w : World} {K : PySem.W.Frag} {mg : Str → Option Value} {base : Heap} {f C CY CL CN dt fYI fM fE fGI fL fDip fKD fRD fMK fSP fMR fRF : Addr} {fd dYI dM dE dGI dL dDip dKD dRD dMK dSP dMR dRF : FuncData}
theorem ok_right (F : Fun K "_law_right" "_law_right" lRight f fd)
    (GI : FnOk P w K mg base (L2.CX P w) 3 fYI dYI ["self", "grammar", "marks"] (spYInit K C CY CL)) (bYI : L2.Binds K dYI ["self", "grammar", "marks"] []) (MKY : L2.Mk K CY fYI) (mY : mg "Layout" = some (.ref CY))
    (GM : FnOk P w K mg base CX0 2 fM dM ["self", "label"] (spMarksOf K C CY)) (bM : L2.Binds K dM ["self", "label"] []) (MM : Meth K CY "marks_of" fM) (clY : Cls K CY)
    (GE : FnOk P w K mg base CX0 4 fE dE ["self", "other"] (spYEq K C CY)) (bE : L2.Binds K dE ["self", "other"] []) (OY : OwC K CY fE) (NS : NoSub K CY) (NK : NoKit K CY)
    (GG : FnOk P w K mg base (L2.CX P w) 17 fGI dGI ["self", "kinds", "rules", "begin", "bars"] (spGInit K 4 C CN)) (FD : GInitD K dt fGI dGI) (MKG : L2.Mk K C fGI) (mG : mg "Grammar" = some (.ref C)) (hdt : ∀ H, SqT K H dt [])
    (GL : FnOk P w K mg base CX0 5 fL dL ["plan", "text"] (spNoLab K C CY)) (bL : L2.Binds K dL ["plan", "text"] []) (kL : PySem.W.keepIn K (.ref fL) = true) (mL : mg "_law_no_label" = some (.ref fL))
    (GD0 : FnOk P w K mg base CX0 1 fDip dDip ["jar", "many"] spDrawn) (bD : L2.Binds K dDip ["jar", "many"] []) (kD : PySem.W.keepIn K (.ref fDip) = true) (mD : mg "_law_dip" = some (.ref fDip))
    (KD0 : FnOk P w K mg base CX0 2 fKD dKD ["jar"] spKindsD) (bKD : L2.Binds K dKD ["jar"] []) (kKD : PySem.W.keepIn K (.ref fKD) = true) (mKD : mg "_law_kinds_drawn" = some (.ref fKD))
    (RD0 : FnOk P w K mg base CX0 2 fRD dRD ["jar", "rack"] spRulesD) (bRD : L2.Binds K dRD ["jar", "rack"] []) (kRD : PySem.W.keepIn K (.ref fRD) = true) (mRD : mg "_law_rules_drawn" = some (.ref fRD))
    (MK0 : FnOk P w K mg base CX0 2 fMK dMK ["jar", "rules"] spMarks) (bMK : L2.Binds K dMK ["jar", "rules"] []) (kMK : PySem.W.keepIn K (.ref fMK) = true) (mMK : mg "_law_marks" = some (.ref fMK))
    (SP0 : FnOk P w K mg base CX0 2 fSP dSP ["jar", "notes"] spSpoilt) (bSP : L2.Binds K dSP ["jar", "notes"] []) (kSP : PySem.W.keepIn K (.ref fSP) = true) (mSP : mg "_law_spoilt" = some (.ref fSP))
    (MR : FnOk P w K mg base CX0 1 fMR dMR ["rows", "tag", "notes"] spMR) (bMR : L2.Binds K dMR ["rows", "tag", "notes"] []) (kMR : PySem.W.keepIn K (.ref fMR) = true) (mMR : mg "_law_marks_right" = some (.ref fMR))
    (RF : FnOk P w K mg base CX0 5 fRF dRF ["pages", "notes"] (spRefd K C)) (bRF : L2.Binds K dRF ["pages", "notes"] []) (kRF : PySem.W.keepIn K (.ref fRF) = true) (mRF : mg "_law_refused" = some (.ref fRF))
    (ml : mg "len" = none) (mso : mg "sorted" = none) (md : mg "dict" = none) (mx : mg "max" = none) (mr : mg "range" = none) (mt : mg "tuple" = none) :
    FnOk P w K mg base CX0 21 f fd ["jar"] (spRight K) := by
  refine F.ok scRt (fun vs H Q E h => ?_) (fun cdv A outer s0 H vs Q E hr h => ?_)
  · obtain ⟨_, _, _, _, rfl, _⟩ := h
    rfl
  have hu64 := hr.units
  have hu1 := hu_of hr
  have hu70 : (A.deeper (envOfC "_law_right" (defScope lRight) s0.heap.objs.size f cdv)).units + 70 < cLine := by have := hr.un; omega
  have GD := GD0.mono (show 1 ≤ 20 by decide)
  have KD := KD0.mono (show 2 ≤ 20 by decide)
  have RD := RD0.mono (show 2 ≤ 20 by decide)
  have MK2 := MK0.mono (show 2 ≤ 20 by decide)
  have SP := SP0.mono (show 2 ≤ 20 by decide)
  have hrMR := hr.mono (show 1 ≤ 20 by decide)
  have hrRF := hr.mono (show 5 ≤ 20 by decide)
  have hrGG := hr.mono (show 17 + 1 ≤ 20 by decide)
  obtain ⟨ds1, hds, bG⟩ := ginit_dfl FD
  refine ⟨_, pss_cons (ps_set (i := 1) scRt.nd rfl (.inl rfl) (pe_call KD hr rfl mKD kKD bKD .nil pass0 (pa_cons (pv 0) pa_nil)))
    (pss_cons (ps_set (i := 2) scRt.nd rfl (.inl rfl) (pe_call RD hr rfl mRD kRD bRD .nil pass0 (pa_cons (pv 0) (pa_cons (pv 1) pa_nil))))
    (pss_cons (ps_set (i := 3) scRt.nd rfl (.inr rfl) pe_dnewK)
    (pss_cons (ps_for PassesOwn.never rfl (pi_list (pv 2)) (pg_tup rfl (pgs_cons (pg_name (i := 4) scRt.nd rfl (Or.inl rfl)) (pgs_cons (pg_name (i := 5) scRt.nd rfl (Or.inl rfl)) pgs_nil))) (pss_one (ps_expr (pe_bm PySem.F.plainAttrs_dict PySem.F.slot_dict_update PySem.F.type_dict_update mtd_update (pv 3) (pa_cons (pe_callTy (call_dictP rfl) rfl md (by decide +kernel) (pa_cons (pv 5) pa_nil)) pa_nil)))))
    (pss_cons (ps_set (i := 6) scRt.nd rfl (.inr rfl) (pe_call MK2 hr rfl mMK kMK bMK .nil pass0 (pa_cons (pv 0) (pa_cons (pv 2) pa_nil))))
    (pss_cons (ps_for PassesOwn.never rfl (pi_range1 rfl mr (pa_cons (pe_call GD hr rfl mD kD bD .nil pass0 (pa_cons (pv 0) (pa_cons pe_int pa_nil))) pa_nil)) (pg_name (i := 7) scRt.nd rfl (Or.inl rfl)) (pss_cons (ps_set (i := 8) scRt.nd rfl (.inl rfl) (pe_ix ix_list (pe_callB (call_sortedD rfl) rfl mso (by decide +kernel) (pa_cons (pv 3) pa_nil)) (pe_call GD hr rfl mD kD bD .nil pass0 (pa_cons (pv 0) (pa_cons (pe_callB call_lenD rfl ml PySem.boot_len (pa_cons (pv 3) pa_nil)) pa_nil))) (fun _ _ => rfl))) (pss_one (ps_dput hu1 (pv 6) (pv 8) (pe_call SP hr rfl mSP kSP bSP .nil pass0 (pa_cons (pv 0) (pa_cons (pe_callTy call_tuple_of rfl mt (by decide +kernel) (pa_cons (pe_dget2 hu1 (pv 6) (pv 8) (pe_op (show OpR _ (binaryOp .Mult) rRepN from op_repN) (pe_tup (pa_cons pe_str pa_nil)) (pe_callB (call_max2 rfl) rfl mx (by decide +kernel) (pa_cons pe_int (pa_cons (pe_op op_sub (pe_callB (show CallR _ _ (fun xs H Q => ∃ p ys, xs = [V.ref p] ∧ (SqL K H p ys ∨ SqT K H p ys) ∧ Q (V.int (ys.length : Nat)) H) from call_len_seq) rfl ml PySem.boot_len (pa_cons (pe_dget hu1 (pv 3) (pv 8) (fun _ _ => rfl)) pa_nil)) pe_int) pa_nil)))) ⟨rfl, rfl, rfl, rfl⟩) pa_nil)) pa_nil))) rfl))))
    (pss_cons (show PS _ _ (tS7 K) from ps_imp (ps_if (pt_cmpR op_eq (pe_call GD hr rfl mD kD bD .nil pass0 (pa_cons (pv 0) (pa_cons pe_int pa_nil))) pe_int (nomark _)) (pss_one (ps_dput hu1 (pv 6) (pe_ix ix_list (pe_lst (pa_cons pe_str (pa_cons pe_str (pa_cons pe_str (pa_cons pe_str (pa_cons pe_str pa_nil)))))) (pe_call GD hr rfl mD kD bD .nil pass0 (pa_cons (pv 0) (pa_cons pe_int pa_nil))) (fun _ _ => rfl)) (pe_tup pa_nil) rfl)) pss_nil) (fun D σ H1 h => by
      obtain ⟨j, sa, sx, a, b, rd, nd, ks, rs, wk, kvs, N, C, x4, x5, x7, x8, x9, x10, x11, x12, x13, x14, x15, x16, rfl, R, hN, jr, hC, q⟩ := h
      refine ⟨_, rfl, j, C, 6, rfl, jr, by omega, by decide, by decide, fun r H2 r0 r1 jr2 kp2 => ⟨rfl, _, rfl, ?_⟩⟩
      rw [dec_int]
      have R2 := R.keep jr kp2
      by_cases hc : r = 0
      case neg => exact ifF (decide_eq_false hc) (q _ _ _ R2 (hN.mono (by decide) (Nat.le_refl _)) (jr2.mono (by omega)))
      refine ifT (decide_eq_true hc) ⟨(by show 0 ≤ sizeLine; decide), fun t ht => ?_⟩
      have s3 := same_new ht (.tup [])
      have et : (upd H2 t (.tup [])) t = some (.tup []) := upd_same
      have R3 := R2.same s3
      have jr3 := jr2.keep s3
      generalize upd H2 t (.tup []) = H3 at et R3 jr3 ⊢
      refine ⟨_, rfl, (by show 5 ≤ sizeLine; decide), fun l4 h4 => ?_⟩
      have s4 := same_new h4 (.lst [V.str "zz", .str "l", .str "top", .str "id", .str ""])
      have e4 : (upd H3 l4 (.lst [V.str "zz", .str "l", .str "top", .str "id", .str ""])) l4 = some (.lst ((["zz", "l", "top", "id", ""] : List Str).map V.str)) := upd_same
      have l4j := jr3.ne h4
      have R4 := R3.same s4
      have jr4 := jr3.keep s4
      have et4 := s4 _ _ et
      generalize upd H3 l4 (.lst [V.str "zz", .str "l", .str "top", .str "id", .str ""]) = H4 at e4 R4 jr4 et4 ⊢
      refine ⟨_, rfl, j, _, 5, rfl, jr4, by omega, by decide, by decide, fun z H5 z0 z1 jr5 kp5 => ?_⟩
      obtain ⟨v, hv1, _⟩ := at_in (l := (["zz", "l", "top", "id", ""] : List Str).map V.str) z0 z1
      obtain ⟨x, _, rfl⟩ := str_at hv1
      have R5 := R4.keep jr4 kp5
      have tj : t ≠ j := fun y => by obtain ⟨_, _, _, e2, _⟩ := jr4; rw [y, e2] at et4; cases et4
      have lk : kvs.length ≤ 18 := by rw [R5.hpn.length]; exact hN.few
      have ndj : nd ≠ j := fun y => by obtain ⟨_, _, _, e2, _⟩ := jr5; rw [← y, R5.hnd] at e2; cases e2
      refine ⟨l4, _, _, .str x, rfl, rfl, SqL.of (kp5 _ _ l4j e4), hv1, nd, _, rfl, DPut.k (k := Sum.inr x) R5.hnd (by rw [sizeLine_eq]; omega), ?_⟩
      exact q _ _ _ (R5.put (n := (true, [])) ⟨t, rfl, kp5 _ _ tj et4⟩) (hN.put (Nat.zero_le _)) (jr5.upd ndj)))
    (pss_cons (ps_set (i := 9) scRt.nd rfl (.inl rfl) (pe_make MKG GG hrGG rfl mG bG hds passF (pa_cons (pv 1) (pa_cons (pv 2) pa_nil))))
    (pss_cons (ps_lock (ps_setLc (i := 10) (own := [("tag", 8)]) (g := gName 8) rfl scRt.nd rfl rfl (sw_true rfl rfl rfl (by decide +kernel)) (pi_keys (pv 6)) (blkOk_by (N := nRt) (sc := defScope lRight) (by decide +kernel)) (fun _ _ _ _ _ => pg_name (i := 8) scRt.nd rfl (Or.inl rfl)) (fun _ _ _ _ _ => pts_one (pt_not (pt_val (pe_call MR hrMR rfl mMR kMR bMR .nil pass0 (pa_cons (pv 3) (pa_cons (pv 8) (pa_cons (pe_dget hu1 (pv 6) (pv 8) (fun _ _ => rfl)) pa_nil))))))) (fun _ _ _ _ _ => pv 8)))
    (pss_cons (ps_if (pt_cmpR (op_neL0 hu64) (pv 10) (pe_lst pa_nil) (nomark _)) (pss_one (ps_ret (pe_cmpR op_eq (pe_call RF hrRF rfl mRF kRF bRF .nil pass0 (pa_cons (pv 9) (pa_cons (pv 6) pa_nil))) (pe_ix ix_list (pv 10) pe_int (fun _ _ => rfl)) (nomark _)))) pss_nil)
    (right_c GI bYI MKY mY GM bM MM clY GE bE OY NS NK GG FD MKG mG hdt GL bL kL mL GD0 bD kD mD ml mso md mx hr hu70)))))))))), ?_⟩
  obtain ⟨j, sa, sx, C0, rfl, hj, hC, z0, q⟩ := h
  refine ⟨_, rfl, j, C0, rfl, hj, by omega, fun a ks H1 _ aj ka hks jr1 kp1 => ?_⟩
  refine gname_to (σ' := [some (.ref j), some (.ref a), none, none, none, none, none, none, none, none, none, none, none, none, none, none, none]) rfl ?_
  have hk := hks.g
  refine ⟨_, rfl, _, rfl, j, a, C0 + 21, ks, rfl, jr1, by omega, ka, hk, fun b rs H2 _ bj rb hr' jr2 kp2 => ?_⟩
  have ka2 := ka.keep jr1 kp2
  have zz2 := (z0.keep kp1).keep kp2
  refine gname_to (σ' := [some (.ref j), some (.ref a), some (.ref b), none, none, none, none, none, none, none, none, none, none, none, none, none, none]) rfl ?_
  have few := hr'.few
  obtain ⟨n2, n4⟩ := hr'.len
  -- rows
  refine fun rd hrd => ?_
  have s3 := same_new hrd (.dK [])
  have erd : (upd H2 rd (.dK [])) rd = some (.dK []) := upd_same
  have rdj := jr2.ne hrd
  have ka3 := ka2.same s3
  have rb3 := rb.same s3
  have jr3 := jr2.keep s3
  have zz3 := zz2.same s3
  generalize upd H2 rd (.dK []) = H3 at erd ka3 rb3 jr3 zz3 ⊢
  refine gname_to (σ' := [some (.ref j), some (.ref a), some (.ref b), some (.ref rd), none, none, none, none, none, none, none, none, none, none, none, none, none]) rfl ?_
  obtain ⟨ys, hys, pys⟩ := id rb3
  have rdb : b ≠ rd := fun z => by rw [z, erd] at hys; cases hys
  refine ⟨_, rfl, b, rfl, ⟨_, SqL.of hys⟩, ?_⟩
  refine for_list (K := K) (xs := ys) (fun i σ H' => ∃ (x4 x5 : Option V) (wk : List (Key × V)), σ = [some (.ref j), some (.ref a), some (.ref b), some (.ref rd), x4, x5, none, none, none, none, none, none, none, none, none, none, none] ∧ H' rd = some (.dK wk) ∧ Paired (SpE H') wk (altsOf (rs.take i)) ∧ KX [rd] H3 H') ⟨_, _, [], rfl, erd, .nil, KX.of same_refl⟩ (fun i σ H' _ h => by obtain ⟨_, _, _, _, _, _, k⟩ := h; exact SqL.of (k _ _ (by simp [rdb]) hys)) (fun i v σ H' hv h => ?turn1) (fun σ H' h => ?done1)
  case turn1 =>
    obtain ⟨x4, x5, wk, rfl, f1, f2, f3⟩ := h
    obtain ⟨⟨nm, as⟩, hri, ra, ab, xs, rfl, g1, g2, _, g4⟩ := paired_get pys i v hv
    have hi := (List.getElem?_eq_some_iff.mp hri).1
    have tk3 : Tk H3 H' := fun c zs e => f3 _ _ (fun m => by rw [List.mem_singleton.mp m, erd] at e; cases e) e
    have abr : ab ≠ rd := fun z => by rw [z, erd] at g2; cases g2
    have g2' := f3 _ _ (by simp [abr]) g2
    refine ⟨ra, _, rfl, SqT.of (tk3 _ _ g1), rfl, _, _, rfl, _, _, rfl, rfl, ?_⟩
    obtain ⟨ps, kvs, rfl, pp, pk⟩ := alt_pairs (K := K) (paired_imp (fun _ _ r => AltV.tk r tk3) g4)
    have eal : altsOf (rs.take (i + 1)) = altsOf (rs.take i) ++ as := by
      rw [List.take_add_one, hri]
      show List.flatMap _ _ = List.flatMap _ _ ++ as
      rw [List.flatMap_append]; simp
    have nd : ((wk ++ kvs).map (·.1)).Nodup := by
      rw [List.map_append, spe_keysC f2, spe_keysC pk, ← List.map_append, ← List.map_append, ← eal]
      refine inr_nodup (List.Sublist.nodup ?_ hr'.nodupL)
      refine List.Sublist.map _ ?_
      have : altsOf rs = altsOf (rs.take (i + 1)) ++ altsOf (rs.drop (i + 1)) := by
        show List.flatMap _ _ = List.flatMap _ _ ++ List.flatMap _ _
        rw [← List.flatMap_append, List.take_append_drop]
      rw [this]
      exact List.sublist_append_left _ _
    have ndk : (kvs.map (·.1)).Nodup := by
      rw [List.map_append] at nd
      exact (List.nodup_append.mp nd).2.1
    have lal : (altsOf (rs.take i)).length + as.length ≤ 16 := by
      have e1 : altsOf rs = altsOf (rs.take (i + 1)) ++ altsOf (rs.drop (i + 1)) := by
        show List.flatMap _ _ = List.flatMap _ _ ++ List.flatMap _ _
        rw [← List.flatMap_append, List.take_append_drop]
      have e2 := congrArg List.length e1
      rw [eal, List.length_append, List.length_append] at e2
      rw [List.length_map] at few
      omega
    refine ⟨_, rfl, .inr (.inr (.inl ⟨rfl, .inl ⟨_, f1⟩⟩)), _, rfl, ab, ps, kvs, rfl, SqL.of g2', pp, fun dp hdp => ?_⟩
    rw [merge_nodup ndk]
    have s5 := same_new hdp (.dK kvs)
    have dpr : rd ≠ dp := fun z => by rw [← z, f1] at hdp; cases hdp
    refine ⟨rd, dp, wk, kvs, rfl, rfl, dpr, s5 _ _ f1, upd_same, by have lpk : kvs.length = as.length := pk.length; rw [sizeLine_eq, f2.length]; omega, ?_⟩
    rw [merge_app kvs wk nd]
    have f1' := s5 _ _ f1
    have f2' := paired_imp (fun _ _ r => SpE.tk r (Tk.of_same s5)) f2
    have pk' := paired_imp (fun _ _ r => SpE.tk r (Tk.of_same s5)) pk
    have f3' := f3.trans (KX.of s5)
    generalize upd H' dp (.dK kvs) = H5 at f1' f2' pk' f3' ⊢
    have tz : Tk H5 (upd H5 rd (.dK (wk ++ kvs))) := fun c zs q => by rw [upd_ne (fun z => by rw [z, f1'] at q; cases q)]; exact q
    exact ⟨_, _, wk ++ kvs, rfl, upd_same, by rw [eal]; exact paired_app (paired_imp (fun _ _ r => SpE.tk r tz) f2') (paired_imp (fun _ _ r => SpE.tk r tz) pk'), f3'.put (by simp)⟩
  obtain ⟨x4, x5, wk, rfl, f1, f2, f3⟩ := h
  rw [pys.length, List.take_length] at f2
  have kx3 : ∀ c u, c ≠ rd → H3 c = some u → H' c = some u := fun c u n e => f3 _ _ (by simp [n]) e
  have jr4 : Jar j H' (C0 + 122) := by
    obtain ⟨x, y, z, h1, h2⟩ := jr3.mono (show C0 + 21 + 101 ≤ C0 + 122 by omega)
    exact ⟨x, y, z, kx3 _ _ (Ne.symm rdj) h1, h2⟩
  have tk3 : Tk H3 H' := fun c zs e => kx3 _ _ (fun m => by rw [m, erd] at e; cases e) e
  have zz4 := zz3.kx erd f3
  have ka4 : KL H' a ks := by
    obtain ⟨xs, e1, p1⟩ := ka3
    exact ⟨xs, kx3 _ _ (fun m => by rw [m, erd] at e1; cases e1) e1, paired_imp (fun _ _ r => KdV.tk r tk3) p1⟩
  have rb4 : RL H' b rs := ⟨ys, kx3 _ _ rdb hys, paired_imp (fun _ _ r => RlV.tk r tk3 fun c zs _ e => kx3 _ _ (fun m => by rw [m, erd] at e; cases e) e) pys⟩
  clear erd ka3 rb3 jr3 hys pys f3 kx3 tk3 ka2 rb jr2 ka jr1 hj kp2 hrd s3
  -- notes
  refine ⟨_, rfl, _, rfl, j, b, C0 + 122, rs, rfl, jr4, by omega, rb4, n4, fun r hr => ⟨(hr'.rows r hr).2.1, fun al ha => ((hr'.rows r hr).2.2 al ha).1⟩, fun nd kvs N H5 hnd ndj e5 pN5 hN5 jr5 kp5 => ?_⟩
  have nj : ∀ {c jvs}, H' c = some (.dK jvs) → c ≠ j := fun {c jvs} e z => by obtain ⟨_, _, _, e2, _⟩ := jr4; rw [z, e2] at e; cases e
  have R5 : RS K j sa sx a b rd nd ks rs wk kvs N H5 := ⟨ka4.keep jr4 kp5, rb4.keep jr4 kp5, kp5 _ _ (nj f1) f1, paired_imp (fun _ _ r => SpE.tk r (Tk.of_keep jr4 kp5)) f2, e5, pN5, (fun z => by rw [← z, f1] at hnd; cases hnd), zz4.keep kp5⟩
  refine gname_to (σ' := [some (.ref j), some (.ref a), some (.ref b), some (.ref rd), x4, x5, some (.ref nd), none, none, none, none, none, none, none, none, none, none]) rfl ?_
  clear f1 f2 ka4 rb4 jr4 kp5 e5 pN5 hnd nj
  -- laps
  refine ⟨_, rfl, j, C0 + 298, 3, rfl, jr5.mono (by omega), by omega, by decide, by decide, fun r6 H6 r60 r61 jr6 kp6 => ?_⟩
  obtain ⟨u6, rfl⟩ : ∃ n : Nat, r6 = (n : Int) := ⟨r6.toNat, by omega⟩
  have R6 := R5.keep (jr5.mono (show C0 + 122 + 176 ≤ C0 + 298 by omega)) kp6
  refine ⟨(u6 : Int), rfl, by omega, by omega, ?_⟩
  rw [Int.toNat_natCast]
  refine for_range (lo := 0) (n := u6) (fun i σ H' => ∃ (x7 x8 : Option V) (kvs : List (Key × V)) (N : Nts), σ = [some (.ref j), some (.ref a), some (.ref b), some (.ref rd), x4, x5, some (.ref nd), x7, x8, none, none, none, none, none, none, none, none] ∧ RS K j sa sx a b rd nd ks rs wk kvs N H' ∧ NtsG (16 + i) (lapL i) N ∧ Jar j H' (C0 + 299 + 4 * i)) ⟨_, _, kvs, N, rfl, R6, hN5, jr6⟩ (fun i σ H' hi h => ?turn2) (fun σ H' h => ?done2)
  case turn2 =>
    obtain ⟨x7, x8, kvs, N, rfl, R, hN, jr⟩ := h
    have hi2 : i < 2 := by omega
    refine ⟨_, rfl, rd, wk, labsOf rs, rfl, .inl R.hrd, spe_keysC R.hwk, by omega, fun zs pz perm _ hpz => ?_⟩
    have sz := same_new hpz (.lst (zs.map V.str))
    have epz : (upd H' pz (.lst (zs.map V.str))) pz = some (.lst (zs.map V.str)) := upd_same
    have pzj := jr.ne hpz
    have Rz := R.same sz
    have jrz := jr.keep sz
    generalize upd H' pz (.lst (zs.map V.str)) = Hz at epz Rz jrz ⊢
    have lwk : wk.length = (labsOf rs).length := by rw [R.hwk.length, List.length_map]
    have lpos : 0 < (labsOf rs).length := by
      cases e : rs with
      | nil => rw [e] at n2; simp at n2
      | cons r t =>
        have h1 := (hr'.rows r (by rw [e]; exact List.mem_cons_self)).1
        obtain ⟨nm, as⟩ := r
        cases as with
        | nil => exact absurd rfl h1
        | cons x xs => show 0 < ((x :: xs ++ altsOf t).map (·.1)).length; simp
    have lz := perm.length_eq
    refine ⟨_, rfl, _, rfl, rd, wk, rfl, Rz.hrd, j, _, _, rfl, jrz, by omega, by omega, by omega, fun y Hy y0 y1 jry kpy => ?_⟩
    obtain ⟨v, hv1, _⟩ := at_in (l := zs.map V.str) y0 (by rw [List.length_map]; omega)
    obtain ⟨tag, htz, rfl⟩ := str_at hv1
    have htag : tag ∈ labsOf rs := perm.subset htz
    refine ⟨pz, _, _, .str tag, rfl, rfl, SqL.of (kpy _ _ pzj epz), hv1, ?_⟩
    have Ry := Rz.keep jrz kpy
    refine gname_to (σ' := [some (.ref j), some (.ref a), some (.ref b), some (.ref rd), x4, x5, some (.ref nd), some (.int (0 + (i : Int))), some (.str tag), none, none, none, none, none, none, none, none]) rfl ?_
    -- the marks told
    refine ⟨_, rfl, _, rfl, nd, rfl, .inl ⟨_, .inl Ry.hnd⟩, _, rfl, (by show 1 ≤ sizeLine; decide), fun t ht => ?_⟩
    have st1 := same_new ht (.tup [V.str "near"])
    have et : (upd Hy t (.tup [V.str "near"])) t = some (.tup [V.str "near"]) := upd_same
    generalize upd Hy t (.tup [V.str "near"]) = Ht at st1 et ⊢
    have Rt := Ry.same st1
    obtain ⟨rbx, er1, er2⟩ : ∃ rb, valV wk (Sum.inr tag : Key) = some (.ref rb) ∧ Ht rb = some (.tup ((spelledP rs tag).map V.str)) := by
      rcases spelled_at tag Rt.hwk with ⟨rb, e1, e2⟩ | ⟨e1, e2⟩
      · exact ⟨rb, e1, e2⟩
      · have := key_in (spe_keysC Rt.hwk) tag
        rw [e1, decide_eq_true htag] at this
        cases this
    have gR : DGet Ht rd (.str tag) (some (.ref rbx)) := by rw [← er1]; exact DGet.k (k := Sum.inr tag) Rt.hrd
    refine ⟨_, rfl, _, rfl, rd, _, rfl, gR, rbx, _, rfl, .inr (SqT.of er2), _, _, rfl, rfl, _, _, rfl, ?_⟩
    have emx : (if ((((spelledP rs tag).map V.str).length : Nat) : Int) - 1 > 0 then ((((spelledP rs tag).map V.str).length : Nat) : Int) - 1 else 0) = (((spelledP rs tag).length - 1 : Nat) : Int) := by
      rw [List.length_map]
      split <;> omega
    rw [emx]
    have sl := hr'.spl tag
    refine ⟨t, (spelledP rs tag).length - 1, _, rfl, rfl, et, by simp, by omega, by decide, fun z H7 s7 ez => ?_⟩
    rw [rep_near] at ez
    have R7 := Rt.same s7
    have jr7 := jry.keep (st1.trans s7)
    have nv : NtV H7 ((valV kvs (Sum.inr tag : Key)).getD (.ref z)) (owedP rs N tag) := nts_get R7.hpn ⟨z, rfl, ez⟩
    have l26 := lapL_le i
    have lo : (owedP rs N tag).2.length ≤ lapL i := by
      unfold owedP
      cases e : N.lookup tag with
      | none =>
        show (List.replicate ((spelledP rs tag).length - 1) ("near" : Str)).length ≤ _
        rw [List.length_replicate]
        have : 5 ≤ lapL i := by
          match i with
          | 0 => decide
          | 1 => decide
          | _ + 2 => show 5 ≤ 26; decide
        omega
      | some n => exact hN.len _ (lk_mem e)
    refine ⟨_, DGet.k (k := Sum.inr tag) R7.hnd, ?_⟩
    generalize (valV kvs (Sum.inr tag : Key)).getD (.ref z) = vv at nv ⊢
    generalize owedP rs N tag = nn at nv lo
    obtain ⟨bb, l⟩ := nn
    obtain ⟨c, rfl, hc⟩ := nv
    replace lo : l.length ≤ lapL i := lo
    refine' aux_ra (C0 := fun u H8 => ∃ tp, u = V.ref tp ∧ Same H7 H8 ∧ H8 tp = some (.tup (l.map V.str))) (fun go => ?main) ?rest
    case main =>
      rcases Bool.eq_false_or_eq_true bb with hb | hb
      · have hc1 : H7 c = some (.tup (l.map V.str)) := by rw [hc]; simp [hb]
        refine ⟨c, _, rfl, .inr ⟨SqT.of hc1, ?_⟩⟩
        generalize hv : V.ref c = v2
        generalize hH : H7 = H72
        exact go v2 H72 ⟨c, hv.symm, by rw [← hH]; exact same_refl, by rw [← hH]; exact hc1⟩
      · have hc1 : H7 c = some (.lst (l.map V.str)) := by rw [hc]; simp [hb]
        exact ⟨c, _, rfl, .inl ⟨SqL.of hc1, fun tp htp => go (.ref tp) _ ⟨tp, rfl, same_new htp _, upd_same⟩⟩⟩
    case rest =>
      rintro u H8 ⟨tp, rfl, s8, e8⟩
      have R8 := R7.same s8
      have jr8 := jr7.keep s8
      refine ⟨j, tp, C0 + 299 + 4 * i + 1, l, rfl, jr8, by omega, e8, by omega, fun v n H9 nv9 ln9 jr9 kp9 => ?_⟩
      have R9 := R8.keep jr8 kp9
      have ndj9 : nd ≠ j := fun y => by obtain ⟨_, _, _, e2, _⟩ := jr9; rw [← y, R9.hnd] at e2; cases e2
      have lk : kvs.length ≤ 18 := by rw [R9.hpn.length]; have := hN.few; omega
      refine ⟨_, rfl, _, rfl, nd, _, rfl, DPut.k (k := Sum.inr tag) R9.hnd (by rw [sizeLine_eq]; omega), ?_⟩
      have hnx := lapL_next i hi2
      exact ⟨_, _, _, _, rfl, R9.put nv9, NtsG.put (hN.mono (Nat.le_refl _) (by omega)) (by omega), (jr9.upd ndj9).mono (by omega)⟩
  obtain ⟨x7, x8, kvs6, N6, rfl, R7, hN7, jr7⟩ := h
  clear R6 R5 jr6 jr5 hN5 kp6
  refine ⟨j, sa, sx, a, b, rd, nd, ks, rs, wk, kvs6, N6, C0 + 307, x4, x5, x7, x8, none, none, none, none, none, none, none, none, rfl, R7, hN7.mono (by omega) (lapL_le _), jr7.mono (by omega), by omega, fun kvs N H8 R8 hN8 jr8 => ?_⟩
  clear R7 hN7 jr7
  -- the grammar
  obtain ⟨⟨st, as0⟩, rs0, ers⟩ : ∃ r0 t, rs = r0 :: t := by
    cases e : rs with
    | nil => rw [e] at n2; simp at n2
    | cons r t => exact ⟨r, t, rfl⟩
  have hst : ∀ n as t, rs = (n, as) :: t → st = n := fun n as t e => by rw [ers] at e; cases e; rfl
  have hs : st ∈ rs.map (·.1) := by rw [ers]; simp
  refine ⟨_, rfl, _, rfl, ?_⟩
  refine mk_gr R8.kl R8.rl hk hr' hs hdt (.inr ⟨rfl, hst⟩) (fun g H9 s9 _ G9 GN9 => ?_)
  refine gname_to (σ' := [some (.ref j), some (.ref a), some (.ref b), some (.ref rd), x4, x5, some (.ref nd), x7, x8, some (.ref g), none, none, none, none, none, none, none]) rfl ?_
  have Nr9 := GN9 rd (by rw [R8.hrd]; exact fun z => by cases z)
  have Nn9 := GN9 nd (by rw [R8.hnd]; exact fun z => by cases z)
  have R9 := R8.same s9
  have jr9 := jr8.keep s9
  obtain ⟨gx, gfs, hg⟩ := G9.ex
  clear R8 jr8 GN9 s9
  -- wrong
  refine ⟨nd, .dK kvs, R9.hnd, trivial, fun ob => ?_⟩
  have efr : (upd H9 nd (.frz ob (.dK kvs))) nd = some (.frz ob (.dK kvs)) := upd_same
  have rdL : (upd H9 nd (.frz ob (.dK kvs))) rd = some (.dK wk) := by rw [upd_ne R9.ne]; exact R9.hrd
  have pnL := paired_imp (fun _ _ r => (⟨r.1, r.2.at R9.hnd⟩ : NkV (upd H9 nd (.frz ob (.dK kvs))) _ _)) R9.hpn
  have wkL := paired_imp (fun _ _ r => SpE.tk r (fun c zs q => (show (upd H9 nd (.frz ob (.dK kvs))) c = _ by rw [upd_ne (fun z => by rw [z, R9.hnd] at q; cases q)]; exact q))) R9.hwk
  have back : ∀ H', Same (upd H9 nd (.frz ob (.dK kvs))) H' → Same H9 (upd H' nd (.dK kvs)) := fun H' s c u e => by
    by_cases z : c = nd
    · rw [z, upd_same, ← R9.hnd, ← z]; exact e
    · rw [upd_ne z]; exact s _ _ (by rw [upd_ne z]; exact e)
  generalize upd H9 nd (.frz ob (.dK kvs)) = HL at efr rdL pnL wkL back ⊢
  refine ⟨_, rfl, nd, ob, rfl, .inl ⟨kvs, efr, fun D hD => ?_⟩⟩
  have lN := pnL.length
  have hN19 := hN8.few
  refine lc_it walk_keys (fun i H' => H' D = some (.lst (((N.take i).filter (badP rs)).map fun n => V.str n.1)) ∧ Same HL H') ⟨upd_same, same_new hD _⟩ (fun i H' _ h => h.2 _ _ efr) (fun i x H'' H' hi h z => ?turn3) (fun H' h => ?done3)
  case turn3 =>
    obtain ⟨w1, w4⟩ := h
    obtain ⟨rfl, k, v, hkv, rfl⟩ := z
    obtain ⟨⟨tag, n⟩, hn, hk1, hk2⟩ := paired_get pnL i _ hkv
    obtain rfl : k = Sum.inr tag := hk1
    have hnm := List.mem_of_getElem? hn
    have hlk : N.lookup tag = some n := mem_lookup hN8.nd hnm
    obtain ⟨u, hu, nu⟩ : ∃ u, valV kvs (Sum.inr tag : Key) = some u ∧ NtV H' u n := by
      rcases nts_at tag pnL with ⟨n', u, e1, e2, e3⟩ | ⟨e1, _⟩
      · rw [hlk] at e1
        cases e1
        exact ⟨u, e2, e3.same w4⟩
      · rw [hlk] at e1; cases e1
    have eft : (N.take (i + 1)).filter (badP rs) = (N.take i).filter (badP rs) ++ [(tag, n)].filter (badP rs) := by rw [List.take_add_one, hn, Option.toList_some, List.filter_append]
    have hle : ((N.take i).filter (badP rs)).length ≤ 19 := Nat.le_trans (List.length_filter_le _ _) (by rw [List.length_take]; omega)
    refine ⟨rfl, ?_⟩
    refine ⟨_, rfl, _, rfl, _, rfl, _, rfl, nd, _, rfl, by rw [← hu]; exact .inl ⟨kvs, Sum.inr tag, .inr ⟨ob, w4 _ _ efr⟩, rfl, rfl⟩, rd, tag, u, wk, rs, n, rfl, w4 _ _ rdL, paired_imp (fun _ _ r => SpE.tk r (Tk.of_same w4)) wkL, nu, Nat.le_trans (hN8.len _ hnm) (by decide), fun H10 s10 => ⟨_, rfl, ?_⟩⟩
    have w1' := s10 _ _ w1
    have w4' := w4.trans s10
    have hb : badP rs (tag, n) = !rightP rs tag n := rfl
    cases hr1 : rightP rs tag n with
    | true =>
      rw [hr1] at hb
      simp only [Bool.not_true, Bool.false_eq_true, ↓reduceIte]
      refine ⟨?_, w4'⟩
      rw [eft, List.filter_cons_of_neg (by rw [hb]; decide), List.filter_nil, List.append_nil]
      exact w1'
    | false =>
      rw [hr1] at hb
      simp only [Bool.not_false, ↓reduceIte]
      refine ⟨_, rfl, _, w1', by rw [List.length_map, sizeLine_eq]; omega, ?_, same_upd w4' hD⟩
      rw [eft, upd_same, List.map_append, List.filter_cons_of_pos (by rw [hb]; rfl)]; rfl
  obtain ⟨w1, w4⟩ := h
  rw [lN, List.take_length] at w1
  refine gname_to (σ' := [some (.ref j), some (.ref a), some (.ref b), some (.ref rd), x4, x5, some (.ref nd), x7, x8, some (.ref g), some (.ref D), none, none, none, none, none, none]) rfl ?_
  refine ⟨w4 _ _ efr, ?_⟩
  have s10 := back _ w4
  have Dnd : D ≠ nd := fun z => by rw [z, efr] at hD; cases hD
  have eD : (upd H' nd (.dK kvs)) D = some (.lst ((N.filter (badP rs)).map fun n => V.str n.1)) := by rw [upd_ne Dnd]; exact w1
  generalize upd H' nd (.dK kvs) = H10 at s10 eD ⊢
  refine ⟨_, rfl, (by show 0 ≤ sizeLine; decide), fun ne hne => ⟨D, ne, _, rfl, rfl, same_new hne _ _ _ eD, upd_same, ?_⟩⟩
  have s11 := s10.trans (same_new hne (.lst []))
  have eD11 := same_new hne (.lst []) _ _ eD
  generalize upd H10 ne (.lst []) = H11 at s11 eD11 ⊢
  have R11 := R9.same s11
  have G11 := G9.same s11
  have Nr11 := Nr9.same hg s11
  have Nn11 := Nn9.same hg s11
  have jr11 := jr9.keep s11
  refine ⟨_, rfl, ?_⟩
  have ff := first_filter rs N
  cases hf : N.filter (badP rs) with
  | nil =>
    have hRt : RtN rs N := fun n hn => by
      have := List.filter_eq_nil_iff.mp hf n hn
      unfold badP at this
      simpa using this
    exact ifF rfl ⟨j, sa, sx, a, b, rd, nd, g, ks, rs, wk, kvs, N, st, x4, x5, x7, x8, some (.ref D), none, none, none, none, none, none, C0 + 309, rfl, R11, hk, hr', hN8, hRt, G11, Nr11, Nn11, hst, jr11, by omega, q⟩
  | cons n0 rest =>
    rw [hf] at eD11 ff
    refine ifT rfl ?_
    refine ⟨_, rfl, _, rfl, g, nd, ks, rs, [], st, n0.1, kvs, N, rfl, G11, Nn11, R11.hnd, R11.hpn, fun n hn => Nat.le_trans (hN8.len _ hn) (by decide), ff, fun H12 kx => ?_⟩
    have eD12 := kx _ _ (by simp [Dnd]) eD11
    refine ⟨_, rfl, D, _, _, _, rfl, rfl, SqL.of eD12, at_zero, rfl, ?_⟩
    rw [decide_eq_true rfl]
    exact q _ (R11.z.kx R11.hnd kx)
end
end Pa
set_option maxHeartbeats 2000000
namespace Pa
open PySem PySem.Spec PyProof.Rows L2 Ty Se Sv
/-! ### the law -/
theorem scLaw : FnScope ["script", "k"] ["script"] (defScope lLaw) := ⟨rfl, rfl, rfl, by decide +kernel, rfl, by decide +kernel, by decide +kernel⟩
def spLaw (K : PySem.W.Frag) : Sp := fun vs H Q _ => ∃ (a : Addr) (ns : List Int), vs = [.ref a] ∧ SqL K H a (ns.map V.int) ∧ ns.length ≤ 63 ∧ ∀ H', Q (.bl true) H'
section
variable {P : Program} {w : World} {K : PySem.W.Frag} {mg : Str → Option Value} {base : Heap} {f a1 a2 : Addr} {fd d1 d2 : FuncData}
theorem ok_law (F : Fun K "law" "law" lLaw f fd)
    (PU : FnOk P w K mg base CX0 21 a1 d1 ["script", "k"] (spPurse K)) (b1 : L2.Binds K d1 ["script", "k"] []) (k1 : PySem.W.keepIn K (.ref a1) = true) (m1 : mg "_law_jar" = some (.ref a1))
    (RT : FnOk P w K mg base CX0 21 a2 d2 ["jar"] (spRight K)) (b2 : L2.Binds K d2 ["jar"] []) (k2 : PySem.W.keepIn K (.ref a2) = true) (m2 : mg "_law_right" = some (.ref a2))
    (mr : mg "range" = none) (mx : mg "max" = none) (mn : mg "min" = none) (ml : mg "len" = none) :
    FnOk P w K mg base CX0 22 f fd ["script"] (spLaw K) := by
  refine F.ok scLaw (fun vs H Q E h => ?_) (fun cdv A outer s0 H vs Q E hr h => ?_)
  · obtain ⟨_, _, rfl, _⟩ := h
    rfl
  refine ⟨_, pss_cons (ps_for PassesOwn.never rfl (pi_range1 rfl mr (pa_cons (pe_callB (call_max2 rfl) rfl mx (by decide +kernel) (pa_cons pe_int (pa_cons (pe_callB (call_min2 rfl) rfl mn (by decide +kernel) (pa_cons pe_int (pa_cons (pe_callB call_len_seq rfl ml PySem.boot_len (pa_cons (pv 0) pa_nil)) pa_nil))) pa_nil))) pa_nil)) (pg_name (i := 1) scLaw.nd rfl (Or.inl rfl))
      (pss_one (ps_if (pt_not (pt_val (pe_call RT hr rfl m2 k2 b2 .nil pass0 (pa_cons (pe_call PU hr rfl m1 k1 b1 .nil pass0 (pa_cons (pv 0) (pa_cons (pv 1) pa_nil))) pa_nil)))) (pss_one (ps_ret pe_bl)) pss_nil)))
    (pss_one (ps_ret pe_bl)), ?_⟩
  obtain ⟨a, ns, rfl, hS, h63, q⟩ := h
  have hm : ∃ m : Int, m = (if (if ((((ns.map V.int).length : Nat) : Int)) < 6 then ((((ns.map V.int).length : Nat) : Int)) else 6) > 1 then (if ((((ns.map V.int).length : Nat) : Int)) < 6 then ((((ns.map V.int).length : Nat) : Int)) else 6) else 1) ∧ 0 ≤ m ∧ m ≤ 6 := by
    refine ⟨_, rfl, ?_, ?_⟩ <;> split <;> (try split) <;> omega
  obtain ⟨m, hm, m0, m6⟩ := hm
  refine ⟨_, rfl, a, _, rfl, .inl hS, _, _, rfl, _, _, rfl, m, congrArg (fun z => [V.int z]) hm.symm, by omega, by omega, ?_⟩
  refine for_range (lo := 0) (n := m.toNat) (fun i σ H' => ∃ x1, σ = [some (.ref a), x1] ∧ SqL K H' a (ns.map V.int)) ⟨_, rfl, hS⟩ (fun i σ H' hi h => ?turn) (fun σ H' h => ?done)
  case done =>
    exact q H'
  case turn =>
    obtain ⟨x1, rfl, hS'⟩ := h
    refine ⟨_, rfl, _, rfl, a, ns, 0 + (i : Int), rfl, hS', by rw [sizeLine_eq]; omega, by omega, by omega, fun j H2 hj s2 jr => ?_⟩
    have zs : Scr K j a (ns.map V.int) H2 := by
      rcases hS' with (h | ⟨o, h⟩) | h
      · exact .inl ⟨.inl (s2 _ _ h), fun z => by rw [z, hj] at h; cases h⟩
      · exact .inl ⟨.inr ⟨o, s2 _ _ h⟩, fun z => by rw [z, hj] at h; cases h⟩
      · exact .inr fun H' => .inr h
    refine ⟨j, a, ns.map V.int, 0, rfl, jr, by omega, zs, fun H3 z3 => ⟨true, rfl, iteF ⟨_, rfl, z3.sq⟩⟩⟩
end
end Pa
namespace Pa
open PySem PySem.Spec PyProof.Rows L2 Ty
theorem kept_at {K : PySem.W.Frag} {d : Addr} {dd : Option Addr} {its : Array Value} {n : Nat} {sl : Array (Option Value)} {t0 t1 t2 t3 t4 : Tok} (hl : K.lookup d = some ⟨.type "tuple", dd, .seq its n, sl⟩)
    (he : its.toList = [.str "word" t0, .str "skip" t1, .str "rule" t2, .str "top" t3, .str "bar" t4]) (H : Hp) : SqT K H d (kept.map V.str) := by
  refine .inr ⟨_, its, n, hl, rfl, rfl, ?_, ?_⟩
  · have : its.toList.length = 5 := by rw [he]; rfl
    have e : its.toList.length = its.size := Array.length_toList
    rw [sizeLine_eq]; omega
  · rw [he]
    exact .cons ⟨_, rfl⟩ (.cons ⟨_, rfl⟩ (.cons ⟨_, rfl⟩ (.cons ⟨_, rfl⟩ (.cons ⟨_, rfl⟩ .nil))))
theorem none_at {K : PySem.W.Frag} {d : Addr} {dd : Option Addr} {its : Array Value} {n : Nat} {sl : Array (Option Value)} (hl : K.lookup d = some ⟨.type "tuple", dd, .seq its n, sl⟩) (he : its.toList = []) (H : Hp) : SqT K H d [] := by
  refine .inr ⟨_, its, n, hl, rfl, rfl, ?_, ?_⟩
  · have : its.toList.length = 0 := by rw [he]; rfl
    have e : its.toList.length = its.size := Array.length_toList
    omega
  · rw [he]; exact .nil
theorem marks_at {K : PySem.W.Frag} {d : Addr} {dd : Option Addr} {its : Array Value} {n : Nat} {sl : Array (Option Value)} {t0 t1 t2 t3 t4 t5 : Tok} (hl : K.lookup d = some ⟨.type "tuple", dd, .seq its n, sl⟩)
    (he : its.toList = [.str "near" t0, .str "blank" t1, .str "row" t2, .str "in" t3, .str "out" t4, .str "soft" t5]) (H : Hp) : SqT K H d (marksL.map V.str) := by
  refine .inr ⟨_, its, n, hl, rfl, rfl, ?_, ?_⟩
  · have : its.toList.length = 6 := by rw [he]; rfl
    have e : its.toList.length = its.size := Array.length_toList
    rw [sizeLine_eq]; omega
  · rw [he]
    exact .cons ⟨_, rfl⟩ (.cons ⟨_, rfl⟩ (.cons ⟨_, rfl⟩ (.cons ⟨_, rfl⟩ (.cons ⟨_, rfl⟩ (.cons ⟨_, rfl⟩ .nil)))))
theorem funD_fun {K : PySem.W.Frag} {x qual : Str} {st : Stmt} {kws : List (Str × V)} {f : Addr} {fd : FuncData} (F : FunD K x qual (defArgs st) (defBody st) (defScope st) [] kws f fd) : Fun K x qual st f fd := by
  obtain ⟨oc, od, dV, kV, doc, pm, an, cdv, ct, osl, rfl, lk, hcd, hD, _⟩ := F.ex
  rcases hD with ⟨_, rfl⟩ | ⟨e, _⟩
  · exact ⟨⟨oc, od, kV, doc, pm, an, cdv, ct, osl, rfl, lk, hcd⟩, F.kp⟩
  · exact absurd rfl e
set_option maxHeartbeats 4000000 in
theorem all_mk {l : PySem.W.OpenLaw} {w : World} {K : PySem.W.Frag} {h : Heap} {mg : Str → Option Value} {fa DK dt dS f1 f2 f3 f4 f5 f6 f7 f8 f9 f10 f11 f12 f13 f14 f15 f16 f17 f18 CY CN fCN CA fCA CB fCB dkP dkM C fC___init__ fC_ends fC_ends_anew fC_again_ends G fG___init__ fG_need_few fG_look_kinds fG_look_rules fG_look_label fG_look_symbols fG_look_bars fG_row_of fG_labels fG___eq__ Y fY___init__ fY_marks_of fY_all_marks fY___eq__ : Addr} (X : K.In h) (G0 : h.Ns mainGlobals mg) (hfa : mg "law" = some (.ref fa))
    {nmCN qCN : Str} {NNCN : Addr} {bsCN : List Value} {snCN : List Str} {subCN : List Value} {abCN : Bool} {colCN : Option Bool} {ddCN : Option Addr} {kx0CN kx1CN kx2CN kx3CN kx5CN : Option Value} {odICN anICN : Option Addr} {slICN : Array (Option Value)} {ocICN dcICN pmICN kVICN cdICN ctICN : Value}
    {nmCA qCA : Str} {NNCA : Addr} {bsCA : List Value} {snCA : List Str} {subCA : List Value} {abCA : Bool} {colCA : Option Bool} {ddCA : Option Addr} {kx0CA kx1CA kx2CA kx3CA kx5CA : Option Value} {odICA anICA : Option Addr} {slICA : Array (Option Value)} {ocICA dcICA pmICA kVICA cdICA ctICA : Value}
    {nmCB qCB : Str} {NNCB : Addr} {bsCB : List Value} {snCB : List Str} {subCB : List Value} {abCB : Bool} {colCB : Option Bool} {ddCB : Option Addr} {kx0CB kx1CB kx2CB kx3CB kx5CB : Option Value} {odICB anICB : Option Addr} {slICB : Array (Option Value)} {ocICB dcICB pmICB kVICB cdICB ctICB : Value}
    {od1 an1 od2 an2 od3 an3 od4 an4 od5 an5 od6 an6 od7 an7 od8 an8 od9 an9 od10 an10 od11 an11 od12 an12 od13 an13 od14 an14 od15 an15 od16 an16 od17 an17 od18 an18 : Option Addr} {sl1 sl2 sl3 sl4 sl5 sl6 sl7 sl8 sl9 sl10 sl11 sl12 sl13 sl14 sl15 sl16 sl17 sl18 : Array (Option Value)} {oc1 kV1 dc1 pm1 cd1 ct1 oc2 kV2 dc2 pm2 cd2 ct2 oc3 kV3 dc3 pm3 cd3 ct3 oc4 kV4 dc4 pm4 cd4 ct4 oc5 kV5 dc5 pm5 cd5 ct5 oc6 kV6 dc6 pm6 cd6 ct6 oc7 kV7 dc7 pm7 cd7 ct7 oc8 kV8 dc8 pm8 cd8 ct8 oc9 kV9 dc9 pm9 cd9 ct9 oc10 kV10 dc10 pm10 cd10 ct10 oc11 kV11 dc11 pm11 cd11 ct11 oc12 kV12 dc12 pm12 cd12 ct12 oc13 kV13 dc13 pm13 cd13 ct13 oc14 kV14 dc14 pm14 cd14 ct14 oc15 kV15 dc15 pm15 cd15 ct15 oc16 kV16 dc16 pm16 cd16 ct16 oc17 kV17 dc17 pm17 cd17 ct17 oc18 kV18 dc18 pm18 cd18 ct18 : Value}
    {odC___init__ anC___init__ : Option Addr} {slC___init__ : Array (Option Value)} {ocC___init__ kVC___init__ dcC___init__ pmC___init__ cdC___init__ ctC___init__ : Value}
    {odC_ends anC_ends : Option Addr} {slC_ends : Array (Option Value)} {ocC_ends kVC_ends dcC_ends pmC_ends cdC_ends ctC_ends : Value}
    {odC_ends_anew anC_ends_anew : Option Addr} {slC_ends_anew : Array (Option Value)} {ocC_ends_anew kVC_ends_anew dcC_ends_anew pmC_ends_anew cdC_ends_anew ctC_ends_anew : Value}
    {odC_again_ends anC_again_ends : Option Addr} {slC_again_ends : Array (Option Value)} {ocC_again_ends kVC_again_ends dcC_again_ends pmC_again_ends cdC_again_ends ctC_again_ends : Value}
    {odG___init__ anG___init__ : Option Addr} {slG___init__ : Array (Option Value)} {ocG___init__  dcG___init__ pmG___init__ cdG___init__ ctG___init__ : Value}
    {odG_need_few anG_need_few : Option Addr} {slG_need_few : Array (Option Value)} {ocG_need_few kVG_need_few dcG_need_few pmG_need_few cdG_need_few ctG_need_few : Value}
    {odG_look_kinds anG_look_kinds : Option Addr} {slG_look_kinds : Array (Option Value)} {ocG_look_kinds kVG_look_kinds dcG_look_kinds pmG_look_kinds cdG_look_kinds ctG_look_kinds : Value}
    {odG_look_rules anG_look_rules : Option Addr} {slG_look_rules : Array (Option Value)} {ocG_look_rules kVG_look_rules dcG_look_rules pmG_look_rules cdG_look_rules ctG_look_rules : Value}
    {odG_look_label anG_look_label : Option Addr} {slG_look_label : Array (Option Value)} {ocG_look_label kVG_look_label dcG_look_label pmG_look_label cdG_look_label ctG_look_label : Value}
    {odG_look_symbols anG_look_symbols : Option Addr} {slG_look_symbols : Array (Option Value)} {ocG_look_symbols kVG_look_symbols dcG_look_symbols pmG_look_symbols cdG_look_symbols ctG_look_symbols : Value}
    {odG_look_bars anG_look_bars : Option Addr} {slG_look_bars : Array (Option Value)} {ocG_look_bars kVG_look_bars dcG_look_bars pmG_look_bars cdG_look_bars ctG_look_bars : Value}
    {odG_row_of anG_row_of : Option Addr} {slG_row_of : Array (Option Value)} {ocG_row_of kVG_row_of dcG_row_of pmG_row_of cdG_row_of ctG_row_of : Value}
    {odG_labels anG_labels : Option Addr} {slG_labels : Array (Option Value)} {ocG_labels kVG_labels dcG_labels pmG_labels cdG_labels ctG_labels : Value}
    {odG___eq__ anG___eq__ : Option Addr} {slG___eq__ : Array (Option Value)} {ocG___eq__ kVG___eq__ dcG___eq__ pmG___eq__ cdG___eq__ ctG___eq__ : Value}
    {odY___init__ anY___init__ : Option Addr} {slY___init__ : Array (Option Value)} {ocY___init__ kVY___init__ dcY___init__ pmY___init__ cdY___init__ ctY___init__ : Value}
    {odY_marks_of anY_marks_of : Option Addr} {slY_marks_of : Array (Option Value)} {ocY_marks_of kVY_marks_of dcY_marks_of pmY_marks_of cdY_marks_of ctY_marks_of : Value}
    {odY_all_marks anY_all_marks : Option Addr} {slY_all_marks : Array (Option Value)} {ocY_all_marks kVY_all_marks dcY_all_marks pmY_all_marks cdY_all_marks ctY_all_marks : Value}
    {odY___eq__ anY___eq__ : Option Addr} {slY___eq__ : Array (Option Value)} {ocY___eq__ kVY___eq__ dcY___eq__ pmY___eq__ cdY___eq__ ctY___eq__ : Value}
    {tkL : Tok} {zkL : Str}
    {tkN : Tok}
    {ddkP : Option Addr} {itskP : Array Value} {nkP : Nat} {slkP : Array (Option Value)} {tkP0 tkP1 tkP2 tkP3 tkP4 : Tok}
    {tKa : Tok}
    {tKb : Tok}
    {tKc : Tok}
    {tKd : Tok}
    {tKe : Tok}
    {tKf : Tok}
    {ddkM : Option Addr} {itskM : Array Value} {nkM : Nat} {slkM : Array (Option Value)} {tkM0 tkM1 tkM2 tkM3 tkM4 tkM5 : Tok}
    {tkE : Tok} {zkE : Str}
    {ddt : Option Addr} {itsdt : Array Value} {ndt : Nat} {sldt : Array (Option Value)} {esS : Array DictEntry} {epS : Nat} {t1 t2 t3 t4 : Tok}
    (a1 : PySem.W.nsIn K mainGlobals "is_name" = some (some (.ref f1)))
    (l1 : K.lookup f1 = some ⟨oc1, od1, .func (PySem.W.fnOf "is_name" "is_name" (defArgs sName) (defBody sName) (defScope sName) .none kV1 dc1 pm1 an1 cd1 ct1), sl1⟩)
    (c1 : PySem.W.codeIn K cd1 "is_name" = true)
    (k1 : PySem.W.keepIn K (.ref f1) = true)
    (a2 : PySem.W.nsIn K mainGlobals "parts_told" = some (some (.ref f2)))
    (l2 : K.lookup f2 = some ⟨oc2, od2, .func (PySem.W.fnOf "parts_told" "parts_told" (defArgs sTold) (defBody sTold) (defScope sTold) .none kV2 dc2 pm2 an2 cd2 ct2), sl2⟩)
    (c2 : PySem.W.codeIn K cd2 "parts_told" = true)
    (k2 : PySem.W.keepIn K (.ref f2) = true)
    (a3 : PySem.W.nsIn K mainGlobals "spells" = some (some (.ref f3)))
    (l3 : K.lookup f3 = some ⟨oc3, od3, .func (PySem.W.fnOf "spells" "spells" (defArgs sSpells) (defBody sSpells) (defScope sSpells) .none kV3 dc3 pm3 an3 cd3 ct3), sl3⟩)
    (c3 : PySem.W.codeIn K cd3 "spells" = true)
    (k3 : PySem.W.keepIn K (.ref f3) = true)
    (a4 : PySem.W.nsIn K mainGlobals "spells_none" = some (some (.ref f4)))
    (l4 : K.lookup f4 = some ⟨oc4, od4, .func (PySem.W.fnOf "spells_none" "spells_none" (defArgs sNone) (defBody sNone) (defScope sNone) .none kV4 dc4 pm4 an4 cd4 ct4), sl4⟩)
    (c4 : PySem.W.codeIn K cd4 "spells_none" = true)
    (k4 : PySem.W.keepIn K (.ref f4) = true)
    (a5 : PySem.W.nsIn K mainGlobals "signs_in" = some (some (.ref f5)))
    (l5 : K.lookup f5 = some ⟨oc5, od5, .func (PySem.W.fnOf "signs_in" "signs_in" (defArgs sSignsIn) (defBody sSignsIn) (defScope sSignsIn) .none kV5 dc5 pm5 an5 cd5 ct5), sl5⟩)
    (c5 : PySem.W.codeIn K cd5 "signs_in" = true)
    (k5 : PySem.W.keepIn K (.ref f5) = true)
    (a6 : PySem.W.nsIn K mainGlobals "steps_right" = some (some (.ref f6)))
    (l6 : K.lookup f6 = some ⟨oc6, od6, .func (PySem.W.fnOf "steps_right" "steps_right" (defArgs sSteps) (defBody sSteps) (defScope sSteps) .none kV6 dc6 pm6 an6 cd6 ct6), sl6⟩)
    (c6 : PySem.W.codeIn K cd6 "steps_right" = true)
    (k6 : PySem.W.keepIn K (.ref f6) = true)
    (a7 : PySem.W.nsIn K mainGlobals "marks_right" = some (some (.ref f7)))
    (l7 : K.lookup f7 = some ⟨oc7, od7, .func (PySem.W.fnOf "marks_right" "marks_right" (defArgs sMarksR) (defBody sMarksR) (defScope sMarksR) .none kV7 dc7 pm7 an7 cd7 ct7), sl7⟩)
    (c7 : PySem.W.codeIn K cd7 "marks_right" = true)
    (k7 : PySem.W.keepIn K (.ref f7) = true)
    (a8 : PySem.W.nsIn K mainGlobals "_law_jar" = some (some (.ref f8)))
    (l8 : K.lookup f8 = some ⟨oc8, od8, .func (PySem.W.fnOf "_law_jar" "_law_jar" (defArgs lPurse) (defBody lPurse) (defScope lPurse) .none kV8 dc8 pm8 an8 cd8 ct8), sl8⟩)
    (c8 : PySem.W.codeIn K cd8 "_law_jar" = true)
    (k8 : PySem.W.keepIn K (.ref f8) = true)
    (a9 : PySem.W.nsIn K mainGlobals "_law_dip" = some (some (.ref f9)))
    (l9 : K.lookup f9 = some ⟨oc9, od9, .func (PySem.W.fnOf "_law_dip" "_law_dip" (defArgs lDrawn) (defBody lDrawn) (defScope lDrawn) .none kV9 dc9 pm9 an9 cd9 ct9), sl9⟩)
    (c9 : PySem.W.codeIn K cd9 "_law_dip" = true)
    (k9 : PySem.W.keepIn K (.ref f9) = true)
    (a10 : PySem.W.nsIn K mainGlobals "_law_kinds_drawn" = some (some (.ref f10)))
    (l10 : K.lookup f10 = some ⟨oc10, od10, .func (PySem.W.fnOf "_law_kinds_drawn" "_law_kinds_drawn" (defArgs lKindsD) (defBody lKindsD) (defScope lKindsD) .none kV10 dc10 pm10 an10 cd10 ct10), sl10⟩)
    (c10 : PySem.W.codeIn K cd10 "_law_kinds_drawn" = true)
    (k10 : PySem.W.keepIn K (.ref f10) = true)
    (a11 : PySem.W.nsIn K mainGlobals "_law_rules_drawn" = some (some (.ref f11)))
    (l11 : K.lookup f11 = some ⟨oc11, od11, .func (PySem.W.fnOf "_law_rules_drawn" "_law_rules_drawn" (defArgs lRulesD) (defBody lRulesD) (defScope lRulesD) .none kV11 dc11 pm11 an11 cd11 ct11), sl11⟩)
    (c11 : PySem.W.codeIn K cd11 "_law_rules_drawn" = true)
    (k11 : PySem.W.keepIn K (.ref f11) = true)
    (a12 : PySem.W.nsIn K mainGlobals "_law_marks" = some (some (.ref f12)))
    (l12 : K.lookup f12 = some ⟨oc12, od12, .func (PySem.W.fnOf "_law_marks" "_law_marks" (defArgs lMarks) (defBody lMarks) (defScope lMarks) .none kV12 dc12 pm12 an12 cd12 ct12), sl12⟩)
    (c12 : PySem.W.codeIn K cd12 "_law_marks" = true)
    (k12 : PySem.W.keepIn K (.ref f12) = true)
    (a13 : PySem.W.nsIn K mainGlobals "_law_marks_right" = some (some (.ref f13)))
    (l13 : K.lookup f13 = some ⟨oc13, od13, .func (PySem.W.fnOf "_law_marks_right" "_law_marks_right" (defArgs lMarksR) (defBody lMarksR) (defScope lMarksR) .none kV13 dc13 pm13 an13 cd13 ct13), sl13⟩)
    (c13 : PySem.W.codeIn K cd13 "_law_marks_right" = true)
    (k13 : PySem.W.keepIn K (.ref f13) = true)
    (a14 : PySem.W.nsIn K mainGlobals "_law_spoilt" = some (some (.ref f14)))
    (l14 : K.lookup f14 = some ⟨oc14, od14, .func (PySem.W.fnOf "_law_spoilt" "_law_spoilt" (defArgs lSpoilt) (defBody lSpoilt) (defScope lSpoilt) .none kV14 dc14 pm14 an14 cd14 ct14), sl14⟩)
    (c14 : PySem.W.codeIn K cd14 "_law_spoilt" = true)
    (k14 : PySem.W.keepIn K (.ref f14) = true)
    (a15 : PySem.W.nsIn K mainGlobals "_law_refused" = some (some (.ref f15)))
    (l15 : K.lookup f15 = some ⟨oc15, od15, .func (PySem.W.fnOf "_law_refused" "_law_refused" (defArgs lRefused) (defBody lRefused) (defScope lRefused) .none kV15 dc15 pm15 an15 cd15 ct15), sl15⟩)
    (c15 : PySem.W.codeIn K cd15 "_law_refused" = true)
    (k15 : PySem.W.keepIn K (.ref f15) = true)
    (a16 : PySem.W.nsIn K mainGlobals "_law_no_label" = some (some (.ref f16)))
    (l16 : K.lookup f16 = some ⟨oc16, od16, .func (PySem.W.fnOf "_law_no_label" "_law_no_label" (defArgs lNoLabel) (defBody lNoLabel) (defScope lNoLabel) .none kV16 dc16 pm16 an16 cd16 ct16), sl16⟩)
    (c16 : PySem.W.codeIn K cd16 "_law_no_label" = true)
    (k16 : PySem.W.keepIn K (.ref f16) = true)
    (a17 : PySem.W.nsIn K mainGlobals "_law_right" = some (some (.ref f17)))
    (l17 : K.lookup f17 = some ⟨oc17, od17, .func (PySem.W.fnOf "_law_right" "_law_right" (defArgs lRight) (defBody lRight) (defScope lRight) .none kV17 dc17 pm17 an17 cd17 ct17), sl17⟩)
    (c17 : PySem.W.codeIn K cd17 "_law_right" = true)
    (k17 : PySem.W.keepIn K (.ref f17) = true)
    (a18 : PySem.W.nsIn K mainGlobals "law" = some (some (.ref f18)))
    (l18 : K.lookup f18 = some ⟨oc18, od18, .func (PySem.W.fnOf "law" "law" (defArgs lLaw) (defBody lLaw) (defScope lLaw) .none kV18 dc18 pm18 an18 cd18 ct18), sl18⟩)
    (c18 : PySem.W.codeIn K cd18 "law" = true)
    (k18 : PySem.W.keepIn K (.ref f18) = true)
    (akC : PySem.W.nsIn K mainGlobals "Spelling" = some (some (.ref C)))
    (pgC : PySem.W.plainGet K C Str.empty = true)
    (hdC : PySem.W.hasDictIn K C = true)
    (poC : PySem.W.plainOver K C = true)
    (stC : PySem.W.findIn K (.ref C) "__setattr__" = some (some (.builtin "object.__setattr__")))
    (mkC : PySem.W.makesIn K C = true)
    (kcC : PySem.W.keepIn K (.ref C) = true)
    (naC_parts : PySem.W.findIn K (.ref C) "parts" = some none)
    (naC_text : PySem.W.findIn K (.ref C) "text" = some none)
    (naC_known : PySem.W.findIn K (.ref C) "known" = some none)
    (aC___init__ : PySem.W.findIn K (.ref C) "__init__" = some (some (.ref fC___init__)))
    (iC___init__ : PySem.W.isFn K (.ref fC___init__) = true)
    (lC___init__ : K.lookup fC___init__ = some ⟨ocC___init__, odC___init__, .func (PySem.W.fnOf "__init__" "Spelling.__init__" (defArgs sInit) (defBody sInit) (defScope sInit) .none kVC___init__ dcC___init__ pmC___init__ anC___init__ cdC___init__ ctC___init__), slC___init__⟩)
    (cC___init__ : PySem.W.codeIn K cdC___init__ "Spelling.__init__" = true)
    (kC___init__ : PySem.W.keepIn K (.ref fC___init__) = true)
    (aC_ends : PySem.W.findIn K (.ref C) "ends" = some (some (.ref fC_ends)))
    (iC_ends : PySem.W.isFn K (.ref fC_ends) = true)
    (lC_ends : K.lookup fC_ends = some ⟨ocC_ends, odC_ends, .func (PySem.W.fnOf "ends" "Spelling.ends" (defArgs sEnds) (defBody sEnds) (defScope sEnds) .none kVC_ends dcC_ends pmC_ends anC_ends cdC_ends ctC_ends), slC_ends⟩)
    (cC_ends : PySem.W.codeIn K cdC_ends "Spelling.ends" = true)
    (kC_ends : PySem.W.keepIn K (.ref fC_ends) = true)
    (aC_ends_anew : PySem.W.findIn K (.ref C) "ends_anew" = some (some (.ref fC_ends_anew)))
    (iC_ends_anew : PySem.W.isFn K (.ref fC_ends_anew) = true)
    (lC_ends_anew : K.lookup fC_ends_anew = some ⟨ocC_ends_anew, odC_ends_anew, .func (PySem.W.fnOf "ends_anew" "Spelling.ends_anew" (defArgs sAnew) (defBody sAnew) (defScope sAnew) .none kVC_ends_anew dcC_ends_anew pmC_ends_anew anC_ends_anew cdC_ends_anew ctC_ends_anew), slC_ends_anew⟩)
    (cC_ends_anew : PySem.W.codeIn K cdC_ends_anew "Spelling.ends_anew" = true)
    (kC_ends_anew : PySem.W.keepIn K (.ref fC_ends_anew) = true)
    (aC_again_ends : PySem.W.findIn K (.ref C) "again_ends" = some (some (.ref fC_again_ends)))
    (iC_again_ends : PySem.W.isFn K (.ref fC_again_ends) = true)
    (lC_again_ends : K.lookup fC_again_ends = some ⟨ocC_again_ends, odC_again_ends, .func (PySem.W.fnOf "again_ends" "Spelling.again_ends" (defArgs sAgain) (defBody sAgain) (defScope sAgain) .none kVC_again_ends dcC_again_ends pmC_again_ends anC_again_ends cdC_again_ends ctC_again_ends), slC_again_ends⟩)
    (cC_again_ends : PySem.W.codeIn K cdC_again_ends "Spelling.again_ends" = true)
    (kC_again_ends : PySem.W.keepIn K (.ref fC_again_ends) = true)
    (akG : PySem.W.nsIn K mainGlobals "Grammar" = some (some (.ref G)))
    (pgG : PySem.W.plainGet K G Str.empty = true)
    (hdG : PySem.W.hasDictIn K G = true)
    (poG : PySem.W.plainOver K G = true)
    (stG : PySem.W.findIn K (.ref G) "__setattr__" = some (some (.builtin "object.__setattr__")))
    (mkG : PySem.W.makesIn K G = true)
    (kcG : PySem.W.keepIn K (.ref G) = true)
    (naG_kind_rows : PySem.W.findIn K (.ref G) "kind_rows" = some none)
    (naG_rule_rows : PySem.W.findIn K (.ref G) "rule_rows" = some none)
    (naG_bar_rows : PySem.W.findIn K (.ref G) "bar_rows" = some none)
    (naG_first_rule : PySem.W.findIn K (.ref G) "first_rule" = some none)
    (naG_patterns : PySem.W.findIn K (.ref G) "patterns" = some none)
    (naG_skips : PySem.W.findIn K (.ref G) "skips" = some none)
    (naG_homes : PySem.W.findIn K (.ref G) "homes" = some none)
    (naG_spelled : PySem.W.findIn K (.ref G) "spelled" = some none)
    (naG_numbers : PySem.W.findIn K (.ref G) "numbers" = some none)
    (naG_label_rows : PySem.W.findIn K (.ref G) "label_rows" = some none)
    (aG___init__ : PySem.W.findIn K (.ref G) "__init__" = some (some (.ref fG___init__)))
    (iG___init__ : PySem.W.isFn K (.ref fG___init__) = true)
    (lG___init__ : K.lookup fG___init__ = some ⟨ocG___init__, odG___init__, .func (PySem.W.fnOf "__init__" "Grammar.__init__" (defArgs gInit) (defBody gInit) (defScope gInit) .none (.ref DK) dcG___init__ pmG___init__ anG___init__ cdG___init__ ctG___init__), slG___init__⟩)
    (cG___init__ : PySem.W.codeIn K cdG___init__ "Grammar.__init__" = true)
    (kG___init__ : PySem.W.keepIn K (.ref fG___init__) = true)
    (aG_need_few : PySem.W.findIn K (.ref G) "need_few" = some (some (.ref fG_need_few)))
    (iG_need_few : PySem.W.isFn K (.ref fG_need_few) = true)
    (lG_need_few : K.lookup fG_need_few = some ⟨ocG_need_few, odG_need_few, .func (PySem.W.fnOf "need_few" "Grammar.need_few" (defArgs gFew) (defBody gFew) (defScope gFew) .none kVG_need_few dcG_need_few pmG_need_few anG_need_few cdG_need_few ctG_need_few), slG_need_few⟩)
    (cG_need_few : PySem.W.codeIn K cdG_need_few "Grammar.need_few" = true)
    (kG_need_few : PySem.W.keepIn K (.ref fG_need_few) = true)
    (aG_look_kinds : PySem.W.findIn K (.ref G) "look_kinds" = some (some (.ref fG_look_kinds)))
    (iG_look_kinds : PySem.W.isFn K (.ref fG_look_kinds) = true)
    (lG_look_kinds : K.lookup fG_look_kinds = some ⟨ocG_look_kinds, odG_look_kinds, .func (PySem.W.fnOf "look_kinds" "Grammar.look_kinds" (defArgs gKinds) (defBody gKinds) (defScope gKinds) .none kVG_look_kinds dcG_look_kinds pmG_look_kinds anG_look_kinds cdG_look_kinds ctG_look_kinds), slG_look_kinds⟩)
    (cG_look_kinds : PySem.W.codeIn K cdG_look_kinds "Grammar.look_kinds" = true)
    (kG_look_kinds : PySem.W.keepIn K (.ref fG_look_kinds) = true)
    (aG_look_rules : PySem.W.findIn K (.ref G) "look_rules" = some (some (.ref fG_look_rules)))
    (iG_look_rules : PySem.W.isFn K (.ref fG_look_rules) = true)
    (lG_look_rules : K.lookup fG_look_rules = some ⟨ocG_look_rules, odG_look_rules, .func (PySem.W.fnOf "look_rules" "Grammar.look_rules" (defArgs gRules) (defBody gRules) (defScope gRules) .none kVG_look_rules dcG_look_rules pmG_look_rules anG_look_rules cdG_look_rules ctG_look_rules), slG_look_rules⟩)
    (cG_look_rules : PySem.W.codeIn K cdG_look_rules "Grammar.look_rules" = true)
    (kG_look_rules : PySem.W.keepIn K (.ref fG_look_rules) = true)
    (aG_look_label : PySem.W.findIn K (.ref G) "look_label" = some (some (.ref fG_look_label)))
    (iG_look_label : PySem.W.isFn K (.ref fG_look_label) = true)
    (lG_look_label : K.lookup fG_look_label = some ⟨ocG_look_label, odG_look_label, .func (PySem.W.fnOf "look_label" "Grammar.look_label" (defArgs gLabel) (defBody gLabel) (defScope gLabel) .none kVG_look_label dcG_look_label pmG_look_label anG_look_label cdG_look_label ctG_look_label), slG_look_label⟩)
    (cG_look_label : PySem.W.codeIn K cdG_look_label "Grammar.look_label" = true)
    (kG_look_label : PySem.W.keepIn K (.ref fG_look_label) = true)
    (aG_look_symbols : PySem.W.findIn K (.ref G) "look_symbols" = some (some (.ref fG_look_symbols)))
    (iG_look_symbols : PySem.W.isFn K (.ref fG_look_symbols) = true)
    (lG_look_symbols : K.lookup fG_look_symbols = some ⟨ocG_look_symbols, odG_look_symbols, .func (PySem.W.fnOf "look_symbols" "Grammar.look_symbols" (defArgs gSymbols) (defBody gSymbols) (defScope gSymbols) .none kVG_look_symbols dcG_look_symbols pmG_look_symbols anG_look_symbols cdG_look_symbols ctG_look_symbols), slG_look_symbols⟩)
    (cG_look_symbols : PySem.W.codeIn K cdG_look_symbols "Grammar.look_symbols" = true)
    (kG_look_symbols : PySem.W.keepIn K (.ref fG_look_symbols) = true)
    (aG_look_bars : PySem.W.findIn K (.ref G) "look_bars" = some (some (.ref fG_look_bars)))
    (iG_look_bars : PySem.W.isFn K (.ref fG_look_bars) = true)
    (lG_look_bars : K.lookup fG_look_bars = some ⟨ocG_look_bars, odG_look_bars, .func (PySem.W.fnOf "look_bars" "Grammar.look_bars" (defArgs gBars) (defBody gBars) (defScope gBars) .none kVG_look_bars dcG_look_bars pmG_look_bars anG_look_bars cdG_look_bars ctG_look_bars), slG_look_bars⟩)
    (cG_look_bars : PySem.W.codeIn K cdG_look_bars "Grammar.look_bars" = true)
    (kG_look_bars : PySem.W.keepIn K (.ref fG_look_bars) = true)
    (aG_row_of : PySem.W.findIn K (.ref G) "row_of" = some (some (.ref fG_row_of)))
    (iG_row_of : PySem.W.isFn K (.ref fG_row_of) = true)
    (lG_row_of : K.lookup fG_row_of = some ⟨ocG_row_of, odG_row_of, .func (PySem.W.fnOf "row_of" "Grammar.row_of" (defArgs gRowOf) (defBody gRowOf) (defScope gRowOf) .none kVG_row_of dcG_row_of pmG_row_of anG_row_of cdG_row_of ctG_row_of), slG_row_of⟩)
    (cG_row_of : PySem.W.codeIn K cdG_row_of "Grammar.row_of" = true)
    (kG_row_of : PySem.W.keepIn K (.ref fG_row_of) = true)
    (aG_labels : PySem.W.findIn K (.ref G) "labels" = some (some (.ref fG_labels)))
    (iG_labels : PySem.W.isFn K (.ref fG_labels) = true)
    (lG_labels : K.lookup fG_labels = some ⟨ocG_labels, odG_labels, .func (PySem.W.fnOf "labels" "Grammar.labels" (defArgs gLabels) (defBody gLabels) (defScope gLabels) .none kVG_labels dcG_labels pmG_labels anG_labels cdG_labels ctG_labels), slG_labels⟩)
    (cG_labels : PySem.W.codeIn K cdG_labels "Grammar.labels" = true)
    (kG_labels : PySem.W.keepIn K (.ref fG_labels) = true)
    (aG___eq__ : PySem.W.findIn K (.ref G) "__eq__" = some (some (.ref fG___eq__)))
    (iG___eq__ : PySem.W.isFn K (.ref fG___eq__) = true)
    (lG___eq__ : K.lookup fG___eq__ = some ⟨ocG___eq__, odG___eq__, .func (PySem.W.fnOf "__eq__" "Grammar.__eq__" (defArgs gEq) (defBody gEq) (defScope gEq) .none kVG___eq__ dcG___eq__ pmG___eq__ anG___eq__ cdG___eq__ ctG___eq__), slG___eq__⟩)
    (cG___eq__ : PySem.W.codeIn K cdG___eq__ "Grammar.__eq__" = true)
    (kG___eq__ : PySem.W.keepIn K (.ref fG___eq__) = true)
    (akY : PySem.W.nsIn K mainGlobals "Layout" = some (some (.ref Y)))
    (pgY : PySem.W.plainGet K Y Str.empty = true)
    (hdY : PySem.W.hasDictIn K Y = true)
    (poY : PySem.W.plainOver K Y = true)
    (stY : PySem.W.findIn K (.ref Y) "__setattr__" = some (some (.builtin "object.__setattr__")))
    (mkY : PySem.W.makesIn K Y = true)
    (kcY : PySem.W.keepIn K (.ref Y) = true)
    (naY_grammar : PySem.W.findIn K (.ref Y) "grammar" = some none)
    (naY_marks_kept : PySem.W.findIn K (.ref Y) "marks_kept" = some none)
    (aY___init__ : PySem.W.findIn K (.ref Y) "__init__" = some (some (.ref fY___init__)))
    (iY___init__ : PySem.W.isFn K (.ref fY___init__) = true)
    (lY___init__ : K.lookup fY___init__ = some ⟨ocY___init__, odY___init__, .func (PySem.W.fnOf "__init__" "Layout.__init__" (defArgs yInit) (defBody yInit) (defScope yInit) .none kVY___init__ dcY___init__ pmY___init__ anY___init__ cdY___init__ ctY___init__), slY___init__⟩)
    (cY___init__ : PySem.W.codeIn K cdY___init__ "Layout.__init__" = true)
    (kY___init__ : PySem.W.keepIn K (.ref fY___init__) = true)
    (aY_marks_of : PySem.W.findIn K (.ref Y) "marks_of" = some (some (.ref fY_marks_of)))
    (iY_marks_of : PySem.W.isFn K (.ref fY_marks_of) = true)
    (lY_marks_of : K.lookup fY_marks_of = some ⟨ocY_marks_of, odY_marks_of, .func (PySem.W.fnOf "marks_of" "Layout.marks_of" (defArgs yMarksOf) (defBody yMarksOf) (defScope yMarksOf) .none kVY_marks_of dcY_marks_of pmY_marks_of anY_marks_of cdY_marks_of ctY_marks_of), slY_marks_of⟩)
    (cY_marks_of : PySem.W.codeIn K cdY_marks_of "Layout.marks_of" = true)
    (kY_marks_of : PySem.W.keepIn K (.ref fY_marks_of) = true)
    (aY_all_marks : PySem.W.findIn K (.ref Y) "all_marks" = some (some (.ref fY_all_marks)))
    (iY_all_marks : PySem.W.isFn K (.ref fY_all_marks) = true)
    (lY_all_marks : K.lookup fY_all_marks = some ⟨ocY_all_marks, odY_all_marks, .func (PySem.W.fnOf "all_marks" "Layout.all_marks" (defArgs yAll) (defBody yAll) (defScope yAll) .none kVY_all_marks dcY_all_marks pmY_all_marks anY_all_marks cdY_all_marks ctY_all_marks), slY_all_marks⟩)
    (cY_all_marks : PySem.W.codeIn K cdY_all_marks "Layout.all_marks" = true)
    (kY_all_marks : PySem.W.keepIn K (.ref fY_all_marks) = true)
    (aY___eq__ : PySem.W.findIn K (.ref Y) "__eq__" = some (some (.ref fY___eq__)))
    (iY___eq__ : PySem.W.isFn K (.ref fY___eq__) = true)
    (lY___eq__ : K.lookup fY___eq__ = some ⟨ocY___eq__, odY___eq__, .func (PySem.W.fnOf "__eq__" "Layout.__eq__" (defArgs yEq) (defBody yEq) (defScope yEq) .none kVY___eq__ dcY___eq__ pmY___eq__ anY___eq__ cdY___eq__ ctY___eq__), slY___eq__⟩)
    (cY___eq__ : PySem.W.codeIn K cdY___eq__ "Layout.__eq__" = true)
    (kY___eq__ : PySem.W.keepIn K (.ref fY___eq__) = true)
    (aY : PySem.W.nsIn K mainGlobals "YardError" = some (some (.ref CY)))
    (rY : PySem.W.readsIn K CY (.type "type") = true)
    (gY : PySem.W.specialIn K (.ref CY) "__getattribute__" = some (some (.builtin "type.__getattribute__")))
    (vY : PySem.W.findCls K (.ref CY) (.type "type") "__init__" = some (.val (.builtin "ValueError.__init__")))
    (yB : PySem.W.subIn K (.ref CY) (.type "BaseException") = some true)
    (yD : PySem.W.hasDictIn K CY = true)
    (yT : PySem.W.typeIn K (.ref CY) = some (.type "type"))
    (aCN : PySem.W.nsIn K mainGlobals "NoGrammar" = some (some (.ref CN)))
    (xCN : K.lookup CN = some (excClassObj nmCN qCN CN NNCN bsCN [.ref CY, .type "ValueError", .type "Exception", .type "BaseException", .type "object"] true snCN subCN abCN colCN ddCN kx0CN kx1CN kx2CN kx3CN kx5CN "ValueError.__new__"))
    (saCN : PySem.W.findIn K (.ref CN) "__setattr__" = some (some (.builtin "object.__setattr__")))
    (exCN : PySem.W.subIn K (.ref CN) (.type "BaseException") = some true)
    (tyCN : PySem.W.typeIn K (.ref CN) = some (.type "type"))
    (kCN : PySem.W.keepIn K (.ref CN) = true)
    (noCNwhat : PySem.W.findIn K (.ref CN) "what" = some none)
    (noCNname : PySem.W.findIn K (.ref CN) "name" = some none)
    (aICN : PySem.W.findIn K (.ref CN) "__init__" = some (some (.ref fCN)))
    (tICN : PySem.W.typeIn K (.ref fCN) = some (.type "function"))
    (lICN : K.lookup fCN = some ⟨ocICN, odICN, .func (PySem.W.fnOf "__init__" "NoGrammar.__init__" (defArgs sNoGrammar) (defBody sNoGrammar) (defScope sNoGrammar) .none kVICN dcICN pmICN anICN cdICN ctICN), slICN⟩)
    (cICN : PySem.W.codeIn K cdICN "NoGrammar.__init__" = true)
    (kICN : PySem.W.keepIn K (.ref fCN) = true)
    (eGCN : PySem.W.findIn K (.ref CN) "__getattribute__" = some (some (.builtin "BaseException.__getattribute__")))
    (eKCN : PySem.W.findIn K (.ref CN) "__getattr__" = some none)
    (eDCN : PySem.W.hasDictIn K CN = true)
    (eACN : PySem.W.findIn K (.ref CN) "__class__" = some (some (.builtin "object.__class__")))
    (eMCN : PySem.W.mroIn K CN (.type "object") = some true)
    (sCYCN : PySem.W.subIn K (.ref CN) (.ref CY) = some true)
    (sCCCN : PySem.W.subIn K (.ref CN) (.ref CN) = some true)
    (qVCN : PySem.W.kitOne K (.ref CN) (.type "ValueError") = some true)
    (qYCN : PySem.W.kitOne K (.ref CN) (.ref CY) = some true)
    (qCCN : PySem.W.kitOne K (.ref CN) (.ref CN) = some true)
    (aCA : PySem.W.nsIn K mainGlobals "NoLabel" = some (some (.ref CA)))
    (xCA : K.lookup CA = some (excClassObj nmCA qCA CA NNCA bsCA [.ref CY, .type "ValueError", .type "Exception", .type "BaseException", .type "object"] true snCA subCA abCA colCA ddCA kx0CA kx1CA kx2CA kx3CA kx5CA "ValueError.__new__"))
    (saCA : PySem.W.findIn K (.ref CA) "__setattr__" = some (some (.builtin "object.__setattr__")))
    (exCA : PySem.W.subIn K (.ref CA) (.type "BaseException") = some true)
    (tyCA : PySem.W.typeIn K (.ref CA) = some (.type "type"))
    (kCA : PySem.W.keepIn K (.ref CA) = true)
    (noCA : PySem.W.findIn K (.ref CA) "label" = some none)
    (aICA : PySem.W.findIn K (.ref CA) "__init__" = some (some (.ref fCA)))
    (tICA : PySem.W.typeIn K (.ref fCA) = some (.type "function"))
    (lICA : K.lookup fCA = some ⟨ocICA, odICA, .func (PySem.W.fnOf "__init__" "NoLabel.__init__" (defArgs sNoLabel) (defBody sNoLabel) (defScope sNoLabel) .none kVICA dcICA pmICA anICA cdICA ctICA), slICA⟩)
    (cICA : PySem.W.codeIn K cdICA "NoLabel.__init__" = true)
    (kICA : PySem.W.keepIn K (.ref fCA) = true)
    (eGCA : PySem.W.findIn K (.ref CA) "__getattribute__" = some (some (.builtin "BaseException.__getattribute__")))
    (eKCA : PySem.W.findIn K (.ref CA) "__getattr__" = some none)
    (eDCA : PySem.W.hasDictIn K CA = true)
    (eACA : PySem.W.findIn K (.ref CA) "__class__" = some (some (.builtin "object.__class__")))
    (eMCA : PySem.W.mroIn K CA (.type "object") = some true)
    (sCYCA : PySem.W.subIn K (.ref CA) (.ref CY) = some true)
    (sCCCA : PySem.W.subIn K (.ref CA) (.ref CA) = some true)
    (qVCA : PySem.W.kitOne K (.ref CA) (.type "ValueError") = some true)
    (qYCA : PySem.W.kitOne K (.ref CA) (.ref CY) = some true)
    (qCCA : PySem.W.kitOne K (.ref CA) (.ref CA) = some true)
    (aCB : PySem.W.nsIn K mainGlobals "NoLayout" = some (some (.ref CB)))
    (xCB : K.lookup CB = some (excClassObj nmCB qCB CB NNCB bsCB [.ref CY, .type "ValueError", .type "Exception", .type "BaseException", .type "object"] true snCB subCB abCB colCB ddCB kx0CB kx1CB kx2CB kx3CB kx5CB "ValueError.__new__"))
    (saCB : PySem.W.findIn K (.ref CB) "__setattr__" = some (some (.builtin "object.__setattr__")))
    (exCB : PySem.W.subIn K (.ref CB) (.type "BaseException") = some true)
    (tyCB : PySem.W.typeIn K (.ref CB) = some (.type "type"))
    (kCB : PySem.W.keepIn K (.ref CB) = true)
    (noCB : PySem.W.findIn K (.ref CB) "label" = some none)
    (aICB : PySem.W.findIn K (.ref CB) "__init__" = some (some (.ref fCB)))
    (tICB : PySem.W.typeIn K (.ref fCB) = some (.type "function"))
    (lICB : K.lookup fCB = some ⟨ocICB, odICB, .func (PySem.W.fnOf "__init__" "NoLayout.__init__" (defArgs sNoLayout) (defBody sNoLayout) (defScope sNoLayout) .none kVICB dcICB pmICB anICB cdICB ctICB), slICB⟩)
    (cICB : PySem.W.codeIn K cdICB "NoLayout.__init__" = true)
    (kICB : PySem.W.keepIn K (.ref fCB) = true)
    (eGCB : PySem.W.findIn K (.ref CB) "__getattribute__" = some (some (.builtin "BaseException.__getattribute__")))
    (eKCB : PySem.W.findIn K (.ref CB) "__getattr__" = some none)
    (eDCB : PySem.W.hasDictIn K CB = true)
    (eACB : PySem.W.findIn K (.ref CB) "__class__" = some (some (.builtin "object.__class__")))
    (eMCB : PySem.W.mroIn K CB (.type "object") = some true)
    (sCYCB : PySem.W.subIn K (.ref CB) (.ref CY) = some true)
    (sCCCB : PySem.W.subIn K (.ref CB) (.ref CB) = some true)
    (qVCB : PySem.W.kitOne K (.ref CB) (.type "ValueError") = some true)
    (qYCB : PySem.W.kitOne K (.ref CB) (.ref CY) = some true)
    (qCCB : PySem.W.kitOne K (.ref CB) (.ref CB) = some true)
    (eN : PySem.W.specialIn K (.builtin "object.__class__") "__get__" = some (some (.builtin "getset_descriptor.__get__")))
    (eT : PySem.W.takesIn K (.builtin "object.__class__") = some true)
    (akL : PySem.W.nsIn K mainGlobals "LETTERS" = some (some (.str zkL tkL)))
    (ekL : zkL = lettS)
    (akN : PySem.W.nsIn K mainGlobals "LONGEST" = some (some (.int 8 tkN)))
    (akP : PySem.W.nsIn K mainGlobals "KEPT" = some (some (.ref dkP)))
    (lkP : K.lookup dkP = some ⟨.type "tuple", ddkP, .seq itskP nkP, slkP⟩)
    (ekP : itskP.toList = [.str "word" tkP0, .str "skip" tkP1, .str "rule" tkP2, .str "top" tkP3, .str "bar" tkP4])
    (aKa : PySem.W.nsIn K mainGlobals "MOST_KINDS" = some (some (.int 14 tKa)))
    (aKb : PySem.W.nsIn K mainGlobals "MOST_SIGNS" = some (some (.int 40 tKb)))
    (aKc : PySem.W.nsIn K mainGlobals "MOST_RULES" = some (some (.int 40 tKc)))
    (aKd : PySem.W.nsIn K mainGlobals "MOST_ALTERNATIVES" = some (some (.int 100 tKd)))
    (aKe : PySem.W.nsIn K mainGlobals "MOST_BARS" = some (some (.int 30 tKe)))
    (aKf : PySem.W.nsIn K mainGlobals "MOST_SYMBOLS" = some (some (.int 6 tKf)))
    (akM : PySem.W.nsIn K mainGlobals "MARKS" = some (some (.ref dkM)))
    (lkM : K.lookup dkM = some ⟨.type "tuple", ddkM, .seq itskM nkM, slkM⟩)
    (ekM : itskM.toList = [.str "near" tkM0, .str "blank" tkM1, .str "row" tkM2, .str "in" tkM3, .str "out" tkM4, .str "soft" tkM5])
    (akE : PySem.W.nsIn K mainGlobals "NEAR" = some (some (.str zkE tkE)))
    (ekE : zkE = "near")
    (nb : PySem.W.nsIn K DK "begin" = some (some .none))
    (ns : PySem.W.nsIn K DK "bars" = some (some (.ref dt)))
    (ldt : K.lookup dt = some ⟨.type "tuple", ddt, .seq itsdt ndt, sldt⟩)
    (edt : itsdt.toList = [])
    (qneG : PySem.W.findIn K (.ref G) "__ne__" = some (some (.builtin "object.__ne__")))
    (qobG : PySem.W.subIn K (.ref G) (.type "object") = some true)
    (qcaG : PySem.W.findIn K (.ref G) "__class__" = some (some (.builtin "object.__class__")))
    (qcmG : PySem.W.mroIn K G (.type "object") = some true)
    (qcsG : PySem.W.kitOne K (.ref G) (.ref G) = some true)
    (qneY : PySem.W.findIn K (.ref Y) "__ne__" = some (some (.builtin "object.__ne__")))
    (qobY : PySem.W.subIn K (.ref Y) (.type "object") = some true)
    (qcaY : PySem.W.findIn K (.ref Y) "__class__" = some (some (.builtin "object.__class__")))
    (qcmY : PySem.W.mroIn K Y (.type "object") = some true)
    (qcsY : PySem.W.kitOne K (.ref Y) (.ref Y) = some true)
    (qsn : PySem.W.subIn K (.ref Y) (.type "NoneType") = some false)
    (qsi : PySem.W.subIn K (.ref Y) (.type "int") = some false)
    (qss : PySem.W.subIn K (.ref Y) (.type "str") = some false)
    (qsd : PySem.W.subIn K (.ref Y) (.type "dict") = some false)
    (qkn : PySem.W.kitOne K (.type "NoneType") (.ref Y) = some false)
    (qki : PySem.W.kitOne K (.type "int") (.ref Y) = some false)
    (qks : PySem.W.kitOne K (.type "str") (.ref Y) = some false)
    (qkd : PySem.W.kitOne K (.type "dict") (.ref Y) = some false)
    (qdd : PySem.W.subIn K (.type "dict") (.ref Y) = some false)
    (aS : PySem.W.nsIn K mainGlobals "STEPS" = some (some (.ref dS)))
    (lS : K.lookup dS = some ⟨.type "dict", none, .dict esS epS, #[]⟩)
    (eS : esS.toList = [⟨keyH w (Sum.inr "in"), .str "in" t1, .int 1 t2⟩, ⟨keyH w (Sum.inr "out"), .str "out" t3, .int (-1) t4⟩])
    (qnS : (dS == sysModules) = false)
    (z_isinstance : PySem.W.nsIn K mainGlobals "isinstance" = some none)
    (z_str : PySem.W.nsIn K mainGlobals "str" = some none)
    (z_all : PySem.W.nsIn K mainGlobals "all" = some none)
    (z_any : PySem.W.nsIn K mainGlobals "any" = some none)
    (z_zip : PySem.W.nsIn K mainGlobals "zip" = some none)
    (z_tuple : PySem.W.nsIn K mainGlobals "tuple" = some none)
    (z_len : PySem.W.nsIn K mainGlobals "len" = some none)
    (z_max : PySem.W.nsIn K mainGlobals "max" = some none)
    (z_int : PySem.W.nsIn K mainGlobals "int" = some none)
    (z_range : PySem.W.nsIn K mainGlobals "range" = some none)
    (z_list : PySem.W.nsIn K mainGlobals "list" = some none)
    (z_min : PySem.W.nsIn K mainGlobals "min" = some none)
    (z_sorted : PySem.W.nsIn K mainGlobals "sorted" = some none)
    (z_set : PySem.W.nsIn K mainGlobals "set" = some none)
    (z_sum : PySem.W.nsIn K mainGlobals "sum" = some none)
    (z_dict : PySem.W.nsIn K mainGlobals "dict" = some none)
    (z_ValueError : PySem.W.nsIn K mainGlobals "ValueError" = some none)
    : ∃ fd : FuncData, (∀ (s : Shared) (v : Value), BindsTo s fd ⟨[v], []⟩ [("script", v)]) ∧ ∀ base : Heap, K.In base → base.Ns mainGlobals mg → FnOk l.prog w K mg base CX0 31 fa fd ["script"] (spLaw K) := by
  subst ekL
  subst ekE
  have e := hfa.symm.trans (PySem.W.mg_of X G0 a18)
  cases e
  have F1 := fun_mk (st := sName) l1 c1 k1
  have b1 := F1.binds (ps := ["thing"]) fun _ _ _ _ _ _ us hl => match us, hl with | [_], _ => rfl
  have m1 := PySem.W.mg_of X G0 a1
  have F2 := fun_mk (st := sTold) l2 c2 k2
  have b2 := F2.binds (ps := ["pattern"]) fun _ _ _ _ _ _ us hl => match us, hl with | [_], _ => rfl
  have m2 := PySem.W.mg_of X G0 a2
  have F3 := fun_mk (st := sSpells) l3 c3 k3
  have b3 := F3.binds (ps := ["pattern", "text"]) fun _ _ _ _ _ _ us hl => match us, hl with | [_, _], _ => rfl
  have m3 := PySem.W.mg_of X G0 a3
  have F4 := fun_mk (st := sNone) l4 c4 k4
  have b4 := F4.binds (ps := ["pattern"]) fun _ _ _ _ _ _ us hl => match us, hl with | [_], _ => rfl
  have m4 := PySem.W.mg_of X G0 a4
  have F5 := fun_mk (st := sSignsIn) l5 c5 k5
  have b5 := F5.binds (ps := ["pattern"]) fun _ _ _ _ _ _ us hl => match us, hl with | [_], _ => rfl
  have m5 := PySem.W.mg_of X G0 a5
  have F6 := fun_mk (st := sSteps) l6 c6 k6
  have b6 := F6.binds (ps := ["marks"]) fun _ _ _ _ _ _ us hl => match us, hl with | [_], _ => rfl
  have m6 := PySem.W.mg_of X G0 a6
  have F7 := fun_mk (st := sMarksR) l7 c7 k7
  have b7 := F7.binds (ps := ["grammar", "label", "marks"]) fun _ _ _ _ _ _ us hl => match us, hl with | [_, _, _], _ => rfl
  have m7 := PySem.W.mg_of X G0 a7
  have F8 := fun_mk (st := lPurse) l8 c8 k8
  have b8 := F8.binds (ps := ["script", "k"]) fun _ _ _ _ _ _ us hl => match us, hl with | [_, _], _ => rfl
  have m8 := PySem.W.mg_of X G0 a8
  have F9 := fun_mk (st := lDrawn) l9 c9 k9
  have b9 := F9.binds (ps := ["jar", "many"]) fun _ _ _ _ _ _ us hl => match us, hl with | [_, _], _ => rfl
  have m9 := PySem.W.mg_of X G0 a9
  have F10 := fun_mk (st := lKindsD) l10 c10 k10
  have b10 := F10.binds (ps := ["jar"]) fun _ _ _ _ _ _ us hl => match us, hl with | [_], _ => rfl
  have m10 := PySem.W.mg_of X G0 a10
  have F11 := fun_mk (st := lRulesD) l11 c11 k11
  have b11 := F11.binds (ps := ["jar", "rack"]) fun _ _ _ _ _ _ us hl => match us, hl with | [_, _], _ => rfl
  have m11 := PySem.W.mg_of X G0 a11
  have F12 := fun_mk (st := lMarks) l12 c12 k12
  have b12 := F12.binds (ps := ["jar", "rules"]) fun _ _ _ _ _ _ us hl => match us, hl with | [_, _], _ => rfl
  have m12 := PySem.W.mg_of X G0 a12
  have F13 := fun_mk (st := lMarksR) l13 c13 k13
  have b13 := F13.binds (ps := ["rows", "tag", "notes"]) fun _ _ _ _ _ _ us hl => match us, hl with | [_, _, _], _ => rfl
  have m13 := PySem.W.mg_of X G0 a13
  have F14 := fun_mk (st := lSpoilt) l14 c14 k14
  have b14 := F14.binds (ps := ["jar", "notes"]) fun _ _ _ _ _ _ us hl => match us, hl with | [_, _], _ => rfl
  have m14 := PySem.W.mg_of X G0 a14
  have F15 := fun_mk (st := lRefused) l15 c15 k15
  have b15 := F15.binds (ps := ["pages", "notes"]) fun _ _ _ _ _ _ us hl => match us, hl with | [_, _], _ => rfl
  have m15 := PySem.W.mg_of X G0 a15
  have F16 := fun_mk (st := lNoLabel) l16 c16 k16
  have b16 := F16.binds (ps := ["plan", "text"]) fun _ _ _ _ _ _ us hl => match us, hl with | [_, _], _ => rfl
  have m16 := PySem.W.mg_of X G0 a16
  have F17 := fun_mk (st := lRight) l17 c17 k17
  have b17 := F17.binds (ps := ["jar"]) fun _ _ _ _ _ _ us hl => match us, hl with | [_], _ => rfl
  have m17 := PySem.W.mg_of X G0 a17
  have F18 := fun_mk (st := lLaw) l18 c18 k18
  have mC := PySem.W.mg_of X G0 akC
  have FC___init__ := fun_mk (st := sInit) lC___init__ cC___init__ kC___init__
  have bC___init__ := FC___init__.binds (ps := ["self", "pattern", "text"]) fun _ _ _ _ _ _ us hl => match us, hl with | [_, _, _], _ => rfl
  have FC_ends := fun_mk (st := sEnds) lC_ends cC_ends kC_ends
  have bC_ends := FC_ends.binds (ps := ["self", "part", "begun"]) fun _ _ _ _ _ _ us hl => match us, hl with | [_, _, _], _ => rfl
  have FC_ends_anew := fun_mk (st := sAnew) lC_ends_anew cC_ends_anew kC_ends_anew
  have bC_ends_anew := FC_ends_anew.binds (ps := ["self", "part", "begun"]) fun _ _ _ _ _ _ us hl => match us, hl with | [_, _, _], _ => rfl
  have FC_again_ends := fun_mk (st := sAgain) lC_again_ends cC_again_ends kC_again_ends
  have bC_again_ends := FC_again_ends.binds (ps := ["self", "part", "begun"]) fun _ _ _ _ _ _ us hl => match us, hl with | [_, _, _], _ => rfl
  have mG := PySem.W.mg_of X G0 akG
  skip
  skip
  have FG_need_few := fun_mk (st := gFew) lG_need_few cG_need_few kG_need_few
  have bG_need_few := FG_need_few.binds (ps := ["self"]) fun _ _ _ _ _ _ us hl => match us, hl with | [_], _ => rfl
  have FG_look_kinds := fun_mk (st := gKinds) lG_look_kinds cG_look_kinds kG_look_kinds
  have bG_look_kinds := FG_look_kinds.binds (ps := ["self"]) fun _ _ _ _ _ _ us hl => match us, hl with | [_], _ => rfl
  have FG_look_rules := fun_mk (st := gRules) lG_look_rules cG_look_rules kG_look_rules
  have bG_look_rules := FG_look_rules.binds (ps := ["self"]) fun _ _ _ _ _ _ us hl => match us, hl with | [_], _ => rfl
  have FG_look_label := fun_mk (st := gLabel) lG_look_label cG_look_label kG_look_label
  have bG_look_label := FG_look_label.binds (ps := ["self", "label", "row"]) fun _ _ _ _ _ _ us hl => match us, hl with | [_, _, _], _ => rfl
  have FG_look_symbols := fun_mk (st := gSymbols) lG_look_symbols cG_look_symbols kG_look_symbols
  have bG_look_symbols := FG_look_symbols.binds (ps := ["self"]) fun _ _ _ _ _ _ us hl => match us, hl with | [_], _ => rfl
  have FG_look_bars := fun_mk (st := gBars) lG_look_bars cG_look_bars kG_look_bars
  have bG_look_bars := FG_look_bars.binds (ps := ["self"]) fun _ _ _ _ _ _ us hl => match us, hl with | [_], _ => rfl
  have FG_row_of := fun_mk (st := gRowOf) lG_row_of cG_row_of kG_row_of
  have bG_row_of := FG_row_of.binds (ps := ["self", "label"]) fun _ _ _ _ _ _ us hl => match us, hl with | [_, _], _ => rfl
  have FG_labels := fun_mk (st := gLabels) lG_labels cG_labels kG_labels
  have bG_labels := FG_labels.binds (ps := ["self"]) fun _ _ _ _ _ _ us hl => match us, hl with | [_], _ => rfl
  have FG___eq__ := fun_mk (st := gEq) lG___eq__ cG___eq__ kG___eq__
  have bG___eq__ := FG___eq__.binds (ps := ["self", "other"]) fun _ _ _ _ _ _ us hl => match us, hl with | [_, _], _ => rfl
  have mY2 := PySem.W.mg_of X G0 akY
  have FY___init__ := fun_mk (st := yInit) lY___init__ cY___init__ kY___init__
  have bY___init__ := FY___init__.binds (ps := ["self", "grammar", "marks"]) fun _ _ _ _ _ _ us hl => match us, hl with | [_, _, _], _ => rfl
  have FY_marks_of := fun_mk (st := yMarksOf) lY_marks_of cY_marks_of kY_marks_of
  have bY_marks_of := FY_marks_of.binds (ps := ["self", "label"]) fun _ _ _ _ _ _ us hl => match us, hl with | [_, _], _ => rfl
  have FY_all_marks := fun_mk (st := yAll) lY_all_marks cY_all_marks kY_all_marks
  have bY_all_marks := FY_all_marks.binds (ps := ["self"]) fun _ _ _ _ _ _ us hl => match us, hl with | [_], _ => rfl
  have FY___eq__ := fun_mk (st := yEq) lY___eq__ cY___eq__ kY___eq__
  have bY___eq__ := FY___eq__.binds (ps := ["self", "other"]) fun _ _ _ _ _ _ us hl => match us, hl with | [_, _], _ => rfl
  have mY := PySem.W.mg_of X G0 aY
  have FICN := fun_mk (st := sNoGrammar) lICN cICN kICN
  have bICN := FICN.binds (ps := ["self", "what", "name"]) fun _ _ _ _ _ _ us hl => match us, hl with | [_, _, _], _ => rfl
  have mCN := PySem.W.mg_of X G0 aCN
  have TCN : OexC K CN := ⟨⟨nmCN, qCN, NNCN, bsCN, _, snCN, subCN, abCN, colCN, ddCN, kx0CN, kx1CN, kx2CN, kx3CN, kx5CN, xCN, rfl⟩, saCN, exCN, tyCN, kCN⟩
  have ECCN : ExcC K CN := ⟨eGCN, eKCN, exCN, eDCN, eACN, eN, eT, eMCN⟩
  have XTCN : XfC K CN := ⟨eGCN, eKCN, exCN, eDCN⟩
  have teYCN := PySem.W.exm_ref yB yD yT sCYCN
  have teCCN := PySem.W.exm_ref exCN eDCN tyCN sCCCN
  have FICA := fun_mk (st := sNoLabel) lICA cICA kICA
  have bICA := FICA.binds (ps := ["self", "label"]) fun _ _ _ _ _ _ us hl => match us, hl with | [_, _], _ => rfl
  have mCA := PySem.W.mg_of X G0 aCA
  have TCA : OexC K CA := ⟨⟨nmCA, qCA, NNCA, bsCA, _, snCA, subCA, abCA, colCA, ddCA, kx0CA, kx1CA, kx2CA, kx3CA, kx5CA, xCA, rfl⟩, saCA, exCA, tyCA, kCA⟩
  have ECCA : ExcC K CA := ⟨eGCA, eKCA, exCA, eDCA, eACA, eN, eT, eMCA⟩
  have XTCA : XfC K CA := ⟨eGCA, eKCA, exCA, eDCA⟩
  have teYCA := PySem.W.exm_ref yB yD yT sCYCA
  have teCCA := PySem.W.exm_ref exCA eDCA tyCA sCCCA
  have FICB := fun_mk (st := sNoLayout) lICB cICB kICB
  have bICB := FICB.binds (ps := ["self", "label"]) fun _ _ _ _ _ _ us hl => match us, hl with | [_, _], _ => rfl
  have mCB := PySem.W.mg_of X G0 aCB
  have TCB : OexC K CB := ⟨⟨nmCB, qCB, NNCB, bsCB, _, snCB, subCB, abCB, colCB, ddCB, kx0CB, kx1CB, kx2CB, kx3CB, kx5CB, xCB, rfl⟩, saCB, exCB, tyCB, kCB⟩
  have ECCB : ExcC K CB := ⟨eGCB, eKCB, exCB, eDCB, eACB, eN, eT, eMCB⟩
  have XTCB : XfC K CB := ⟨eGCB, eKCB, exCB, eDCB⟩
  have teYCB := PySem.W.exm_ref yB yD yT sCYCB
  have teCCB := PySem.W.exm_ref exCB eDCB tyCB sCCCB
  have mkL := PySem.W.mg_of X G0 akL
  have mkN := PySem.W.mg_of X G0 akN
  have mkP := PySem.W.mg_of X G0 akP
  have mKa := PySem.W.mg_of X G0 aKa
  have mKb := PySem.W.mg_of X G0 aKb
  have mKc := PySem.W.mg_of X G0 aKc
  have mKd := PySem.W.mg_of X G0 aKd
  have mKe := PySem.W.mg_of X G0 aKe
  have mKf := PySem.W.mg_of X G0 aKf
  have mkM := PySem.W.mg_of X G0 akM
  have mkE := PySem.W.mg_of X G0 akE
  have y_isinstance := PySem.W.mg_none_of X G0 z_isinstance
  have y_str := PySem.W.mg_none_of X G0 z_str
  have y_all := PySem.W.mg_none_of X G0 z_all
  have y_any := PySem.W.mg_none_of X G0 z_any
  have y_zip := PySem.W.mg_none_of X G0 z_zip
  have y_tuple := PySem.W.mg_none_of X G0 z_tuple
  have y_len := PySem.W.mg_none_of X G0 z_len
  have y_max := PySem.W.mg_none_of X G0 z_max
  have y_int := PySem.W.mg_none_of X G0 z_int
  have y_range := PySem.W.mg_none_of X G0 z_range
  have y_list := PySem.W.mg_none_of X G0 z_list
  have y_min := PySem.W.mg_none_of X G0 z_min
  have y_sorted := PySem.W.mg_none_of X G0 z_sorted
  have y_set := PySem.W.mg_none_of X G0 z_set
  have y_sum := PySem.W.mg_none_of X G0 z_sum
  have y_dict := PySem.W.mg_none_of X G0 z_dict
  have y_ValueError := PySem.W.mg_none_of X G0 z_ValueError
  refine ⟨PySem.W.fnOf "law" "law" (defArgs lLaw) (defBody lLaw) (defScope lLaw) .none kV18 dc18 pm18 an18 cd18 ct18, fun s v => .of_eq rfl, fun base _ _ => ?_⟩
  have T : Txt K C fC_ends fC_ends_anew fC_again_ends := ⟨⟨pgC, hdC, poC, stC⟩, naC_parts, naC_text, naC_known, ⟨aC_ends, iC_ends, kC_ends⟩, ⟨aC_ends_anew, iC_ends_anew, kC_ends_anew⟩, ⟨aC_again_ends, iC_again_ends, kC_again_ends⟩⟩
  have M : Mk K C fC___init__ := ⟨mkC, aC___init__, iC___init__, kcC⟩
  have MG : Mk K G fG___init__ := ⟨mkG, aG___init__, iG___init__, kcG⟩
  have MY : Mk K Y fY___init__ := ⟨mkY, aY___init__, iY___init__, kcY⟩
  have clG : Cls K G := ⟨pgG, hdG, poG, stG⟩
  have clY : Cls K Y := ⟨pgY, hdY, poY, stY⟩
  have TY : YTxt K Y := ⟨clY, naY_grammar, naY_marks_kept⟩
  have TG : GTxt K mg G CN fCN := ⟨clG, naG_kind_rows, naG_rule_rows, naG_bar_rows, naG_first_rule, naG_patterns, naG_skips, naG_homes, naG_spelled, naG_numbers, naG_label_rows, TCN, noCNwhat, noCNname, aICN, tICN, mCN⟩
  have EA : ErrK K mg CA fCA "NoLabel" "label" := ⟨TCA, noCA, aICA, tICA, mCA⟩
  have EB : ErrK K mg CB fCB "NoLayout" "label" := ⟨TCB, noCB, aICB, tICB, mCB⟩
  have RA : RefK K mg CA CA "NoLabel" := ⟨teCCA, ECCA, XTCA, noCA, mCA⟩
  have RB : RefK K mg CB CY "NoLayout" := ⟨teYCB, ECCB, XTCB, noCB, mCB⟩
  have OwG : OwC K G fG___eq__ := ⟨aG___eq__, iG___eq__, qneG, qobG, qcaG, eN, eT, qcmG, qcsG⟩
  have OwY : OwC K Y fY___eq__ := ⟨aY___eq__, iY___eq__, qneY, qobY, qcaY, eN, eT, qcmY, qcsY⟩
  have NS : Sv.NoSub K Y := ⟨qsn, qsi, qss, qsd⟩
  have NK : NoKit K Y := ⟨qkn, qki, qks, qkd, qdd⟩
  have FD : GInitD K dt fG___init__ _ := ⟨⟨_, _, .none, .ref DK, _, _, _, _, _, _, rfl, lG___init__, cG___init__, .inl ⟨rfl, rfl⟩, .inr ⟨DK, rfl, fun q hq => by
    simp only [List.mem_cons, List.not_mem_nil, or_false] at hq
    rcases hq with rfl | rfl
    · exact ⟨_, nb, rfl⟩
    · exact ⟨_, ns, rfl⟩⟩⟩, kG___init__⟩
  have hdt := none_at ldt edt
  have mS := PySem.W.mg_of X G0 aS
  have DS : Sv.KDict K w dS stepsL := ⟨qnS, by decide +kernel, esS, epS, lS, by rw [eS]; exact .cons ⟨rfl, ⟨_, rfl⟩, _, rfl⟩ (.cons ⟨rfl, ⟨_, rfl⟩, _, rfl⟩ .nil)⟩
  have ON := ok_nog (P := l.prog) (w := w) (base := base) (C := CN) FICN mY ⟨rY, gY⟩ vY
  have OA := ok_nolabel (P := l.prog) (w := w) (base := base) (C := CA) FICA mY ⟨rY, gY⟩ vY
  have OBl := ok_nolayout (P := l.prog) (w := w) (base := base) (C := CB) FICB mY ⟨rY, gY⟩ vY
  have Oname := ok_name (P := l.prog) (w := w) (base := base) F1 mkL mkN mkP (kept_at lkP ekP) y_isinstance y_str y_len y_all
  have Otold := ok_told (P := l.prog) (w := w) (mg := mg) (base := base) F2 y_len y_list y_range
  have OI := ok_init FC___init__ T Otold b2 k2 m2
  have OE := ends_all (P := l.prog) (w := w) (base := base) FC_ends FC_ends_anew FC_again_ends T bC_ends bC_ends_anew bC_again_ends y_len y_sorted y_set 4
  have Ospells := ok_spells (D := 4) (by decide) F3 T M mC OI bC___init__ OE bC_ends y_len
  have Onone := ok_none F4 Ospells b3 k3 m3
  have cnt5 : ∀ d, FnOk l.prog w K mg base CX0 (d + 1) f5 _ ["pattern"] (spCnt d) := fun d => by
    induction d with
    | zero => exact cnt_left
    | succ d ih => exact ok_signsin F5 ih b5 m5 y_sum
  have OF := ok_few (d := 4) FG_need_few TG ON bICN (cnt5 4) b5 k5 m5 mKa mKb mKc mKd mKe y_len y_sum y_any y_zip
  have OK := ok_gkinds (D := 4) FG_look_kinds TG ON bICN Oname b1 k1 m1 Onone b4 k4 m4
  have OL := ok_label FG_look_label TG ON bICN Oname b1 k1 m1 mKf y_len
  have OR := ok_grules FG_look_rules TG ON bICN Oname b1 k1 m1 OL bG_look_label ⟨aG_look_label, iG_look_label, kG_look_label⟩ y_len
  have OS := ok_syms FG_look_symbols TG ON bICN
  have OB := ok_gbars FG_look_bars TG ON bICN y_len
  have OG := ok_ginit (D := 4) (funD_fun FD) TG ON bICN OF bG_need_few ⟨aG_need_few, iG_need_few, kG_need_few⟩ OK bG_look_kinds ⟨aG_look_kinds, iG_look_kinds, kG_look_kinds⟩ OR bG_look_rules ⟨aG_look_rules, iG_look_rules, kG_look_rules⟩ OS bG_look_symbols ⟨aG_look_symbols, iG_look_symbols, kG_look_symbols⟩ OB bG_look_bars ⟨aG_look_bars, iG_look_bars, kG_look_bars⟩ y_list y_tuple
  have Olab := ok_labels (P := l.prog) (w := w) (base := base) FG_labels TG y_list
  have Oro := ok_rowof (P := l.prog) (w := w) (base := base) FG_row_of TG
  have Orn := ok_rown (P := l.prog) (w := w) (base := base) FG_row_of TG EA OA bICA
  have Ogeq := ok_geq (P := l.prog) (w := w) (base := base) FG___eq__ TG OwG mG y_isinstance
  have Ost := ok_steps (P := l.prog) (w := w) (base := base) F6 mS DS
  have Omr := ok_marksr (P := l.prog) (w := w) (base := base) F7 TG Olab bG_labels ⟨aG_labels, iG_labels, kG_labels⟩ Oro bG_row_of ⟨aG_row_of, iG_row_of, kG_row_of⟩ Ost b6 k6 m6 mkM (marks_at lkM ekM) y_isinstance y_tuple y_str y_len y_max y_all
  have Oyi := ok_yinit (P := l.prog) (w := w) (base := base) FY___init__ TY Omr b7 k7 m7 EB OBl bICB y_dict
  have Oym := ok_marksof (P := l.prog) (w := w) (base := base) FY_marks_of TY clG Oro bG_row_of ⟨aG_row_of, iG_row_of, kG_row_of⟩ mkE y_len y_max
  have Oyn := ok_marksofN (P := l.prog) (w := w) (base := base) FY_marks_of TY clG Orn bG_row_of ⟨aG_row_of, iG_row_of, kG_row_of⟩ mkE y_len y_max
  have Oya := ok_yall (P := l.prog) (w := w) (base := base) FY_all_marks TY clG Olab bG_labels ⟨aG_labels, iG_labels, kG_labels⟩ Oym bY_marks_of ⟨aY_marks_of, iY_marks_of, kY_marks_of⟩
  have Oye := ok_yeq (P := l.prog) (w := w) (base := base) FY___eq__ TY OwY OwG Ogeq bG___eq__ Oya bY_all_marks ⟨aY_all_marks, iY_all_marks, kY_all_marks⟩ mY2 y_isinstance
  have Opu := ok_purse (P := l.prog) (w := w) (base := base) F8 y_len y_max
  have Odr := ok_drawn (P := l.prog) (w := w) (mg := mg) (base := base) F9
  have Okd := ok_kindsd F10 Odr b9 k9 m9 y_len
  have Ord := ok_rulesd F11 Odr b9 k9 m9 y_len y_range y_tuple
  have Omk := ok_marks F12 Odr b9 k9 m9 y_len y_range y_tuple y_int
  have Omrr := ok_mr (P := l.prog) (w := w) (base := base) F13 y_isinstance y_tuple y_len y_max y_int
  have Osp := ok_spoilt F14 Odr b9 k9 m9 y_len y_list
  have Orf := ok_refd (P := l.prog) (w := w) (base := base) F15 Oyi bY___init__ MY mY2 RB mY y_ValueError qCCB qVCB y_isinstance
  have Onl := ok_nolab (P := l.prog) (w := w) (base := base) F16 Oyn bY_marks_of ⟨aY_marks_of, iY_marks_of, kY_marks_of⟩ clY RA
  have Ort := ok_right F17 Oyi bY___init__ MY mY2 Oym bY_marks_of ⟨aY_marks_of, iY_marks_of, kY_marks_of⟩ clY Oye bY___eq__ OwY NS NK OG FD MG mG hdt Onl b16 k16 m16 Odr b9 k9 m9 Okd b10 k10 m10 Ord b11 k11 m11 Omk b12 k12 m12 Osp b14 k14 m14 Omrr b13 k13 m13 Orf b15 k15 m15 y_len y_sorted y_dict y_max y_range y_tuple
  exact (ok_law F18 (Opu.mono (by decide)) b8 k8 m8 Ort b17 k17 m17 y_range y_max y_min y_len).mono (by decide)
theorem walk {l : PySem.W.OpenLaw} {q : Program} {loose : List Str} {XP : (Str → Option Value) → Heap → Prop} {YP : World → Heap → Prop} {d : DefRec} {K : Params → PySem.W.Frag} (hn : l.most = some 63) (hdf : d.params.defaults = [])
    (hY : ∀ (w : World) (h : Heap), YP w h → (K w.params).In h)
    (F : ∀ (w : World) (mg : Str → Option Value) (fa : Addr) (h : Heap), (K w.params).In h → h.Ns mainGlobals mg → mg d.name = some (.ref fa) →
      ∃ fd : FuncData, (∀ (s : Shared) (u : Value), BindsTo s fd ⟨[u], []⟩ [("script", u)]) ∧ ∀ base : Heap, (K w.params).In base → base.Ns mainGlobals mg → FnOk l.prog w (K w.params) mg base CX0 31 fa fd ["script"] (spLaw (K w.params))) :
    PySem.W.WalkO q loose XP YP l.row.toRowW d [] (fun f vs => PySem.call f vs) :=
  L2.walk_of (n := 63) (k := 31) (x := "script") (CX := fun _ => CX0) (sp := fun w => spLaw (K w.params)) hn (by decide) hdf ⟨rfl, by decide, by decide⟩ hY F (fun _ _ a ns hl _ hS => ⟨a, ns, rfl, hS, hl, fun _ => rfl⟩) fun _ _ _ _ _ z => z
end Pa
open PySem PySem.W PyProof.Rows
set_option maxRecDepth 100000 in
set_option maxHeartbeats 0 in
theorem PySem.Challenge.cw_tongueyard_k56_layouts_made_holds : PySem.Challenge.rw_tongueyard_k56_layouts_made.Holds := by
  w_on; o_law; k_head; (case hw => w_witness2)
  k_fill
  refine Pa.walk (l := PySem.Challenge.rw_tongueyard_k56_layouts_made) rfl rfl (fun w h Y => PySem.W.kIn_of Y) ?F
  case F =>
    intro w mg fa h KX G hmg
    refine' Pa.all_mk KX G hmg ?a1 ?l1 ?c1 ?k1 ?a2 ?l2 ?c2 ?k2 ?a3 ?l3 ?c3 ?k3 ?a4 ?l4 ?c4 ?k4 ?a5 ?l5 ?c5 ?k5 ?a6 ?l6 ?c6 ?k6 ?a7 ?l7 ?c7 ?k7 ?a8 ?l8 ?c8 ?k8 ?a9 ?l9 ?c9 ?k9 ?a10 ?l10 ?c10 ?k10 ?a11 ?l11 ?c11 ?k11 ?a12 ?l12 ?c12 ?k12 ?a13 ?l13 ?c13 ?k13 ?a14 ?l14 ?c14 ?k14 ?a15 ?l15 ?c15 ?k15 ?a16 ?l16 ?c16 ?k16 ?a17 ?l17 ?c17 ?k17 ?a18 ?l18 ?c18 ?k18 ?akC ?pgC ?hdC ?poC ?stC ?mkC ?kcC ?naC_parts ?naC_text ?naC_known ?aC___init__ ?iC___init__ ?lC___init__ ?cC___init__ ?kC___init__ ?aC_ends ?iC_ends ?lC_ends ?cC_ends ?kC_ends ?aC_ends_anew ?iC_ends_anew ?lC_ends_anew ?cC_ends_anew ?kC_ends_anew ?aC_again_ends ?iC_again_ends ?lC_again_ends ?cC_again_ends ?kC_again_ends ?akG ?pgG ?hdG ?poG ?stG ?mkG ?kcG ?naG_kind_rows ?naG_rule_rows ?naG_bar_rows ?naG_first_rule ?naG_patterns ?naG_skips ?naG_homes ?naG_spelled ?naG_numbers ?naG_label_rows ?aG___init__ ?iG___init__ ?lG___init__ ?cG___init__ ?kG___init__ ?aG_need_few ?iG_need_few ?lG_need_few ?cG_need_few ?kG_need_few ?aG_look_kinds ?iG_look_kinds ?lG_look_kinds ?cG_look_kinds ?kG_look_kinds ?aG_look_rules ?iG_look_rules ?lG_look_rules ?cG_look_rules ?kG_look_rules ?aG_look_label ?iG_look_label ?lG_look_label ?cG_look_label ?kG_look_label ?aG_look_symbols ?iG_look_symbols ?lG_look_symbols ?cG_look_symbols ?kG_look_symbols ?aG_look_bars ?iG_look_bars ?lG_look_bars ?cG_look_bars ?kG_look_bars ?aG_row_of ?iG_row_of ?lG_row_of ?cG_row_of ?kG_row_of ?aG_labels ?iG_labels ?lG_labels ?cG_labels ?kG_labels ?aG___eq__ ?iG___eq__ ?lG___eq__ ?cG___eq__ ?kG___eq__ ?akY ?pgY ?hdY ?poY ?stY ?mkY ?kcY ?naY_grammar ?naY_marks_kept ?aY___init__ ?iY___init__ ?lY___init__ ?cY___init__ ?kY___init__ ?aY_marks_of ?iY_marks_of ?lY_marks_of ?cY_marks_of ?kY_marks_of ?aY_all_marks ?iY_all_marks ?lY_all_marks ?cY_all_marks ?kY_all_marks ?aY___eq__ ?iY___eq__ ?lY___eq__ ?cY___eq__ ?kY___eq__ ?aY ?rY ?gY ?vY ?yB ?yD ?yT ?aCN ?xCN ?saCN ?exCN ?tyCN ?kCN ?noCNwhat ?noCNname ?aICN ?tICN ?lICN ?cICN ?kICN ?eGCN ?eKCN ?eDCN ?eACN ?eMCN ?sCYCN ?sCCCN ?qVCN ?qYCN ?qCCN ?aCA ?xCA ?saCA ?exCA ?tyCA ?kCA ?noCA ?aICA ?tICA ?lICA ?cICA ?kICA ?eGCA ?eKCA ?eDCA ?eACA ?eMCA ?sCYCA ?sCCCA ?qVCA ?qYCA ?qCCA ?aCB ?xCB ?saCB ?exCB ?tyCB ?kCB ?noCB ?aICB ?tICB ?lICB ?cICB ?kICB ?eGCB ?eKCB ?eDCB ?eACB ?eMCB ?sCYCB ?sCCCB ?qVCB ?qYCB ?qCCB ?eN ?eT ?akL ?ekL ?akN ?akP ?lkP ?ekP ?aKa ?aKb ?aKc ?aKd ?aKe ?aKf ?akM ?lkM ?ekM ?akE ?ekE ?nb ?ns ?ldt ?edt ?qneG ?qobG ?qcaG ?qcmG ?qcsG ?qneY ?qobY ?qcaY ?qcmY ?qcsY ?qsn ?qsi ?qss ?qsd ?qkn ?qki ?qks ?qkd ?qdd ?aS ?lS ?eS ?qnS ?z_isinstance ?z_str ?z_all ?z_any ?z_zip ?z_tuple ?z_len ?z_max ?z_int ?z_range ?z_list ?z_min ?z_sorted ?z_set ?z_sum ?z_dict ?z_ValueError
    (case a1 => k_is)
    (case l1 => k_is)
    (case c1 => k_is)
    (case k1 => k_is)
    (case a2 => k_is)
    (case l2 => k_is)
    (case c2 => k_is)
    (case k2 => k_is)
    (case a3 => k_is)
    (case l3 => k_is)
    (case c3 => k_is)
    (case k3 => k_is)
    (case a4 => k_is)
    (case l4 => k_is)
    (case c4 => k_is)
    (case k4 => k_is)
    (case a5 => k_is)
    (case l5 => k_is)
    (case c5 => k_is)
    (case k5 => k_is)
    (case a6 => k_is)
    (case l6 => k_is)
    (case c6 => k_is)
    (case k6 => k_is)
    (case a7 => k_is)
    (case l7 => k_is)
    (case c7 => k_is)
    (case k7 => k_is)
    (case a8 => k_is)
    (case l8 => k_is)
    (case c8 => k_is)
    (case k8 => k_is)
    (case a9 => k_is)
    (case l9 => k_is)
    (case c9 => k_is)
    (case k9 => k_is)
    (case a10 => k_is)
    (case l10 => k_is)
    (case c10 => k_is)
    (case k10 => k_is)
    (case a11 => k_is)
    (case l11 => k_is)
    (case c11 => k_is)
    (case k11 => k_is)
    (case a12 => k_is)
    (case l12 => k_is)
    (case c12 => k_is)
    (case k12 => k_is)
    (case a13 => k_is)
    (case l13 => k_is)
    (case c13 => k_is)
    (case k13 => k_is)
    (case a14 => k_is)
    (case l14 => k_is)
    (case c14 => k_is)
    (case k14 => k_is)
    (case a15 => k_is)
    (case l15 => k_is)
    (case c15 => k_is)
    (case k15 => k_is)
    (case a16 => k_is)
    (case l16 => k_is)
    (case c16 => k_is)
    (case k16 => k_is)
    (case a17 => k_is)
    (case l17 => k_is)
    (case c17 => k_is)
    (case k17 => k_is)
    (case a18 => k_is)
    (case l18 => k_is)
    (case c18 => k_is)
    (case k18 => k_is)
    (case akC => k_is)
    (case pgC => k_is)
    (case hdC => k_is)
    (case poC => k_is)
    (case stC => k_is)
    (case mkC => k_is)
    (case kcC => k_is)
    (case naC_parts => k_is)
    (case naC_text => k_is)
    (case naC_known => k_is)
    (case aC___init__ => k_is)
    (case iC___init__ => k_is)
    (case lC___init__ => k_is)
    (case cC___init__ => k_is)
    (case kC___init__ => k_is)
    (case aC_ends => k_is)
    (case iC_ends => k_is)
    (case lC_ends => k_is)
    (case cC_ends => k_is)
    (case kC_ends => k_is)
    (case aC_ends_anew => k_is)
    (case iC_ends_anew => k_is)
    (case lC_ends_anew => k_is)
    (case cC_ends_anew => k_is)
    (case kC_ends_anew => k_is)
    (case aC_again_ends => k_is)
    (case iC_again_ends => k_is)
    (case lC_again_ends => k_is)
    (case cC_again_ends => k_is)
    (case kC_again_ends => k_is)
    (case akG => k_is)
    (case pgG => k_is)
    (case hdG => k_is)
    (case poG => k_is)
    (case stG => k_is)
    (case mkG => k_is)
    (case kcG => k_is)
    (case naG_kind_rows => k_is)
    (case naG_rule_rows => k_is)
    (case naG_bar_rows => k_is)
    (case naG_first_rule => k_is)
    (case naG_patterns => k_is)
    (case naG_skips => k_is)
    (case naG_homes => k_is)
    (case naG_spelled => k_is)
    (case naG_numbers => k_is)
    (case naG_label_rows => k_is)
    (case aG___init__ => k_is)
    (case iG___init__ => k_is)
    (case lG___init__ => k_is)
    (case cG___init__ => k_is)
    (case kG___init__ => k_is)
    (case aG_need_few => k_is)
    (case iG_need_few => k_is)
    (case lG_need_few => k_is)
    (case cG_need_few => k_is)
    (case kG_need_few => k_is)
    (case aG_look_kinds => k_is)
    (case iG_look_kinds => k_is)
    (case lG_look_kinds => k_is)
    (case cG_look_kinds => k_is)
    (case kG_look_kinds => k_is)
    (case aG_look_rules => k_is)
    (case iG_look_rules => k_is)
    (case lG_look_rules => k_is)
    (case cG_look_rules => k_is)
    (case kG_look_rules => k_is)
    (case aG_look_label => k_is)
    (case iG_look_label => k_is)
    (case lG_look_label => k_is)
    (case cG_look_label => k_is)
    (case kG_look_label => k_is)
    (case aG_look_symbols => k_is)
    (case iG_look_symbols => k_is)
    (case lG_look_symbols => k_is)
    (case cG_look_symbols => k_is)
    (case kG_look_symbols => k_is)
    (case aG_look_bars => k_is)
    (case iG_look_bars => k_is)
    (case lG_look_bars => k_is)
    (case cG_look_bars => k_is)
    (case kG_look_bars => k_is)
    (case aG_row_of => k_is)
    (case iG_row_of => k_is)
    (case lG_row_of => k_is)
    (case cG_row_of => k_is)
    (case kG_row_of => k_is)
    (case aG_labels => k_is)
    (case iG_labels => k_is)
    (case lG_labels => k_is)
    (case cG_labels => k_is)
    (case kG_labels => k_is)
    (case aG___eq__ => k_is)
    (case iG___eq__ => k_is)
    (case lG___eq__ => k_is)
    (case cG___eq__ => k_is)
    (case kG___eq__ => k_is)
    (case akY => k_is)
    (case pgY => k_is)
    (case hdY => k_is)
    (case poY => k_is)
    (case stY => k_is)
    (case mkY => k_is)
    (case kcY => k_is)
    (case naY_grammar => k_is)
    (case naY_marks_kept => k_is)
    (case aY___init__ => k_is)
    (case iY___init__ => k_is)
    (case lY___init__ => k_is)
    (case cY___init__ => k_is)
    (case kY___init__ => k_is)
    (case aY_marks_of => k_is)
    (case iY_marks_of => k_is)
    (case lY_marks_of => k_is)
    (case cY_marks_of => k_is)
    (case kY_marks_of => k_is)
    (case aY_all_marks => k_is)
    (case iY_all_marks => k_is)
    (case lY_all_marks => k_is)
    (case cY_all_marks => k_is)
    (case kY_all_marks => k_is)
    (case aY___eq__ => k_is)
    (case iY___eq__ => k_is)
    (case lY___eq__ => k_is)
    (case cY___eq__ => k_is)
    (case kY___eq__ => k_is)
    (case aY => k_is)
    (case rY => k_is)
    (case gY => k_is)
    (case vY => k_is)
    (case yB => k_is)
    (case yD => k_is)
    (case yT => k_is)
    (case aCN => k_is)
    (case xCN => k_is)
    (case saCN => k_is)
    (case exCN => k_is)
    (case tyCN => k_is)
    (case kCN => k_is)
    (case noCNwhat => k_is)
    (case noCNname => k_is)
    (case aICN => k_is)
    (case tICN => k_is)
    (case lICN => k_is)
    (case cICN => k_is)
    (case kICN => k_is)
    (case eGCN => k_is)
    (case eKCN => k_is)
    (case eDCN => k_is)
    (case eACN => k_is)
    (case eMCN => k_is)
    (case sCYCN => first | rfl | k_is)
    (case sCCCN => first | rfl | k_is)
    (case qVCN => first | rfl | k_is)
    (case qYCN => first | rfl | k_is)
    (case qCCN => first | rfl | k_is)
    (case aCA => k_is)
    (case xCA => k_is)
    (case saCA => k_is)
    (case exCA => k_is)
    (case tyCA => k_is)
    (case kCA => k_is)
    (case noCA => k_is)
    (case aICA => k_is)
    (case tICA => k_is)
    (case lICA => k_is)
    (case cICA => k_is)
    (case kICA => k_is)
    (case eGCA => k_is)
    (case eKCA => k_is)
    (case eDCA => k_is)
    (case eACA => k_is)
    (case eMCA => k_is)
    (case sCYCA => first | rfl | k_is)
    (case sCCCA => first | rfl | k_is)
    (case qVCA => first | rfl | k_is)
    (case qYCA => first | rfl | k_is)
    (case qCCA => first | rfl | k_is)
    (case aCB => k_is)
    (case xCB => k_is)
    (case saCB => k_is)
    (case exCB => k_is)
    (case tyCB => k_is)
    (case kCB => k_is)
    (case noCB => k_is)
    (case aICB => k_is)
    (case tICB => k_is)
    (case lICB => k_is)
    (case cICB => k_is)
    (case kICB => k_is)
    (case eGCB => k_is)
    (case eKCB => k_is)
    (case eDCB => k_is)
    (case eACB => k_is)
    (case eMCB => k_is)
    (case sCYCB => first | rfl | k_is)
    (case sCCCB => first | rfl | k_is)
    (case qVCB => first | rfl | k_is)
    (case qYCB => first | rfl | k_is)
    (case qCCB => first | rfl | k_is)
    (case eN => k_is)
    (case eT => k_is)
    (case akL => k_is)
    (case ekL => decide +kernel)
    (case akN => k_is)
    (case akP => k_is)
    (case lkP => k_is)
    (case ekP => rfl)
    (case aKa => k_is)
    (case aKb => k_is)
    (case aKc => k_is)
    (case aKd => k_is)
    (case aKe => k_is)
    (case aKf => k_is)
    (case akM => k_is)
    (case lkM => k_is)
    (case ekM => rfl)
    (case akE => k_is)
    (case ekE => decide +kernel)
    (case nb => k_is)
    (case ns => k_is)
    (case ldt => k_is)
    (case edt => rfl)
    (case qneG => first | rfl | k_is)
    (case qobG => first | rfl | k_is)
    (case qcaG => first | rfl | k_is)
    (case qcmG => first | rfl | k_is)
    (case qcsG => first | rfl | k_is)
    (case qneY => first | rfl | k_is)
    (case qobY => first | rfl | k_is)
    (case qcaY => first | rfl | k_is)
    (case qcmY => first | rfl | k_is)
    (case qcsY => first | rfl | k_is)
    (case qsn => first | rfl | k_is)
    (case qsi => first | rfl | k_is)
    (case qss => first | rfl | k_is)
    (case qsd => first | rfl | k_is)
    (case qkn => first | rfl | k_is)
    (case qki => first | rfl | k_is)
    (case qks => first | rfl | k_is)
    (case qkd => first | rfl | k_is)
    (case qdd => first | rfl | k_is)
    (case aS => k_is)
    (case lS => k_is)
    (case eS => rfl)
    (case qnS => first | rfl | k_is)
    (case z_isinstance => k_is)
    (case z_str => k_is)
    (case z_all => k_is)
    (case z_any => k_is)
    (case z_zip => k_is)
    (case z_tuple => k_is)
    (case z_len => k_is)
    (case z_max => k_is)
    (case z_int => k_is)
    (case z_range => k_is)
    (case z_list => k_is)
    (case z_min => k_is)
    (case z_sorted => k_is)
    (case z_set => k_is)
    (case z_sum => k_is)
    (case z_dict => k_is)
    (case z_ValueError => k_is)
#print axioms PySem.Challenge.cw_tongueyard_k56_layouts_made_holds
