import PyProof.Rows.All
import Wide.All
import OpenK.AllK
import Wide.FinOn
import HandS.ForMost
import HandS.Wide
import HandS.IsInst
import HandS.TupAny
import HandS.Walk
import HandS.SetKeys
import HandS.ExcValue
import KE.KUnpackStar
import KE.KRevSl
import KE.GoesZip
import KE.GoesMore
import HandS.Set
import HandS.More
import HandS.SetBool
import HandS.Strs
import HandS.ForExc
import HandS.Text
import HandS.DictTup
import PyProof.ListStr
import KE.LtSeq
import HandS.Conv
import HandS.ForDict
import HandS.Comp
import HandS.ExcInit
import HandS.ExcIs
import HandS.ExcField
import HandS.ClsMeth
import HandS.Zip
import HandS.TupSets
import HandS.TryOnly
import HandS.Deep
import HandS.TupMul
import HandS.MakeKwOnly
import PySem.Challenge.RW_tongueyard_k10_grammars_refused
set_option Elab.async false
set_option linter.all false
set_option maxRecDepth 100000
/-! own rules over the hand layer: powers of wide ints, a starred name behind one name, texts and tuples turned round -/
namespace Ty
open PySem PySem.Spec PyProof.Rows L2
section
variable {X : Cx}
/-- a ** b of wide ints: few bits in all -/
def CPowW (i j : Int) : Prop := 0 ≤ j ∧ (i.natAbs.log2 + 1) * j.toNat ≤ 1000000
theorem bits_le_log (i : Int) : Builtin.Int.intBits i ≤ i.natAbs.log2 + 1 := by
  unfold Builtin.Int.intBits
  split <;> omega
theorem op_powW : OpR X (binaryOp .Pow) (rI CPowW fun i j => .int (i ^ j.toNat)) := opI fun i j t u s Q E hc q => by
  obtain ⟨h0, h1⟩ := hc
  refine pow_int h0 ?_ q
  have e : j = ((j.toNat : Nat) : Int) := by omega
  have h2 : Builtin.Int.intBits i * j.toNat ≤ 1000000 := Nat.le_trans (Nat.mul_le_mul_right _ (bits_le_log i)) h1
  have h3 : ((Builtin.Int.intBits i : Nat) : Int) * ((j.toNat : Nat) : Int) ≤ 1000000 := by
    have := Int.ofNat_le.mpr h2
    simpa using this
  rw [← e] at h3
  omega
theorem powW_of {i : Int} {k n : Nat} (h : i.natAbs < 2 ^ n) (h0 : 0 < n) (hk : n * k ≤ 1000000) : CPowW i (k : Int) := by
  refine ⟨by omega, ?_⟩
  have x := PySem.Flt.log2_lt_of h0 h
  have : (i.natAbs.log2 + 1) * ((k : Int)).toNat ≤ n * k := by
    rw [Int.toNat_natCast]
    exact Nat.mul_le_mul_right _ x
  omega
/-- where something is tracked there is an object -/
theorem there {P : Program} {w : World} {H : Hp} {h : Heap} {a : Addr} {o : HO} (x : ObjOk P w H h a o) : ∃ u, h.get? a = some u := by
  cases o with
  | lst xs => obtain ⟨_, _, _, _, e⟩ := x; exact ⟨_, e⟩
  | tup xs => obtain ⟨_, _, _, q, e, _⟩ := x; exact ⟨q, e⟩
  | dK kvs => obtain ⟨_, _, _, _, q, _, _, e, _⟩ := x; exact ⟨q, e⟩
  | dT kvs => obtain ⟨_, _, _, _, q, _, _, e, _⟩ := x; exact ⟨q, e⟩
  | set S n => obtain ⟨q, _, _, _, e, _⟩ := x; exact ⟨q, e⟩
  | ins C dx fs => obtain ⟨_, _, _, e, _⟩ := x; exact ⟨_, e⟩
  | own y => exact x
  | xd fs => obtain ⟨_, ⟨q, _, _, e, _⟩, _⟩ := x; exact ⟨q, e⟩
  | rng lo hi => obtain ⟨_, _, _, e⟩ := x; exact ⟨_, e⟩
  | frz ob u => exact ⟨ob, x.1⟩
  | tbl ps => exact ⟨_, (show h.get? a = some _ from x)⟩
  | met f y => exact ⟨_, (show h.get? a = some _ from x)⟩
  | ext φ => exact x.2.1
/-- a new object where the heap had none: all that stood stands, the new one is tracked -/
theorem laidG {pins : List (Addr × Obj)} {σ : L2.St} {H : Hp} {s : Shared} {g : Heap} {o : HO} {ob : Obj} {tk : Nat} (I : Inv X pins σ H s) (k : ∀ b u, s.heap.get? b = some u → g.get? b = some u)
    (new : ObjOk X.prog X.w (upd H g.objs.size o) (g.push ob) g.objs.size o) : H g.objs.size = none ∧ Inv X pins σ (upd H g.objs.size o) { s with heap := g.push ob, toks := tk } := by
  have hp : s.heap.get? g.objs.size = none := by
    cases e : s.heap.get? g.objs.size with
    | none => rfl
    | some u => exact absurd (Heap.lt_size (k _ _ e)) (Nat.lt_irrefl _)
  have hn : H g.objs.size = none := by
    cases e : H g.objs.size with
    | none => rfl
    | some u =>
      obtain ⟨q, eq⟩ := there (I.hok _ _ e)
      rw [hp] at eq
      cases eq
  exact ⟨hn, I.laidN (t' := tk) (fun b u e => Heap.get?_push_of_some _ (k b u e)) hp hn new⟩
/-- a tuple of one item or more, drawn into its first item and a new list of the others -/
theorem unpack_head {prog : Program} {w : World} {A : Around} {E : Value → Shared → Prop} {s : Shared} {t : Addr} {x : Value} {xs : List Value} {Q : List Value → Shared → Prop} (hh : A.handled = none)
    (ht : IsTup s.heap t (x :: xs).toArray) (hz : xs.length ≤ 16000)
    (h : ∀ (g : Heap) (tk : Nat), (∀ b o, s.heap.get? b = some o → g.get? b = some o) → Q [x, .ref g.objs.size] { s with heap := g.push { cls := .type "list", data := .seq xs.toArray }, toks := tk }) :
    wpAny (model prog w) A (unpackItems (.ref t) 2 (some 1)) Q E s := by
  have hlt : t < s.heap.objs.size := by obtain ⟨o, ho, _⟩ := ht; exact Heap.lt_size ho
  have hne : t ≠ s.heap.objs.size := Nat.ne_of_lt hlt
  have hsz : (x :: xs).toArray.size = xs.length + 1 := by simp
  unfold unpackItems
  refine wpAny_bind ?_
  unfold notIterableAtAll
  refine wpAny_bind (wpAny_specialOf ht.typeIs slot_tuple_iter.lookup (wpAny_pure ?_))
  simp only [Bool.false_eq_true, if_false]
  refine wpAny_bind (wpAny_holding (iter_tuple ht ?_))
  refine wpAny_bind (wpAny_holding (draw_tuple hne 1 0 _ _ ⟨_, Heap.get?_push_size _ rfl, rfl, rfl⟩ (ht.push _) (by omega) fun g1 it1 same1 => ?_))
  have ht1 : IsTup g1 t (x :: xs).toArray := (ht.push _).extBut same1.extBut hne
  have ht1' := ht1
  have it1' := it1
  obtain ⟨ot, hot, _⟩ := ht1'
  obtain ⟨oi, hoi, _⟩ := it1'
  show wpAny _ _ (if ([x] : List Value).length < 1 then _ else _) _ _ _
  rw [if_neg (show ¬ ([x] : List Value).length < 1 from Nat.lt_irrefl 1)]
  refine wpAny_bind (wpAny_holding (PySem.W.kun_collect (s := { s with heap := g1 }) (T := "tuple_iterator") (.inr (.inr (.inr rfl))) (Walks.tuple (A := A.in1) hh s.heap.objs.size t hne (x :: xs).toArray) (fun j u st => st.1.typeIs) (k := 1) (by omega) ⟨it1, ht1⟩ (Heap.lt_size hoi) (Heap.lt_size hot) (fun g2 tk kp => ?_) (by rw [sizeLine_eq]; omega)))
  show wpAny _ _ (if xs.length < 0 then _ else _) _ _ _
  rw [if_neg (by omega)]
  show wpAny _ _ (newList (xs.take (xs.length - 0)) >>= fun d => pure ([x] ++ [d] ++ xs.drop (xs.length - 0))) _ _ _
  rw [Nat.sub_zero, List.take_length, List.drop_length]
  have kp2 : ∀ b o, s.heap.get? b = some o → g2.get? b = some o := fun b o e =>
    have hb : b ≠ s.heap.objs.size := Nat.ne_of_lt (Heap.lt_size e)
    kp b o hb (same1.extBut b o hb (Heap.get?_push_of_some _ e))
  exact wpAny_bind (wpAny_newList (wpAny_pure (h g2 tk kp2)) (by rw [sizeLine_eq]; omega))
/-- (name, *names) = a tuple of one item or more -/
def gStar1 (K : PySem.W.Frag) (g : TG) (g2 : TG) : TG := fun v σ H Q => ∃ a x xs, v = .ref a ∧ SqT K H a (x :: xs) ∧ xs.length ≤ 16000 ∧
  ∀ D, H D = none → g x σ (upd H D (.lst xs)) fun σ1 H1 => g2 (.ref D) σ1 H1 Q
theorem pg_star1 {e1 e2 : Expr} {g g2 : TG} {k : Nat} {sp pos : Pos} (hc : X.calm = true) (h1 : PG X e1 g) (h2 : PG X e2 g2)
    (hs : assignEach [e1, .Starred e2 sp] X.env = [(false, assign e1 X.env), (true, assign e2 X.env)] := by rfl) : PG X (.Tuple [e1, .Starred e2 sp] k pos) (gStar1 X.K g g2) := by
  refine ⟨fun pins s σ H v u Q I r hw => ?_⟩
  obtain ⟨a, x, xs, rfl, hq, hl, hw⟩ := hw
  cases r
  obtain ⟨its, rv, ht, hz⟩ := I.tuple hq
  cases rv with
  | @cons _ u1 _ us r1 rr =>
    have hlen := Paired.length rr
    rw [assign_Tuple]
    refine wpAny_bind (wpAny_standAt ?_)
    unfold unpack
    rw [hs]
    refine wpAny_bind (wpAny_holding (unpack_head (I.ok.hd hc) ht (by omega) fun g1 tk kp => ?_))
    obtain ⟨hn, I1⟩ := laidG (o := .lst xs) (ob := { cls := .type "list", data := .seq us.toArray }) (tk := tk) I kp ⟨by rw [sizeLine_eq]; omega, us, 0, rr, Heap.get?_push_size _ rfl⟩
    refine assignInOrder_cons (thn (h1.run pins _ σ _ x u1 _ I1 r1 (hw _ hn)) fun _ s1 ⟨σ1, H1, J1, q1⟩ => ?_)
    exact assignInOrder_cons (thn (h2.run pins s1 σ1 H1 (.ref g1.objs.size) _ Q J1 rfl q1) fun _ s2 ⟨σ2, H2, J2, q2⟩ => assignInOrder_nil ⟨σ2, H2, J2, q2⟩)
end
end Ty
namespace Ty
open PySem PySem.Spec PyProof.Rows L2
section
variable {X : Cx}
/-- the turned text -/
def revS (z : Str) : Str := ⟨z.cps.toList.reverse.toArray⟩
theorem revS_is (z : Str) (u : Tok) : Txt.sliceBy z none none (-1, u) = revS z := by
  have h := step_rev_list z u
  apply str_of_list
  rw [h]
  show _ = z.cps.toList.reverse.toArray.toList
  rw [List.toList_toArray]
  apply List.ext_getElem
  · simp [Str.length]
  · intro i h1 h2
    have h3 : i < z.cps.size := by simpa using h2
    have h4 : z.cps.size - 1 - i < z.cps.size := by omega
    simp [Str.length, Array.getD, h4]
/-- the parts of [::-1], evaluated -/
theorem part_back {σ : L2.St} {H : Hp} {pins : List (Addr × Obj)} {s : Shared} {k : Nat} {p1 p2 : Pos} (I : Inv X pins σ H s) {Q : Value → Shared → Prop}
    (h : ∀ (vs : Value) (u : Tok) (s4 : Shared), vs = .int (-1) u → Inv X pins σ H s4 → Q vs s4) : wpAny (model X.prog X.w) X.A (evalPart (some (.UnaryOp .USub (.Constant (.int 1) k p1) p2)) X.env) Q X.xe s := by
  have hst : PO X (some (.UnaryOp .USub (.Constant (.int 1) k p1) p2)) (tPart (tUn (rU fun i => .int (-i)) (tC (.int 1)))) := po_some (pe_un un_neg pe_int)
  refine thn (hst.run pins s σ H (fun o H4 => o = some (-1) ∧ H4 = H) I ⟨1, rfl, -1, rfl, rfl, rfl⟩) fun v s4 hv => ?_
  obtain ⟨o, H4, I4, ps, rfl, rfl⟩ := hv
  cases ps with
  | int i t => exact h _ t s4 rfl I4
/-- e[::-1] of a text -/
def tRevS (te : TE) : TE := fun σ H Q => te σ H fun x H1 => ∃ z, x = .str z ∧ z.length ≤ sizeLine ∧ Q (.str (revS z)) H1
theorem pe_revS {e : Expr} {te : TE} {k : Nat} {p1 p2 p3 pos : Pos} (he : PE X e te) : PE X (.Subscript e (.Slice none none (some (.UnaryOp .USub (.Constant (.int 1) k p1) p2)) p3) pos) (tRevS te) := by
  refine ⟨fun pins s σ H Q I h => ?_⟩
  refine Subscript_ (thn (he.run pins s σ H _ I h) fun v s1 hv => ?_)
  obtain ⟨x, H1, I1, r1, z, rfl, hz, q⟩ := hv
  obtain ⟨t, rfl⟩ := r1
  refine wpAny_Slice (thn (po_none.run pins s1 σ H1 (fun o H2 => o = none ∧ H2 = H1) I1 ⟨rfl, rfl⟩) fun vl s2 hv => ?_)
  obtain ⟨o1, H2, I2, pl, rfl, rfl⟩ := hv
  refine thn (po_none.run pins s2 σ H2 (fun o H3 => o = none ∧ H3 = H2) I2 ⟨rfl, rfl⟩) fun vu s3 hv => ?_
  obtain ⟨o2, H3, I3, pu, rfl, rfl⟩ := hv
  refine part_back I3 fun vs u s4 ev I4 => ?_
  subst ev
  cases pl
  cases pu
  have I5 : Inv X pins σ H3 { s4 with heap := s4.heap.push { cls := .type "slice", data := .fields #[.none, .none, .int (-1) u] } } := I4.kept (t' := s4.toks) fun b ob q => Heap.get?_push_of_some _ q
  refine tail_any (ops := [.ref s4.heap.objs.size, .str z t]) (typeIs_str _ z t) F.slot_str_getitem.lookup ?_ (by with_unfolding_all rfl)
  refine wpAny_getItem_str_slice (l := none) (u := none) (st := some (-1, u)) ⟨_, Heap.get?_push_size _ rfl, rfl, rfl⟩ rfl ?_
  refine post_val_or_str ⟨?_, fun t' c => ?_⟩
  · exact Nat.le_trans (Txt.sliceBy_le z none none (-1, u) (show (-1 : Int) ≠ 0 by decide)) hz
  · exact ⟨.str (revS z), H3, I5.tok c, ⟨t', by rw [← revS_is z u]; rfl⟩, q⟩
/-! ### a tuple turned round -/
theorem filterMap_same {α β : Type} {f g : α → Option β} : ∀ (l : List α), (∀ x ∈ l, f x = g x) → l.filterMap f = l.filterMap g
  | [], _ => rfl
  | x :: l, h => by
    rw [List.filterMap_cons, List.filterMap_cons, h x List.mem_cons_self, filterMap_same l fun y hy => h y (List.mem_cons_of_mem _ hy)]
theorem places_back (n : Nat) : Builtin.Slice.slicePlaces ((n : Int) - 1) (-1) (-1) = n := by
  unfold Builtin.Slice.slicePlaces
  rw [if_neg (by decide)]
  by_cases h : (n : Int) - 1 > -1
  · rw [if_pos h]
    have e : (-(-1 : Int)) = 1 := rfl
    rw [e, Int.ediv_one]
    omega
  · rw [if_neg h]
    omega
theorem pick_back {α : Type} (l : List α) : ((List.range l.length).filterMap fun (k : Nat) => l.toArray[((l.length : Int) - 1 + (k : Int) * (-1)).toNat]?) = l.reverse := by
  have e : ((List.range l.length).filterMap fun (k : Nat) => l.toArray[((l.length : Int) - 1 + (k : Int) * (-1)).toNat]?) = ((List.range l.length).map fun k => l.length - 1 - k).filterMap (l[·]?) := by
    rw [List.filterMap_map]
    refine filterMap_same _ fun k hk => ?_
    have hk' := List.mem_range.mp hk
    have : ((l.length : Int) - 1 + (k : Int) * (-1)).toNat = l.length - 1 - k := by omega
    rw [this]
    simp
  have z := PySem.W.krv_all l.toArray
  rw [e, PySem.W.krv_range, List.filterMap_reverse]
  have z2 : (List.range l.length).filterMap (l[·]?) = l := by
    simpa using z
  rw [z2]
theorem getItem_tuple_back {prog : Program} {w : World} {A : Around} {E : Value → Shared → Prop} {s : Shared} {t sl : Addr} {items : List Value} {u : Tok} {Q : Value → Shared → Prop} (ht : IsTup s.heap t items.toArray) (hs : s.heap.IsSliceOf sl .none .none (.int (-1) u))
    (h : Q (.ref s.heap.objs.size) { s with heap := s.heap.push { cls := .type "tuple", data := .seq items.reverse.toArray } }) (hsz : items.length ≤ sizeLine) : wpAny (model prog w) A (getItem (.ref t) (.ref sl)) Q E s := by
  obtain ⟨os, hos, hcs, hds⟩ := id hs
  have hTs : s.TypeIs (.ref sl) "slice" := ⟨os, hos, hcs⟩
  unfold getItem
  try with_reducible refine wpAny_holding ?_
  refine wpAny_bind (wpAny_sequenceKey ht.typeIs (by decide) ?_)
  refine wpAny_bind (wpAny_callSpecial?_slot (name := Str.ofString "__getitem__") ht.typeIs PyProof.Rows.slot_tuple_getitem
    (wpAny_call_entry PyProof.Rows.slot_tuple_getitem ht.typeIs entry_tuple_getitem ?_ (args_tuple_getitem _ _)))
  show wpAny _ _ (Builtin.Tuple.tupleItemsOf (.ref t) >>= _) _ _ s
  refine wpAny_bind (tupleItemsOf_ ht ?_)
  refine wpAny_bind (wpAny_typeOf hTs ?_)
  rw [if_pos (by decide)]
  have hap : wpAny (model prog w) A.in1 (Builtin.Slice.sliceApplied (.ref sl) (pure (items.toArray.size : Int))) (fun r s' => r = ((items.length : Int) - 1, -1, items.length) ∧ s' = s) E s := by
    unfold Builtin.Slice.sliceApplied Builtin.Slice.sliceFields
    refine wpAny_bind (wpAny_bind (wpAny_field hos hds (x := .none) rfl (wpAny_bind (wpAny_field hos hds (x := .none) rfl (wpAny_bind (wpAny_field hos hds (x := .int (-1) u) rfl (wpAny_pure ?_)))))))
    refine wpAny_bind (HT.slicePart_ (.int (-1) u) ?_)
    show wpAny _ _ (if ((-1 : Int) == 0) = true then _ else _) _ _ s
    rw [if_neg (by decide)]
    refine wpAny_bind (HT.slicePart_ .none (wpAny_bind (HT.slicePart_ .none (wpAny_bind (wpAny_pure (wpAny_pure ⟨?_, rfl⟩))))))
    show (((items.toArray.size : Int) - 1, (-1 : Int), Builtin.Slice.slicePlaces ((items.toArray.size : Int) - 1) (-1) (-1)) : Int × Int × Nat) = _
    rw [List.size_toArray, places_back]
  refine wpAny_bind (wpAny_mono hap (fun r s' hr => ?_) fun _ _ x => x)
  obtain ⟨rfl, rfl⟩ := hr
  show wpAny _ _ (if (((items.length : Int) - 1 == 0 && (-1 : Int) == 1 && items.length == items.toArray.size) = true) then _ else _) _ _ s'
  rw [if_neg (by simp)]
  rw [show ((List.range items.length).filterMap fun (k : Nat) => items.toArray[((items.length : Int) - 1 + (k : Int) * (-1)).toNat]?) = items.reverse from pick_back items]
  have hsz' : sizeOk (.seq items.reverse.toArray) := by
    show items.reverse.toArray.size ≤ sizeLine
    rw [List.size_toArray, List.length_reverse]
    exact hsz
  first
    | exact wpAny_bind (m := Builtin.Tuple.tupleExact _) (wpAny_newObj_type (wpAny_pure ⟨_, rfl, wpAny_pure h⟩) hsz')
    | exact wpAny_bind (m := Builtin.Tuple.tupleExact _) (wpAny_newObj_type (wpAny_bind (wpAny_pure (wpAny_pure ⟨_, rfl, wpAny_pure h⟩))) hsz')
end
end Ty
namespace Ty
open PySem PySem.Spec PyProof.Rows L2
/-! ### zip of two texts, walked by a target of several names -/
def ItzS (x y : Str) : It :=
  ⟨fun i _ => i < min x.cps.size y.cps.size,
    fun i H v H' => ∃ T c d, v = .ref T ∧ H T = none ∧ H' = upd H T (.tup [.str ⟨#[c]⟩, .str ⟨#[d]⟩]) ∧ x.cps[i]? = some c ∧ y.cps[i]? = some d,
    fun i _ => i = min x.cps.size y.cps.size⟩
/-- the zip's cells at turn i -/
def zsAt (z TI TO i1 i2 : Addr) (x y : Str) (t u : Tok) (i : Nat) (h : Heap) : Prop :=
  IsZip h z TI TO .none ∧ IsTupOf2 h TI (.ref i1) (.ref i2) ∧ (∃ a1 a2, IsTupOf2 h TO a1 a2) ∧ h.IsStrIter i1 (strIterType x) x t i ∧ h.IsStrIter i2 (strIterType y) y u i
theorem zs_walks {P : Program} {w : World} {A : Around} (hh : A.handled = none) {z TI TO i1 i2 : Addr} (S : ZipSep2 z TI TO i1 i2 [i1] [i2]) (x y : Str) (t u : Tok) :
    WalksT P w A z (z :: TI :: TO :: ([i1] ++ [i2])) [z, TO, i1, i2] (min x.cps.size y.cps.size)
      (fun i vals => ∃ v1 v2, (∃ c k, x.cps[i]? = some c ∧ v1 = .str ⟨#[c]⟩ k) ∧ (∃ c k, y.cps[i]? = some c ∧ v2 = .str ⟨#[c]⟩ k) ∧ vals = #[v1, v2]) (zsAt z TI TO i1 i2 x y t u)
      (fun i T h => IsZip h z TI TO (rawInt T) ∧ IsTupOf2 h TI (.ref i1) (.ref i2) ∧ (∃ a1 a2, IsTupOf2 h TO a1 a2) ∧ h.IsStrIter i1 (strIterType x) x t (i + 1) ∧ h.IsStrIter i2 (strIterType y) y u (i + 1) ∧ T ≠ z ∧ T ≠ TO ∧ T ≠ i1 ∧ T ≠ i2) :=
  WalksT.zipD2 S (Draws.text (A := A.in1) hh i1 x t) (Draws.text (A := A.in1) hh i2 y u)
theorem five_le {n c : Nat} (h : c = n + 4 ∨ c = n + 2 ∨ c = n + 3 ∨ c = n ∨ c = n + 1) : n ≤ c := by omega
theorem sep_nat (n : Nat) : ZipSep2 (n + 4) (n + 2) (n + 3) n (n + 1) [n] [n + 1] := by
  constructor <;> simp <;> omega
theorem sep_new (n : Addr) : ZipSep2 (n + 4) (n + 2) (n + 3) n (n + 1) [n] [n + 1] := sep_nat n
theorem turn_zipS {P : Program} {w : World} {K : PySem.W.Frag} {elts : List Expr} {kk : Nat} {tpos : Pos} {z TI TO i1 i2 : Addr} (S : ZipSep2 z TI TO i1 i2 [i1] [i2]) (x y : Str) (t u : Tok) :
    Turn P w K (.Tuple elts kk tpos) (ItzS x y) (z :: TI :: TO :: ([i1] ++ [i2])) z (zsAt z TI TO i1 i2 x y t u) where
  mem := List.mem_cons_self
  obj := fun i h st c hc => by
    obtain ⟨hz, hTI, ⟨a, b, hTO⟩, ⟨o1, e1, _, d1⟩, ⟨o2, e2, _, d2⟩⟩ := st
    have hc' : c = z ∨ c = TI ∨ c = TO ∨ c = i1 ∨ c = i2 := by simpa using hc
    rcases hc' with rfl | rfl | rfl | rfl | rfl
    · exact ⟨_, hz, fun v q => nomatch q⟩
    · exact ⟨_, hTI, fun v q => nomatch q⟩
    · exact ⟨_, hTO, fun v q => nomatch q⟩
    · exact ⟨o1, e1, fun v q => by rw [d1] at q; cases q⟩
    · exact ⟨o2, e2, fun v q => by rw [d2] at q; cases q⟩
  keep := fun i h h' st k => by
    obtain ⟨hz, hTI, ⟨a, b, hTO⟩, ⟨o1, e1, r1⟩, ⟨o2, e2, r2⟩⟩ := st
    exact ⟨k z (by simp) _ hz, k TI (by simp) _ hTI, ⟨a, b, k TO (by simp) _ hTO⟩, ⟨o1, k i1 (by simp) _ e1, r1⟩, ⟨o2, k i2 (by simp) _ e2, r2⟩⟩
  item := by
    intro X hP hw hK hc i pins s σ H E I hf st hg
    subst hP hw hK
    have W := zs_walks (P := X.prog) (w := X.w) (A := X.A) (I.ok.hd hc) S x y t u
    refine W.item i s _ _ hg st fun T vals g tk pt hT isT mid kp => ⟨_, rfl, ?_⟩
    refine W.go elts kk tpos i T { s with heap := g, toks := tk } _ _ mid fun g2 st2 kp2 => ?_
    obtain ⟨v1, v2, ⟨c, k1, ec, rfl⟩, ⟨d, k2, ed, rfl⟩, rfl⟩ := pt
    have hap := W.apart i T g mid
    have sub : ∀ b, b ∉ (z :: TI :: TO :: ([i1] ++ [i2])) → b ∉ [z, TO, i1, i2] := fun b hb q => hb (W.sub b q)
    obtain ⟨oT, eT, cT, nT, dT⟩ := isT
    have new : ObjOk X.prog X.w (upd H T (.tup [.str ⟨#[c]⟩, .str ⟨#[d]⟩])) g2 T (.tup [.str ⟨#[c]⟩, .str ⟨#[d]⟩]) :=
      ⟨by show 2 ≤ sizeLine; decide, [.str ⟨#[c]⟩ k1, .str ⟨#[d]⟩ k2], .cons ⟨k1, rfl⟩ (.cons ⟨k2, rfl⟩ .nil), oT, kp2 T oT hap eT, cT, nT, dT⟩
    have I1 := I.turnedNew (t' := tk) (h' := g2) (fun b o hb e => kp2 b o (sub b hb) (kp b o (sub b hb) e)) hf hT new
    refine ⟨.ref T, _, I1, rfl, ⟨T, c, d, rfl, I.hok.fresh hT, rfl, ec, ed⟩, st2, fun b hb => ?_⟩
    have hlt : b < s.heap.objs.size := by
      obtain ⟨hz, hTI, ⟨a1, a2, hTO⟩, ⟨o1, e1, _⟩, ⟨o2, e2, _⟩⟩ := st
      have hb' : b = z ∨ b = TI ∨ b = TO ∨ b = i1 ∨ b = i2 := by simpa using hb
      rcases hb' with rfl | rfl | rfl | rfl | rfl
      · exact Heap.lt_size hz
      · exact Heap.lt_size hTI
      · exact Heap.lt_size hTO
      · exact Heap.lt_size e1
      · exact Heap.lt_size e2
    rw [upd_ne (Nat.ne_of_lt (Nat.lt_of_lt_of_le hlt hT))]
    exact (hf b hb).1
  done := by
    intro X hP hw hK hc i pins s σ H E I hf st hg
    subst hP hw hK
    have W := zs_walks (P := X.prog) (w := X.w) (A := X.A) (I.ok.hd hc) S x y t u
    have hg' : i = min x.cps.size y.cps.size := hg
    subst hg'
    exact W.done s _ _ st fun g tk kp => ⟨rfl, I.turnedL (t' := tk) (fun b o hb e => kp b o (fun q => hb (W.sub b q)) e) hf⟩
  self := fun A i s Q E st h => wpAny_pyIter_zip st.1 h
def iZipS (ta : TA) : TI := fun σ H R => ta σ H fun vs H1 => ∃ x y, vs = [.str x, .str y] ∧ R (ItzS x y) H1
theorem pi_zipS {X : Cx} {e e2 : Expr} {ta : TA} {p pos tpos : Pos} {elts : List Expr} {kk : Nat} (hg : Gl X "zip") (hm : X.mg "zip" = none) (ha : PA X [e, e2] ta)
    (hs : starEach [e, e2] X.env = (false, eval e X.env) :: starEach [e2] X.env := by rfl) (hpl : (backTo pos (starEach [e2] X.env)).any (·.1) = false := by rfl) :
    PI X (.Tuple elts kk tpos) (.Call (.Name "zip" p) [e, e2] [] pos) (iZipS ta) := by
  refine ⟨fun pins s σ H R I h => ?_⟩
  refine Call_ (ld_blt I hg hm PyProof.Rows.boot_zip (PyProof.Rows.callWith_type1 (thn (ha.run pos pins s σ H _ I h) fun us s1 hv => ?_) hs hpl))
  obtain ⟨vs, H1, I1, r1, x, y, rfl, q⟩ := hv
  obtain ⟨u1, u2, rfl, q1, q2⟩ := vals2 r1
  obtain ⟨t, rfl⟩ := q1
  obtain ⟨u, rfl⟩ := q2
  refine zip_begins2 (begins_text x t) (begins_text y u) trivial trivial fun g hz hTI hTO h1 h2 hsz kp => wpAny_pyIter_zip hz ?_
  have I2 : Inv X pins σ H1 { s1 with heap := g } := I1.kept (t' := s1.toks) kp
  have S : ZipSep2 (s1.heap.objs.size + 4) (s1.heap.objs.size + 2) (s1.heap.objs.size + 3) s1.heap.objs.size (s1.heap.objs.size + 1) [s1.heap.objs.size] [s1.heap.objs.size + 1] := sep_new _
  refine ⟨s1.heap.objs.size + 4, _, _, _, H1, rfl, I2, turn_zipS S x y t u, ⟨hz, hTI, ⟨_, _, hTO⟩, ⟨_, h1, rfl, rfl⟩, ⟨_, h2, rfl, rfl⟩⟩, fun c hc => ?_, q⟩
  have hle : s1.heap.objs.size ≤ c := by
    have hc' : c = s1.heap.objs.size + 4 ∨ c = s1.heap.objs.size + 2 ∨ c = s1.heap.objs.size + 3 ∨ c = s1.heap.objs.size ∨ c = s1.heap.objs.size + 1 := by simpa using hc
    exact five_le hc'
  exact I1.fpOk hle (I1.hok.fresh hle)
end Ty
/-! sets of keys of any kind as they are made from a list, and sorted: own text -/
namespace Ty
open PySem PySem.Spec PyProof.Rows L2
section
variable {P : Program} {w : World} {K : Type} [DecidableEq K] [BEq K] [LawfulBEq K]
/-- an entry of a key -/
def EntOf (knd : PySem.KeyKind P w K) (e : Int × Value) (k : K) : Prop := knd.is k e.2 = true ∧ e.1 = knd.hash k ∧ e.2.scannable = true
theorem paired_perm {α β : Type} {R : α → β → Prop} {l l' : List α} (p : l'.Perm l) : ∀ {ks : List β}, Paired R l ks → ∃ ks', Paired R l' ks' ∧ ks'.Perm ks := by
  induction p with
  | nil => exact fun h => ⟨_, h, .refl _⟩
  | cons x _ ih =>
    intro ks h
    cases h with
    | cons r t =>
      obtain ⟨ks', h1, h2⟩ := ih t
      exact ⟨_, .cons r h1, h2.cons _⟩
  | swap x y l =>
    intro ks h
    cases h with
    | cons r t =>
      cases t with
      | cons r' t' => exact ⟨_, .cons r' (.cons r t'), .swap ..⟩
  | trans _ _ ih1 ih2 =>
    intro ks h
    obtain ⟨k1, h1, p1⟩ := ih2 h
    obtain ⟨k2, h2, p2⟩ := ih1 h1
    exact ⟨k2, h2, p2.trans p1⟩
theorem paired_left {α β : Type} {R : α → β → Prop} : ∀ {l : List α} {ks : List β}, Paired R l ks → ∀ x ∈ l, ∃ k ∈ ks, R x k
  | _, _, .nil, _, h => nomatch h
  | _, _, .cons r t, x, h => by
    rcases List.mem_cons.mp h with e | h
    · subst e
      exact ⟨_, List.mem_cons_self, r⟩
    · obtain ⟨k, h1, h2⟩ := paired_left t x h
      exact ⟨k, List.mem_cons_of_mem _ h1, h2⟩
theorem paired_right {α β : Type} {R : α → β → Prop} : ∀ {l : List α} {ks : List β}, Paired R l ks → ∀ k ∈ ks, ∃ x ∈ l, R x k
  | _, _, .nil, _, h => nomatch h
  | _, _, .cons r t, x, h => by
    rcases List.mem_cons.mp h with e | h
    · subst e
      exact ⟨_, List.mem_cons_self, r⟩
    · obtain ⟨k, h1, h2⟩ := paired_right t x h
      exact ⟨k, List.mem_cons_of_mem _ h1, h2⟩
/-- the set at a has just the keys L, each once -/
def SetG (knd : PySem.KeyKind P w K) (h : Heap) (a : Addr) (L : List K) : Prop :=
  ∃ o es ep t ks, h.get? a = some o ∧ o.ExactSet ∧ o.data = .set es ep t ∧ Paired (EntOf knd) es.toList ks ∧ ks.Perm L ∧ L.Nodup ∧ es.size < scanBound ∧ t.fits es.size = true ∧ Ris t.place.toList ∧
    (w.params.followText "set-order" = true ∨ t.led = true)
variable {knd : PySem.KeyKind P w K}
theorem SetG.at {h h' : Heap} {a : Addr} {L : List K} (R : SetG knd h a L) (k : ∀ o, h.get? a = some o → h'.get? a = some o) : SetG knd h' a L := by
  obtain ⟨o, es, ep, t, ks, ho, r⟩ := R
  exact ⟨o, es, ep, t, ks, k o ho, r⟩
theorem ents_elems {l : List (Int × Value)} {ks : List K} (p : Paired (EntOf knd) l ks) : ElemsOf knd l := fun e he => by
  obtain ⟨k, _, h1, h2, h3⟩ := paired_left p e he
  exact ⟨⟨k, h1, h2⟩, h3⟩
/-- one more key -/
def addK (L : List K) (k : K) : List K := if k ∈ L then L else k :: L
section
variable {A : Around} {E : Value → Shared → Prop} {s : Shared} {a : Addr} {L : List K}
theorem setG_tail {g : Bool → Sem Unit} (hg : ∀ (b : Bool) (s₁ : Shared) (Q' : Unit → Shared → Prop), Q' () s₁ → wpAny (model P w) A (g b) Q' E s₁)
    {o : Obj} {es : Array (Int × Value)} {ep : Nat} {t : SetTable} (ho : s.heap.get? a = some o) (hex : o.ExactSet) (hd : o.data = .set es ep t)
    {es1 : Array (Int × Value)} {t2 : SetTable} {ks : List K} (g1 : Paired (EntOf knd) es1.toList ks) (pm1 : ks.Perm L) (nd : L.Nodup)
    (hb1 : es1.size < scanBound) (hf2 : t2.fits es1.size = true) (hr : Ris t2.place.toList) (hl : w.params.followText "set-order" = true ∨ t2.led = true) {wasDummy : Bool} {R : Option Bool → Shared → Prop}
    (hR : ∀ h', Heap.SameBut a s.heap h' → SetG knd h' a L → R (some true) { s with heap := h' }) :
    wpAny (model P w) A (do
        storeSet a es1 t2
        if (!wasDummy && t2.tooFull) = true then do
            g (relayAll t2 es1 (SetTable.grown es1.size)).2.2
            storeSet a (relayAll t2 es1 (SetTable.grown es1.size)).1 (relayAll t2 es1 (SetTable.grown es1.size)).2.1
            pure (some true)
          else pure (some true)) R E s := by
  have at1 := store_at (es' := es1) (t' := t2) ho hd
  have same1 := Heap.SameBut.update s.heap a (Obj.putSet es1 t2)
  refine wpAny_bind (wpAny_storeSet_of ho hd ?_ (fits_of_scanBound hb1))
  by_cases hc : (!wasDummy && t2.tooFull) = true
  · rw [if_pos hc]
    have pm := relayAll_perm t2 es1 (SetTable.grown es1.size)
    have f3 := relayAll_fits t2 es1 (SetTable.grown es1.size)
    have r3 := relayAll_ris t2 es1 (SetTable.grown es1.size)
    have l3 := relayAll_led t2 es1 (SetTable.grown es1.size)
    generalize relayAll t2 es1 (SetTable.grown es1.size) = Z at pm f3 r3 l3 ⊢
    have sz : Z.1.size = es1.size := by rw [← Array.length_toList, pm.length_eq, Array.length_toList]
    have b2 : Z.1.size < scanBound := by rw [sz]; exact hb1
    obtain ⟨ks2, q1, q2⟩ := paired_perm pm g1
    refine wpAny_bind (hg _ _ _ (wpAny_bind (wpAny_storeSet_of at1 rfl (wpAny_pure (hR _ (same1.trans (Heap.SameBut.update _ a _)) ?_)) (fits_of_scanBound b2))))
    exact ⟨_, Z.1, _, Z.2.1, ks2, store_at (es' := Z.1) (t' := Z.2.1) at1 rfl, hex, rfl, q1, q2.trans pm1, nd, b2, f3, r3, hl.imp id fun z => by rw [l3]; exact z⟩
  · rw [if_neg hc]
    exact wpAny_pure (hR _ same1 ⟨_, es1, _, t2, ks, at1, hex, rfl, g1, pm1, nd, hb1, hf2, hr, hl⟩)
theorem setG_add_hashed {k : K} {x : Value} {Q : Bool → Shared → Prop} (hkey : knd.is k x = true) (hsc : x.scannable = true) (R : SetG knd s.heap a L) (room : L.length + 1 < scanBound)
    (hQ : ∀ h' b, Heap.SameBut a s.heap h' → SetG knd h' a (addK L k) → Q b { s with heap := h' }) :
    wpAny (model P w) A (setAddHashed a x (knd.hash k)) Q E s := by
  obtain ⟨o, es, ep, t, ks, ho, hex, hd, g, pm0, nd, hb, hf, hr, hl⟩ := R
  have hel : ElemsOf knd es.toList := ents_elems g
  have hlen : es.size = L.length := by rw [← Array.length_toList, Paired.length g, pm0.length_eq]
  unfold setAddHashed setAddHashedIn
  refine wpAny_holding (wpAny_bind (wpAny_setState_of ho hd hf ?_))
  dsimp only
  rw [byScan_of hsc hb hel]
  simp only [↓reduceIte]
  unfold setAddByScan
  refine wpAny_bind ?_
  refine wpAny_bind (wpAny_rule ?_)
  refine wpAny_bind (wpAny_setScan_of hkey ho hd hf hel ?_)
  cases hfi : List.findIdx? (fun e => knd.is k e.2) es.toList with
  | some j =>
    dsimp only
    obtain ⟨hj, pj, _⟩ := List.findIdx?_eq_some_iff_getElem.mp hfi
    obtain ⟨k', hk', e1, _⟩ := paired_left g es.toList[j] (List.getElem_mem hj)
    have ek : k' = k := knd.inj _ _ _ e1 pj
    subst ek
    refine wpAny_pure (wpAny_pure (hQ s.heap _ (Heap.SameBut.refl a s.heap) ?_))
    unfold addK
    rw [if_pos (pm0.mem_iff.mp hk')]
    exact ⟨o, es, ep, t, ks, ho, hex, hd, g, pm0, nd, hb, hf, hr, hl⟩
  | none =>
    dsimp only
    have hnk : k ∉ L := fun z => by
      obtain ⟨e, he, q, _⟩ := paired_right g k (pm0.mem_iff.mpr z)
      have c := List.findIdx?_eq_none_iff.mp hfi e he
      rw [q] at c
      cases c
    have eL : addK L k = k :: L := if_neg hnk
    have hgw : ∀ (b : Bool) {s₁ : Shared} {Q' : Unit → Shared → Prop}, Q' () s₁ → wpAny (model P w) A (match b with | true => rule "set.scan.the-table-gave-way" | false => pure ()) Q' E s₁ :=
      fun b s₁ Q' q => by cases b <;> first | exact wpAny_pure q | exact wpAny_rule q
    have pm := layNew_perm t es (knd.hash k) x
    have f1 := layNew_fits t es (knd.hash k) x
    have r1 := layNew_ris t es (knd.hash k) x hr
    have l1 := layNew_led t es (knd.hash k) x
    generalize layNew t es (knd.hash k) x = Z at pm f1 r1 l1 ⊢
    obtain ⟨es1, t1, wasDummy, gave⟩ := Z
    dsimp only at pm f1 r1 l1 ⊢
    rw [Array.toList_push] at pm
    obtain ⟨ks1, g1, p1⟩ := paired_perm (pm.trans (List.perm_append_singleton _ _)) (Paired.cons (⟨hkey, rfl, hsc⟩ : EntOf knd (knd.hash k, x) k) g)
    have pL : ks1.Perm (addK L k) := by rw [eL]; exact p1.trans (pm0.cons k)
    have ndL : (addK L k).Nodup := by rw [eL]; exact List.nodup_cons.mpr ⟨hnk, nd⟩
    have hb1 : es1.size < scanBound := by
      have : es1.size = L.length + 1 := by rw [← Array.length_toList, Paired.length g1, p1.length_eq, List.length_cons, pm0.length_eq]
      omega
    have hled : w.params.followText "set-order" = true ∨ t1.led = true := hl.imp id fun z => by rw [l1]; exact z
    refine wpAny_bind (hgw _ ?_)
    split
    · refine wpAny_bind ?_
      rw [hashByValue_scannable 8 hsc]
      refine wpAny_pure ?_
      refine setG_tail ?_ ho hex hd g1 pL ndL hb1 ?_ ?_ ?_ fun h' sb r => ?_
      · intro b s₁ Q' q; cases b <;> first | exact wpAny_pure q | exact wpAny_rule q
      · first | (split <;> first | exact f1 | exact SetTable.fits_plain_off f1) | exact f1
      · first | (split <;> exact r1) | exact r1
      · first | (split <;> exact hled) | exact hled
      · dsimp only; exact wpAny_pure (hQ h' _ sb r)
    · refine wpAny_bind (wpAny_pure ?_)
      simp only [↓reduceIte]
      refine setG_tail ?_ ho hex hd g1 pL ndL hb1 f1 r1 hled fun h' sb r => ?_
      · intro b s₁ Q' q; cases b <;> first | exact wpAny_pure q | exact wpAny_rule q
      · dsimp only; exact wpAny_pure (hQ h' _ sb r)
/-- the keys of a list, one after another put in -/
def gather (L : List K) (ks : List K) : List K := ks.foldl addK L
theorem addK_len (L : List K) (k : K) : (addK L k).length ≤ L.length + 1 := by
  unfold addK
  split
  · omega
  · simp
theorem mem_addK {L : List K} {k j : K} : j ∈ addK L k ↔ j ∈ L ∨ j = k := by
  unfold addK
  split
  · rename_i h
    exact ⟨.inl, fun z => z.elim id fun e => e ▸ h⟩
  · rw [List.mem_cons]
    exact Or.comm
theorem mem_gather {j : K} : ∀ {ks L : List K}, j ∈ gather L ks ↔ j ∈ L ∨ j ∈ ks
  | [], L => by simp [gather]
  | k :: ks, L => by
    show j ∈ gather (addK L k) ks ↔ _
    rw [mem_gather, mem_addK, List.mem_cons, or_assoc]
theorem gather_len : ∀ (ks L : List K), (gather L ks).length ≤ L.length + ks.length
  | [], L => by simp [gather]
  | k :: ks, L => by
    have h1 := gather_len ks (addK L k)
    have h2 := addK_len L k
    show (gather (addK L k) ks).length ≤ _
    rw [List.length_cons]
    omega
theorem setG_loop {R : Result → Shared → Prop} {I : Addr} {fp wr : List Addr} {G : Array GenState → Array GenState → Prop} {n : Nat} {Pv : Nat → Value → Prop} {St : Nat → Shared → Prop} (W : WalksS P w A.in1 I fp wr G n Pv St) (T : Addr) (hT : T ∉ fp)
    (ks : List K) (hn : ks.length = n) (hval : ∀ i v, Pv i v → ∃ k, ks[i]? = some k ∧ knd.is k v = true ∧ v.scannable = true) :
    ∀ (m i : Nat) (L : List K) (s : Shared), n - i = m → i ≤ n → St i s → L.length + m + 1 < scanBound → SetG knd s.heap T L →
      (∀ s', Moved (T :: wr) G s s' → SetG knd s'.heap T (gather L (ks.drop i)) → R (.ok (.ret .none)) s') →
      codeAny (model P w) A (.builtin "set.update.loop" ⟨[.ref T, .ref I], []⟩) R s := by
  have hTw : T ∉ wr := fun h => hT (W.sub _ h)
  have up : ∀ b ∈ wr, b ∈ T :: wr := fun b hb => List.mem_cons_of_mem _ hb
  intro m
  induction m with
  | zero =>
    intro i L s hm hi st hb hS hR
    obtain rfl : i = n := by omega
    refine codeAny_builtin F.entry_set_update_loop ?_
    rw [Around.under_plainId F.plain_set_update_loop _]
    show wpAny _ A.in1 (pyNext (.ref I) >>= _) _ _ s
    refine wpAny_bind (W.done s _ _ st fun s' mv => ?_)
    show wpAny _ A.in1 (ret Value.none) _ _ s'
    refine wpAny_pure (hR s' (mv.mono up) ?_)
    rw [List.drop_of_length_le (by omega)]
    exact hS.at fun o e => mv.heap T o hTw e
  | succ m ih =>
    intro i L s hm hi st hb hS hR
    have hlt : i < n := by omega
    refine codeAny_builtin F.entry_set_update_loop ?_
    rw [Around.under_plainId F.plain_set_update_loop _]
    show wpAny _ A.in1 (pyNext (.ref I) >>= _) _ _ s
    refine wpAny_bind (W.item i s _ _ hlt st fun v s1 hP st1 mv => ?_)
    obtain ⟨k, ek, hkey, hsc⟩ := hval i v hP
    have hS1 : SetG knd s1.heap T L := hS.at fun o e => mv.heap T o hTw e
    show wpAny _ A.in1 (holding [v] (setAdd T v) >>= _) _ _ s1
    refine wpAny_bind (wpAny_holding ?_)
    unfold setAdd
    refine wpAny_holding (wpAny_bind (knd.pyHash hkey ?_))
    refine setG_add_hashed (s := { s1 with toks := s1.toks + 1 }) hkey hsc hS1 (by omega) fun g b sb hS2 => ?_
    have hb2 := addK_len L k
    refine wpAny_pure ⟨plainId_quiet F.plain_set_update_loop _, ih (i + 1) (addK L k) _ (by omega) hlt (W.frame _ s1 _ _ st1 (Nat.le_succ _) fun c hc o e => ?_) (by omega) hS2 fun s2 mv2 hS3 => ?_⟩
    · rw [sb.2 c (fun h : c = T => hT (by rw [← h]; exact hc))]; exact e
    · refine hR s2 (Moved.trans W.gtrans ((mv.mono up).then_heap (Nat.le_succ _) fun c o hc e => ?_) mv2) ?_
      · rw [sb.2 c (fun h : c = T => hc (by rw [h]; exact List.mem_cons_self))]; exact e
      · have ed : ks.drop i = k :: ks.drop (i + 1) := by
          obtain ⟨hi', ek'⟩ := List.getElem?_eq_some_iff.mp ek
          rw [← ek']
          exact List.drop_eq_getElem_cons hi'
        rw [ed]
        exact hS3
end
end
end Ty
namespace Ty
open PySem PySem.Spec PyProof.Rows L2
section
variable {P : Program} {w : World} {K : Type} [DecidableEq K] [BEq K] [LawfulBEq K] {knd : PySem.KeyKind P w K}
variable {A : Around} {E : Value → Shared → Prop} {s : Shared}
theorem paired_at {α β : Type} {R : α → β → Prop} : ∀ {l : List α} {ks : List β}, Paired R l ks → ∀ (i : Nat) (x : α), l[i]? = some x → ∃ k, ks[i]? = some k ∧ R x k
  | _, _, .nil, i, x, h => by simp at h
  | _, _, .cons r t, 0, x, h => by
    simp at h
    subst h
    exact ⟨_, rfl, r⟩
  | _, _, .cons r t, i + 1, x, h => paired_at t i x (by simpa using h)
theorem setG_fresh {h : Heap} {a : Addr} (ho : h.get? a = some { cls := .type "set", dict := none, data := .set #[] 0 (.fresh 0 0 (!w.params.followText "set-order")) }) : SetG knd h a [] :=
  ⟨_, #[], 0, _, [], ho, ⟨rfl, rfl, rfl⟩, rfl, .nil, .refl _, .nil, by decide, rfl, List.Pairwise.nil, by
    show _ ∨ (!w.params.followText "set-order") = true
    cases w.params.followText "set-order"
    · exact .inr rfl
    · exact .inl rfl⟩
abbrev newSet (w : World) : Obj := { cls := .type "set", dict := none, data := .set #[] 0 (.fresh 0 0 (!w.params.followText "set-order")) }
theorem code_new_set1 (b : Value) {Q₁ : Value → Shared → Prop} (h : Q₁ (.ref s.heap.objs.size) { s with heap := s.heap.push (newSet w) }) :
    codeAny (model P w) A (.call (.builtin "set.__new__") ⟨[.type "set", b], []⟩) (wants Q₁ E) s := by
  refine codeAny_of_tree ?_
  show wpAny _ A.in1 (do checkBuiltinCall "set.__new__" ⟨[.type "set", b], []⟩; again (.builtin "set.__new__" ⟨[.type "set", b], []⟩)) _ _ s
  refine wpAny_bind (wpAny_of_eq (F.newCall_set_1 b) (wpAny_pure ⟨plainId_quiet F.plain_set_new _, codeAny_builtin F.entry_set_new ?_⟩))
  rw [Around.under_plainId F.plain_set_new _]
  unfold Builtin.«set.__new__» Builtin.Frozenset.newClass
  have hsub := sub_set_self
  obtain ⟨hp, g, d, tk, os⟩ := s
  dsimp only
  wp_walk
  refine wpAny_askSetting (wpAny_pure ?_)
  dsimp only
  simp only [newObj]
  exact wpAny_bind (wpAny_alloc (wpAny_pure (wpAny_pure h)))
set_option maxHeartbeats 3200000 in
/-- set(a list of keys) -/
theorem call_setL {l : Addr} {items : List Value} {ks : List K} {Q : Value → Shared → Prop} (hh : A.handled = none) (hl : s.heap.IsList l items.toArray) (hk : Paired (fun v k => knd.is k v = true ∧ v.scannable = true) items ks) (hb : items.length + 1 < scanBound)
    (h : ∀ (g : Heap) (tk : Nat), SetG knd g s.heap.objs.size (gather [] ks) → (∀ b o, s.heap.get? b = some o → g.get? b = some o) → Q (.ref s.heap.objs.size) { s with heap := g, toks := tk }) :
    wpAny (model P w) A (call (.type "set") [.ref l]) Q E s := by
  obtain ⟨c, tl, hmro⟩ := F.called_set.mro
  have hmade := F.called_set.made
  have hsub := F.called_set.sub
  refine wpAny_call (codeAny_of_tree ?_)
  show wpAny _ _ (callAny (.type "set") _) _ _ _
  refine wpAny_pure ⟨Code.quiet_builtin _ (by decide +kernel), codeAny_builtin F.entry_type_call ?_⟩
  rw [Around.under_plain (weight_type_call_type "set" [.ref l] []) rfl]
  have h1 := F.called_set.notType
  have h2 := F.called_set.canCreate
  have hct := F.typeCall_set_1 (.ref l)
  repeat (any_goals (first | assumption | wp_step))
  refine codeAny_mono (code_new_set1 (.ref l) (E := E) (Q₁ := fun obj s₁ => obj = .ref s.heap.objs.size ∧ s₁ = { s with heap := s.heap.push (newSet w) }) ⟨rfl, rfl⟩) fun r s₁ hr => ?_
  cases r with
  | error e => exact hr
  | ok fl =>
    cases fl with
    | next => exact hr.elim
    | brk => exact hr.elim
    | cont => exact hr.elim
    | ret obj =>
      obtain ⟨rfl, rfl⟩ := hr
      have hS : (s.heap.push (newSet w)).get? s.heap.objs.size = some (newSet w) := Heap.get?_push_size _ rfl
      have hT : Shared.TypeIs { s with heap := s.heap.push (newSet w) } (.ref s.heap.objs.size) "set" := ⟨_, hS, rfl⟩
      have hli := F.called_set.init.lookup
      have hbi := F.called_set.init.bind (.ref s.heap.objs.size)
      repeat (any_goals (first | assumption | wp_step))
      refine codeAny_mono (codeAny_call_builtin (R := wants (fun r s₂ => r = .none ∧ ∃ g tk, s₂ = { s with heap := g, toks := tk } ∧ SetG knd g s.heap.objs.size (gather [] ks) ∧ (∀ b o, s.heap.get? b = some o → g.get? b = some o)) E)
        F.called_set.init.plain F.entry_set_init (check_set_init_1 hT ?_)) fun r₂ s₂ hr₂ => ?_
      · obtain ⟨⟨ocls, odict, odata, oslots⟩, hol, hcl, nl, hdl⟩ := hl
        simp only at hcl hdl
        subst hcl hdl
        have hol' : (s.heap.push (newSet w)).get? l = some { cls := .type "list", dict := odict, data := .seq items.toArray nl, slots := oslots } := Heap.get?_push_of_some _ hol
        have hsls := F.sub_list_set
        have hslf := F.sub_list_frozenset
        have hne : (Value.type "list" == Value.type "dict") = false := by decide
        have hl1 : (s.heap.push (newSet w)).IsList l items.toArray := ⟨_, hol', rfl, nl, rfl⟩
        unfold Builtin.«set.__init__» noKeywords Builtin.Frozenset.updateFrom
        generalize hPI : pyIter = PI
        wp_walk
        subst hPI
        refine wpAny_pyIter_list hl1 (wpAny_bind (wpAny_runValue ?_))
        have hlS : l < s.heap.objs.size := Heap.lt_size hol
        have hh3 : A.in1.in1.in1.handled = none := by simp [hh]
        have z1 : (s.heap.push (newSet w)).objs.size = s.heap.objs.size + 1 := Heap.size_push ..
        have hneI : l ≠ (s.heap.push (newSet w)).objs.size := by rw [z1]; exact Nat.ne_of_lt (Nat.lt_succ_of_lt hlS)
        have hSf : s.heap.objs.size ∉ [(s.heap.push (newSet w)).objs.size, l] := by
          rw [z1]
          simp only [List.mem_cons, List.not_mem_nil, or_false, not_or]
          exact ⟨Nat.ne_of_lt (Nat.lt_succ_self _), Nat.ne_of_gt hlS⟩
        have hlen := Paired.length hk
        have hval : ∀ (i : Nat) (v : Value), items.toArray[i]? = some v → ∃ k, ks[i]? = some k ∧ knd.is k v = true ∧ v.scannable = true := fun i v hv => paired_at hk i v (by simpa using hv)
        refine setG_loop ((Walks.list hh3 _ l hneI items.toArray).toS) s.heap.objs.size hSf ks (by simp [hlen]) hval items.length 0 [] _ (by simp) (Nat.zero_le _)
          ⟨⟨_, Heap.get?_push_size _ rfl, rfl, rfl⟩, hl1.push _⟩ (by simpa using hb) (setG_fresh (Heap.get?_push_of_some _ hS)) fun s' hm hS' => ?_
        obtain ⟨g, g', d', tk', os'⟩ := s'
        have eg : g' = s.gens := hm.gens
        have ed : d' = s.drawn := hm.drawn
        have eo : os' = s.os := hm.os
        subst eg ed eo
        show wpAny _ _ _ _ _ _
        refine wpAny_pure ?_
        show wpAny _ _ (ret Value.none) _ _ _
        refine wpAny_pure ⟨rfl, g, tk', rfl, hS', fun b o e => ?_⟩
        have hb0 : b < s.heap.objs.size := Heap.lt_size e
        have hb1 : b ≠ s.heap.objs.size := Nat.ne_of_lt hb0
        have hb2 : b ≠ (s.heap.push (newSet w)).objs.size := by rw [z1]; exact Nat.ne_of_lt (Nat.lt_succ_of_lt hb0)
        exact hm.heap b o (by simp only [List.mem_cons, List.not_mem_nil, or_false, not_or]; exact ⟨hb1, hb2⟩) (Heap.get?_push_of_some _ (Heap.get?_push_of_some _ e))
      · cases r₂ with
        | error e => exact hr₂
        | ok fl₂ =>
          cases fl₂ with
          | next => exact hr₂.elim
          | brk => exact hr₂.elim
          | cont => exact hr₂.elim
          | ret r =>
            obtain ⟨rfl, g, tk, rfl, hS', hk'⟩ := hr₂
            repeat (any_goals (first | assumption | wp_step))
            exact h _ _ hS' hk'
end
end Ty
namespace Ty
open PySem PySem.Spec PyProof.Rows L2
/-- a set of texts, in the abstract heap -/
def SetTx (P : Program) (w : World) (a : Addr) (L : List Str) : HO := .ext fun h => SetG (PySem.strKind P w) h a L
section
variable {P : Program} {w : World} {A : Around} {E : Value → Shared → Prop} {s : Shared}
theorem strs_scan : ∀ {xs : List Str} {us : List Value}, Vals (xs.map V.str) us → Paired (fun v k => (PySem.strKind P w).is k v = true ∧ v.scannable = true) us xs
  | [], _, h => by
    cases h
    exact .nil
  | x :: xs, _, h => by
    cases h with
    | cons r t =>
      obtain ⟨k, rfl⟩ := r
      exact .cons ⟨by show Value.isStrOf x (.str x k) = true; simp [Value.isStrOf], rfl⟩ (strs_scan t)
theorem strs_are : ∀ {es : List (Int × Value)} {ks : List Str}, Paired (EntOf (PySem.strKind P w)) es ks → StrsAre (es.map (·.2)) ks
  | [], _, h => by
    cases h
    exact .nil
  | e :: es, _, h => by
    cases h with
    | @cons _ k _ ks r t =>
      obtain ⟨u, hu⟩ := Value.isStrOf_shape (x := k) (v := e.2) r.1
      rw [List.map_cons, hu]
      exact .cons k u (strs_are t)
theorem strs_perm {l l' : List Value} (p : l'.Perm l) : ∀ {ks : List Str}, StrsAre l ks → ∃ ks', StrsAre l' ks' ∧ ks'.Perm ks := by
  induction p with
  | nil => exact fun h => ⟨_, h, .refl _⟩
  | cons x _ ih =>
    intro ks h
    cases h with
    | cons k u t =>
      obtain ⟨ks', h1, h2⟩ := ih t
      exact ⟨_, .cons k u h1, h2.cons _⟩
  | swap x y l =>
    intro ks h
    cases h with
    | cons k u t =>
      cases t with
      | cons k' u' t' => exact ⟨_, .cons k' u' (.cons k u t'), .swap ..⟩
  | trans _ _ ih1 ih2 =>
    intro ks h
    obtain ⟨k1, h1, p1⟩ := ih2 h
    obtain ⟨k2, h2, p2⟩ := ih1 h1
    exact ⟨k2, h2, p2.trans p1⟩
/-- sorted(a set of texts) -/
theorem sorted_setTx {a : Addr} {L : List Str} {Q : Value → Shared → Prop} (R : SetG (PySem.strKind P w) s.heap a L) (hh : A.handled = none) (h64 : L.length < 64)
    (hQ : ∀ s' p (out : Array Value) (c : Nat) (ys : List Str), (∀ b o, s.heap.get? b = some o → s'.heap.get? b = some o) → s'.gens = s.gens → s'.os = s.os → s.heap.objs.size ≤ p →
      s'.heap.get? p = some (seqObj "list" out c) → StrsAre out.toList ys → ys.Perm L → sortedS ys = true → Q (.ref p) s') :
    wpAny (model P w) A (call (.builtin "sorted") [.ref a]) Q E s := by
  obtain ⟨o, es, ep, t, ks, ho, hex, hd, g, pk, nd, hb, hf, hr, hl⟩ := R
  refine Calls.call_function_entry kind_sorted plain_sorted entry_sorted (args_sorted1 _) ?_
  unfold Builtin.«sorted»
  refine wpAny_bind (m := checkCount "sorted" 1 1 _) (wpAny_pure ?_)
  refine wpAny_bind (collect_set (A := A.in1) hh ⟨o, ho, hex.1, hd⟩ hf hb hr hl fun s1 vs k1 hz g1 o1 pm => ?_)
  obtain ⟨k2, hS, pk2⟩ := strs_perm pm (strs_are g)
  have hvl : vs.length < 64 := by
    have e1 := pm.length_eq
    rw [List.length_map, Paired.length g, pk.length_eq] at e1
    omega
  refine wpAny_bind (wpAny_newList ?_ (by rw [sizeLine_eq]; omega))
  have hoL : (s1.heap.push (seqObj "list" vs.toArray 0)).get? s1.heap.objs.size = some (seqObj "list" vs.toArray 0) := Heap.get?_push_size _ rfl
  refine wpAny_bind (wpAny_holding (wpAny_call_entry PyProof.Rows.slot_list_sort ⟨_, hoL, rfl⟩ PyProof.Rows.entry_list_sort
    (list_sort_treeK strKind_oneLt hoL hS.keysOf (fun v₁ v₂ rest e => keyKind_strs (by rw [← e]; exact hS)) hvl fun st' hp hs => ?_) (PyProof.Rows.args_list_sort _)))
  obtain ⟨ys, q1, q2, q3⟩ := sorted_out_str hS hp hs
  obtain ⟨c, hc⟩ := PyProof.Rows.sortedHeap_at (vs := vs) (out := (arrOf st').map (·.2)) hoL
  refine ⟨_, rfl, wpAny_pure ⟨_, rfl, hQ _ s1.heap.objs.size _ c ys (fun b u e => ?_) g1 o1 hz hc q1 ((q2.trans pk2).trans pk) q3⟩⟩
  have q := k1 b u e
  have hlt := Heap.lt_size q
  rw [PyProof.Rows.sortedHeap_old (Nat.ne_of_lt hlt) (by rw [Heap.size_push]; exact Nat.lt_succ_of_lt hlt)]
  exact Heap.get?_push_of_some _ q
end
section
variable {X : Cx}
/-- set(a list of texts) -/
def rSetTx (K : PySem.W.Frag) (P : Program) (w : World) : List V → Hp → VK → Prop := fun vs H Q => ∃ (l : Addr) (xs : List Str), vs = [.ref l] ∧ SqL K H l (xs.map V.str) ∧ xs.length + 1 < scanBound ∧
  ∀ p, H p = none → Q (.ref p) (upd H p (SetTx P w p (gather [] xs)))
theorem cr_setTx (hc : X.calm = true) : CallR X (.type "set") (rSetTx X.K X.prog X.w) := by
  intro pins s σ H vs us Q I r h
  obtain ⟨l, xs, rfl, hq, hb, q⟩ := h
  obtain ⟨u, rfl, rx⟩ := vals1 r
  cases rx
  obtain ⟨its, rv, hl, _⟩ := I.list hq
  have hlen := rv.length
  rw [List.length_map] at hlen
  refine call_setL (knd := PySem.strKind X.prog X.w) (I.ok.hd hc) hl.isList (strs_scan rv) (by rw [← hlen]; exact hb) fun g tk hS kp => ?_
  have new : ObjOk X.prog X.w (upd H s.heap.objs.size (SetTx X.prog X.w s.heap.objs.size (gather [] xs))) g s.heap.objs.size (SetTx X.prog X.w s.heap.objs.size (gather [] xs)) := by
    have ⟨o, _, _, _, _, ho, _⟩ := hS
    exact ⟨hS, ⟨o, ho⟩, fun h1 h2 p k => p.at k⟩
  exact ⟨.ref _, _, I.laid (t' := tk) kp (Nat.le_refl _) new, rfl, q _ (I.hok.fresh (Nat.le_refl _))⟩
/-- sorted(a set of texts) -/
def rSortedTx (P : Program) (w : World) : List V → Hp → VK → Prop := fun vs H Q => ∃ (a : Addr) (L : List Str), vs = [.ref a] ∧ H a = some (SetTx P w a L) ∧ L.length < 64 ∧
  ∀ ys p, ys.Perm L → sortedS ys = true → H p = none → Q (.ref p) (upd H p (.lst (ys.map V.str)))
theorem cr_sortedTx (hc : X.calm = true) : CallR X (.builtin "sorted") (rSortedTx X.prog X.w) := by
  intro pins s σ H vs us Q I r h
  obtain ⟨a, L, rfl, ha, h64, q⟩ := h
  obtain ⟨u, rfl, rx⟩ := vals1 r
  cases rx
  have hS : SetG (PySem.strKind X.prog X.w) s.heap a L := (I.hok a _ ha).1
  refine sorted_setTx hS (I.ok.hd hc) h64 fun s' p out c ys kp eg eo hp hat h1 h2 h3 => ?_
  obtain ⟨g, g', d', t', o'⟩ := s'
  have eg : g' = s.gens := eg
  have eo : o' = s.os := eo
  subst eg eo
  have hlen : (ys.map V.str).length ≤ sizeLine := by
    rw [List.length_map, h2.length_eq, sizeLine_eq]
    omega
  have I1 : Inv X pins σ (upd H p (.lst (ys.map V.str))) { s with heap := g, toks := t' } := I.laid (t' := t') (fun b o e => kp b o e) hp ⟨hlen, out.toList, c, vals_of_strs h1, by simpa [seqObj] using hat⟩
  exact ⟨.ref p, _, ⟨I1.ok, I1.os, I1.bare, I1.base, I1.loc, I1.cell, I1.free, I1.freeC, I1.pin, I1.hok, I1.len⟩, rfl, q ys p h2 h3 (I.hok.fresh hp)⟩
end
end Ty
namespace Ty
open PySem PySem.Spec PyProof.Rows L2
/-! ### data in the abstract heap, apart from the jar's address -/
mutual
/-- v reads as d; none of its lists lies at j -/
inductive Rep (j : Addr) (H : Hp) : V → PyData → Prop
  | non : Rep j H .non .none
  | bl (b : Bool) : Rep j H (.bl b) (.bool b)
  | int (i : Int) : Rep j H (.int i) (.int i)
  | str (x : Str) : Rep j H (.str x) (.str x)
  | lst {a : Addr} {xs : List V} {ds : List PyData} : a ≠ j → sysModules < a → H a = some (.lst xs) → Reps j H xs ds → Rep j H (.ref a) (.list ds)
  | tup {a : Addr} {xs : List V} {ds : List PyData} : a ≠ j → H a = some (.tup xs) → Reps j H xs ds → Rep j H (.ref a) (.tuple ds)
  | dct {a : Addr} : a ≠ j → H a = some (.dK []) → Rep j H (.ref a) (.dict [])
inductive Reps (j : Addr) (H : Hp) : List V → List PyData → Prop
  | nil : Reps j H [] []
  | cons {v : V} {vs : List V} {d : PyData} {ds : List PyData} : Rep j H v d → Reps j H vs ds → Reps j H (v :: vs) (d :: ds)
end
/-- all that is tracked apart from j stands -/
def Keep (j : Addr) (H H' : Hp) : Prop := ∀ b o, b ≠ j → H b = some o → H' b = some o
theorem Keep.refl {j : Addr} {H : Hp} : Keep j H H := fun _ _ _ h => h
theorem Keep.trans {j : Addr} {H H1 H2 : Hp} (a : Keep j H H1) (b : Keep j H1 H2) : Keep j H H2 := fun c o n h => b c o n (a c o n h)
theorem Keep.of_same {j : Addr} {H H' : Hp} (s : Same H H') : Keep j H H' := fun b o _ h => s b o h
theorem same_new {H : Hp} {p : Addr} (h : H p = none) (o : HO) : Same H (upd H p o) := fun b u q => by rw [upd_ne (ne_of_none q h)]; exact q
theorem keep_new {j : Addr} {H : Hp} {p : Addr} (h : H p = none) (o : HO) : Keep j H (upd H p o) := .of_same (same_new h o)
theorem keep_jar {j : Addr} {H : Hp} (o : HO) : Keep j H (upd H j o) := fun b u n q => by rw [upd_ne n]; exact q
section
variable {j : Addr} {H H' : Hp}
mutual
theorem Rep.keep (k : Keep j H H') : ∀ (d : PyData) (v : V), Rep j H v d → Rep j H' v d
  | .none, _, h => by cases h; exact .non
  | .bool _, _, h => by cases h; exact .bl _
  | .int _, _, h => by cases h; exact .int _
  | .str _, _, h => by cases h; exact .str _
  | .list ds, _, h => by
    cases h with
    | lst n g e r => exact .lst n g (k _ _ n e) (Reps.keep k ds _ r)
  | .tuple ds, _, h => by
    cases h with
    | tup n e r => exact .tup n (k _ _ n e) (Reps.keep k ds _ r)
  | .dict _, _, h => by
    cases h with
    | dct n e => exact .dct n (k _ _ n e)
theorem Reps.keep (k : Keep j H H') : ∀ (ds : List PyData) (vs : List V), Reps j H vs ds → Reps j H' vs ds
  | [], _, h => by cases h; exact .nil
  | d :: ds, _, h => by
    cases h with
    | cons r t => exact .cons (Rep.keep k d _ r) (Reps.keep k ds _ t)
end
theorem Reps.length : ∀ {vs : List V} {ds : List PyData}, Reps j H vs ds → vs.length = ds.length
  | _, _, .nil => rfl
  | _, _, .cons _ t => by rw [List.length_cons, List.length_cons, Reps.length t]
theorem Reps.get : ∀ {vs : List V} {ds : List PyData} {i : Nat} {v : V}, Reps j H vs ds → vs[i]? = some v → ∃ d, ds[i]? = some d ∧ Rep j H v d
  | _, _, _, _, .nil, e => by simp at e
  | _, _, 0, _, .cons r _, e => by simp at e; subst e; exact ⟨_, rfl, r⟩
  | _, _, i + 1, v, .cons _ t, e => by
    obtain ⟨d, h1, h2⟩ := Reps.get (i := i) (v := v) t (by simpa using e)
    exact ⟨d, by simpa using h1, h2⟩
theorem Reps.append : ∀ {vs ws : List V} {ds es : List PyData}, Reps j H vs ds → Reps j H ws es → Reps j H (vs ++ ws) (ds ++ es)
  | _, _, _, _, .nil, t => t
  | _, _, _, _, .cons r q, t => .cons r (Reps.append q t)
theorem Reps.take : ∀ {vs : List V} {ds : List PyData} (n : Nat), Reps j H vs ds → Reps j H (vs.take n) (ds.take n)
  | _, _, 0, _ => .nil
  | _, _, _ + 1, .nil => .nil
  | _, _, n + 1, .cons r t => .cons r (Reps.take n t)
theorem Reps.drop : ∀ {vs : List V} {ds : List PyData} (n : Nat), Reps j H vs ds → Reps j H (vs.drop n) (ds.drop n)
  | _, _, 0, r => r
  | _, _, _ + 1, .nil => .nil
  | _, _, n + 1, .cons _ t => Reps.drop n t
theorem Reps.reverse : ∀ {vs : List V} {ds : List PyData}, Reps j H vs ds → Reps j H vs.reverse ds.reverse
  | _, _, .nil => .nil
  | _, _, .cons r t => by
    rw [List.reverse_cons, List.reverse_cons]
    exact Reps.append (Reps.reverse t) (.cons r .nil)
end
section
variable {X : Cx} {pins : List (Addr × Obj)} {σ : L2.St} {H : Hp} {s : Shared} {j : Addr}
mutual
theorem Rep.reads (I : Inv X pins σ H s) : ∀ (d : PyData) (v : V) (u : Value), Rep j H v d → RelV v u → ∃ as, Reads s.heap u d as ∧ sysModules ∉ as
  | .none, _, _, h, r => by
    cases h
    cases r
    exact ⟨_, Reads.none, by simp⟩
  | .bool b, _, _, h, r => by
    cases h
    cases r
    exact ⟨_, Reads.bool b, by simp⟩
  | .int i, _, _, h, r => by
    cases h
    obtain ⟨t, rfl⟩ := r
    exact ⟨_, Reads.int i t, by simp⟩
  | .str x, _, _, h, r => by
    cases h
    obtain ⟨t, rfl⟩ := r
    exact ⟨_, Reads.str x t, by simp⟩
  | .list ds, _, _, h, r => by
    cases h with
    | lst n g e q =>
      cases r
      obtain ⟨z, its, m, rv, ho⟩ := I.hok _ _ e
      obtain ⟨as, hr, hn⟩ := Reps.reads I ds _ its q rv
      exact ⟨_, Reads.list ho rfl rfl (by simpa using hr), by simp only [List.mem_cons, not_or]; exact ⟨Nat.ne_of_lt g, hn⟩⟩
  | .tuple ds, _, _, h, r => by
    cases h with
    | tup n e q =>
      cases r
      obtain ⟨z, its, rv, o, ho, hc, m, hd⟩ := I.hok _ _ e
      obtain ⟨as, hr, hn⟩ := Reps.reads I ds _ its q rv
      exact ⟨_, Reads.tuple ho hc hd (by simpa using hr), hn⟩
  | .dict _, _, _, h, r => by
    cases h with
    | @dct a n e =>
      cases r
      obtain ⟨z, hs, vs, rel, dd⟩ := I.hok _ _ e
      cases rel
      obtain ⟨o, es, ep, ho, hx, hd, _, hp, _⟩ := dd
      have he : es.toList = [] := by
        cases q : es.toList with
        | nil => rfl
        | cons e l =>
          rw [q] at hp
          cases hp
      have hn : (a == sysModules) = false := hs
      exact ⟨_, Reads.dict (kvs := []) ho hx.1 hd (by rw [he]; exact ReadsAll.nil) (by rw [he]; exact ReadsAll.nil), by
        simp only [List.append_nil, List.mem_cons, List.not_mem_nil, or_false]
        intro z
        rw [← z] at hn
        simp at hn⟩
theorem Reps.reads (I : Inv X pins σ H s) : ∀ (ds : List PyData) (vs : List V) (us : List Value), Reps j H vs ds → Vals vs us → ∃ as, ReadsAll s.heap us ds as ∧ sysModules ∉ as
  | [], _, _, h, r => by
    cases h
    cases r
    exact ⟨_, ReadsAll.nil, by simp⟩
  | d :: ds, _, _, h, r => by
    cases h with
    | cons h1 h2 =>
      cases r with
      | cons r1 r2 =>
        obtain ⟨as, q1, n1⟩ := Rep.reads I d _ _ h1 r1
        obtain ⟨bs, q2, n2⟩ := Reps.reads I ds _ _ h2 r2
        exact ⟨_, ReadsAll.cons q1 q2, by simp only [List.mem_append, not_or]; exact ⟨n1, n2⟩⟩
end
end
end Ty
namespace Ty
open PySem PySem.Spec PyProof.Rows L2
section
variable {X : Cx}
/-! ### new lists that lie behind the modules' table -/
def tLstN (t : TA) : TE := fun σ H Q => t σ H fun xs H1 => xs.length ≤ sizeLine ∧ ∀ p, H1 p = none → sysModules < p → Q (.ref p) (upd H1 p (.lst xs))
theorem pe_lstN {es : List Expr} {t : TA} {pos : Pos} (h : PA X es t) : PE X (.List es pos) (tLstN t) := by
  refine ⟨fun pins s σ H Q I hq => ?_⟩
  refine wpAny_List_spliced (thn (h.run pos pins s σ H _ I hq) fun us s1 hv => ?_)
  obtain ⟨xs, H1, I1, r, z, q⟩ := hv
  refine ⟨by rw [← r.length]; exact z, .ref s1.heap.objs.size, upd H1 s1.heap.objs.size (.lst xs), I1.laid (t' := s1.toks) (fun b u e => Heap.get?_push_of_some _ e) (Nat.le_refl _) ⟨z, us, 0, r, Heap.get?_push_size _ rfl⟩, rfl, q _ (I1.hok.fresh (Nat.le_refl _)) I1.big⟩
def rListN (K : PySem.W.Frag) : List V → Hp → VK → Prop := fun xs H Q => ∃ p ys, xs = [.ref p] ∧ SqT K H p ys ∧ ∀ l, H l = none → sysModules < l → Q (.ref l) (upd H l (.lst ys))
theorem call_listN : CallR X (.type "list") (rListN X.K) := by
  intro pins s σ H xs us Q I r h
  obtain ⟨p, ys, rfl, hq, q⟩ := h
  obtain ⟨u, rfl, rx⟩ := vals1 r
  cases rx
  obtain ⟨its, r', pl, hz⟩ := I.tuple hq
  have hlen := r'.length
  obtain ⟨o, ho, hc, n, hd⟩ := pl
  refine call_list_seq p (.inr rfl) ho hc hd (fun g c kp e => ?_) (by rw [List.size_toArray, ← hlen]; exact hz)
  exact ⟨.ref s.heap.objs.size, _, I.laid (t' := s.toks) kp (Nat.le_refl _) (show ObjOk X.prog X.w _ g _ (.lst ys) from ⟨hz, its, c, r', e⟩), rfl, q _ (I.hok.fresh (Nat.le_refl _)) I.big⟩
/-! ### str of data, where no repr is under way -/
def strD : PyData → Str
  | .str x => x
  | d => d.shown
def rStrD (j : Addr) : List V → Hp → VK → Prop := fun vs H Q => ∃ v d, vs = [v] ∧ Rep j H v d ∧ d.showable = true ∧ d.shown.length ≤ sizeLine ∧ d.depth ≤ 60 ∧ Q (.str (strD d)) H
theorem call_strD {j : Addr} (hg : X.A.guards = some []) (hu : X.A.units + 64 < cLine) : CallR X (.type "str") (rStrD j) := by
  intro pins s σ H xs us Q I r h
  obtain ⟨v, d, rfl, rp, hs, hz, hd, q⟩ := h
  obtain ⟨u, rfl, rx⟩ := vals1 r
  cases rp with
  | non => cases rx; exact PySem.P.str_of_none ⟨.str _, H, I.tok _, ⟨_, rfl⟩, q⟩
  | bl b => cases rx; exact PySem.P.str_of_bool ⟨.str _, H, I.tok _, ⟨_, rfl⟩, q⟩
  | int i => obtain ⟨t, rfl⟩ := rx; exact PySem.P.str_of_int (of_decide_eq_true hs) ⟨.str _, H, I.tok _, ⟨_, rfl⟩, q⟩
  | str x => obtain ⟨t, rfl⟩ := rx; exact PySem.P.str_of_str ⟨.str x, H, I, ⟨_, rfl⟩, q⟩
  | lst n g e rs =>
    obtain ⟨as, rd, hn⟩ := Rep.reads I _ _ _ (.lst n g e rs) rx
    cases rx
    exact str_of_reads rd hs (fun _ => hn) hg (by omega) (fun _ _ e => e) (fun g u tk kp => ⟨.str _, H, I.kept (t' := tk) kp, ⟨_, rfl⟩, q⟩) hz
  | tup n e rs =>
    obtain ⟨as, rd, hn⟩ := Rep.reads I _ _ _ (.tup n e rs) rx
    cases rx
    exact str_of_reads rd hs (fun _ => hn) hg (by omega) (fun _ _ e => e) (fun g u tk kp => ⟨.str _, H, I.kept (t' := tk) kp, ⟨_, rfl⟩, q⟩) hz
  | dct n e =>
    obtain ⟨as, rd, hn⟩ := Rep.reads I _ _ _ (.dct n e) rx
    cases rx
    exact str_of_reads rd hs (fun _ => hn) hg (by omega) (fun _ _ e => e) (fun g u tk kp => ⟨.str _, H, I.kept (t' := tk) kp, ⟨_, rfl⟩, q⟩) hz
/-! ### a tuple against the empty one -/
def rEqT0 (K : PySem.W.Frag) : R2 := fun x y H Q => ∃ a b xs, x = .ref a ∧ y = .ref b ∧ SqT K H a xs ∧ SqT K H b [] ∧ Q (.bl (decide (xs = []))) H
theorem op_eqT0 (hu : X.A.units < cLine) : OpR X (compareOp .Eq) (rEqT0 X.K) := by
  intro pins s σ H x y v u Q I rx ry h
  obtain ⟨a, b, xs, rfl, rfl, ha, hb, q⟩ := h
  cases rx
  cases ry
  obtain ⟨its, r1, p1, _⟩ := I.tuple ha
  obtain ⟨its2, r2, p2, _⟩ := I.tuple hb
  cases r2
  have hlen := r1.length
  refine SeqAt.eq_tupleAt (e := fun _ => true) p1 p2 hu (fun k h1 h2 => absurd h2 (by simp)) ⟨.bl _, H, I, rfl, ?_⟩
  have e : ((List.range (min its.toArray.size ([] : List Value).toArray.size)).all (fun _ => true) && its.toArray.size == ([] : List Value).toArray.size) = decide (xs = []) := by
    cases xs with
    | nil =>
      cases its with
      | nil => rfl
      | cons => cases hlen
    | cons =>
      cases its with
      | nil => cases hlen
      | cons => simp
  rw [e]
  exact q
end
end Ty
/-! a law's def at its one entry: the caller's surroundings are known there (no repr is under way), so a body may ask for str of data -/
namespace Ty
open PySem PySem.Spec PyProof.Rows L2
/-- what a def does when it is entered from A -/
def Enters (A : Around) (P : Program) (w : World) (K : PySem.W.Frag) (mg : Str → Option Value) (base : Heap) (f : Addr) (fd : FuncData) (ps : List Str) (sp : Sp) : Prop :=
  ∀ (outer : List Env) (s : Shared) (H : Hp) (args : Args) (us : List Value) (vs : List V) (Q : VK), Env0 P w K mg base A outer s H → BindsTo s fd args (ps.zip us) → Vals vs us → vs.length = ps.length → sp vs H Q E0 →
    codeAny (model P w) A (.call (.ref f) args) (CR CX0 outer P w H s Q E0) s
theorem enters {A : Around} {P : Program} {w : World} {K : PySem.W.Frag} {mg : Str → Option Value} {base : Heap} {x qual : Str} {st : Stmt} {f : Addr} {fd : FuncData} {N ps : List Str} {k : Nat} {sp : Sp} (F : Fun K x qual st f fd) (S : FnScope N ps (defScope st)) (hr : Room (k + 1) A)
    (body : ∀ (cdv : Value) (outer : List Env) (s : Shared) (H : Hp) (vs : List V) (Q : VK), Room k (A.deeper (envOfC qual (defScope st) s.heap.objs.size f cdv)) → sp vs H Q E0 →
      ∃ t, PSs (cxOf CX0 P w K mg base N qual (defScope st) f cdv A outer s H E0).nox (defBody st) t ∧ t { nx := fun _ H' => Q .non H', rt := Q } (start N vs) H) : Enters A P w K mg base f fd ps sp := by
  obtain ⟨oc, od, kV, doc, pm, an, cdv, ct, osl, rfl, lk, hcd⟩ := F.ex
  intro outer s H args us vs Q e0 hb rv hl hsp
  have std : K.In s.heap := e0.mod.kin.keeps fun b o e => (e0.bs b o e).1
  have nl : s.heap.NoLimit := e0.mod.nolimit.keeps fun b o e => (e0.bs b o e).1
  have slots : ∀ y ∈ ps.zip us, (defScope st).names.lookup y.1 = some .local ∨ ((defScope st).names.lookup y.1 = some .cell ∧ ((cellsFrom (s.heap.objs.size + 1) (defScope st).names []).lookup y.1).isSome = true) := by
    rintro ⟨n, v⟩ hy
    cases S.par n (List.of_mem_zip hy).1 with
    | inl h => exact .inl h
    | inr h => exact .inr ⟨h, PySem.W.cellsFrom_some _ _ _ (.inl h)⟩
  apply codeAny_call_function hr.depth (std _ _ lk) rfl S.co S.gen rfl (PySem.W.codeRec_of std hcd)
  apply hb
  apply wpAny_newFunctionEnv_cells S.kind slots
  intro env he s1 fresh
  subst he
  refine ⟨nl.keeps fresh.toInCall.keep, codeAny_func ?_⟩
  obtain ⟨t, ht, ht2⟩ := body cdv outer s H vs Q (hr.deeper _) hsp
  have inv := inv_start (CX := CX0) (E := E0) S hr.hd e0 hl rv fresh
  refine wpAny_mono (ht.nox.run [] s1 (start N vs) H _ inv ht2) ?_ fun _ _ z => z
  intro fl s' out
  cases fl with
  | ret u =>
    obtain ⟨v, _, H', J, r1, r2⟩ := out
    exact ⟨v, H', J.os, J.bare, J.base, J.hok, r1, r2⟩
  | next =>
    obtain ⟨_, H', J, r2⟩ := out
    exact ⟨.non, H', J.os, J.bare, J.base, J.hok, rfl, r2⟩
  | brk => exact out.choose_spec.choose_spec.2.elim
  | cont => exact out.choose_spec.choose_spec.2.elim
/-- the script alone -/
def Lone (a : Addr) (o : Obj) (xs : List V) : Hp := fun b => if b = a then some (.frz o (.lst xs)) else none
def Bare : Hp := fun _ => none
theorem lone_at {a : Addr} {o : Obj} {xs : List V} : Lone a o xs a = some (.frz o (.lst xs)) := if_pos rfl
theorem lone_off {a b : Addr} {o : Obj} {xs : List V} (h : b ≠ a) : Lone a o xs b = none := if_neg h
section
variable {P : Program} {w : World} {K : PySem.W.Frag} {mg mb : Str → Option Value} {fa a : Addr} {fd : FuncData} {x : Str} {sp : Sp} {s : Shared} {vs : List Value} {ns : List Int}
/-- entered over an abstract heap that tracks the script at most -/
theorem entered {H : Hp} (KX : K.In s.heap) (hns : s.heap.Ns mainGlobals mg) (hb : s.heap.Ns builtinsNs mb) (hbb : ∀ x : Str, x ≠ "__name__" → mb x = bootBuiltins x) (hlim : s.heap.NoLimit) (hg : s.gens = #[])
    (ha : s.heap.get? a = some { cls := .type "list", data := .seq vs.toArray }) (F : ∀ base : Heap, K.In base → base.Ns mainGlobals mg → Enters callerA P w K mg base fa fd [x] sp) (bind : ∀ (s : Shared) (u : Value), BindsTo s fd ⟨[u], []⟩ [(x, u)])
    (hq : sp [.ref a] H (fun v _ => v = .bl true) E0) (hok : HOk P w H s.heap) (only : ∀ b, b ≠ a → H b = none) (free : H a ≠ none → K.lookup a = none) (frz : ∀ u, H a = some u → ∃ o xs, u = .frz o (.lst xs)) :
    codeAny (model P w) callerA (.call (.ref fa) ⟨[.ref a], []⟩) (fun r s' => r = .ok (.ret (.bool true)) ∧ OldK s.heap s'.heap ∧ s'.os = s.os ∧ AllBare s'.gens) s := by
  have plain : ∀ {b : Addr} {o : Obj} {es : Array DictEntry} {ep : Nat}, s.heap.get? b = some o → o.data = .dict es ep → H b = none := by
    intro b o es ep e d
    by_cases h : b = a
    · subst h
      rw [ha] at e
      cases e
      cases (show Data.seq vs.toArray _ = Data.dict es ep from d)
    · exact only b h
  have names : ∀ {b : Addr} {m : Str → Option Value}, s.heap.Ns b m → (hidT s.heap H).Ns b m := by
    rintro b m ⟨o, es, ep, e, d, r⟩
    exact ⟨o, es, ep, hidT_get e (plain e d), d, r⟩
  have kin : K.In (hidT s.heap H) := by
    intro b o e
    refine hidT_get (KX b o e) ?_
    by_cases h : b = a
    · subst h
      cases q : H b with
      | none => rfl
      | some u =>
        have := free (by rw [q]; simp)
        rw [this] at e
        cases e
    · exact only b h
  have modl : Mod K mg (hidT s.heap H) := by
    obtain ⟨mc, l1, l2⟩ := hlim
    exact ⟨kin, names hns, ⟨mb, names hb, hbb⟩, ⟨mc, names l1, l2⟩⟩
  have e0 : Env0 P w K mg (hidT s.heap H) callerA [] s H :=
    { frames := rfl, mod := modl, bs := fun b o e => of_hidT e, bsz := Nat.le_of_eq (hidT_size _ _), funs := trivial, frf := fun b h => absurd (show b ∈ ([] : List Addr) from h) List.not_mem_nil, hok := hok, bare := .of_eq hg }
  refine codeAny_mono (F _ kin (names hns) [] s H ⟨[.ref a], []⟩ [.ref a] [.ref a] _ e0 (bind s (.ref a)) (.cons rfl .nil) rfl hq) ?_
  intro r s' out
  match r, out with
  | .error _, out => exact out.elim
  | .ok .next, out => exact out.elim
  | .ok .brk, out => exact out.elim
  | .ok .cont, out => exact out.elim
  | .ok (.ret u), ⟨v, H', os, bare, un, hok', rv, hv⟩ =>
    have hv' : v = .bl true := hv
    subst hv'
    have hu : u = Value.bool true := rv
    refine ⟨by rw [hu], OldK.of_keep fun b o e => ?_, os, bare⟩
    cases q : H b with
    | none => exact un.keep b o e q (fun z => absurd (show b ∈ ([] : List Addr) from z) List.not_mem_nil) (by simp)
    | some u =>
      have hba : b = a := by
        by_cases h : b = a
        · exact h
        · rw [only b h] at q; cases q
      subst hba
      obtain ⟨ob, xs, rfl⟩ := frz u q
      have q2 := un.frzs b ob _ q
      obtain ⟨f1, _⟩ := hok b _ q
      obtain ⟨f2, _⟩ := hok' b _ q2
      rw [e] at f1
      cases f1
      exact f2
theorem law_enter (KX : K.In s.heap) (hns : s.heap.Ns mainGlobals mg) (hb : s.heap.Ns builtinsNs mb) (hbb : ∀ x : Str, x ≠ "__name__" → mb x = bootBuiltins x) (hlim : s.heap.NoLimit) (hg : s.gens = #[])
    (ha : s.heap.get? a = some { cls := .type "list", data := .seq vs.toArray }) (hi : IntsAre vs ns) (hl : ns.length ≤ sizeLine)
    (F : ∀ base : Heap, K.In base → base.Ns mainGlobals mg → Enters callerA P w K mg base fa fd [x] sp) (bind : ∀ (s : Shared) (u : Value), BindsTo s fd ⟨[u], []⟩ [(x, u)])
    (hq : ∀ H : Hp, SqL K H a (ns.map V.int) → sp [.ref a] H (fun v _ => v = .bl true) E0) :
    codeAny (model P w) callerA (.call (.ref fa) ⟨[.ref a], []⟩) (fun r s' => r = .ok (.ret (.bool true)) ∧ OldK s.heap s'.heap ∧ s'.os = s.os ∧ AllBare s'.gens) s := by
  have rv := vals_ints hi
  cases hk : K.lookup a with
  | some o =>
    have e := KX a o hk
    rw [ha] at e
    cases e
    refine entered (H := Bare) KX hns hb hbb hlim hg ha F bind (hq _ (.inr ⟨_, vs.toArray, _, hk, rfl, rfl, rfl, ?_, by simpa using rv⟩)) (fun b u e => nomatch e) (fun _ _ => rfl) (fun h => absurd rfl h) fun u e => nomatch e
    rw [List.size_toArray, hi.length]
    exact hl
  | none =>
    refine entered (H := Lone a { cls := .type "list", data := .seq vs.toArray } (ns.map V.int)) KX hns hb hbb hlim hg ha F bind (hq _ (.inl (.inr ⟨_, lone_at⟩))) (fun b u e => ?_) (fun b h => lone_off h) (fun _ => hk) fun u e => ?_
    · by_cases h : b = a
      · subst h
        rw [lone_at] at e
        cases e
        exact ⟨ha, by rw [List.length_map]; exact hl, vs, _, rv, ha⟩
      · rw [lone_off h] at e
        cases e
    · rw [lone_at] at e
      cases e
      exact ⟨_, _, rfl⟩
end
/-- the head of a law whose def is entered so -/
theorem walk_enter {l : PySem.W.OpenLaw} {n : Nat} {q : Program} {loose : List Str} {XP : (Str → Option Value) → Heap → Prop} {YP : World → Heap → Prop} {d : DefRec} {K : Params → PySem.W.Frag} {sp : World → Sp} {x : Str}
    (hn : l.most = some n) (hn2 : n ≤ sizeLine) (hdf : d.params.defaults = []) (hY : ∀ (w : World) (h : Heap), YP w h → (K w.params).In h)
    (F : ∀ (w : World) (mg : Str → Option Value) (fa : Addr) (h : Heap), (K w.params).In h → h.Ns mainGlobals mg → mg d.name = some (.ref fa) →
      ∃ fd : FuncData, (∀ (s : Shared) (u : Value), BindsTo s fd ⟨[u], []⟩ [(x, u)]) ∧ ∀ base : Heap, (K w.params).In base → base.Ns mainGlobals mg → Enters callerA l.prog w (K w.params) mg base fa fd [x] (sp w))
    (hsp : ∀ (w : World) (H : Hp) (a : Addr) (ns : List Int), ns.length ≤ n → SqL (K w.params) H a (ns.map V.int) → sp w [.ref a] H (fun v _ => v = .bl true) E0) :
    PySem.W.WalkO q loose XP YP l.row.toRowW d [] (fun f vs => PySem.call f vs) := by
  refine Att.attach_call hn hdf fun w s₀ s₁ mg mb fa o pm cd doc a vs ns G Y ho hd hcd hmg hobj hints hlen hg => ?_
  obtain ⟨fd, hb, hF⟩ := F w mg fa _ (hY w _ Y) G.T.g hmg
  exact law_enter (hY w _ Y) G.T.g G.T.b G.T.builtins G.T.nolimit hg hobj hints (Nat.le_trans hlen hn2) hF hb fun H hS => hsp w H a ns hlen hS
end Ty
set_option maxHeartbeats 2000000
/-! sets of whole numbers: {e for a in xs for b in ys} (the library's walk of the list's two clauses, turned to a set), set(a list) -/
namespace Se
open PySem PySem.Spec PyProof.Rows L2
section
variable {X : Cx}
/-- set.add of a number -/
theorem addI_ok {pins : List (Addr × Obj)} {σ : L2.St} {H : Hp} {s : Shared} {E : Value → Shared → Prop} {D : Addr} {S : Int → Bool} {n : Nat} {y : Int} {tk : Tok} {Q : Value → Shared → Prop} (I : Inv X pins σ H s) (hD : H D = some (SetO X.w D S n)) (room : n + 1 < scanBound)
    (h : ∀ s', Inv X pins σ (upd H D (SetO X.w D (fun j => S j || decide (j = y)) (if S y = true then n else n + 1))) s' → Q .none s') : wpAny (model X.prog X.w) X.A (call (.builtin "set.add") [.ref D, .int y tk]) Q E s := by
  refine setR_add (setO_get I hD) room fun g sb new => ?_
  have at_ : ∃ u, g.get? D = some u := by
    have ⟨o, _, _, _, ho, _⟩ := new
    exact ⟨o, ho⟩
  exact h _ (I.write (e := D) (t' := s.toks + 1) (by rw [hD]; trivial) (.inl rfl) (fun b u hb hu => (sb.2 b hb).trans hu) at_ (setO_new new))
end
theorem setTurn_out (elt t0 i0 t1 i1 : Expr) (ifs0 ifs1 : List Expr) (scope : Scope) (pos : Pos) (it acc : Value) (env : Env) :
    compTurn (.SetComp elt [⟨t0, i0, ifs0, 0⟩, ⟨t1, i1, ifs1, 0⟩] scope pos) 0 it acc env = (do
      standAt i0.pos
      match ← pyNext it with
      | none => pure (.done .next)
      | some v =>
        letOwnedTupleGo t0 it v
        assign t0 env v
        let mut ok := true
        for c in ifs0 do
          if ok then ok ← isTrue c env (eval c env)
        if ok then
          let x ← eval i1 env
          standAt i1.pos
          let x ← foldedSetIterable i1 env x
          let _ ← runOwn (.compStart (.SetComp elt [⟨t0, i0, ifs0, 0⟩, ⟨t1, i1, ifs1, 0⟩] scope pos) 1 (← holding [x] (pyIter x)) acc env) env
        again (.compLoop (.SetComp elt [⟨t0, i0, ifs0, 0⟩, ⟨t1, i1, ifs1, 0⟩] scope pos) 0 it acc env)) := by rfl
theorem setTurn_in (elt t0 i0 t1 i1 : Expr) (ifs0 ifs1 : List Expr) (scope : Scope) (pos : Pos) (it acc : Value) (env : Env) :
    compTurn (.SetComp elt [⟨t0, i0, ifs0, 0⟩, ⟨t1, i1, ifs1, 0⟩] scope pos) 1 it acc env = (do
      standAt i1.pos
      match ← pyNext it with
      | none => pure (.done .next)
      | some v =>
        letOwnedTupleGo t1 it v
        assign t1 env v
        let mut ok := true
        for c in ifs1 do
          if ok then ok ← isTrue c env (eval c env)
        if ok then
          (do let v ← eval elt env; standAt elt.pos; let _ ← call (.builtin "set.add") [acc, v])
        again (.compLoop (.SetComp elt [⟨t0, i0, ifs0, 0⟩, ⟨t1, i1, ifs1, 0⟩] scope pos) 1 it acc env)) := by rfl
section
variable {prog : Program} {w : World} {A : Around} {R : Result → Shared → Prop} {s : Shared} {elt t0 i0 t1 i1 : Expr} {ifs0 ifs1 : List Expr} {scope : Scope} {pos : Pos} {it acc : Value} {env : Env}
/-- the loop of the first clause -/
theorem setLoop_out (hs : ∀ x, foldedSetIterable i1 env x = pure x) (I : Nat → Shared → Prop)
    (turn : ∀ n s, I n s → wpAny (model prog w) A (pyNext it) (fun r s₁ => match r with
      | none => R (.ok .next) s₁
      | some v => wpAny (model prog w) A (letOwnedTupleGo t0 it v) (fun _ s₁' => wpAny (model prog w) A (assign t0 env v) (fun _ s₂ =>
          wpAny (model prog w) A (forIn ifs0 true fun c r => if r = true then do let ok ← isTrue c env (eval c env); pure (ForInStep.yield ok) else pure (ForInStep.yield r)) (fun ok s₃ =>
            if ok = true then wpAny (model prog w) A (eval i1 env) (fun x s₄ => wpAny (model prog w) A (pyIter x) (fun it1 s₅ =>
              codeAny (model prog w) A (.compStart (.SetComp elt [⟨t0, i0, ifs0, 0⟩, ⟨t1, i1, ifs1, 0⟩] scope pos) 1 it1 acc env) (fun r s' => match r with
                | .ok _ => ∃ m, m < n ∧ I m s'
                | .error _ => False) s₅) (notedBy (model prog w) A env fun e s' => R (.error e) s') s₄) (notedBy (model prog w) A env fun e s' => R (.error e) s') s₃
            else ∃ m, m < n ∧ I m s₃) (notedBy (model prog w) A env fun e s' => R (.error e) s') s₂) (notedBy (model prog w) A env fun e s' => R (.error e) s') s₁') (notedBy (model prog w) A env fun e s' => R (.error e) s') s₁) (notedBy (model prog w) A env fun e s' => R (.error e) s') s)
    (n : Nat) (h : I n s) :
    codeAny (model prog w) A (.compLoop (.SetComp elt [⟨t0, i0, ifs0, 0⟩, ⟨t1, i1, ifs1, 0⟩] scope pos) 0 it acc env) R s := by
  refine codeAny_loop rfl I (fun n s hI => ?_) n h
  show wpAny _ A ((compTurn (.SetComp elt [⟨t0, i0, ifs0, 0⟩, ⟨t1, i1, ifs1, 0⟩] scope pos) 0 it acc env).onRaise (fun x => do noteFrame x env; theTreesLotGoes x)) _ _ s
  refine wpAny_noted ?_
  rw [setTurn_out]
  refine wpAny_bind (wpAny_standAt (wpAny_bind (wpAny_mono (turn n s hI) (fun r s₁ h₁ => ?_) fun _ _ h' => h')))
  cases r with
  | none => exact wpAny_pure h₁
  | some v =>
    refine wpAny_bind (wpAny_mono h₁ (fun _ s₁' h₁' => ?_) fun _ _ h' => h')
    refine wpAny_bind (wpAny_mono h₁' (fun _ s₂ h₂ => wpAny_bind (wpAny_mono h₂ (fun ok s₃ h₃ => ?_) fun _ _ h' => h')) fun _ _ h' => h')
    cases ok with
    | false => exact wpAny_pure ⟨rfl, h₃⟩
    | true =>
      refine wpAny_bind (wpAny_mono h₃ (fun x s₄ h₄ => ?_) fun _ _ h' => h')
      refine wpAny_bind (wpAny_standAt (wpAny_bind (wpAny_of_eq (hs x) (wpAny_bind (wpAny_holding (wpAny_mono h₄ (fun it1 s₅ h₅ => ?_) fun _ _ h' => h'))))))
      refine wpAny_bind (wpAny_runOwn ?_)
      rw [Around.mark_none]
      refine codeAny_mono h₅ fun r s' hr => ?_
      cases r with
      | ok f =>
        first
          | exact wpAny_pure ⟨rfl, hr⟩
          | exact wpAny_bind (wpAny_pure (wpAny_pure ⟨rfl, hr⟩))
      | error e => exact hr.elim
/-- the loop of the second -/
theorem setLoop_in (I : Nat → Shared → Prop)
    (turn : ∀ n s, I n s → wpAny (model prog w) A (pyNext it) (fun r s₁ => match r with
      | none => R (.ok .next) s₁
      | some v => wpAny (model prog w) A (letOwnedTupleGo t1 it v) (fun _ s₁' => wpAny (model prog w) A (assign t1 env v) (fun _ s₂ =>
          wpAny (model prog w) A (forIn ifs1 true fun c r => if r = true then do let ok ← isTrue c env (eval c env); pure (ForInStep.yield ok) else pure (ForInStep.yield r)) (fun ok s₃ =>
            if ok = true then wpAny (model prog w) A (eval elt env) (fun x s₄ =>
              wpAny (model prog w) A (call (.builtin "set.add") [acc, x]) (fun _ s₅ => ∃ m, m < n ∧ I m s₅) (notedBy (model prog w) A env fun e s' => R (.error e) s') s₄) (notedBy (model prog w) A env fun e s' => R (.error e) s') s₃
            else ∃ m, m < n ∧ I m s₃) (notedBy (model prog w) A env fun e s' => R (.error e) s') s₂) (notedBy (model prog w) A env fun e s' => R (.error e) s') s₁') (notedBy (model prog w) A env fun e s' => R (.error e) s') s₁) (notedBy (model prog w) A env fun e s' => R (.error e) s') s)
    (n : Nat) (h : I n s) :
    codeAny (model prog w) A (.compLoop (.SetComp elt [⟨t0, i0, ifs0, 0⟩, ⟨t1, i1, ifs1, 0⟩] scope pos) 1 it acc env) R s := by
  refine codeAny_loop rfl I (fun n s hI => ?_) n h
  show wpAny _ A ((compTurn (.SetComp elt [⟨t0, i0, ifs0, 0⟩, ⟨t1, i1, ifs1, 0⟩] scope pos) 1 it acc env).onRaise (fun x => do noteFrame x env; theTreesLotGoes x)) _ _ s
  refine wpAny_noted ?_
  rw [setTurn_in]
  refine wpAny_bind (wpAny_standAt (wpAny_bind (wpAny_mono (turn n s hI) (fun r s₁ h₁ => ?_) fun _ _ h' => h')))
  cases r with
  | none => exact wpAny_pure h₁
  | some v =>
    refine wpAny_bind (wpAny_mono h₁ (fun _ s₁' h₁' => ?_) fun _ _ h' => h')
    refine wpAny_bind (wpAny_mono h₁' (fun _ s₂ h₂ => wpAny_bind (wpAny_mono h₂ (fun ok s₃ h₃ => ?_) fun _ _ h' => h')) fun _ _ h' => h')
    cases ok with
    | false => exact wpAny_pure ⟨rfl, h₃⟩
    | true =>
      exact wpAny_bind (wpAny_bind (wpAny_mono h₃ (fun x s₄ h₄ => wpAny_bind (wpAny_standAt (wpAny_bind (wpAny_mono h₄ (fun _ s₅ h₅ => wpAny_pure (wpAny_pure ⟨rfl, h₅⟩)) fun _ _ h' => h')))) fun _ _ h' => h'))
/-- the second clause's start -/
theorem setStart_in (h0 : codeAny (model prog w) A (.compLoop (.SetComp elt [⟨t0, i0, ifs0, 0⟩, ⟨t1, i1, ifs1, 0⟩] scope pos) 1 it acc env) R s)
    (h : wpAny (model prog w) A (pyIter it) (fun it' s' => codeAny (model prog w) A (.compLoop (.SetComp elt [⟨t0, i0, ifs0, 0⟩, ⟨t1, i1, ifs1, 0⟩] scope pos) 1 it' acc env) R s')
      (notedBy (model prog w) A env fun x s' => R (.error x) s') s) :
    codeAny (model prog w) A (.compStart (.SetComp elt [⟨t0, i0, ifs0, 0⟩, ⟨t1, i1, ifs1, 0⟩] scope pos) 1 it acc env) R s := by
  refine codeAny_of_tree ?_
  show wpAny _ _ ((compStart (.SetComp elt [⟨t0, i0, ifs0, 0⟩, ⟨t1, i1, ifs1, 0⟩] scope pos) 1 it acc env).onRaise (fun x => do noteFrame x env; standAt theWindowsPlace)) _ _ s
  refine wpAny_notedAt ?_
  unfold compStart
  show wpAny _ _ (ask >>= _) _ _ s
  refine wpAny_bind (wpAny_askSetting (wpAny_ite ?_))
  split
  · first
      | exact wpAny_bind (wpAny_pure (wpAny_pure (And.intro rfl h0)))
      | exact wpAny_pure (And.intro rfl h0)
  · first
      | exact wpAny_bind (wpAny_rule (wpAny_bind (wpAny_standAt (wpAny_bind (wpAny_mono h (fun it' s' h' => wpAny_pure (And.intro rfl h')) fun _ _ x => x)))))
      | (refine wpAny_bind (wpAny_rule ?_); show wpAny _ _ (standAt i1.pos >>= _) _ _ s; exact wpAny_bind (wpAny_standAt (wpAny_bind (wpAny_mono h (fun it' s' h' => wpAny_pure (And.intro rfl h')) fun _ _ x => x))))
end
section
variable {X : Cx}
/-- {elt for tg in iter if .. for tg1 in iter1 if ..}, elt a whole number; as tLc2, the new thing at D a set -/
def tSc2 (X : Cx) (wi : TI) (g : TG) (tt : TT) (wi1 : TI) (g1 : TG) (tt1 : TT) (te : TE) (vs vs1 : List Nat) : TE := fun σ H Q => wi σ H fun J H1 => ∀ D, H1 D = none → ∃ W : Nat → Nat → Hp → Prop, (∃ m, W 0 m (upd H1 D (SetO X.w D (fun _ => false) 0))) ∧ ∀ i m H, W i m H →
  (J.stop i H ∧ Q (.ref D) H) ∨ (J.go i H ∧ ∃ Nx : Hp → Prop, (∀ H', Nx H' → ∃ m', m' < m ∧ W (i + 1) m' H') ∧ ∀ x H', J.yld i H x H' → g x (wipe σ vs) H' fun σ2 H2 => wipe σ2 vs = wipe σ vs ∧ tt σ2 H2 fun b H3 =>
    if b = true then wi1 σ2 H3 fun J1 H4 => ∃ W1 : Nat → Nat → Hp → Prop, (∃ m, W1 0 m H4) ∧ ∀ j k H, W1 j k H →
      (J1.stop j H ∧ Nx H) ∨ (J1.go j H ∧ ∃ Nx1 : Hp → Prop, (∀ H', Nx1 H' → ∃ k', k' < k ∧ W1 (j + 1) k' H') ∧ ∀ x H', J1.yld j H x H' → g1 x (wipe σ2 vs1) H' fun σ3 H5 => wipe σ3 vs1 = wipe σ2 vs1 ∧ tt1 σ3 H5 fun b H6 =>
        if b = true then te σ3 H6 fun y H7 => ∃ (c : Int) (S : Int → Bool) (n : Nat), y = .int c ∧ H7 D = some (SetO X.w D S n) ∧ n + 1 < scanBound ∧ Nx1 (upd H7 D (SetO X.w D (fun j => S j || decide (j = c)) (if S c = true then n else n + 1))) else Nx1 H6)
    else Nx H3)
theorem sc2_core {pins : List (Addr × Obj)} {s : Shared} {σ : L2.St} {H : Hp} {Q : VK} {elt tg iter tg1 iter1 : Expr} {ifs ifs1 : List Expr} {scope : Scope} {own : List (Str × Nat)} {vs1 : List Nat} {pos pos' : Pos} {wi wi1 : TI} {g g1 : TG} {tt tt1 : TT} {te : TE} {use : Option (Value → Sem Unit)} {Qf : Value → Shared → Prop}
    (hc : X.calm = true) (hN : X.N.Nodup) (I : Inv X pins σ H s) (hi : PI X tg iter wi) (ok : BlkOk X.N X.env.scope scope own) (hv : ∀ i ∈ vs1, i ∈ own.map (·.2))
    (hg : ∀ (s : Shared) (H : Hp) (C : Addr) (cl : List (Str × Addr)) (fp : List Addr), PG (X.blk s H scope (compEnvC scope cl C X.env) fp) tg g) (ht : ∀ (s : Shared) (H : Hp) (C : Addr) (cl : List (Str × Addr)) (fp : List Addr), PTs (X.blk s H scope (compEnvC scope cl C X.env) fp) ifs tt)
    (he : ∀ (s : Shared) (H : Hp) (C : Addr) (cl : List (Str × Addr)) (fp : List Addr), PE (X.blk s H scope (compEnvC scope cl C X.env) fp) elt te) (hs : ∀ x, foldedSetIterable iter X.env x = pure x)
    (hi1 : ∀ (s : Shared) (H : Hp) (C : Addr) (cl : List (Str × Addr)) (fp : List Addr), PI (X.blk s H scope (compEnvC scope cl C X.env) fp) tg1 iter1 wi1)
    (hg1 : ∀ (s : Shared) (H : Hp) (C : Addr) (cl : List (Str × Addr)) (fp : List Addr), PG (X.blk s H scope (compEnvC scope cl C X.env) fp) tg1 g1)
    (ht1 : ∀ (s : Shared) (H : Hp) (C : Addr) (cl : List (Str × Addr)) (fp : List Addr), PTs (X.blk s H scope (compEnvC scope cl C X.env) fp) ifs1 tt1)
    (hs1 : ∀ env x, foldedSetIterable iter1 env x = pure x)
    (h : tSc2 X wi g tt wi1 g1 tt1 te (own.map (·.2)) vs1 σ H Q)
    (hRR : ∀ D C s' m H', Inv X pins σ H' s' → Q (.ref D) H' → s'.heap.Ns C m → FpOk X pins H' C → compPost (model X.prog X.w) X.A X.xe use Qf (.ref D) C (.ok .next) s') :
    wpAny (model X.prog X.w) X.A (comprehension (.SetComp elt [⟨tg, iter, ifs, 0⟩, ⟨tg1, iter1, ifs1, 0⟩] scope pos) scope X.env pos' (newSet (.type "set")) false (eval iter X.env) use) Qf X.xe s := by
  have hfree : ∀ y ∈ scope.names, y.2 = .free → ∃ c, X.env.cells.lookup y.1 = some c := fun y hy e => by
    rcases ok.free y hy e with k | k
    · exact I.ok.has _ (.inl k)
    · exact I.ok.has _ (.inr k)
  refine wpAny_comprehension_free (use := use) rfl hs (closure_ok hfree) ok.kind (fun y hy e => by rw [ok.uniq y hy, e])
    (thn (hi.run pins s σ H _ I h) fun xv s1 hx => thn hx fun itv s2 h2 => ?_)
  obtain ⟨it, fp, tn, J, H2, e, I2, T, st2, f2, q⟩ := h2
  subst e
  refine PpSet.newSet_ok (newEnv_comp ?_)
  generalize hD : s2.heap.objs.size = D
  have hDn : H2 D = none := I2.hok.fresh (Nat.le_of_eq hD)
  obtain ⟨W, ⟨m0, w0⟩, turn⟩ := q D hDn
  -- the new list
  generalize hs3 : ({ s2 with heap := s2.heap.push { cls := .type "set", dict := none, data := .set #[] 0 (.fresh 0 0 (!X.w.params.followText "set-order")) } } : Shared) = s3
  have I3 : Inv X pins σ (upd H2 D (SetO X.w D (fun _ => false) 0)) s3 := by
    rw [← hs3]
    refine I2.laid (t' := s2.toks) (fun b o e => Heap.get?_push_of_some _ e) (Nat.le_of_eq hD) ?_
    rw [← hD]
    exact setO_new (setR_fresh X.w)
  have h3 : s3.heap = s2.heap.push { cls := .type "set", dict := none, data := .set #[] 0 (.fresh 0 0 (!X.w.params.followText "set-order")) } := by rw [← hs3]
  have sz : ∀ b ∈ fp, b < s2.heap.objs.size := fun b hb => by
    obtain ⟨o, e, _⟩ := T.obj _ _ st2 b hb
    exact Heap.lt_size e
  have f3 : ∀ b ∈ fp, FpOk X pins (upd H2 D (SetO X.w D (fun _ => false) 0)) b ∧ b < s3.heap.objs.size := fun b hb => by
    have hlt := sz b hb
    refine ⟨⟨?_, (f2 b hb).2⟩, by rw [h3, Heap.size_push]; exact Nat.lt_succ_of_lt hlt⟩
    rw [upd_ne (by rw [← hD]; exact Nat.ne_of_lt hlt)]
    exact (f2 b hb).1
  have st3 : tn 0 s3.heap := T.keep _ _ _ st2 fun b _ o e => by rw [h3]; exact Heap.get?_push_of_some _ e
  have I4 := block_start I3 ok hN f3
  have pg := hg s3 (upd H2 D (SetO X.w D (fun _ => false) 0)) s3.heap.objs.size (cellsFrom (s3.heap.objs.size + 1) scope.names (cloFrom X.env.cells scope.names [])) fp
  have pt := ht s3 (upd H2 D (SetO X.w D (fun _ => false) 0)) s3.heap.objs.size (cellsFrom (s3.heap.objs.size + 1) scope.names (cloFrom X.env.cells scope.names [])) fp
  have pe := he s3 (upd H2 D (SetO X.w D (fun _ => false) 0)) s3.heap.objs.size (cellsFrom (s3.heap.objs.size + 1) scope.names (cloFrom X.env.cells scope.names [])) fp
  have pi1 := hi1 s3 (upd H2 D (SetO X.w D (fun _ => false) 0)) s3.heap.objs.size (cellsFrom (s3.heap.objs.size + 1) scope.names (cloFrom X.env.cells scope.names [])) fp
  have pg1 := hg1 s3 (upd H2 D (SetO X.w D (fun _ => false) 0)) s3.heap.objs.size (cellsFrom (s3.heap.objs.size + 1) scope.names (cloFrom X.env.cells scope.names [])) fp
  have pt1 := ht1 s3 (upd H2 D (SetO X.w D (fun _ => false) 0)) s3.heap.objs.size (cellsFrom (s3.heap.objs.size + 1) scope.names (cloFrom X.env.cells scope.names [])) fp
  show codeAny _ _ (.compStart (.SetComp elt [⟨tg, iter, ifs, 0⟩, ⟨tg1, iter1, ifs1, 0⟩] scope pos) 0 (.ref it) (.ref D) (compEnvC scope (cellsFrom (s3.heap.objs.size + 1) scope.names (cloFrom X.env.cells scope.names [])) s3.heap.objs.size X.env)) (compPost (model X.prog X.w) X.A X.xe use Qf (.ref D) s3.heap.objs.size) { s3 with heap := pushCells (s3.heap.push { cls := .type "dict", data := .dict #[] }) scope.names }
  have nfp : ∀ b ∈ fp, (upd H2 D (SetO X.w D (fun _ => false) 0)) b = none := fun b hb => (f3 b hb).1.1
  generalize hce : compEnvC scope (cellsFrom (s3.heap.objs.size + 1) scope.names (cloFrom X.env.cells scope.names [])) s3.heap.objs.size X.env = ce at I4 pg pt pe pi1 pg1 pt1 ⊢
  have cL : ce.locals = s3.heap.objs.size := by subst hce; rfl
  generalize hH3 : upd H2 D (SetO X.w D (fun _ => false) 0) = H3 at I3 I4 pg pt pe pi1 pg1 pt1 w0 nfp f3
  generalize hs4 : ({ s3 with heap := pushCells (s3.heap.push { cls := .type "dict", data := .dict #[] }) scope.names } : Shared) = s4 at I4 ⊢
  have st4 : tn 0 s4.heap := T.keep _ _ _ st3 fun b _ o e => by rw [← hs4]; exact pushCells_keeps _ _ _ _ (Heap.get?_push_of_some _ e)
  have stat : ∀ {σ' : L2.St} {H' : Hp} {s' : Shared}, Inv (X.blk s3 H3 scope ce fp) [] σ' H' s' → (∀ b ∈ fp, H' b = none) → ∀ b ∈ fp, FpOk (X.blk s3 H3 scope ce fp) [] H' b := fun {σ' H' s'} I' hn b hb =>
    ⟨hn b hb, (I'.ok.exf b hb).1, I'.ok.exfs b hb, .inl hb, fun x c e => (I'.ok.exf b hb).2 x c e, fun p hp => absurd (show p ∈ ([] : List (Addr × Obj)) ++ [] from hp) (by simp)⟩
  have loop : codeAny (model X.prog X.w) X.A (.compLoop (.SetComp elt [⟨tg, iter, ifs, 0⟩, ⟨tg1, iter1, ifs1, 0⟩] scope pos) 0 (.ref it) (.ref D) ce) (compPost (model X.prog X.w) X.A X.xe use Qf (.ref D) s3.heap.objs.size) s4 := by
    refine setLoop_out (hs1 ce) (fun n s' => ∃ i H', Inv (X.blk s3 H3 scope ce fp) [] (wipe σ (own.map (·.2))) H' s' ∧ tn i s'.heap ∧ (∀ b ∈ fp, H' b = none) ∧ W i n H') ?_ m0 ⟨0, H3, I4, st4, nfp, w0⟩
    rintro n s5 ⟨i, H5, I5, st5, n5, w5⟩
    rcases turn i n H5 w5 with ⟨stop, qq⟩ | ⟨go, Nx, hNx, step⟩
    · have td := T.done (X.blk s3 H3 scope ce fp) rfl rfl rfl hc i [] s5 _ H5 (fun _ _ => False) I5 (stat I5 n5) st5 stop
      refine thnF td fun r s6 ⟨hr, I6⟩ => ?_
      subst hr
      -- back in the def's context
      have I7 : Inv X pins σ H5 s6 := I3.call' (ch := fp) I6.os I6.base I6.hok I6.bare fun b hb => ⟨(f3 b hb).1.2.2.2.1, (f3 b hb).1.2.1, (f3 b hb).1.2.2.2.2.1, (f3 b hb).1.2.2.2.2.2⟩
      have nC : H5 s3.heap.objs.size = none := by
        have z : H5 ce.locals = none := I6.free
        rw [cL] at z
        exact z
      obtain ⟨m, hn, _⟩ := I6.loc
      have hn : s6.heap.Ns ce.locals m := hn
      rw [cL] at hn
      exact hRR D s3.heap.objs.size s6 m H5 I7 qq hn (I3.fpOk (Nat.le_refl _) nC)
    · have ti := T.item (X.blk s3 H3 scope ce fp) rfl rfl rfl hc i [] s5 _ H5 (fun _ _ => False) I5 (stat I5 n5) st5 go
      refine thnF ti fun r s6 ⟨u, hr, h6⟩ => ?_
      subst hr
      refine thnF h6 fun _ s7 ⟨x, H7, I7, r7, y7, st7, n7⟩ => ?_
      have I7' := I7.pinned (stat I7 n7) (T.obj _ _ st7)
      refine thnF (pg.run _ s7 _ H7 x u _ I7' r7 (step x H7 y7)) fun _ s8 ⟨σ8, H8, I8, hw8, q8⟩ => ?_
      refine thnF (pt.run _ s8 σ8 H8 _ I8 q8) fun b s9 ⟨H9, I9, q9⟩ => ?_
      -- the turn's end, from any slots that know what the block knew at its start
      have fin : ∀ {σ9 : L2.St} {s' : Shared} {H' : Hp}, Inv (X.blk s3 H3 scope ce fp) ([] ++ pinsAt fp s7.heap) σ9 H' s' → (wipe σ (own.map (·.2))).length = σ9.length → (∀ (j : Nat) v, (wipe σ (own.map (·.2)))[j]? = some (some v) → σ9[j]? = some (some v)) → Nx H' →
          ∃ m, m < n ∧ ∃ i H', Inv (X.blk s3 H3 scope ce fp) [] (wipe σ (own.map (·.2))) H' s' ∧ tn i s'.heap ∧ (∀ b ∈ fp, H' b = none) ∧ W i m H' := fun {σ9 s' H'} I' hl hk nx => by
        obtain ⟨m', hm, w'⟩ := hNx H' nx
        have pin' : ∀ b ∈ fp, ∀ o, s7.heap.get? b = some o → s'.heap.get? b = some o ∧ H' b = none := fun b hb o e =>
          let z := I'.pin (b, o) (List.mem_append_right _ (List.mem_append_right _ (mem_pinsAt hb e)))
          ⟨z.1, z.2.1⟩
        refine ⟨m', hm, i + 1, H', (I'.unpinned (pins := [])).weak hl hk, T.keep _ _ _ st7 fun b hb o e => (pin' b hb o e).1, fun b hb => ?_, w'⟩
        obtain ⟨o, e, _⟩ := T.obj _ _ st7 b hb
        exact (pin' b hb o e).2
      have hl8 : (wipe σ (own.map (·.2))).length = σ8.length := by rw [← hw8, wipe_length]
      have hk8 : ∀ (j : Nat) v, (wipe σ (own.map (·.2)))[j]? = some (some v) → σ8[j]? = some (some v) := fun j v e => by
        rw [← hw8] at e
        exact (wipe_some e).1
      have hk9 : ∀ (j : Nat) v, (wipe σ (own.map (·.2)))[j]? = some (some v) → (wipe σ8 vs1)[j]? = some (some v) := fun j v e => by
        rw [← hw8] at e
        obtain ⟨e1, e2⟩ := wipe_some e
        rw [wipe_out fun z => e2 (hv j z)]
        exact e1
      cases b with
      | false =>
        simp only [Bool.false_eq_true, if_false] at q9 ⊢
        exact fin I9 hl8 hk8 q9
      | true =>
        simp only [if_true] at q9 ⊢
        refine thnF (pi1.run _ s9 σ8 H9 _ I9 q9) fun xv s10 hx => thnF hx fun itv s11 h11 => ?_
        obtain ⟨it1, fp1, tn1, J1, H11, e1, I11, T1, st11, f11, W1, ⟨m1, w1⟩, turn1⟩ := h11
        subst e1
        -- the inner loop
        have stat1 : ∀ {H' : Hp}, (∀ b ∈ fp1, H' b = none) → ∀ b ∈ fp1, FpOk (X.blk s3 H3 scope ce fp) ([] ++ pinsAt fp s7.heap) H' b := fun hn b hb => ⟨hn b hb, (f11 b hb).2⟩
        have loop1 : codeAny (model X.prog X.w) X.A (.compLoop (.SetComp elt [⟨tg, iter, ifs, 0⟩, ⟨tg1, iter1, ifs1, 0⟩] scope pos) 1 (.ref it1) (.ref D) ce)
            (fun r s' => match r with
              | .ok _ => ∃ m, m < n ∧ ∃ i H', Inv (X.blk s3 H3 scope ce fp) [] (wipe σ (own.map (·.2))) H' s' ∧ tn i s'.heap ∧ (∀ b ∈ fp, H' b = none) ∧ W i m H'
              | .error _ => False) s11 := by
          refine setLoop_in (fun k s' => ∃ j H', Inv (X.blk s3 H3 scope ce fp) ([] ++ pinsAt fp s7.heap) (wipe σ8 vs1) H' s' ∧ tn1 j s'.heap ∧ (∀ b ∈ fp1, H' b = none) ∧ W1 j k H') ?_ m1 ⟨0, H11, I11.weak (wipe_length _ _) (fun j v e => (wipe_some e).1), st11, fun b hb => (f11 b hb).1, w1⟩
          rintro k s12 ⟨j, H12, I12, st12, n12, w12⟩
          rcases turn1 j k H12 w12 with ⟨stop1, nx1⟩ | ⟨go1, Nx1, hNx1, step1⟩
          · refine thnF (T1.done (X.blk s3 H3 scope ce fp) rfl rfl rfl hc j _ s12 (wipe σ8 vs1) H12 (fun _ _ => False) I12 (stat1 n12) st12 stop1) fun r s13 ⟨hr, I13⟩ => ?_
            subst hr
            exact fin I13 (hl8.trans (wipe_length σ8 vs1).symm) hk9 nx1
          · refine thnF (T1.item (X.blk s3 H3 scope ce fp) rfl rfl rfl hc j _ s12 (wipe σ8 vs1) H12 (fun _ _ => False) I12 (stat1 n12) st12 go1) fun r s13 ⟨u1, hr, h13⟩ => ?_
            subst hr
            refine thnF h13 fun _ s14 ⟨x1, H14, I14, r14, y14, st14, n14⟩ => ?_
            have I14' := I14.pinned (stat1 n14) (T1.obj _ _ st14)
            refine thnF (pg1.run _ s14 (wipe σ8 vs1) H14 x1 u1 _ I14' r14 (step1 x1 H14 y14)) fun _ s15 ⟨σ15, H15, I15, hw15, q15⟩ => ?_
            refine thnF (pt1.run _ s15 σ15 H15 _ I15 q15) fun b1 s16 ⟨H16, I16, q16⟩ => ?_
            have fin1 : ∀ {s' : Shared} {H' : Hp}, Inv (X.blk s3 H3 scope ce fp) (([] ++ pinsAt fp s7.heap) ++ pinsAt fp1 s14.heap) σ15 H' s' → Nx1 H' → ∃ m, m < k ∧ ∃ j H', Inv (X.blk s3 H3 scope ce fp) ([] ++ pinsAt fp s7.heap) (wipe σ8 vs1) H' s' ∧ tn1 j s'.heap ∧ (∀ b ∈ fp1, H' b = none) ∧ W1 j m H' := fun {s' H'} I' nx => by
              obtain ⟨m', hm, w'⟩ := hNx1 H' nx
              have pin' : ∀ b ∈ fp1, ∀ o, s14.heap.get? b = some o → s'.heap.get? b = some o ∧ H' b = none := fun b hb o e =>
                let z := I'.pin (b, o) (List.mem_append_right _ (List.mem_append_right _ (mem_pinsAt hb e)))
                ⟨z.1, z.2.1⟩
              refine ⟨m', hm, j + 1, H', I'.unpinned.weak (by rw [← hw15, wipe_length]) (fun j v e => by rw [← hw15] at e; exact (wipe_some e).1), T1.keep _ _ _ st14 fun b hb o e => (pin' b hb o e).1, fun b hb => ?_, w'⟩
              obtain ⟨o, e, _⟩ := T1.obj _ _ st14 b hb
              exact (pin' b hb o e).2
            cases b1 with
            | false =>
              simp only [Bool.false_eq_true, if_false] at q16 ⊢
              exact fin1 I16 q16
            | true =>
              simp only [if_true] at q16 ⊢
              refine thnF (pe.run _ s16 σ15 H16 _ I16 q16) fun z s17 ⟨yv, H17, I17, r17, c17, S17, n17, ey17, hD17, hz17, nx⟩ => ?_
              subst ey17
              obtain ⟨tk17, rfl⟩ := r17
              exact addI_ok (X := X.blk s3 H3 scope ce fp) I17 hD17 hz17 fun s18 I18 => fin1 I18 nx
        exact setStart_in loop1 (T1.self X.A 0 _ _ _ st11 loop1)
  exact PpSet.codeAny_compStart_set loop (T.self X.A 0 _ _ _ st4 loop)
/-- as a value -/
theorem pe_sc2 {elt tg iter tg1 iter1 : Expr} {ifs ifs1 : List Expr} {scope : Scope} {own : List (Str × Nat)} {vs1 : List Nat} {pos : Pos} {wi wi1 : TI} {g g1 : TG} {tt tt1 : TT} {te : TE} (hc : X.calm = true) (hN : X.N.Nodup) (hi : PI X tg iter wi) (ok : BlkOk X.N X.env.scope scope own) (hv : ∀ i ∈ vs1, i ∈ own.map (·.2))
    (hg : ∀ (s : Shared) (H : Hp) (C : Addr) (cl : List (Str × Addr)) (fp : List Addr), PG (X.blk s H scope (compEnvC scope cl C X.env) fp) tg g) (ht : ∀ (s : Shared) (H : Hp) (C : Addr) (cl : List (Str × Addr)) (fp : List Addr), PTs (X.blk s H scope (compEnvC scope cl C X.env) fp) ifs tt)
    (hi1 : ∀ (s : Shared) (H : Hp) (C : Addr) (cl : List (Str × Addr)) (fp : List Addr), PI (X.blk s H scope (compEnvC scope cl C X.env) fp) tg1 iter1 wi1)
    (hg1 : ∀ (s : Shared) (H : Hp) (C : Addr) (cl : List (Str × Addr)) (fp : List Addr), PG (X.blk s H scope (compEnvC scope cl C X.env) fp) tg1 g1) (ht1 : ∀ (s : Shared) (H : Hp) (C : Addr) (cl : List (Str × Addr)) (fp : List Addr), PTs (X.blk s H scope (compEnvC scope cl C X.env) fp) ifs1 tt1)
    (he : ∀ (s : Shared) (H : Hp) (C : Addr) (cl : List (Str × Addr)) (fp : List Addr), PE (X.blk s H scope (compEnvC scope cl C X.env) fp) elt te) (hs : ∀ x, foldedSetIterable iter X.env x = pure x := by intro _; rfl) (hs1 : ∀ env x, foldedSetIterable iter1 env x = pure x := by intro _ _; rfl) :
    PE X (.SetComp elt [⟨tg, iter, ifs, 0⟩, ⟨tg1, iter1, ifs1, 0⟩] scope pos) (tSc2 X wi g tt wi1 g1 tt1 te (own.map (·.2)) vs1) := by
  refine ⟨fun pins s σ H Q I h => ?_⟩
  rw [PpSet.eval_SetComp]
  refine sc2_core hc hN I hi ok hv hg ht he hs hi1 hg1 ht1 hs1 h fun D C s' m H' I' q hn f => ⟨m, hn, fun h'' sb => ?_⟩
  obtain ⟨f0, f1, f2, f3, f4, f5⟩ := f
  exact ⟨.ref D, H', I'.turned (t' := s'.toks) (fun b o hb e => (sb.2 b hb).trans e) f0 f1 f3 f4 f5, rfl, q⟩
end
/-! ### set(a list of numbers) -/
section
variable {P : Program} {w : World}
theorem ints_scan : ∀ {xs : List Int} {us : List Value}, Vals (xs.map V.int) us → Paired (fun v k => (PySem.intKind P w).is k v = true ∧ v.scannable = true) us xs
  | [], _, h => by
    cases h
    exact .nil
  | x :: xs, _, h => by
    cases h with
    | cons r t =>
      obtain ⟨k, rfl⟩ := r
      exact .cons ⟨intKind_is _ _ _ _, rfl⟩ (ints_scan t)
theorem ents_keys : ∀ {l : List (Int × Value)} {ks : List Int}, Paired (Ty.EntOf (PySem.intKind P w)) l ks → l.map keyOf = ks ∧ ∀ e, e ∈ l → GoodE e
  | _, _, .nil => ⟨rfl, fun e h => by cases h⟩
  | _, _, @Paired.cons _ _ _ e k _ _ r t => by
    obtain ⟨tk, hv⟩ := Value.isInt_shape r.1
    obtain ⟨h1, h2⟩ := ents_keys t
    refine ⟨?_, fun e' he => ?_⟩
    · rw [List.map_cons, h1]
      unfold keyOf
      rw [hv]
    · rcases List.mem_cons.mp he with q | q
      · rw [q]
        exact ⟨k, tk, hv, r.2.1⟩
      · exact h2 e' q
theorem setR_of {h : Heap} {a : Addr} {L : List Int} (g : Ty.SetG (PySem.intKind P w) h a L) : SetR w h a (fun k => decide (k ∈ L)) L.length := by
  obtain ⟨o, es, ep, t, ks, ho, hx, hd, pr, pm, nd, hb, hf, hr, hl⟩ := g
  obtain ⟨e1, e2⟩ := ents_keys pr
  refine ⟨o, es, ep, t, ho, hx, hd, e2, by rw [e1]; exact pm.nodup_iff.mpr nd, fun k => ?_, hb, hf, ?_, hr, hl⟩
  · rw [e1, decide_eq_true_eq]
    exact pm.mem_iff.symm
  · rw [← Array.length_toList, Paired.length pr, pm.length_eq]
end
section
variable {X : Cx}
def rSetI (K : PySem.W.Frag) (w : World) : List V → Hp → VK → Prop := fun vs H Q => ∃ (l : Addr) (xs : List Int), vs = [.ref l] ∧ SqL K H l (xs.map V.int) ∧ xs.length + 1 < scanBound ∧
  ∀ p, H p = none → Q (.ref p) (upd H p (SetO w p (fun k => decide (k ∈ Ty.gather [] xs)) (Ty.gather [] xs).length))
theorem cr_setI (hc : X.calm = true) : CallR X (.type "set") (rSetI X.K X.w) := by
  intro pins s σ H vs us Q I r h
  obtain ⟨l, xs, rfl, hq, hb, q⟩ := h
  obtain ⟨u, rfl, rx⟩ := vals1 r
  cases rx
  obtain ⟨its, rv, hl, _⟩ := I.list hq
  have hlen := rv.length
  rw [List.length_map] at hlen
  refine Ty.call_setL (knd := PySem.intKind X.prog X.w) (I.ok.hd hc) hl.isList (ints_scan rv) (by rw [← hlen]; exact hb) fun g tk hS kp => ?_
  exact ⟨.ref _, _, I.laid (t' := tk) kp (Nat.le_refl _) (setO_new (setR_of hS)), rfl, q _ (I.hok.fresh (Nat.le_refl _))⟩
end
end Se
set_option maxHeartbeats 2000000
/-! list.extend of a tuple and of a text, list(text), (number, text) < (number, text) -/
namespace Se
open PySem PySem.Spec PyProof.Rows L2
open PySem.AutoSeq1 (wpAny_loadPart')
theorem ext_tup (l : Addr) (items : Array Value) (n : Nat) (b : Addr) (items2 : Array Value) (n2 : Nat) (dd : Option Addr) (sl : Array (Option Value)) (hs0 : ¬(!items.isEmpty && Builtin.List.listTooLong (items.size + items2.size)) = true) (hs1 : items.size ≤ sizeLine) (hs2 : items.size + items2.size ≤ sizeLine + 1) :
    Meets (Builtin.«list.extend» ⟨[.ref l, .ref b], []⟩) (fun _ R s => s.heap.get? l = some { cls := .type "list", dict := none, data := .seq items n, slots := #[] } ∧ s.heap.get? b = some { cls := .type "tuple", dict := dd, data := .seq items2 n2, slots := sl } ∧ R (.ok (.ret Value.none)) { s with heap := s.heap.update l (Obj.mapSeq fun x => x ++ items2), toks := s.toks }) :=
  .of_wp fun prog w A R s h => by
    obtain ⟨hp, g, d, tk, os⟩ := s
    obtain ⟨hl, hb, h⟩ := h
    have f1 := AutoSeq1.idx_int
    have f2 := AutoSeq1.sub_tuple_tuple
    have f3 := AutoSeq1.sub_list_list
    have f4 := AutoSeq1.sub_tuple_list
    have f5 := AutoSeq1.sub_list_tuple
    have hz' : (items ++ items2).size ≤ sizeLine + 1 := by rw [Array.size_append]; exact hs2
    wp_walk using (wpAny_updateSeq hl rfl (hz := hs1) (_hz' := hz')), wpAny_loadPart' hl, wpAny_loadPart' hb
    exact ⟨_, rfl, h⟩
section
variable {X : Cx}
/-- xs.extend(a tuple) -/
def rExtT (K : PySem.W.Frag) : V → List V → Hp → VK → Prop := fun x vs H Q => ∃ l b xs zs, x = .ref l ∧ vs = [.ref b] ∧ H l = some (.lst xs) ∧ SqT K H b zs ∧ xs.length + zs.length ≤ sizeLine ∧ Q .non (upd H l (.lst (xs ++ zs)))
theorem mt_extT : MtM X "list.extend" (rExtT X.K) := by
  intro pins s σ H x vs v us Q I rx rv h
  obtain ⟨l, b, xs, zs, rfl, rfl, hH, hB, hz, q⟩ := h
  cases rx
  obtain ⟨u, rfl, ru⟩ := rv.one
  cases ru
  obtain ⟨z, its, n, r, hl, e⟩ := I.lstM hH
  obtain ⟨its2, r2, ⟨⟨cls, dd, dt, sl⟩, ho, hc, n2, hd⟩, _⟩ := I.tuple hB
  simp only at hc hd
  subst hc hd
  have hl2 := r2.length
  have hsz : its.toArray.size + its2.toArray.size ≤ sizeLine := by rw [List.size_toArray, List.size_toArray]; omega
  have hlong : ¬ (!its.toArray.isEmpty && Builtin.List.listTooLong (its.toArray.size + its2.toArray.size)) = true := by
    rw [notLongL hsz, Bool.and_false]
    exact Bool.false_ne_true
  refine call_meets F.slot_list_extend ⟨_, e, rfl⟩ F.entry_list_extend (F.args_list_extend_2 _ _) (ext_tup l its.toArray n b its2.toArray n2 dd sl hlong (by rw [List.size_toArray]; omega) (by omega)) ⟨e, ho, ?_⟩
  refine ⟨.non, _, I.lset (its' := its ++ its2) hH e (by simp) (r.append r2) ?_, rfl, q⟩
  rw [List.length_append]
  omega
end
/-! ### xs.extend(a text) -/
/-- behind the base, the walked items -/
def Behind (P : Nat → Value → Prop) (base acc : Array Value) (i : Nat) : Prop := ∃ more : List Value, acc = base ++ more.toArray ∧ more.length = i ∧ ∀ (j : Nat) v, more[j]? = some v → P j v
theorem Behind.push {P : Nat → Value → Prop} {base acc : Array Value} {i : Nat} {x : Value} (h : Behind P base acc i) (hx : P i x) : Behind P base (acc.push x) (i + 1) := by
  obtain ⟨more, rfl, hl, hp⟩ := h
  refine ⟨more ++ [x], by simp, by rw [List.length_append, hl]; rfl, fun j v hj => ?_⟩
  by_cases c : j < more.length
  · rw [List.getElem?_append_left c] at hj
    exact hp j v hj
  · rw [List.getElem?_append_right (by omega)] at hj
    have : j - more.length = 0 := by
      rcases Nat.eq_zero_or_pos (j - more.length) with z | z
      · exact z
      · rw [List.getElem?_eq_none (by simp; omega)] at hj
        cases hj
    rw [this] at hj
    injection hj with hj
    rw [← hj]
    have : j = i := by omega
    rw [this]; exact hx
theorem Behind.size {P : Nat → Value → Prop} {base acc : Array Value} {i : Nat} (h : Behind P base acc i) : acc.size = base.size + i := by
  obtain ⟨more, rfl, hl, _⟩ := h
  rw [Array.size_append, ← hl]
  simp
section
variable {prog : Program} {w : World} {A : Around} {R : Result → Shared → Prop} {I : Addr} {fp wr : List Addr} {G : Array GenState → Array GenState → Prop} {n : Nat} {P : Nat → Value → Prop} {St : Nat → Shared → Prop}
theorem ext_loop (W : WalksS prog w A.in1 I fp wr G n P St) (base : Array Value) (hn : base.size + n ≤ sizeLine) (S : Addr) (hSf : S ∉ fp) (res : Value) :
    ∀ (k i : Nat) (s : Shared) (acc : Array Value) (c : Nat), n - i = k → i ≤ n → St i s → s.heap.get? S = some { cls := .type "list", dict := none, data := .seq acc c, slots := #[] } → Behind P base acc i →
    (∀ s' acc' c', Moved (S :: wr) G s s' → s'.heap.get? S = some { cls := .type "list", dict := none, data := .seq acc' c', slots := #[] } → Behind P base acc' n → R (.ok (.ret res)) s') →
    codeAny (model prog w) A (.builtin "list.extend.loop" ⟨[.ref S, .ref I, res], []⟩) R s := by
  have hSw : S ∉ wr := fun h => hSf (W.sub _ h)
  have up : ∀ b ∈ wr, b ∈ S :: wr := fun b hb => List.mem_cons_of_mem _ hb
  intro k
  induction k with
  | zero =>
    intro i s acc c hk hi hst hS hacc hR
    obtain rfl : i = n := by omega
    refine codeAny_builtin PySem.F.entry_extend_loop ?_
    rw [Around.under_plainId PySem.F.plain_extend_loop _]
    show wpAny _ A.in1 (pyNext (.ref I) >>= _) _ _ s
    refine wpAny_bind (W.done s _ _ hst fun s' hm => ?_)
    exact wpAny_pure (hR s' acc c (hm.mono up) (hm.heap S _ hSw hS) hacc)
  | succ k ih =>
    intro i s acc c hk hi hst hS hacc hR
    have hlt : i < n := by omega
    have hz := hacc.size
    refine codeAny_builtin PySem.F.entry_extend_loop ?_
    rw [Around.under_plainId PySem.F.plain_extend_loop _]
    show wpAny _ A.in1 (pyNext (.ref I) >>= _) _ _ s
    refine wpAny_bind (W.item i s _ _ hlt hst fun v s' hP hst' hm => ?_)
    have hS' := hm.heap S _ hSw hS
    show wpAny _ A.in1 (updateSeq S (·.push v) >>= _) _ _ _
    refine wpAny_bind ?_
    refine wpAny_updateSeq hS' rfl (wpAny_pure ⟨plainId_quiet PySem.F.plain_extend_loop _, ih (i + 1) _ (acc.push v) _ (by omega) hlt (W.frame _ s' _ s'.toks hst' (Nat.le_refl _) fun b hb o e => ?_) (Heap.get?_update_self _ hS' rfl) (hacc.push hP) fun s'' acc' c' hm'' hS'' hacc' => ?_⟩)
      (by omega) (by show (acc.push v).size ≤ sizeLine + 1; rw [Array.size_push]; omega)
    · exact (Heap.get?_update_other _ _ (fun h : S = b => hSf (by rw [h]; exact hb))).trans e
    · refine hR s'' acc' c' (Moved.trans W.gtrans ((hm.mono up).then_heap (by first | exact Nat.le_refl _ | exact Nat.le_succ _ | omega) fun b o hb e => ?_) hm'') hS'' hacc'
      exact (Heap.get?_update_other _ _ (fun h : S = b => hb (by rw [h]; exact List.mem_cons_self))).trans e
end
section
variable {prog : Program} {w : World} {A : Around} {E : Value → Shared → Prop} {s : Shared}
theorem ext_str {R : Result → Shared → Prop} (hh : A.handled = none) (x : Str) (t : Tok) (S : Addr) (base : Array Value) (c₀ : Nat) (hS : s.heap.get? S = some { cls := .type "list", data := .seq base c₀ }) (hn : base.size + x.cps.size ≤ sizeLine)
    (hR : ∀ h' tk acc' c', (∀ b o, b ≠ S → s.heap.get? b = some o → h'.get? b = some o) → h'.get? S = some { cls := .type "list", dict := none, data := .seq acc' c', slots := #[] } →
      Behind (SignAt x) base acc' x.cps.size → R (.ok (.ret .none)) { s with heap := h', toks := tk }) :
    wpAny (model prog w) A.in1 (Builtin.List.listExtendWith (.ref S) (.str x t) .none)
      (fun fin s' => match fin with | .done f => R (.ok f) s' | .again c' => c'.quiet = true ∧ codeAny (model prog w) A c' R s') (fun e s' => R (.error e) s') s := by
  have hSI : S ≠ s.heap.objs.size := Nat.ne_of_lt (Heap.lt_size hS)
  have hSf : S ∉ [s.heap.objs.size] := fun hm => hSI (List.mem_singleton.mp hm)
  unfold Builtin.List.listExtendWith
  refine wpAny_bind (wpAny_typeOf (T := "str") (v := .str x t) rfl ?_)
  have h1 : Builtin.List.listSameRef (.ref S) (.str x t) = false := rfl
  have h2 : (Value.type "str" == Value.type "list") = false := by decide
  have h3 : (Value.type "str" == Value.type "tuple") = false := by decide
  simp only [h1, h2, h3, Bool.or_false, Bool.false_eq_true, if_false]
  refine wpAny_bind (wpAny_pyIter_str fun o St W hst => ?_)
  refine wpAny_bind (wpAny_holding ?_)
  unfold Builtin.List.listLengthHint
  refine wpAny_bind (wpAny_specialOf (T := "str") (v := .str x t) rfl PySem.F.str_len ?_)
  wp_delta
  refine wpAny_bind (wpAny_isInstance (T := "str") (v := .str x t) (b := true) rfl (by rw [isSubtype_type]; kernel_rfl) ?_)
  show wpAny _ _ (typeOf (Value.str x t) >>= _) _ _ _
  refine wpAny_bind (wpAny_typeOf (T := "str") (v := .str x t) rfl ?_)
  refine wpAny_pure ?_
  rw [if_neg (by decide)]
  refine wpAny_pure ⟨plainId_quiet PySem.F.plain_extend_loop _, ext_loop (W A.in1 hh).toS base hn _ hSf _ x.cps.size 0 _ _ _ rfl (Nat.zero_le _) hst (Heap.get?_push_of_some _ hS) ⟨[], by simp, rfl, fun j v h => by simp at h⟩ fun s' acc' c' hm hS' hacc => ?_⟩
  rw [Moved.eq_with hm]
  refine hR s'.heap s'.toks acc' c' (fun b ob hb e => hm.heap b ob (fun hmem => ?_) (Heap.get?_push_of_some _ e)) hS' hacc
  rcases List.mem_cons.mp hmem with e' | hmem
  · exact hb e'
  · exact absurd (Heap.lt_size e) (by rw [List.mem_singleton.mp hmem]; exact Nat.lt_irrefl _)
end
/-- the signs of a text, each as a text -/
def signsV (x : Str) : List V := x.cps.toList.map fun c => V.str ⟨#[c]⟩
theorem signs_vals {x : Str} {more : List Value} (hl : more.length = x.cps.size) (h : ∀ (j : Nat) v, more[j]? = some v → SignAt x j v) : Vals (signsV x) more := by
  have main : ∀ (l : List Nat) (m : List Value), m.length = l.length → (∀ (j : Nat) v, m[j]? = some v → ∃ c u, l[j]? = some c ∧ v = .str ⟨#[c]⟩ u) → Vals (l.map fun c => V.str ⟨#[c]⟩) m := by
    intro l
    induction l with
    | nil => intro m hm _; rw [List.length_eq_zero_iff.mp hm]; exact .nil
    | cons c l ih =>
      intro m hm hv
      cases m with
      | nil => simp at hm
      | cons v m =>
        obtain ⟨c', u, e1, e2⟩ := hv 0 v rfl
        injection e1 with e1
        subst e1 e2
        exact .cons ⟨u, rfl⟩ (ih m (by simpa using hm) fun j v hj => hv (j + 1) v hj)
  refine main _ _ (by rw [hl]; exact Array.length_toList.symm) fun j v hj => ?_
  obtain ⟨c, u, e1, e2⟩ := h j v hj
  exact ⟨c, u, by rw [Array.getElem?_toList]; exact e1, e2⟩
section
variable {X : Cx}
def rExtS : V → List V → Hp → VK → Prop := fun x vs H Q => ∃ l xs z, x = .ref l ∧ vs = [.str z] ∧ H l = some (.lst xs) ∧ xs.length + z.length ≤ sizeLine ∧ Q .non (upd H l (.lst (xs ++ signsV z)))
theorem mt_extS (hc : X.calm = true) : MtM X "list.extend" rExtS := by
  intro pins s σ H x vs v us Q I rx rv h
  obtain ⟨l, xs, zt, rfl, rfl, hH, hz, q⟩ := h
  cases rx
  obtain ⟨u, rfl, t, rfl⟩ := rv.one
  obtain ⟨z, its, n, r, hl, e⟩ := I.lstM hH
  have hz' : its.toArray.size + zt.cps.size ≤ sizeLine := by rw [List.size_toArray, ← hl]; exact hz
  refine wpAny_call (codeAny_call_builtin F.slot_list_extend.plain F.entry_list_extend (F.slot_list_extend.check _ _ _ _ _ _ _ _ ⟨_, e, rfl⟩ (F.args_list_extend_2 _ _) ?_))
  show wpAny _ _ (Builtin.List.listExtendWith (.ref l) (.str zt t) .none) _ _ _
  refine ext_str (A := X.A) (R := wants (EP X pins σ Q) X.xe) (I.ok.hd hc) zt t l its.toArray n e hz' fun g tk acc' c' hk hS' hacc => ?_
  obtain ⟨more, rfl, hl2, hp⟩ := hacc
  have hv := signs_vals hl2 hp
  refine ⟨.non, upd H l (.lst (xs ++ signsV zt)), I.write (x := l) (e := l) (t' := tk) (by rw [hH]; trivial) (.inl rfl) (fun b u hb hu => hk b u hb hu) ⟨_, hS'⟩ ⟨?_, its ++ more, c', r.append hv, by simpa using hS'⟩, rfl, q⟩
  rw [List.length_append]
  unfold signsV
  rw [List.length_map]
  have : zt.cps.toList.length = zt.length := Array.length_toList
  omega
/-- list(a text) -/
def rListS : List V → Hp → VK → Prop := fun xs H Q => ∃ z, xs = [.str z] ∧ z.length ≤ sizeLine ∧ ∀ p, H p = none → Q (.ref p) (upd H p (.lst (signsV z)))
theorem call_listS (hc : X.calm = true) : CallR X (.type "list") rListS := by
  intro pins s σ H xs us Q I r h
  obtain ⟨z, rfl, hz, q⟩ := h
  obtain ⟨u, rfl, t, rfl⟩ := vals1 r
  refine call_list_str (I.ok.hd hc) z t (fun g tk acc' c' hk hS' hacc => ?_) hz
  have hv : Vals (signsV z) acc'.toList := signs_vals (by rw [Array.length_toList]; exact hacc.1) fun j v hj => hacc.2 j v (by rw [← Array.getElem?_toList]; exact hj)
  refine ⟨.ref _, _, I.laid (t' := tk) (o := .lst (signsV z)) hk (Nat.le_refl _) ⟨?_, acc'.toList, c', hv, by simpa using hS'⟩, rfl, q _ (I.hok.fresh (Nat.le_refl _))⟩
  unfold signsV
  rw [List.length_map]
  exact (show z.cps.toList.length = z.length from Array.length_toList) ▸ hz
/-- (n, x) < (m, y) -/
def ltNS (n m : Int) (x y : Str) : Bool := if n = m then decide (x.cps.toList < y.cps.toList) else decide (n < m)
def rLtNS (K : PySem.W.Frag) : R2 := fun a b H Q => ∃ p q n m x y, a = .ref p ∧ b = .ref q ∧ SqT K H p [.int n, .str x] ∧ SqT K H q [.int m, .str y] ∧ Q (.bl (ltNS n m x y)) H
theorem op_ltNS (hu : X.A.units < cLine) : OpR X (compareOp .Lt) (rLtNS X.K) := by
  intro pins s σ H a b v u Q I rx ry h
  obtain ⟨p, q', n, m, x, y, rfl, rfl, hp, hq, q⟩ := h
  cases rx
  cases ry
  obtain ⟨its, r1, t1, _⟩ := I.tuple hp
  obtain ⟨its2, r2, t2, _⟩ := I.tuple hq
  cases r1 with
  | cons a1 b1 =>
  cases b1 with
  | cons a2 b2 =>
  cases b2
  cases r2 with
  | cons c1 d1 =>
  cases d1 with
  | cons c2 d2 =>
  cases d2
  obtain ⟨k1, rfl⟩ := a1
  obtain ⟨k2, rfl⟩ := a2
  obtain ⟨k3, rfl⟩ := c1
  obtain ⟨k4, rfl⟩ := c2
  have main := SeqAt.RcLt.tuples (A := X.A) (s := s) (e := fun j => if j = 0 then decide (n = m) else decide (x = y)) (r := fun j => if j = 0 then decide (n < m) else decide (x.cps.toList < y.cps.toList)) t1 t2 hu
    (fun j h1 h2 => by
      match j, h1 with
      | 0, _ =>
        have e := eqAt_V (A := X.A.in1) (s := s) (y := .int n) (x := .int m) (u := .int n k1) (v := .int m k3) ⟨k1, rfl⟩ ⟨k3, rfl⟩ rfl rfl
        have e2 : eqV (.int n) (.int m) = decide (n = m) := by
          show (n == m) = _
          by_cases c : n = m
          · rw [c]; simp
          · rw [decide_eq_false c]; exact beq_eq_false_iff_ne.mpr c
        rw [e2] at e
        exact e
      | 1, _ =>
        have e := eqAt_V (A := X.A.in1) (s := s) (y := .str x) (x := .str y) (u := .str x k2) (v := .str y k4) ⟨k2, rfl⟩ ⟨k4, rfl⟩ rfl rfl
        have e2 : eqV (.str x) (.str y) = decide (x = y) := by
          show (x == y) = _
          by_cases c : x = y
          · rw [c]; simp
          · rw [decide_eq_false c]; exact beq_eq_false_iff_ne.mpr c
        rw [e2] at e
        exact e)
    (fun j h1 h2 _ => by
      match j, h1 with
      | 0, _ => exact fun prog w E Q h => HT.rcLt_int _ _ _ _ _ _ prog w E Q h
      | 1, _ => exact fun prog w E Q h => DT.rcLt_str _ _ _ _ _ _ prog w E Q h)
  have ev : SeqAt.firstLt (fun j => if j = 0 then decide (n = m) else decide (x = y)) (fun j => if j = 0 then decide (n < m) else decide (x.cps.toList < y.cps.toList)) (decide ((#[Value.int n k1, Value.str x k2]).size < (#[Value.int m k3, Value.str y k4]).size)) (List.range (min (#[Value.int n k1, Value.str x k2]).size (#[Value.int m k3, Value.str y k4]).size)) = ltNS n m x y := by
    show SeqAt.firstLt _ _ false [0, 1] = _
    unfold ltNS
    by_cases c : n = m
    · rw [if_pos c, SeqAt.firstLt_yes (by simp [c])]
      by_cases c2 : x = y
      · rw [SeqAt.firstLt_yes (by simp [c2]), c2]
        simp [SeqAt.firstLt]
      · rw [SeqAt.firstLt_no (by simp [c2])]
        simp
    · rw [if_neg c, SeqAt.firstLt_no (by simp [c])]
      simp
  refine main X.prog X.w X.xe _ ?_
  exact fin_bl I q ev.symm
end
end Se
/-! what patterns spell: plain mathematics -/
namespace Pa
open PySem
inductive Pat
  | sg (x : Str)
  | em
  | th (a b : Pat)
  | oo (a b : Pat)
  | ag (a : Pat)
  | mo (a : Pat)
  | mb (a : Pat)
/-- a row of patterns spells a word in so many steps -/
inductive D : List Pat → List Nat → Nat → Prop
  | nil : D [] [] 0
  | sg {x : Str} {c : Nat} {k : List Pat} {w : List Nat} {n : Nat} : c ∈ x.cps.toList → D k w n → D (.sg x :: k) (c :: w) (n + 1)
  | em {k : List Pat} {w : List Nat} {n : Nat} : D k w n → D (.em :: k) w (n + 1)
  | th {a b : Pat} {k : List Pat} {w : List Nat} {n : Nat} : D (a :: b :: k) w n → D (.th a b :: k) w (n + 1)
  | o1 {a b : Pat} {k : List Pat} {w : List Nat} {n : Nat} : D (a :: k) w n → D (.oo a b :: k) w (n + 1)
  | o2 {a b : Pat} {k : List Pat} {w : List Nat} {n : Nat} : D (b :: k) w n → D (.oo a b :: k) w (n + 1)
  | a0 {a : Pat} {k : List Pat} {w : List Nat} {n : Nat} : D k w n → D (.ag a :: k) w (n + 1)
  | a1 {a : Pat} {k : List Pat} {w : List Nat} {n : Nat} : D (a :: .ag a :: k) w n → D (.ag a :: k) w (n + 1)
  | mo {a : Pat} {k : List Pat} {w : List Nat} {n : Nat} : D (a :: .ag a :: k) w n → D (.mo a :: k) w (n + 1)
  | m0 {a : Pat} {k : List Pat} {w : List Nat} {n : Nat} : D k w n → D (.mb a :: k) w (n + 1)
  | m1 {a : Pat} {k : List Pat} {w : List Nat} {n : Nat} : D (a :: k) w n → D (.mb a :: k) w (n + 1)
theorem D.app {s t : List Pat} {u v : List Nat} {n m : Nat} (h : D s u n) (g : D t v m) : D (s ++ t) (u ++ v) (n + m) := by
  induction h with
  | nil => rw [Nat.zero_add]; exact g
  | sg hc _ ih => rw [Nat.add_right_comm]; exact .sg hc ih
  | em _ ih => rw [Nat.add_right_comm]; exact .em ih
  | th _ ih => rw [Nat.add_right_comm]; exact .th ih
  | o1 _ ih => rw [Nat.add_right_comm]; exact .o1 ih
  | o2 _ ih => rw [Nat.add_right_comm]; exact .o2 ih
  | a0 _ ih => rw [Nat.add_right_comm]; exact .a0 ih
  | a1 _ ih => rw [Nat.add_right_comm]; exact .a1 ih
  | mo _ ih => rw [Nat.add_right_comm]; exact .mo ih
  | m0 _ ih => rw [Nat.add_right_comm]; exact .m0 ih
  | m1 _ ih => rw [Nat.add_right_comm]; exact .m1 ih
theorem D.parts : ∀ {n : Nat} {s t : List Pat} {w : List Nat}, D (s ++ t) w n → ∃ u v i j, w = u ++ v ∧ n = i + j ∧ D s u i ∧ D t v j
  | n, [], t, w, h => ⟨[], w, 0, n, rfl, (Nat.zero_add n).symm, .nil, h⟩
  | 0, p :: s, t, w, h => by cases h
  | n + 1, p :: s, t, w, h => by
    have h' : D (p :: (s ++ t)) w (n + 1) := h
    cases h' with
    | sg hc h1 =>
      obtain ⟨u, v, i, j, rfl, rfl, g1, g2⟩ := D.parts (s := s) h1
      exact ⟨_ :: u, v, i + 1, j, rfl, by omega, .sg hc g1, g2⟩
    | em h1 =>
      obtain ⟨u, v, i, j, rfl, rfl, g1, g2⟩ := D.parts (s := s) h1
      exact ⟨u, v, i + 1, j, rfl, by omega, .em g1, g2⟩
    | @th a b _ _ _ h1 =>
      obtain ⟨u, v, i, j, rfl, rfl, g1, g2⟩ := D.parts (s := a :: b :: s) h1
      exact ⟨u, v, i + 1, j, rfl, by omega, .th g1, g2⟩
    | @o1 a b _ _ _ h1 =>
      obtain ⟨u, v, i, j, rfl, rfl, g1, g2⟩ := D.parts (s := a :: s) h1
      exact ⟨u, v, i + 1, j, rfl, by omega, .o1 g1, g2⟩
    | @o2 a b _ _ _ h1 =>
      obtain ⟨u, v, i, j, rfl, rfl, g1, g2⟩ := D.parts (s := b :: s) h1
      exact ⟨u, v, i + 1, j, rfl, by omega, .o2 g1, g2⟩
    | a0 h1 =>
      obtain ⟨u, v, i, j, rfl, rfl, g1, g2⟩ := D.parts (s := s) h1
      exact ⟨u, v, i + 1, j, rfl, by omega, .a0 g1, g2⟩
    | @a1 a _ _ _ h1 =>
      obtain ⟨u, v, i, j, rfl, rfl, g1, g2⟩ := D.parts (s := a :: .ag a :: s) h1
      exact ⟨u, v, i + 1, j, rfl, by omega, .a1 g1, g2⟩
    | @mo a _ _ _ h1 =>
      obtain ⟨u, v, i, j, rfl, rfl, g1, g2⟩ := D.parts (s := a :: .ag a :: s) h1
      exact ⟨u, v, i + 1, j, rfl, by omega, .mo g1, g2⟩
    | m0 h1 =>
      obtain ⟨u, v, i, j, rfl, rfl, g1, g2⟩ := D.parts (s := s) h1
      exact ⟨u, v, i + 1, j, rfl, by omega, .m0 g1, g2⟩
    | @m1 a _ _ _ h1 =>
      obtain ⟨u, v, i, j, rfl, rfl, g1, g2⟩ := D.parts (s := a :: s) h1
      exact ⟨u, v, i + 1, j, rfl, by omega, .m1 g1, g2⟩
def LS (s : List Pat) (w : List Nat) : Prop := ∃ n, D s w n
def L (p : Pat) (w : List Nat) : Prop := LS [p] w
theorem LS.app {s t : List Pat} {w : List Nat} : LS (s ++ t) w ↔ ∃ u v, w = u ++ v ∧ LS s u ∧ LS t v :=
  ⟨fun ⟨_, h⟩ => by obtain ⟨u, v, i, j, e, _, g1, g2⟩ := h.parts; exact ⟨u, v, e, ⟨i, g1⟩, ⟨j, g2⟩⟩, fun ⟨u, v, e, ⟨i, g1⟩, ⟨j, g2⟩⟩ => ⟨i + j, e ▸ g1.app g2⟩⟩
theorem LS.cons {p : Pat} {k : List Pat} {w : List Nat} : LS (p :: k) w ↔ ∃ u v, w = u ++ v ∧ L p u ∧ LS k v := LS.app (s := [p]) (t := k)
theorem LS.nil {w : List Nat} : LS [] w ↔ w = [] := ⟨fun ⟨_, h⟩ => by cases h; rfl, fun e => by rw [e]; exact ⟨0, .nil⟩⟩
theorem L_sg {x : Str} {w : List Nat} : L (.sg x) w ↔ ∃ c, c ∈ x.cps.toList ∧ w = [c] :=
  ⟨fun ⟨_, h⟩ => by cases h with | sg hc h => cases h; exact ⟨_, hc, rfl⟩, fun ⟨c, hc, e⟩ => by rw [e]; exact ⟨_, .sg hc .nil⟩⟩
theorem L_em {w : List Nat} : L .em w ↔ w = [] := ⟨fun ⟨_, h⟩ => by cases h with | em h => cases h; rfl, fun e => by rw [e]; exact ⟨_, .em .nil⟩⟩
theorem L_th {a b : Pat} {w : List Nat} : L (.th a b) w ↔ ∃ u v, w = u ++ v ∧ L a u ∧ L b v :=
  ⟨fun ⟨_, h⟩ => by cases h with | th h => exact LS.cons.mp ⟨_, h⟩, fun h => by obtain ⟨n, g⟩ := LS.cons.mpr h; exact ⟨_, .th g⟩⟩
theorem L_oo {a b : Pat} {w : List Nat} : L (.oo a b) w ↔ L a w ∨ L b w :=
  ⟨fun ⟨_, h⟩ => by
    cases h with
    | o1 h => exact .inl ⟨_, h⟩
    | o2 h => exact .inr ⟨_, h⟩, fun h => h.elim (fun ⟨n, g⟩ => ⟨_, .o1 g⟩) (fun ⟨n, g⟩ => ⟨_, .o2 g⟩)⟩
theorem L_mb {a : Pat} {w : List Nat} : L (.mb a) w ↔ w = [] ∨ L a w :=
  ⟨fun ⟨_, h⟩ => by
    cases h with
    | m0 h => cases h; exact .inl rfl
    | m1 h => exact .inr ⟨_, h⟩, fun h => h.elim (fun e => by rw [e]; exact ⟨_, .m0 .nil⟩) (fun ⟨n, g⟩ => ⟨_, .m1 g⟩)⟩
theorem L_mo {a : Pat} {w : List Nat} : L (.mo a) w ↔ ∃ u v, w = u ++ v ∧ L a u ∧ L (.ag a) v :=
  ⟨fun ⟨_, h⟩ => by cases h with | mo h => exact LS.cons.mp ⟨_, h⟩, fun h => by obtain ⟨n, g⟩ := LS.cons.mpr h; exact ⟨_, .mo g⟩⟩
theorem L_ag {a : Pat} {w : List Nat} : L (.ag a) w ↔ w = [] ∨ L (.mo a) w := by
  rw [L_mo]
  exact ⟨fun ⟨_, h⟩ => by
    cases h with
    | a0 h => cases h; exact .inl rfl
    | a1 h => exact .inr (LS.cons.mp ⟨_, h⟩), fun h => h.elim (fun e => by rw [e]; exact ⟨_, .a0 .nil⟩) (fun h => by obtain ⟨n, g⟩ := LS.cons.mpr h; exact ⟨_, .a1 g⟩)⟩
theorem ag_ind {a : Pat} {C : List Nat → Prop} (h0 : C []) (h1 : ∀ u v, L a u → L (.ag a) v → C v → C (u ++ v)) : ∀ w, L (.ag a) w → C w := by
  have main : ∀ (n : Nat) (w : List Nat), D [.ag a] w n → C w := by
    intro n
    induction n using Nat.strongRecOn with
    | ind n ih =>
      intro w h
      cases h with
      | a0 h => cases h; exact h0
      | a1 h =>
        obtain ⟨u, v, i, j, rfl, e, g1, g2⟩ := D.parts (s := [a]) (t := [.ag a]) h
        exact h1 u v ⟨i, g1⟩ ⟨j, g2⟩ (ih j (by omega) v g2)
  exact fun w ⟨n, h⟩ => main n w h
theorem ag_end {a : Pat} {v : List Nat} (hv : L a v) : ∀ u, L (.ag a) u → L (.ag a) (u ++ v) :=
  ag_ind (by
    rw [List.nil_append]
    exact L_ag.mpr (.inr (L_mo.mpr ⟨v, [], (List.append_nil v).symm, hv, L_ag.mpr (.inl rfl)⟩))) fun x y hx _ ih => by
    rw [List.append_assoc]
    exact L_ag.mpr (.inr (L_mo.mpr ⟨x, y ++ v, rfl, hx, ih⟩))
/-! ### places of a text -/
def seg (t : List Nat) (b e : Nat) : List Nat := (t.drop b).take (e - b)
theorem seg_len {t : List Nat} {b e : Nat} (h1 : b ≤ e) (h2 : e ≤ t.length) : (seg t b e).length = e - b := by
  unfold seg
  rw [List.length_take, List.length_drop]; omega
theorem seg_cat {t : List Nat} {b m e : Nat} (h1 : b ≤ m) (h2 : m ≤ e) : seg t b m ++ seg t m e = seg t b e := by
  unfold seg
  have e1 : t.drop m = (t.drop b).drop (m - b) := by rw [List.drop_drop]; congr 1; omega
  have e2 : e - b = (m - b) + (e - m) := by omega
  rw [e1, e2, List.take_add]
theorem seg_split {t : List Nat} {b e : Nat} {u v : List Nat} (h1 : b ≤ e) (h2 : e ≤ t.length) (h : seg t b e = u ++ v) : ∃ m, b ≤ m ∧ m ≤ e ∧ seg t b m = u ∧ seg t m e = v := by
  have hl := seg_len h1 h2
  rw [h, List.length_append] at hl
  refine ⟨b + u.length, by omega, by omega, ?_⟩
  have c := seg_cat (t := t) (b := b) (m := b + u.length) (e := e) (by omega) (by omega)
  rw [h] at c
  have l1 := seg_len (t := t) (b := b) (e := b + u.length) (by omega) (by omega)
  exact List.append_inj c (by omega)
theorem seg_nil {t : List Nat} {b : Nat} : seg t b b = [] := by
  unfold seg
  rw [Nat.sub_self, List.take_zero]
/-- from b to e the text is spelled -/
def E (t : List Nat) (p : Pat) (b e : Nat) : Prop := b ≤ e ∧ e ≤ t.length ∧ L p (seg t b e)
theorem E_sg {t : List Nat} {x : Str} {b e : Nat} : E t (.sg x) b e ↔ ∃ c, t[b]? = some c ∧ c ∈ x.cps.toList ∧ e = b + 1 := by
  constructor
  · rintro ⟨h1, h2, h⟩
    obtain ⟨c, hc, ec⟩ := L_sg.mp h
    have hl := seg_len h1 h2
    rw [ec] at hl
    have hl' : 1 = e - b := hl
    refine ⟨c, ?_, hc, by omega⟩
    have h0 : (seg t b e)[0]? = some c := by rw [ec]; rfl
    unfold seg at h0
    rw [List.getElem?_take_of_lt (by omega), List.getElem?_drop] at h0
    exact h0
  · rintro ⟨c, h0, hc, rfl⟩
    have hb := (List.getElem?_eq_some_iff.mp h0).1
    refine ⟨by omega, by omega, L_sg.mpr ⟨c, hc, ?_⟩⟩
    unfold seg
    have : b + 1 - b = 1 := by omega
    rw [this, List.drop_eq_getElem_cons hb, (List.getElem?_eq_some_iff.mp h0).2]
    rfl
theorem E_em {t : List Nat} {b e : Nat} : E t .em b e ↔ e = b ∧ b ≤ t.length := by
  constructor
  · rintro ⟨h1, h2, h⟩
    have hl := seg_len h1 h2
    rw [L_em.mp h] at hl
    have hl' : 0 = e - b := hl
    omega
  · rintro ⟨rfl, h⟩
    exact ⟨Nat.le_refl _, h, L_em.mpr seg_nil⟩
theorem E_th {t : List Nat} {p q : Pat} {b e : Nat} : E t (.th p q) b e ↔ ∃ m, E t p b m ∧ E t q m e := by
  constructor
  · rintro ⟨h1, h2, h⟩
    obtain ⟨u, v, e1, hu, hv⟩ := L_th.mp h
    obtain ⟨m, m1, m2, rfl, rfl⟩ := seg_split h1 h2 e1
    exact ⟨m, ⟨m1, by omega, hu⟩, ⟨m2, h2, hv⟩⟩
  · rintro ⟨m, ⟨m1, m2, hu⟩, ⟨m3, m4, hv⟩⟩
    exact ⟨by omega, m4, L_th.mpr ⟨_, _, (seg_cat m1 m3).symm, hu, hv⟩⟩
theorem E_oo {t : List Nat} {p q : Pat} {b e : Nat} : E t (.oo p q) b e ↔ E t p b e ∨ E t q b e := by
  unfold E
  rw [L_oo]
  constructor
  · rintro ⟨h1, h2, h | h⟩
    · exact .inl ⟨h1, h2, h⟩
    · exact .inr ⟨h1, h2, h⟩
  · rintro (⟨h1, h2, h⟩ | ⟨h1, h2, h⟩)
    · exact ⟨h1, h2, .inl h⟩
    · exact ⟨h1, h2, .inr h⟩
theorem nil_seg {t : List Nat} {b e : Nat} (h1 : b ≤ e) (h2 : e ≤ t.length) : seg t b e = [] ↔ e = b := by
  constructor
  · intro h
    have hl := seg_len h1 h2
    rw [h] at hl
    have hl' : 0 = e - b := hl
    omega
  · rintro rfl; exact seg_nil
theorem E_mb {t : List Nat} {p : Pat} {b e : Nat} : E t (.mb p) b e ↔ (e = b ∧ b ≤ t.length) ∨ E t p b e := by
  unfold E
  rw [L_mb]
  constructor
  · rintro ⟨h1, h2, h | h⟩
    · have := (nil_seg h1 h2).mp h
      exact .inl ⟨this, by omega⟩
    · exact .inr ⟨h1, h2, h⟩
  · rintro (⟨rfl, h⟩ | ⟨h1, h2, h⟩)
    · exact ⟨Nat.le_refl _, h, .inl seg_nil⟩
    · exact ⟨h1, h2, .inr h⟩
theorem E_ag {t : List Nat} {p : Pat} {b e : Nat} : E t (.ag p) b e ↔ (e = b ∧ b ≤ t.length) ∨ E t (.mo p) b e := by
  unfold E
  rw [L_ag]
  constructor
  · rintro ⟨h1, h2, h | h⟩
    · have := (nil_seg h1 h2).mp h
      exact .inl ⟨this, by omega⟩
    · exact .inr ⟨h1, h2, h⟩
  · rintro (⟨rfl, h⟩ | ⟨h1, h2, h⟩)
    · exact ⟨Nat.le_refl _, h, .inl seg_nil⟩
    · exact ⟨h1, h2, .inr h⟩
theorem E_mo1 {t : List Nat} {p : Pat} {b e : Nat} (h : E t p b e) : E t (.mo p) b e :=
  ⟨h.1, h.2.1, L_mo.mpr ⟨_, [], (List.append_nil _).symm, h.2.2, L_ag.mpr (.inl rfl)⟩⟩
theorem E_mo_end {t : List Nat} {p : Pat} {b m e : Nat} (h : E t (.mo p) b m) (g : E t p m e) : E t (.mo p) b e := by
  obtain ⟨h1, h2, h⟩ := h
  obtain ⟨g1, g2, g⟩ := g
  refine ⟨by omega, g2, ?_⟩
  rw [← seg_cat (t := t) h1 g1]
  obtain ⟨u, v, e, hu, hv⟩ := L_mo.mp h
  rw [e, List.append_assoc]
  exact L_mo.mpr ⟨u, _, rfl, hu, ag_end g v hv⟩
theorem E_mo_least {t : List Nat} {p : Pat} {b e : Nat} {S : Nat → Prop} (h1 : ∀ m, E t p b m → S m) (h2 : ∀ m n, S m → E t p m n → S n) (h : E t (.mo p) b e) : S e := by
  obtain ⟨g1, g2, h⟩ := h
  obtain ⟨u, v, e1, hu, hv⟩ := L_mo.mp h
  obtain ⟨m, m1, m2, rfl, rfl⟩ := seg_split g1 g2 e1
  have key : ∀ w, L (.ag p) w → ∀ m, S m → m ≤ e → seg t m e = w → S e := by
    refine ag_ind (fun m sm hm ew => ?_) fun x y hx hy ih m sm hm ew => ?_
    · rw [(nil_seg hm g2).mp ew]; exact sm
    · obtain ⟨k, k1, k2, rfl, rfl⟩ := seg_split hm g2 ew
      exact ih k (h2 m k sm ⟨k1, by omega, hx⟩) k2 rfl
  exact key _ hv m (h1 m ⟨m1, by omega, hu⟩) m2 rfl
theorem E_all {t : List Nat} {p : Pat} : E t p 0 t.length ↔ L p t := by
  unfold E seg
  rw [List.drop_zero, Nat.sub_zero, List.take_length]
  exact ⟨fun h => h.2.2, fun h => ⟨Nat.zero_le _, Nat.le_refl _, h⟩⟩
/-! ### the least text, the only text -/
def slt (u v : List Nat) : Prop := u.length < v.length ∨ (u.length = v.length ∧ u < v)
theorem lt_same_len : ∀ {a b c d : List Nat}, a.length = b.length → ¬ a < b → ¬ c < d → ¬ a ++ c < b ++ d
  | [], [], c, d, _, _, h => h
  | x :: a, y :: b, c, d, hl, h1, h2 => by
    intro h
    have hl' : a.length = b.length := by simpa using hl
    rw [List.cons_append, List.cons_append] at h
    rcases List.cons_lt_cons_iff.mp h with h3 | ⟨h4, h3⟩
    · exact h1 (List.cons_lt_cons_iff.mpr (.inl h3))
    · exact lt_same_len hl' (fun z => h1 (List.cons_lt_cons_iff.mpr (.inr ⟨h4, z⟩))) h2 h3
  | [], _ :: _, _, _, hl, _, _ => by simp at hl
  | _ :: _, [], _, _, hl, _, _ => by simp at hl
theorem slt_app {u v l m : List Nat} (h1 : ¬ slt u l) (h2 : ¬ slt v m) : ¬ slt (u ++ v) (l ++ m) := by
  unfold slt at *
  rw [List.length_append, List.length_append]
  rintro (h | ⟨e, h⟩)
  · have a1 : ¬ u.length < l.length := fun z => h1 (.inl z)
    have a2 : ¬ v.length < m.length := fun z => h2 (.inl z)
    omega
  · have a1 : ¬ u.length < l.length := fun z => h1 (.inl z)
    have a2 : ¬ v.length < m.length := fun z => h2 (.inl z)
    exact lt_same_len (by omega) (fun z => h1 (.inr ⟨by omega, z⟩)) (fun z => h2 (.inr ⟨by omega, z⟩)) h
theorem slt_tri {u v : List Nat} (h : ¬ slt u v) : v = u ∨ slt v u := by
  unfold slt at *
  rcases Nat.lt_trichotomy u.length v.length with c | c | c
  · exact absurd (.inl c) h
  · rcases Decidable.em (v < u) with z | z
    · exact .inr (.inr ⟨c.symm, z⟩)
    · exact .inl (List.le_antisymm (List.not_lt.mp fun w => h (.inr ⟨c, w⟩)) (List.not_lt.mp z))
  · exact .inr (.inl c)
theorem slt_trans {u v w : List Nat} (h1 : slt u v) (h2 : slt v w) : slt u w := by
  unfold slt at *
  rcases h1 with h1 | ⟨e1, h1⟩
  · rcases h2 with h2 | ⟨e2, h2⟩ <;> exact .inl (by omega)
  · rcases h2 with h2 | ⟨e2, h2⟩
    · exact .inl (by omega)
    · exact .inr ⟨by omega, List.lt_trans h1 h2⟩
/-- patterns whose signs rise -/
def Wf : Pat → Prop
  | .sg x => x.cps.toList ≠ [] ∧ x.cps.toList.Pairwise (· < ·) ∧ (∀ c, c ∈ x.cps.toList → c < 128)
  | .em => True
  | .th a b => Wf a ∧ Wf b
  | .oo a b => Wf a ∧ Wf b
  | .ag a => Wf a
  | .mo a => Wf a
  | .mb a => Wf a
noncomputable section
open Classical
def lesser (u v : List Nat) : List Nat := if slt v u then v else u
def least : Pat → List Nat
  | .sg x => x.cps.toList.take 1
  | .em => []
  | .th a b => least a ++ least b
  | .oo a b => lesser (least a) (least b)
  | .ag _ => []
  | .mo a => least a
  | .mb _ => []
def only : Pat → Option (List Nat)
  | .sg x => if x.cps.toList.length = 1 then some x.cps.toList else none
  | .em => some []
  | .th a b => match only a, only b with
    | some u, some v => some (u ++ v)
    | _, _ => none
  | .oo a b => if only a = only b then only a else none
  | .ag a => if only a = some [] then some [] else none
  | .mo a => if only a = some [] then some [] else none
  | .mb a => if only a = some [] then some [] else none
theorem not_slt_nil {w : List Nat} : ¬ slt w [] := by
  unfold slt
  rintro (h | ⟨h, g⟩)
  · exact absurd h (Nat.not_lt_zero _)
  · exact absurd g (List.not_lt_nil w)
theorem least_ok : ∀ {p : Pat}, Wf p → L p (least p) ∧ ∀ w, L p w → ¬ slt w (least p)
  | .sg x, h => by
    obtain ⟨h0, h1, _⟩ := h
    have e : least (.sg x) = x.cps.toList.take 1 := rfl
    cases ex : x.cps.toList with
    | nil => exact absurd ex h0
    | cons c l =>
      rw [ex] at h1 e
      have e' : least (.sg x) = [c] := e
      rw [e']
      refine ⟨L_sg.mpr ⟨c, by rw [ex]; exact List.mem_cons_self, rfl⟩, fun w hw => ?_⟩
      obtain ⟨d, hd, rfl⟩ := L_sg.mp hw
      rw [ex] at hd
      unfold slt
      rintro (h | ⟨_, h⟩)
      · exact absurd h (Nat.lt_irrefl _)
      · rcases List.mem_cons.mp hd with z | z
        · rw [z] at h; exact absurd h (List.lt_irrefl _)
        · have := (List.pairwise_cons.mp h1).1 d z
          rcases List.cons_lt_cons_iff.mp h with q | ⟨_, q⟩
          · omega
          · exact absurd q (List.lt_irrefl _)
  | .em, _ => ⟨L_em.mpr rfl, fun w _ => not_slt_nil⟩
  | .th a b, h => by
    obtain ⟨a1, a2⟩ := least_ok h.1
    obtain ⟨b1, b2⟩ := least_ok h.2
    refine ⟨L_th.mpr ⟨_, _, rfl, a1, b1⟩, fun w hw => ?_⟩
    obtain ⟨u, v, rfl, hu, hv⟩ := L_th.mp hw
    exact slt_app (a2 u hu) (b2 v hv)
  | .oo a b, h => by
    obtain ⟨a1, a2⟩ := least_ok h.1
    obtain ⟨b1, b2⟩ := least_ok h.2
    have e : least (.oo a b) = lesser (least a) (least b) := rfl
    rw [e]
    unfold lesser
    by_cases c : slt (least b) (least a)
    · rw [if_pos c]
      refine ⟨L_oo.mpr (.inr b1), fun w hw z => ?_⟩
      rcases L_oo.mp hw with q | q
      · exact a2 w q (slt_trans z c)
      · exact b2 w q z
    · rw [if_neg c]
      refine ⟨L_oo.mpr (.inl a1), fun w hw z => ?_⟩
      rcases L_oo.mp hw with q | q
      · exact a2 w q z
      · rcases slt_tri c with y | y
        · rw [y] at z; exact b2 w q z
        · exact b2 w q (slt_trans z y)
  | .ag a, _ => ⟨L_ag.mpr (.inl rfl), fun w _ => not_slt_nil⟩
  | .mo a, h => by
    obtain ⟨a1, a2⟩ := least_ok (p := a) h
    have e : least (.mo a) = least a := rfl
    rw [e]
    refine ⟨L_mo.mpr ⟨_, [], (List.append_nil _).symm, a1, L_ag.mpr (.inl rfl)⟩, fun w hw => ?_⟩
    obtain ⟨u, v, rfl, hu, hv⟩ := L_mo.mp hw
    have := slt_app (v := v) (m := []) (a2 u hu) not_slt_nil
    rw [List.append_nil] at this
    exact this
  | .mb a, _ => ⟨L_mb.mpr (.inl rfl), fun w _ => not_slt_nil⟩
theorem only_least : ∀ {p : Pat} {x : List Nat}, only p = some x → least p = x
  | .sg y, x, h => by
    have e : only (.sg y) = if y.cps.toList.length = 1 then some y.cps.toList else none := rfl
    rw [e] at h
    by_cases c : y.cps.toList.length = 1
    · rw [if_pos c] at h
      injection h with h
      show y.cps.toList.take 1 = x
      rw [← h, List.take_of_length_le (by omega)]
    · rw [if_neg c] at h; cases h
  | .em, x, h => by
    injection h with h
  | .th a b, x, h => by
    have e : only (.th a b) = match only a, only b with
      | some u, some v => some (u ++ v)
      | _, _ => none := rfl
    rw [e] at h
    cases ea : only a with
    | none => rw [ea] at h; cases h
    | some u =>
      cases eb : only b with
      | none => rw [ea, eb] at h; cases h
      | some v =>
        rw [ea, eb] at h
        injection h with h
        show least a ++ least b = x
        rw [only_least ea, only_least eb, h]
  | .oo a b, x, h => by
    have e : only (.oo a b) = if only a = only b then only a else none := rfl
    rw [e] at h
    by_cases c : only a = only b
    · rw [if_pos c] at h
      show lesser (least a) (least b) = x
      unfold lesser
      rw [only_least h, only_least (c ▸ h)]
      split <;> rfl
    · rw [if_neg c] at h; cases h
  | .ag a, x, h => by
    have e : only (.ag a) = if only a = some [] then some [] else none := rfl
    rw [e] at h
    by_cases c : only a = some []
    · rw [if_pos c] at h; injection h with h
    · rw [if_neg c] at h; cases h
  | .mo a, x, h => by
    have e : only (.mo a) = if only a = some [] then some [] else none := rfl
    rw [e] at h
    by_cases c : only a = some []
    · rw [if_pos c] at h
      injection h with h
      show least a = x
      rw [only_least c, h]
    · rw [if_neg c] at h; cases h
  | .mb a, x, h => by
    have e : only (.mb a) = if only a = some [] then some [] else none := rfl
    rw [e] at h
    by_cases c : only a = some []
    · rw [if_pos c] at h; injection h with h
    · rw [if_neg c] at h; cases h
/-- one text, the only one, or two -/
def Two (p : Pat) (ts : List (List Nat)) : Prop := (∃ x, only p = some x ∧ ts = [x]) ∨ (only p = none ∧ ts.length = 2 ∧ ts.Nodup)
end
end Pa
set_option maxHeartbeats 2000000
namespace Pa
open PySem PySem.Spec PyProof.Rows L2 Ty
abbrev top (i : Nat) : Stmt := PySem.Challenge.pw_tongueyard_k10_grammars_refused.main.body.getD i (.Pass ⟨0, 0, 0, 0⟩)
def inner (i : Nat) : Stmt → Stmt
  | .ClassDef _ _ _ body _ _ _ _ _ _ _ => body.getD i (.Pass ⟨0, 0, 0, 0⟩)
  | s => s
abbrev sName : Stmt := top 14
abbrev sTold : Stmt := top 16
abbrev sSpells : Stmt := top 18
abbrev sNone : Stmt := top 19
abbrev sSignsIn : Stmt := top 27
abbrev lPurse : Stmt := top 30
abbrev lDrawn : Stmt := top 31
abbrev lAll : Stmt := top 32
abbrev lNamed : Stmt := top 34
abbrev lPattern : Stmt := top 35
abbrev lBare : Stmt := top 36
abbrev lKinds : Stmt := top 37
abbrev lAlts : Stmt := top 38
abbrev lWorld : Stmt := top 39
abbrev lEdges : Stmt := top 40
abbrev lBars : Stmt := top 41
abbrev lStrange : Stmt := top 42
abbrev lNames : Stmt := top 43
abbrev lKBent : Stmt := top 44
abbrev lRBent : Stmt := top 45
abbrev lBBent : Stmt := top 46
abbrev lBent : Stmt := top 47
abbrev lBound : Stmt := top 48
abbrev lSigns : Stmt := top 49
abbrev lNone : Stmt := top 50
abbrev lMany : Stmt := top 51
abbrev lNameDue : Stmt := top 52
abbrev lDue : Stmt := top 53
abbrev lTold : Stmt := top 54
abbrev lLaw : Stmt := top 55
abbrev sInit : Stmt := inner 0 (top 17)
abbrev sEnds : Stmt := inner 1 (top 17)
abbrev sAnew : Stmt := inner 2 (top 17)
abbrev sAgain : Stmt := inner 3 (top 17)
abbrev gInit : Stmt := inner 0 (top 28)
abbrev gFew : Stmt := inner 1 (top 28)
abbrev gKinds : Stmt := inner 2 (top 28)
abbrev gRules : Stmt := inner 3 (top 28)
abbrev gLabel : Stmt := inner 4 (top 28)
abbrev gSymbols : Stmt := inner 5 (top 28)
abbrev gBars : Stmt := inner 6 (top 28)
abbrev gBegin : Stmt := inner 9 (top 28)
def Jar (j : Addr) (H : Hp) (C : Nat) : Prop := ∃ a b c : Int, H j = some (.lst [.int a, .int b, .int c]) ∧ b.natAbs < 2 ^ 210 ∧ 0 ≤ c ∧ c ≤ (C : Int)
theorem Jar.mono {j : Addr} {H : Hp} {C D : Nat} (h : Jar j H C) (l : C ≤ D) : Jar j H D := by
  obtain ⟨a, b, c, h1, h2, h3, h4⟩ := h
  exact ⟨a, b, c, h1, h2, h3, by omega⟩
theorem Jar.keep {j : Addr} {H H' : Hp} {C : Nat} (h : Jar j H C) (s : Same H H') : Jar j H' C := by
  obtain ⟨a, b, c, h1, h2⟩ := h
  exact ⟨a, b, c, s _ _ h1, h2⟩
theorem Jar.ne {j p : Addr} {H : Hp} {C : Nat} (h : Jar j H C) (n : H p = none) : p ≠ j := by
  obtain ⟨a, b, c, h1, _⟩ := h
  intro e
  rw [e, h1] at n
  cases n
def Acc (H1 : Hp) (D : Addr) (ys : List V) (H : Hp) : Prop := Same H1 H ∧ H D = some (.lst ys)
theorem Acc.nil {H : Hp} {D : Addr} (n : H D = none) : Acc H D [] (upd H D (.lst [])) := ⟨same_new n _, upd_same⟩
theorem Acc.push {H1 H : Hp} {D : Addr} {ys : List V} (a : Acc H1 D ys H) (n : H1 D = none) (y : V) : Acc H1 D (ys ++ [y]) (upd H D (.lst (ys ++ [y]))) :=
  ⟨fun b o e => by rw [upd_ne (ne_of_none e n)]; exact a.1 b o e, upd_same⟩
theorem Acc.same {H1 H H' : Hp} {D : Addr} {ys : List V} (a : Acc H1 D ys H) (s : Same H H') : Acc H1 D ys H' := ⟨a.1.trans s, s _ _ a.2⟩
theorem at_zero {α : Type} {x : α} {xs : List α} : atI (x :: xs) 0 = some x := by
  have : (0 : Int) < (((x :: xs).length : Nat) : Int) := by rw [List.length_cons]; omega
  unfold atI ixN
  rw [if_pos (Int.le_refl 0), if_pos this]
  rfl
theorem join_one : ∀ l : List Nat, Txt.join "" (l.map fun c => (⟨#[c]⟩ : Str)) = ⟨l.toArray⟩ := by
  intro l
  rw [TL.join_eq]
  induction l with
  | nil => rfl
  | cons c l ih =>
    cases l with
    | nil => rfl
    | cons d l =>
      show (⟨#[c]⟩ : Str) ++ "" ++ Str.join "" ((d :: l).map fun c => (⟨#[c]⟩ : Str)) = _
      rw [ih]
      refine str_of_list ?_
      rw [Str.cps_append, Array.toList_append, Str.cps_append, Array.toList_append]
      rfl
theorem sIx_one {n : Nat} : HT.sIx (n + 1) 0 (some 1) = 1 := by
  unfold HT.sIx
  simp
theorem cut_tail {v : V} {vs : List V} : cutV (v :: vs) (some 1) none = vs := by
  unfold cutV
  rw [List.length_cons, sIx_one]
  show List.take (vs.length + 1 - 1) (List.drop 1 (v :: vs)) = vs
  rw [Nat.add_sub_cancel]
  exact List.take_length
section
variable {X : Cx}
theorem same_refl {H : Hp} : Same H H := fun b o h => h
theorem new_ne {H H' : Hp} {p j : Addr} (s : Same H H') (hp : H' p = none) (hj : H j ≠ none) : p ≠ j := by
  intro e
  subst e
  cases q : H p with
  | none => exact hj q
  | some o => rw [s _ _ q] at hp; cases hp
theorem at_in {α : Type} {l : List α} {i : Int} (h0 : 0 ≤ i) (h1 : i < (l.length : Nat)) : ∃ x, atI l i = some x ∧ l[i.toNat]? = some x := by
  have h2 : i.toNat < l.length := by omega
  refine ⟨l[i.toNat], ?_, List.getElem?_eq_getElem h2⟩
  unfold atI ixN
  rw [if_pos h0, if_pos h1]
  exact List.getElem?_eq_getElem h2
theorem Jar.some {j : Addr} {H : Hp} {C : Nat} (h : Jar j H C) : H j ≠ none := by
  obtain ⟨a, b, c, h1, _⟩ := h
  rw [h1]
  simp
end
theorem Keep.lst {j p : Addr} {H H' : Hp} {xs : List V} (k : Keep j H H') (n : p ≠ j) (e : H p = some (.lst xs)) : H' p = some (.lst xs) := k _ _ n e
def Ones (ys : List Str) : Prop := ∀ y, y ∈ ys → ∃ c, c < 128 ∧ y = ⟨#[c]⟩
theorem Ones.codes : ∀ {ys : List Str}, Ones ys → ∃ l : List Nat, ys = l.map (fun c => (⟨#[c]⟩ : Str)) ∧ ∀ c, c ∈ l → c < 128
  | [], _ => ⟨[], rfl, fun _ h => by cases h⟩
  | y :: ys, h => by
    obtain ⟨c, hc, rfl⟩ := h y List.mem_cons_self
    obtain ⟨l, rfl, hl⟩ := Ones.codes (ys := ys) fun z hz => h z (List.mem_cons_of_mem _ hz)
    exact ⟨c :: l, rfl, fun d hd => by
      rcases List.mem_cons.mp hd with e | e
      · rw [e]; exact hc
      · exact hl d e⟩
theorem ones_sum : ∀ l : List Nat, ((l.map (fun c => (⟨#[c]⟩ : Str))).map (·.length)).sum = l.length
  | [] => rfl
  | c :: l => by
    rw [List.map_cons, List.map_cons, List.sum_cons, ones_sum l, List.length_cons]
    show 1 + _ = _
    omega
theorem cut_to {xs : List V} {b : Nat} : cutV xs none (some (b : Nat)) = xs.take b := by
  unfold cutV
  rw [HT.sIx_nat]
  show List.take (min b xs.length - 0) (List.drop 0 xs) = _
  rw [Nat.sub_zero, List.drop_zero]
  by_cases h : b ≤ xs.length
  · rw [Nat.min_eq_left h]
  · rw [Nat.min_eq_right (by omega), List.take_length, List.take_of_length_le (by omega)]
theorem cut_from {xs : List V} {b : Nat} : cutV xs (some (b : Nat)) none = xs.drop b := by
  unfold cutV
  rw [HT.sIx_nat]
  show List.take (xs.length - min b xs.length) _ = _
  rw [List.take_of_length_le (by rw [List.length_drop]; exact Nat.le_refl _)]
  by_cases h : b ≤ xs.length
  · rw [Nat.min_eq_left h]
  · rw [Nat.min_eq_right (by omega), List.drop_length, List.drop_eq_nil_of_le (by omega)]
theorem not_in {j a b : Addr} (h1 : a ≠ j) (h2 : b ≠ j) : j ∉ [a, b] := by simp [Ne.symm h1, Ne.symm h2]
theorem not_in1 {j a : Addr} (h1 : a ≠ j) : j ∉ [a] := by simp [Ne.symm h1]
structure Good (j : Addr) (H0 H : Hp) (C : Nat) : Prop where
  jar : Jar j H C
  keep : Keep j H0 H
theorem Good.same {j : Addr} {H0 H H' : Hp} {C : Nat} (g : Good j H0 H C) (s : Same H H') : Good j H0 H' C := ⟨g.jar.keep s, g.keep.trans (Keep.of_same s)⟩
theorem Good.on {j : Addr} {H0 H H' : Hp} {C C' : Nat} (g : Good j H0 H C) (k : Keep j H H') (jr : Jar j H' C') : Good j H0 H' C' := ⟨jr, g.keep.trans k⟩
theorem Good.new {j : Addr} {H0 H : Hp} {C : Nat} (g : Good j H0 H C) {p : Addr} (hp : H p = none) (o : HO) : Good j H0 (upd H p o) C := g.same (same_new hp o)
theorem Good.got {j p : Addr} {H0 H : Hp} {C : Nat} (g : Good j H0 H C) {as : List Addr} (n : ∀ j, H j ≠ none → j ∉ as → p ≠ j) (h : j ∉ as) : p ≠ j := n j g.jar.some h
theorem _root_.Pa.Jar.upd {j p : Addr} {H : Hp} {C : Nat} {o : HO} (h : Jar j H C) (n : p ≠ j) : Jar j (upd H p o) C := by
  obtain ⟨a, b, c, h1, h2⟩ := h
  exact ⟨a, b, c, by rw [upd_ne (Ne.symm n)]; exact h1, h2⟩
theorem _root_.Ty.Keep.upd {j p : Addr} {H H' : Hp} {o : HO} (k : Keep j H H') (n : H p = none) : Keep j H (upd H' p o) := fun b u nb e => by
  rw [upd_ne (ne_of_none e n)]
  exact k b u nb e
theorem same_upd {H H' : Hp} {p : Addr} {o : HO} (s : Same H H') (n : H p = none) : Same H (upd H' p o) := fun b u e => by
  rw [upd_ne (ne_of_none e n)]
  exact s b u e
theorem new_back {j p : Addr} {H H' : Hp} (k : Keep j H H') (n : p ≠ j) (h : H' p = none) : H p = none := by
  cases e : H p with
  | none => rfl
  | some o => rw [k p o n e] at h; cases h
def Tk (H H' : Hp) : Prop := ∀ c xs, H c = some (.tup xs) → H' c = some (.tup xs)
theorem Tk.trans {H H1 H2 : Hp} (a : Tk H H1) (b : Tk H1 H2) : Tk H H2 := fun c xs e => b c xs (a c xs e)
theorem Tk.of_same {H H' : Hp} (s : Same H H') : Tk H H' := fun c xs e => s _ _ e
theorem Tk.of_keep {j : Addr} {H H' : Hp} {C : Nat} (jr : Jar j H C) (k : Keep j H H') : Tk H H' := by
  obtain ⟨x, y, z, h, _⟩ := jr
  exact fun c xs e => k c _ (fun q => by rw [q, h] at e; cases e) e
theorem Tk.lst {H : Hp} {a : Addr} {xs : List V} {o : HO} (e : H a = some (.lst xs)) : Tk H (upd H a o) :=
  fun c ys h => by rw [upd_ne (fun q => by rw [q, e] at h; cases h)]; exact h
theorem paired_imp {α β : Type} {P Q : α → β → Prop} (f : ∀ x y, P x y → Q x y) : ∀ {l : List α} {m : List β}, Paired P l m → Paired Q l m
  | _, _, .nil => .nil
  | _, _, .cons h t => .cons (f _ _ h) (paired_imp f t)
theorem paired_snoc {α β : Type} {P : α → β → Prop} : ∀ {l : List α} {m : List β} {x : α} {y : β}, Paired P l m → P x y → Paired P (l ++ [x]) (m ++ [y])
  | _, _, _, _, .nil, h => .cons h .nil
  | _, _, _, _, .cons h t, h2 => .cons h (paired_snoc t h2)
theorem paired_app {α β : Type} {P : α → β → Prop} : ∀ {l l' : List α} {m m' : List β}, Paired P l m → Paired P l' m' → Paired P (l ++ l') (m ++ m')
  | _, _, _, _, .nil, h => h
  | _, _, _, _, .cons h t, h2 => .cons h (paired_app t h2)
theorem paired_get {α β : Type} {P : α → β → Prop} : ∀ {l : List α} {m : List β}, Paired P l m → ∀ (i : Nat) (x : α), l[i]? = some x → ∃ y, m[i]? = some y ∧ P x y
  | _, _, .nil, i, x, h => by simp at h
  | _, _, .cons r t, 0, x, h => by
    simp at h
    subst h
    exact ⟨_, rfl, r⟩
  | _, _, .cons r t, i + 1, x, h => paired_get t i x (by simpa using h)
theorem paired_rev {α β : Type} {P : α → β → Prop} : ∀ {l : List α} {m : List β}, Paired P l m → ∀ (i : Nat) (y : β), m[i]? = some y → ∃ x, l[i]? = some x ∧ P x y
  | _, _, .nil, i, x, h => by simp at h
  | _, _, .cons r t, 0, x, h => by
    simp at h
    subst h
    exact ⟨_, rfl, r⟩
  | _, _, .cons r t, i + 1, x, h => paired_rev t i x (by simpa using h)
/-- a while by what holds between two turns, told with what falls -/
theorem while_inv {c : TT} {tb : TS} {D : Ends} {σ : L2.St} {H : Hp} (Pv : Nat → L2.St → Hp → Prop) (h0 : ∃ m, Pv m σ H)
    (hs : ∀ m σ H, Pv m σ H → c σ H fun b H1 => if b = true then ∃ N : L2.St → Hp → Prop, (∀ σ' H', N σ' H' → ∃ m', m' < m ∧ Pv m' σ' H') ∧ tb { D with nx := N, ct := N, bk := D.nx } σ H1 else D.nx σ H1) : tWhile c tb D σ H := ⟨Pv, h0, hs⟩
/-! ### any list against an empty one -/
def rEqL0 (ne : Bool) : R2 := fun x y H Q => ∃ (a b : Addr) (xs : List V), x = .ref a ∧ y = .ref b ∧ H a = some (.lst xs) ∧ H b = some (.lst []) ∧ Q (.bl (if ne then !xs.isEmpty else xs.isEmpty)) H
section
variable {X : Cx}
theorem op_eqL0 (hu : X.A.units + 64 < cLine) : OpR X (compareOp .Eq) (rEqL0 false) := by
  intro pins s σ H x y v u Q I rx ry h
  obtain ⟨a, b, xs, rfl, rfl, ha, hb, q⟩ := h
  cases xs with
  | nil => exact op_eqD hu pins s σ H _ _ v u Q I rx ry ⟨.list [], .list [], .lst (SqL.of ha) .nil, .lst (SqL.of hb) .nil, rfl, rfl, q⟩
  | cons z zs =>
    obtain rfl : v = Value.ref a := rx
    obtain rfl : u = Value.ref b := ry
    obtain ⟨hz1, its, n1, rv1, ho1⟩ := I.hok a _ ha
    obtain ⟨hz2, its2, n2, rv2, ho2⟩ := I.hok b _ hb
    have l1 : its.length = zs.length + 1 := by rw [← rv1.length, List.length_cons]
    have l2 : its2.length = 0 := by rw [← rv2.length, List.length_nil]
    refine PySem.P.eq_list_lengths ho1 ho2 ?_ (by omega) ⟨.bl false, H, I, rfl, q⟩
    rw [List.size_toArray, List.size_toArray, l1, l2]
    exact bne_iff_ne.mpr (by omega)
theorem op_neL0 (hu : X.A.units + 64 < cLine) : OpR X (compareOp .NotEq) (rEqL0 true) := by
  intro pins s σ H x y v u Q I rx ry h
  obtain ⟨a, b, xs, rfl, rfl, ha, hb, q⟩ := h
  cases xs with
  | nil => exact op_neD hu pins s σ H _ _ v u Q I rx ry ⟨.list [], .list [], .lst (SqL.of ha) .nil, .lst (SqL.of hb) .nil, rfl, rfl, q⟩
  | cons z zs =>
    obtain rfl : v = Value.ref a := rx
    obtain rfl : u = Value.ref b := ry
    obtain ⟨hz1, its, n1, rv1, ho1⟩ := I.hok a _ ha
    obtain ⟨hz2, its2, n2, rv2, ho2⟩ := I.hok b _ hb
    have l1 : its.length = zs.length + 1 := by rw [← rv1.length, List.length_cons]
    have l2 : its2.length = 0 := by rw [← rv2.length, List.length_nil]
    refine SeqAt.RcNeAt.lists_lengths (A := X.A) (s := s) ⟨_, ho1, rfl, n1, rfl⟩ ⟨_, ho2, rfl, n2, rfl⟩ ?_ (by omega) X.prog X.w _ _ ?_
    · rw [List.size_toArray, List.size_toArray, l1, l2]
      exact bne_iff_ne.mpr (by omega)
    · exact ⟨.bl true, H, I, rfl, q⟩
end
/-! ### patterns in the heap -/
def wordP : Pat → Str
  | .sg _ => "signs"
  | .em => "empty"
  | .th _ _ => "then"
  | .oo _ _ => "or"
  | .ag _ => "again"
  | .mo _ => "more"
  | .mb _ => "maybe"
def partsP : Pat → List Pat
  | .sg _ => []
  | .em => []
  | .th a b => [a, b]
  | .oo a b => [a, b]
  | .ag a => [a]
  | .mo a => [a]
  | .mb a => [a]
def signsP : Pat → Str
  | .sg x => x
  | _ => Str.empty
def sizeP : Pat → Nat
  | .sg _ => 1
  | .em => 1
  | .th a b => sizeP a + sizeP b + 1
  | .oo a b => sizeP a + sizeP b + 1
  | .ag a => sizeP a + 1
  | .mo a => sizeP a + 1
  | .mb a => sizeP a + 1
def deepP : Pat → Nat
  | .sg _ => 1
  | .em => 1
  | .th a b => max (deepP a) (deepP b) + 1
  | .oo a b => max (deepP a) (deepP b) + 1
  | .ag a => deepP a + 1
  | .mo a => deepP a + 1
  | .mb a => deepP a + 1
def RP (H : Hp) : Pat → V → Prop
  | .sg x, v => ∃ a, v = .ref a ∧ H a = some (.tup [.str "signs", .str x])
  | .em, v => ∃ a, v = .ref a ∧ H a = some (.tup [.str "empty"])
  | .th p q, v => ∃ a u w, v = .ref a ∧ H a = some (.tup [.str "then", u, w]) ∧ RP H p u ∧ RP H q w
  | .oo p q, v => ∃ a u w, v = .ref a ∧ H a = some (.tup [.str "or", u, w]) ∧ RP H p u ∧ RP H q w
  | .ag p, v => ∃ a u, v = .ref a ∧ H a = some (.tup [.str "again", u]) ∧ RP H p u
  | .mo p, v => ∃ a u, v = .ref a ∧ H a = some (.tup [.str "more", u]) ∧ RP H p u
  | .mb p, v => ∃ a u, v = .ref a ∧ H a = some (.tup [.str "maybe", u]) ∧ RP H p u
theorem RP.tk {H H' : Hp} (k : Tk H H') : ∀ {p : Pat} {v : V}, RP H p v → RP H' p v
  | .sg x, v, h => by obtain ⟨a, e, h⟩ := h; exact ⟨a, e, k _ _ h⟩
  | .em, v, h => by obtain ⟨a, e, h⟩ := h; exact ⟨a, e, k _ _ h⟩
  | .th p q, v, h => by obtain ⟨a, u, w, e, h, r1, r2⟩ := h; exact ⟨a, u, w, e, k _ _ h, RP.tk k r1, RP.tk k r2⟩
  | .oo p q, v, h => by obtain ⟨a, u, w, e, h, r1, r2⟩ := h; exact ⟨a, u, w, e, k _ _ h, RP.tk k r1, RP.tk k r2⟩
  | .ag p, v, h => by obtain ⟨a, u, e, h, r1⟩ := h; exact ⟨a, u, e, k _ _ h, RP.tk k r1⟩
  | .mo p, v, h => by obtain ⟨a, u, e, h, r1⟩ := h; exact ⟨a, u, e, k _ _ h, RP.tk k r1⟩
  | .mb p, v, h => by obtain ⟨a, u, e, h, r1⟩ := h; exact ⟨a, u, e, k _ _ h, RP.tk k r1⟩
def RPs (H : Hp) (vs : List V) (ps : List Pat) : Prop := Paired (fun v p => RP H p v) vs ps
theorem RPs.tk {H H' : Hp} {vs : List V} {ps : List Pat} (r : RPs H vs ps) (k : Tk H H') : RPs H' vs ps := paired_imp (fun _ _ r => r.tk k) r
theorem word_ne {p : Pat} (h : ∀ x, p ≠ .sg x := by intro x e; cases e) : wordP p ≠ "signs" := by
  cases p with
  | sg x => exact absurd rfl (h x)
  | em => exact (by decide +kernel : ("empty" : Str) ≠ "signs")
  | th a b => exact (by decide +kernel : ("then" : Str) ≠ "signs")
  | oo a b => exact (by decide +kernel : ("or" : Str) ≠ "signs")
  | ag a => exact (by decide +kernel : ("again" : Str) ≠ "signs")
  | mo a => exact (by decide +kernel : ("more" : Str) ≠ "signs")
  | mb a => exact (by decide +kernel : ("maybe" : Str) ≠ "signs")
/-- one layer of a pattern -/
theorem RP.open {H : Hp} : ∀ {p : Pat} {v : V}, RP H p v → ∃ a vs, v = .ref a ∧ H a = some (.tup (.str (wordP p) :: vs)) ∧ ((∃ x, p = .sg x ∧ vs = [.str x]) ∨ (wordP p ≠ "signs" ∧ signsP p = Str.empty ∧ RPs H vs (partsP p)))
  | .sg x, v, h => by obtain ⟨a, e, h⟩ := h; exact ⟨a, _, e, h, .inl ⟨x, rfl, rfl⟩⟩
  | .em, v, h => by obtain ⟨a, e, h⟩ := h; exact ⟨a, _, e, h, .inr ⟨(by decide +kernel), rfl, .nil⟩⟩
  | .th p q, v, h => by obtain ⟨a, u, w, e, h, r1, r2⟩ := h; exact ⟨a, _, e, h, .inr ⟨word_ne, rfl, .cons r1 (.cons r2 .nil)⟩⟩
  | .oo p q, v, h => by obtain ⟨a, u, w, e, h, r1, r2⟩ := h; exact ⟨a, _, e, h, .inr ⟨word_ne, rfl, .cons r1 (.cons r2 .nil)⟩⟩
  | .ag p, v, h => by obtain ⟨a, u, e, h, r1⟩ := h; exact ⟨a, _, e, h, .inr ⟨word_ne, rfl, .cons r1 .nil⟩⟩
  | .mo p, v, h => by obtain ⟨a, u, e, h, r1⟩ := h; exact ⟨a, _, e, h, .inr ⟨word_ne, rfl, .cons r1 .nil⟩⟩
  | .mb p, v, h => by obtain ⟨a, u, e, h, r1⟩ := h; exact ⟨a, _, e, h, .inr ⟨word_ne, rfl, .cons r1 .nil⟩⟩
theorem dec_str (x y : Str) : decide (V.str x = V.str y) = decide (x = y) := by
  by_cases h : x = y
  · rw [h]; simp
  · rw [decide_eq_false h, decide_eq_false fun e => h (V.str.inj e)]
theorem dec_int (n m : Int) : decide (V.int n = V.int m) = decide (n = m) := by
  by_cases h : n = m
  · rw [h]; simp
  · rw [decide_eq_false h, decide_eq_false fun e => h (V.int.inj e)]
end Pa
set_option maxHeartbeats 2000000
namespace Pa
open PySem PySem.Spec PyProof.Rows L2 Ty
/-! ### parts_told -/
def Fwd (rows : List Pat) (kids : List Nat) (ps : List Pat) : Prop := Paired (fun k q => rows[k]? = some q) kids ps
def natsV (ks : List Nat) : List V := ks.map fun k : Nat => V.int (k : Nat)
def Node (ne : Addr → Prop) (H : Hp) (rows : List Pat) (v : V) (p : Pat) : Prop := ∃ a b kids, v = .ref a ∧ H a = some (.tup [.str (wordP p), .str (signsP p), .ref b]) ∧ H b = some (.lst (natsV kids)) ∧ Fwd rows kids (partsP p) ∧ ne b
theorem Node.at {ne : Addr → Prop} {H H' : Hp} {rows rows' : List Pat} {v : V} {p : Pat} (n : Node ne H rows v p) (k1 : Tk H H') (k2 : ∀ c xs, ne c → H c = some (.lst xs) → H' c = some (.lst xs)) (hr : ∀ (k : Nat) (q : Pat), rows[k]? = some q → rows'[k]? = some q) : Node ne H' rows' v p := by
  obtain ⟨a, b, kids, e, h1, h2, h3, h4⟩ := n
  exact ⟨a, b, kids, e, k1 _ _ h1, k2 _ _ h4 h2, paired_imp (fun k q => hr k q) h3, h4⟩
theorem Node.mono {ne ne' : Addr → Prop} {H : Hp} {rows : List Pat} {v : V} {p : Pat} (n : Node ne H rows v p) (h : ∀ c, ne c → ne' c) : Node ne' H rows v p := by
  obtain ⟨a, b, kids, e, h1, h2, h3, h4⟩ := n
  exact ⟨a, b, kids, e, h1, h2, h3, h _ h4⟩
theorem size_pos (p : Pat) : 1 ≤ sizeP p := by cases p <;> (unfold sizeP; omega)
def sumP (ps : List Pat) : Nat := (ps.map sizeP).sum
theorem sumP_cons (p : Pat) (ps : List Pat) : sumP (p :: ps) = sizeP p + sumP ps := by unfold sumP; rw [List.map_cons, List.sum_cons]
theorem sumP_app (ps qs : List Pat) : sumP (ps ++ qs) = sumP ps + sumP qs := by unfold sumP; rw [List.map_append, List.sum_append]
theorem size_parts : ∀ p : Pat, sizeP p = sumP (partsP p) + 1
  | .sg _ => rfl
  | .em => rfl
  | .th a b => by show sizeP a + sizeP b + 1 = (sizeP a + (sizeP b + 0)) + 1; omega
  | .oo a b => by show sizeP a + sizeP b + 1 = (sizeP a + (sizeP b + 0)) + 1; omega
  | .ag a => rfl
  | .mo a => rfl
  | .mb a => rfl
theorem sumP_len : ∀ ps : List Pat, ps.length ≤ sumP ps
  | [] => Nat.le_refl _
  | p :: ps => by
    have := sumP_len ps
    have := size_pos p
    rw [sumP_cons, List.length_cons]; omega
theorem fwd_new (rows : List Pat) : ∀ (ps : List Pat) (k : Nat) (rest : List Pat), k = rows.length → Fwd (rows ++ (ps ++ rest)) ((List.range ps.length).map (k + ·)) ps
  | [], k, rest, _ => .nil
  | p :: ps, k, rest, hk => by
    rw [List.length_cons, List.range_succ_eq_map, List.map_cons, List.map_map]
    refine .cons ?_ ?_
    · subst hk
      rw [Nat.add_zero, List.getElem?_append_right (Nat.le_refl _), Nat.sub_self]
      rfl
    · have h := fwd_new (rows ++ [p]) ps (k + 1) rest (by rw [List.length_append, hk]; rfl)
      rw [List.append_assoc] at h
      have e : ((fun x => k + x) ∘ Nat.succ) = (fun x => k + 1 + x) := by
        funext x
        show k + (x + 1) = k + 1 + x
        omega
      rw [e]
      exact h
theorem rgV_nats (k n : Nat) : rgV (k : Int) ((k : Int) + (n : Int)) = natsV ((List.range n).map (k + ·)) := by
  unfold rgV natsV
  have e : ((k : Int) + (n : Int) - (k : Int)).toNat = n := by omega
  rw [e, List.map_map]
  exact List.map_congr_left fun i _ => rfl
def spTold : Sp := fun vs H Q _ => ∃ v p, vs = [v] ∧ RP H p v ∧ sizeP p ≤ 1000 ∧ ∀ fl nv rows H', H fl = none → Same H H' → H' fl = some (.lst nv) → Paired (Node (fun b => H b = none) H' rows) nv rows → rows[0]? = some p → rows.length ≤ 1000 → Q (.ref fl) H'
theorem scTold : FnScope ["pattern", "rows", "found", "word", "parts"] ["pattern"] (defScope sTold) := ⟨rfl, rfl, rfl, by decide +kernel, rfl, by decide +kernel, by decide +kernel⟩
section
variable {P : Program} {w : World} {K : PySem.W.Frag} {mg : Str → Option Value} {base : Heap} {f g : Addr} {fd gd : FuncData}
theorem ok_told (F : Fun K "parts_told" "parts_told" sTold f fd) (ml : mg "len" = none) (mll : mg "list" = none) (mr : mg "range" = none) : FnOk P w K mg base CX0 1 f fd ["pattern"] spTold := by
  refine F.ok scTold (fun vs H Q E h => ?_) (fun cdv A outer s H vs Q E hr h => ?_)
  · obtain ⟨v, p, rfl, _⟩ := h
    rfl
  obtain ⟨v, p, rfl, rp, hz, q⟩ := h
  refine ⟨_, pss_cons (ps_set (i := 1) scTold.nd rfl (.inl rfl) (pe_lst (pa_cons (pv 0) pa_nil)))
    (pss_cons (ps_set (i := 2) scTold.nd rfl (.inl rfl) (pe_lst pa_nil))
    (pss_cons (ps_while PassesOwn.never (pt_cmpR op_lt (pe_callB call_len_seq rfl ml PySem.boot_len (pa_cons (pv 2) pa_nil)) (pe_callB call_len_seq rfl ml PySem.boot_len (pa_cons (pv 1) pa_nil)) (nomark _))
      (pss_cons (ps_asg (pe_ix ix_list (pv 1) (pe_callB call_len_seq rfl ml PySem.boot_len (pa_cons (pv 2) pa_nil)) (fun _ _ => rfl)) (pg_star1 rfl (pg_name (i := 3) scTold.nd rfl (.inl rfl)) (pg_name (i := 4) scTold.nd rfl (.inl rfl))))
      (pss_one (ps_if (pt_cmpR op_eq (pv 3) pe_str (nomark _))
        (pss_one (ps_expr (pe_bm PySem.F.plainAttrs_list PySem.F.slot_list_append PySem.F.type_list_append mt_append (pv 2) (pa_cons (pe_tup (pa_cons (pv 3) (pa_cons (pe_ix ix_list (pv 4) pe_int (fun _ _ => rfl)) (pa_cons (pe_lst pa_nil) pa_nil)))) pa_nil))))
        (pss_cons (ps_expr (pe_bm PySem.F.plainAttrs_list PySem.F.slot_list_append PySem.F.type_list_append mt_append (pv 2) (pa_cons (pe_tup (pa_cons (pv 3) (pa_cons pe_str (pa_cons
            (pe_listRg rfl rfl mll (prg_2 rfl mr (pe_callB call_len_seq rfl ml PySem.boot_len (pa_cons (pv 1) pa_nil)) (pe_op op_add (pe_callB call_len_seq rfl ml PySem.boot_len (pa_cons (pv 1) pa_nil)) (pe_callB call_len_seq rfl ml PySem.boot_len (pa_cons (pv 4) pa_nil))))) pa_nil)))) pa_nil)))
        (pss_one (ps_expr (pe_bm PySem.F.plainAttrs_list PySem.F.slot_list_extend PySem.F.type_list_extend mt_extend (pv 1) (pa_cons (pv 4) pa_nil)))))))))
    (pss_one (ps_ret (pv 2))))), ?_⟩
  refine ⟨_, rfl, (by show 1 ≤ sizeLine; decide), fun ra hra => ⟨(by show 0 ≤ sizeLine; decide), fun fa hfa => ?_⟩⟩
  have s1 := same_new hra (.lst [v])
  have s2 := same_new hfa (.lst [])
  have af : ra ≠ fa := ne_of_none upd_same hfa
  have hfaH : H fa = none := by rw [upd_ne (Ne.symm af)] at hfa; exact hfa
  refine while_inv (fun m σ H' => ∃ rows rv nv x3 x4, σ = [some v, some (.ref ra), some (.ref fa), x3, x4] ∧ H' ra = some (.lst rv) ∧ RPs H' rv rows ∧ H' fa = some (.lst nv) ∧ nv.length ≤ rows.length ∧
      Paired (Node (fun b => H b = none ∧ b ≠ ra ∧ b ≠ fa) H' rows) nv (rows.take nv.length) ∧ m = sumP (rows.drop nv.length) ∧ nv.length + m = sizeP p ∧ rows[0]? = some p ∧ Same H H')
    ⟨sizeP p, [p], [v], [], _, _, rfl, (by rw [upd_ne af]; exact upd_same), .cons (rp.tk (Tk.of_same (s1.trans s2))) .nil, upd_same, Nat.zero_le _, .nil, (by show _ = sizeP p + 0; omega), (by show 0 + _ = _; omega), rfl, s1.trans s2⟩ (fun m σ H' pv' => ?_)
  obtain ⟨rows, rv, nv, x3, x4, rfl, era, hrp, efa, hle, hnd, hm, hmz, h0, sm⟩ := pv'
  have lrv := Paired.length hrp
  have lrows : rows.length ≤ 1000 := by
    have h1 := sumP_len (rows.drop nv.length)
    rw [List.length_drop] at h1
    omega
  refine ⟨_, rfl, fa, _, rfl, .inl (SqL.of efa), _, rfl, ra, _, rfl, .inl (SqL.of era), _, _, rfl, rfl, _, rfl, ?_⟩
  by_cases c : nv.length < rv.length
  case neg =>
    have e1 : decide (((nv.length : Nat) : Int) < ((rv.length : Nat) : Int)) = false := decide_eq_false (by omega)
    rw [e1]
    refine iteF ?_
    have hn : nv.length = rows.length := by omega
    rw [hn, List.take_length] at hnd
    exact ⟨_, rfl, q fa nv rows H' hfaH sm efa (paired_imp (fun _ _ n => n.mono fun c h => h.1) hnd) h0 lrows⟩
  have e1 : decide (((nv.length : Nat) : Int) < ((rv.length : Nat) : Int)) = true := decide_eq_true (by omega)
  rw [e1]
  refine iteT ?_
  have hlt : nv.length < rows.length := by omega
  obtain ⟨u, hu, rpu⟩ := paired_rev hrp nv.length rows[nv.length] (List.getElem?_eq_getElem hlt)
  have hdrop : rows.drop nv.length = rows[nv.length] :: rows.drop (nv.length + 1) := List.drop_eq_getElem_cons hlt
  have hgn : rows[nv.length]? = some rows[nv.length] := List.getElem?_eq_getElem hlt
  rw [hdrop, sumP_cons] at hm
  have hsz := size_parts rows[nv.length]
  generalize rows[nv.length] = pn at hu rpu hm hsz hgn
  obtain ⟨a, vs, rfl, ha, hcase⟩ := rpu.open
  have htake : rows.take (nv.length + 1) = rows.take nv.length ++ [pn] := by rw [List.take_add_one, hgn]; rfl
  have lvs : vs.length ≤ 16000 := by
    rcases hcase with ⟨x, _, rfl⟩ | ⟨_, _, hp⟩
    · show 1 ≤ 16000; decide
    · have := Paired.length hp
      have h2 : (partsP pn).length ≤ 2 := by cases pn <;> (show _ ≤ 2) <;> simp [partsP]
      omega
  refine ⟨fun σ' H'' => ∃ m', m' < m ∧ _, fun _ _ h => h, ?_⟩
  refine ⟨_, rfl, _, rfl, fa, _, rfl, .inl (SqL.of efa), ra, _, _, _, rfl, rfl, SqL.of era, atI_nat hu, a, _, vs, rfl, SqT.of ha, lvs, fun D hD => ?_⟩
  have sD := same_new hD (.lst vs)
  have Dra : D ≠ ra := fun e => by rw [e, era] at hD; cases hD
  have Dfa : D ≠ fa := fun e => by rw [e, efa] at hD; cases hD
  refine ⟨_, rfl, rfl, _, rfl, ?_⟩
  rw [dec_str]
  rcases hcase with ⟨x, rfl, rfl⟩ | ⟨hw, hs, hps⟩
  · rw [show decide (wordP (.sg x) = "signs") = true from decide_eq_true rfl]
    refine iteT ?_
    refine ⟨_, rfl, .inl ⟨rfl, _, SqL.of (sD _ _ efa)⟩, _, rfl, _, rfl, D, _, _, _, rfl, rfl, SqL.of upd_same, at_zero, (by show 0 ≤ sizeLine; decide), fun b hb => ⟨(by show 3 ≤ sizeLine; decide), fun t ht => ?_⟩⟩
    have s3 := same_new hb (.lst [])
    have s4 := same_new ht (.tup [.str (wordP (.sg x)), .str x, .ref b])
    have sA : Same H' _ := sD.trans (s3.trans s4)
    have efa4 := sA _ _ efa
    refine ⟨fa, _, _, rfl, rfl, efa4, by rw [sizeLine_eq]; omega, ?_⟩
    have bra : b ≠ ra := fun e => by rw [e, sD _ _ era] at hb; cases hb
    have bfa : b ≠ fa := fun e => by rw [e, sD _ _ efa] at hb; cases hb
    have bH : H b = none := by
      cases e : H b with
      | none => rfl
      | some o => rw [sD _ _ (sm _ _ e)] at hb; cases hb
    have tk := (Tk.of_same sA).trans (Tk.lst (o := .lst (nv ++ [.ref t])) efa4)
    have k2 : ∀ c xs, (H c = none ∧ c ≠ ra ∧ c ≠ fa) → H' c = some (.lst xs) → (upd (upd (upd (upd H' D (.lst [.str x])) b (.lst [])) t (.tup [.str (wordP (.sg x)), .str x, .ref b])) fa (.lst (nv ++ [.ref t]))) c = some (.lst xs) := fun c xs h e => by
      rw [upd_ne h.2.2]; exact sA _ _ e
    refine ⟨sumP (rows.drop (nv.length + 1)), by omega, rows, rv, nv ++ [.ref t], _, _, rfl, by rw [upd_ne af]; exact sA _ _ era, hrp.tk tk, upd_same, by rw [List.length_append]; show nv.length + 1 ≤ _; omega, ?_, by rw [List.length_append]; rfl, ?_, h0, same_upd (sm.trans sA) hfaH⟩
    · rw [List.length_append]
      show Paired _ _ (rows.take (nv.length + 1))
      rw [htake]
      refine paired_snoc (paired_imp (fun _ _ n => n.at tk k2 fun _ _ h => h) hnd) ⟨t, b, [], rfl, Tk.lst efa4 _ _ upd_same, ?_, .nil, bH, bra, bfa⟩
      rw [upd_ne bfa]
      exact s4 _ _ upd_same
    · rw [List.length_append]
      show nv.length + 1 + _ = _
      have : sumP (partsP (.sg x)) = 0 := rfl
      omega
  · rw [decide_eq_false hw]
    refine iteF ?_
    have lps := Paired.length hps
    have l2 : (partsP pn).length ≤ 2 := by cases pn <;> (show _ ≤ 2) <;> simp [partsP]
    have eraD := sD _ _ era
    refine ⟨_, rfl, .inl ⟨rfl, _, SqL.of (sD _ _ efa)⟩, _, rfl, _, rfl, ra, _, rfl, .inl (SqL.of eraD), _, rfl, ra, _, rfl, .inl (SqL.of eraD), _, rfl, D, _, rfl, .inl (SqL.of upd_same), _, _, rfl, rfl, _, _, rfl, rfl, ⟨by omega, by omega, by omega, by omega⟩, fun b hb => ⟨(by show 3 ≤ sizeLine; decide), fun t ht => ?_⟩⟩
    rw [rgV_nats] at ht ⊢
    have s3 := same_new hb (.lst (natsV ((List.range vs.length).map (rv.length + ·))))
    have s4 := same_new ht (.tup [.str (wordP pn), .str "", .ref b])
    have sA : Same H' _ := sD.trans (s3.trans s4)
    have efa4 := sA _ _ efa
    refine ⟨fa, _, _, rfl, rfl, efa4, by rw [sizeLine_eq]; omega, ?_⟩
    have bra : b ≠ ra := fun e => by rw [e, eraD] at hb; cases hb
    have bfa : b ≠ fa := fun e => by rw [e, sD _ _ efa] at hb; cases hb
    have bH : H b = none := by
      cases e : H b with
      | none => rfl
      | some o => rw [sD _ _ (sm _ _ e)] at hb; cases hb
    have era5 : (upd (upd (upd (upd H' D (.lst vs)) b (.lst (natsV ((List.range vs.length).map (rv.length + ·))))) t (.tup [.str (wordP pn), .str "", .ref b])) fa (.lst (nv ++ [.ref t]))) ra = some (.lst rv) := by rw [upd_ne af]; exact sA _ _ era
    have eD5 : (upd (upd (upd (upd H' D (.lst vs)) b (.lst (natsV ((List.range vs.length).map (rv.length + ·))))) t (.tup [.str (wordP pn), .str "", .ref b])) fa (.lst (nv ++ [.ref t]))) D = some (.lst vs) := by rw [upd_ne Dfa]; exact (s3.trans s4) _ _ upd_same
    refine ⟨_, rfl, .inl ⟨rfl, _, SqL.of era5⟩, _, rfl, ra, D, _, _, rfl, rfl, era5, eD5, by rw [sizeLine_eq]; omega, ?_⟩
    have tk1 := (Tk.of_same sA).trans (Tk.lst (o := .lst (nv ++ [.ref t])) efa4)
    have tk := tk1.trans (Tk.lst (o := .lst (rv ++ vs)) era5)
    have k2 : ∀ c xs, (H c = none ∧ c ≠ ra ∧ c ≠ fa) → H' c = some (.lst xs) → (upd (upd (upd (upd (upd H' D (.lst vs)) b (.lst (natsV ((List.range vs.length).map (rv.length + ·))))) t (.tup [.str (wordP pn), .str "", .ref b])) fa (.lst (nv ++ [.ref t]))) ra (.lst (rv ++ vs))) c = some (.lst xs) := fun c xs h e => by
      rw [upd_ne h.2.1, upd_ne h.2.2]; exact sA _ _ e
    have grow : ∀ (k : Nat) (q : Pat), rows[k]? = some q → (rows ++ partsP pn)[k]? = some q := fun k q h => by
      have := (List.getElem?_eq_some_iff.mp h).1
      rw [List.getElem?_append_left this]; exact h
    refine ⟨sumP ((rows ++ partsP pn).drop (nv.length + 1)), ?_, rows ++ partsP pn, rv ++ vs, nv ++ [.ref t], _, _, rfl, upd_same, paired_app (hrp.tk tk) (RPs.tk hps tk), by rw [upd_ne (Ne.symm af)]; exact upd_same, by rw [List.length_append, List.length_append]; show nv.length + 1 ≤ _; omega, ?_, by rw [List.length_append]; rfl, ?_, by rw [List.getElem?_append_left (by omega)]; exact h0, same_upd (same_upd (sm.trans sA) hfaH) (by
      cases e : H ra with
      | none => rfl
      | some o => rw [e] at hra; cases hra)⟩
    · rw [List.drop_append_of_le_length (by omega), sumP_app]
      omega
    · rw [List.length_append]
      show Paired _ _ ((rows ++ partsP pn).take (nv.length + 1))
      rw [List.take_append_of_le_length (by omega), htake]
      refine paired_snoc (paired_imp (fun _ _ n => n.at tk k2 grow) hnd) ⟨t, b, (List.range vs.length).map (rv.length + ·), rfl, ?_, ?_, ?_, bH, bra, bfa⟩
      · rw [hs]
        exact ((Tk.lst (o := .lst (nv ++ [.ref t])) efa4).trans (Tk.lst (o := .lst (rv ++ vs)) era5)) _ _ upd_same
      · rw [upd_ne bra, upd_ne bfa]
        exact s4 _ _ upd_same
      · have h := fwd_new rows (partsP pn) rv.length [] lrv
        rw [List.append_nil, ← lps] at h
        exact h
    · rw [List.length_append, List.drop_append_of_le_length (by omega), sumP_app]
      show nv.length + 1 + _ = _
      omega
end
end Pa
set_option maxHeartbeats 2000000
namespace Pa
open PySem PySem.Spec PyProof.Rows L2 Ty
/-! ### the state of a Spelling -/
theorem nodup_len {α : Type} : ∀ {l m : List α}, l.Nodup → (∀ x, x ∈ l → x ∈ m) → l.length ≤ m.length
  | [], m, _, _ => Nat.zero_le _
  | x :: l, m, h, hs => by
    obtain ⟨s, t, rfl⟩ := List.append_of_mem (hs x List.mem_cons_self)
    have h' := List.nodup_cons.mp h
    have := nodup_len (l := l) (m := s ++ t) h'.2 fun y hy => by
      rcases List.mem_append.mp (hs y (List.mem_cons_of_mem _ hy)) with q | q
      · exact List.mem_append_left _ q
      · rcases List.mem_cons.mp q with e | q
        · rw [e] at hy; exact absurd hy h'.1
        · exact List.mem_append_right _ q
    rw [List.length_append] at this
    rw [List.length_append, List.length_cons, List.length_cons]; omega
def IsEnds (t : List Nat) (p : Pat) (b : Nat) (es : List Int) : Prop := es.Pairwise (· < ·) ∧ ∀ k, k ∈ es ↔ ∃ e : Nat, k = (e : Int) ∧ E t p b e
theorem pw_nodup {l : List Int} (h : l.Pairwise (· < ·)) : l.Nodup := h.imp fun h => Int.ne_of_lt h
theorem few_ints {l : List Int} {n : Nat} (h : l.Nodup) (hb : ∀ k, k ∈ l → ∃ e : Nat, k = (e : Int) ∧ e ≤ n) : l.length ≤ n + 1 := by
  have := nodup_len (l := l) (m := (List.range (n + 1)).map fun e : Nat => (e : Int)) h fun k hk => by
    obtain ⟨e, rfl, he⟩ := hb k hk
    exact List.mem_map.mpr ⟨e, List.mem_range.mpr (by omega), rfl⟩
  rw [List.length_map, List.length_range] at this
  exact this
theorem IsEnds.few {t : List Nat} {p : Pat} {b : Nat} {es : List Int} (h : IsEnds t p b es) : es.length ≤ t.length + 1 :=
  few_ints (pw_nodup h.1) fun k hk => by obtain ⟨e, h1, h2⟩ := (h.2 k).mp hk; exact ⟨e, h1, h2.2.1⟩
def keyN (c : Nat × Nat) : List Key := [Sum.inl (c.1 : Int), Sum.inl (c.2 : Int)]
theorem keyN_inj {c d : Nat × Nat} (h : keyN c = keyN d) : c = d := by
  unfold keyN at h
  injection h with h1 h2
  injection h1 with h1
  injection h2 with h2 _
  injection h2 with h2
  exact Prod.ext (by omega) (by omega)
def Memo (bad : Addr → Prop) (H : Hp) (t : List Nat) (rows : List Pat) (kd : Addr) : Prop := ∃ (kvs : List (List Key × V)) (cs : List (Nat × Nat)), H kd = some (.dT kvs) ∧ kvs.map (·.1) = cs.map keyN ∧ cs.Nodup ∧ (∀ c, c ∈ cs → c.1 < 1000 ∧ c.2 ≤ 60) ∧
  ∀ i b v, valV kvs (keyN (i, b)) = some v → ∃ p l es, rows[i]? = some p ∧ v = .ref l ∧ H l = some (.lst (es.map V.int)) ∧ IsEnds t p b es ∧ ¬ bad l
theorem keys_few {cs : List (Nat × Nat)} (h : cs.Nodup) (hb : ∀ c, c ∈ cs → c.1 < 1000 ∧ c.2 ≤ 60) : cs.length ≤ 61000 := by
  have := nodup_len (l := cs.map fun c => c.1 * 61 + c.2) (m := List.range 61000) (List.Pairwise.map _ (S := (· ≠ ·)) (fun a b hab => hab) (List.Pairwise.imp_of_mem (S := fun a b : Nat × Nat => a.1 * 61 + a.2 ≠ b.1 * 61 + b.2) (fun {a b} ha hb' hne e => by
      have h1 := hb a ha
      have h2 := hb b hb'
      exact hne (Prod.ext (by omega) (by omega))) h)) fun x hx => by
    obtain ⟨c, hc, rfl⟩ := List.mem_map.mp hx
    have := hb c hc
    exact List.mem_range.mpr (by omega)
  rw [List.length_map, List.length_range] at this
  exact this
theorem Memo.put {bad : Addr → Prop} {H : Hp} {t : List Nat} {rows : List Pat} {kd : Addr} (m : Memo bad H t rows kd) {i b : Nat} {p : Pat} {l : Addr} {es : List Int} (hi : i < 1000) (hb : b ≤ 60) (hp : rows[i]? = some p) (hl : H l = some (.lst (es.map V.int))) (he : IsEnds t p b es) (hn : ¬ bad l) :
    ∃ kvs, H kd = some (.dT kvs) ∧ kvs.length < sizeLine ∧ Memo bad (upd H kd (.dT (putK kvs (keyN (i, b)) (.ref l)))) t rows kd ∧ ∃ kvs', (upd H kd (.dT (putK kvs (keyN (i, b)) (.ref l)))) kd = some (.dT kvs') ∧ valV kvs' (keyN (i, b)) = some (.ref l) := by
  obtain ⟨kvs, cs, h1, h2, h3, h4, h5⟩ := m
  have hlen : kvs.length = cs.length := by
    have := congrArg List.length h2
    rw [List.length_map, List.length_map] at this
    exact this
  have hf := keys_few h3 h4
  have lk : ∀ {c : Addr} {xs : List V}, H c = some (.lst xs) → (upd H kd (.dT (putK kvs (keyN (i, b)) (.ref l)))) c = some (.lst xs) := fun {c xs} e => by
    rw [upd_ne (fun q => by rw [q, h1] at e; cases e)]; exact e
  refine ⟨kvs, h1, by rw [sizeLine_eq]; omega, ?_, _, upd_same, by rw [valV_put, if_pos rfl]⟩
  have entry : ∀ j c v, valV (putK kvs (keyN (i, b)) (.ref l)) (keyN (j, c)) = some v → ∃ p l' es, rows[j]? = some p ∧ v = .ref l' ∧ (upd H kd (.dT (putK kvs (keyN (i, b)) (.ref l)))) l' = some (.lst (es.map V.int)) ∧ IsEnds t p c es ∧ ¬ bad l' := fun j c v hv => by
    rw [valV_put] at hv
    by_cases e : keyN (j, c) = keyN (i, b)
    · rw [if_pos e] at hv
      injection hv with hv
      have := keyN_inj e
      injection this with e1 e2
      subst e1 e2
      exact ⟨p, l, es, hp, hv.symm, lk hl, he, hn⟩
    · rw [if_neg e] at hv
      obtain ⟨p', l', es', g1, g2, g3, g4⟩ := h5 j c v hv
      exact ⟨p', l', es', g1, g2, lk g3, g4⟩
  cases hv : valV kvs (keyN (i, b)) with
  | none =>
    refine ⟨_, cs ++ [(i, b)], upd_same, ?_, ?_, ?_, entry⟩
    · rw [putK_new _ hv, List.map_append, List.map_append, h2]; rfl
    · refine List.nodup_append.mpr ⟨h3, by simp, fun x hx y hy e => ?_⟩
      have hy' : y = (i, b) := by simpa using hy
      subst hy' e
      have := valV_not hv
      rw [h2] at this
      exact this (List.mem_map.mpr ⟨_, hx, rfl⟩)
    · intro c hc
      rcases List.mem_append.mp hc with q | q
      · exact h4 c q
      · rw [List.mem_singleton.mp q]; exact ⟨hi, hb⟩
  | some v =>
    refine ⟨_, cs, upd_same, ?_, h3, h4, entry⟩
    rw [← h2]
    unfold putK
    have ha : (kvs.any fun kv => decide (kv.1 = keyN (i, b))) = true := by rw [valV_any, hv]; rfl
    rw [if_pos ha, List.map_map]
    refine List.map_congr_left fun kv _ => ?_
    show (if kv.1 = keyN (i, b) then (kv.1, V.ref l) else kv).1 = kv.1
    split <;> rfl
theorem nk1 : ¬ (("parts" : Str) = "text") := by decide +kernel
theorem nk2 : ¬ (("parts" : Str) = "known") := by decide +kernel
theorem nk3 : ¬ (("text" : Str) = "known") := by decide +kernel
def flds (pl : Addr) (x : Str) (kd : Addr) : List (Str × V) := putF "known" (.ref kd) (putF "text" (.str x) (putF "parts" (.ref pl) []))
theorem fl_known (pl : Addr) (x : Str) (kd : Addr) : (flds pl x kd).lookup ("known" : Str) = some (.ref kd) := by
  unfold flds
  rw [lookup_putF, if_pos rfl]
theorem fl_text (pl : Addr) (x : Str) (kd : Addr) : (flds pl x kd).lookup ("text" : Str) = some (.str x) := by
  unfold flds
  rw [lookup_putF, if_neg nk3, lookup_putF, if_pos rfl]
theorem fl_parts (pl : Addr) (x : Str) (kd : Addr) : (flds pl x kd).lookup ("parts" : Str) = some (.ref pl) := by
  unfold flds
  rw [lookup_putF, if_neg nk2, lookup_putF, if_neg nk1, lookup_putF, if_pos rfl]
theorem fl_no (pl : Addr) (x : Str) (kd : Addr) {m : Str} (h1 : ¬ m = "known") (h2 : ¬ m = "text") (h3 : ¬ m = "parts") : (flds pl x kd).lookup m = none := by
  unfold flds
  rw [lookup_putF, if_neg h1, lookup_putF, if_neg h2, lookup_putF, if_neg h3]
  rfl
theorem fl_ends (pl : Addr) (x : Str) (kd : Addr) : (flds pl x kd).lookup ("ends" : Str) = none := fl_no pl x kd (by decide +kernel) (by decide +kernel) (by decide +kernel)
theorem fl_anew (pl : Addr) (x : Str) (kd : Addr) : (flds pl x kd).lookup ("ends_anew" : Str) = none := fl_no pl x kd (by decide +kernel) (by decide +kernel) (by decide +kernel)
theorem fl_again (pl : Addr) (x : Str) (kd : Addr) : (flds pl x kd).lookup ("again_ends" : Str) = none := fl_no pl x kd (by decide +kernel) (by decide +kernel) (by decide +kernel)
/-- a Spelling at s; what is bad may be written by others -/
structure SpS (bad : Addr → Prop) (C : Addr) (H : Hp) (s : Addr) (x : Str) (rows : List Pat) (kd : Addr) : Prop where
  ob : ∃ dx pl nv, H s = some (.ins C dx (flds pl x kd)) ∧ H pl = some (.lst nv) ∧ ¬ bad pl ∧ Paired (Node (fun c => ¬ bad c) H rows) nv rows
  memo : Memo bad H x.cps.toList rows kd
  hb : ∀ c, bad c → (∃ xs, H c = some (.lst xs)) ∨ ∃ ks, H c = some (.dK ks)
  lr : rows.length ≤ 1000
  lx : x.length ≤ 60
theorem SpS.kd {bad : Addr → Prop} {C s kd : Addr} {H : Hp} {x : Str} {rows : List Pat} (S : SpS bad C H s x rows kd) : ∃ kvs, H kd = some (.dT kvs) := by
  obtain ⟨kvs, cs, h, _⟩ := S.memo
  exact ⟨kvs, h⟩
/-- what stands but for kd and what is bad -/
def KB (bad : Addr → Prop) (kd : Addr) (H H' : Hp) : Prop := ∀ c o, ¬ bad c → c ≠ kd → H c = some o → H' c = some o
theorem SpS.upto {bad : Addr → Prop} {C s kd : Addr} {H H' : Hp} {x : Str} {rows : List Pat} (S : SpS bad C H s x rows kd) (k : KB bad kd H H') (m : Memo bad H' x.cps.toList rows kd) (hb : ∀ c, bad c → (∃ xs, H' c = some (.lst xs)) ∨ ∃ ks, H' c = some (.dK ks)) : SpS bad C H' s x rows kd := by
  obtain ⟨kvs, hk⟩ := S.kd
  obtain ⟨dx, pl, nv, h1, h2, h3, h4⟩ := S.ob
  have nb : ∀ {c o}, H c = some o → (∀ xs, o ≠ .lst xs) → (∀ ks, o ≠ .dK ks) → ¬ bad c := fun {c o} e e1 e2 hc => by
    rcases S.hb c hc with ⟨xs, q⟩ | ⟨ks, q⟩
    · rw [q] at e; exact e1 xs (Option.some.inj e).symm
    · rw [q] at e; exact e2 ks (Option.some.inj e).symm
  refine ⟨⟨dx, pl, nv, k s _ (nb h1 (fun _ z => by cases z) (fun _ z => by cases z)) (fun e => by rw [e, hk] at h1; cases h1) h1, k pl _ h3 (fun e => by rw [e, hk] at h2; cases h2) h2, h3, paired_imp (fun v p n => ?_) h4⟩, m, hb, S.lr, S.lx⟩
  refine n.at (fun c xs e => k c _ (nb e (fun _ z => by cases z) (fun _ z => by cases z)) (fun q => by rw [q, hk] at e; cases e) e) (fun c xs hc e => k c _ hc (fun q => by rw [q, hk] at e; cases e) e) fun _ _ h => h
theorem Memo.same {bad : Addr → Prop} {H H' : Hp} {t : List Nat} {rows : List Pat} {kd : Addr} (m : Memo bad H t rows kd) (s : Same H H') : Memo bad H' t rows kd := by
  obtain ⟨kvs, cs, h1, h2, h3, h4, h5⟩ := m
  refine ⟨kvs, cs, s _ _ h1, h2, h3, h4, fun i b v hv => ?_⟩
  obtain ⟨p, l, es, g1, g2, g3, g4⟩ := h5 i b v hv
  exact ⟨p, l, es, g1, g2, s _ _ g3, g4⟩
theorem SpS.same {bad : Addr → Prop} {C s kd : Addr} {H H' : Hp} {x : Str} {rows : List Pat} (S : SpS bad C H s x rows kd) (sm : Same H H') : SpS bad C H' s x rows kd :=
  S.upto (fun c o _ _ e => sm c o e) (S.memo.same sm) fun c hc => (S.hb c hc).imp (fun ⟨xs, e⟩ => ⟨xs, sm _ _ e⟩) (fun ⟨xs, e⟩ => ⟨xs, sm _ _ e⟩)
/-- a bad thing is written -/
theorem SpS.write {bad : Addr → Prop} {C s kd c : Addr} {H : Hp} {x : Str} {rows : List Pat} {o : HO} (S : SpS bad C H s x rows kd) (hc : bad c) (ho : (∃ xs, o = .lst xs) ∨ ∃ ks, o = .dK ks) : SpS bad C (upd H c o) s x rows kd := by
  obtain ⟨kvs, hk⟩ := S.kd
  have nk : kd ≠ c := fun e => by
    rcases S.hb c hc with ⟨xs, q⟩ | ⟨ks, q⟩ <;> (rw [← e, hk] at q; cases q)
  refine S.upto (fun d u hd _ e => by rw [upd_ne (fun q => hd (by rw [q]; exact hc))]; exact e) ?_ fun d hd => ?_
  · obtain ⟨kvs, cs, h1, h2, h3, h4, h5⟩ := S.memo
    refine ⟨kvs, cs, by rw [upd_ne nk]; exact h1, h2, h3, h4, fun i b v hv => ?_⟩
    obtain ⟨p, l, es, g1, g2, g3, g4, g5⟩ := h5 i b v hv
    exact ⟨p, l, es, g1, g2, by rw [upd_ne (fun q => g5 (by rw [q]; exact hc))]; exact g3, g4, g5⟩
  · by_cases e : d = c
    · rw [e, upd_same]
      exact ho.imp (fun ⟨xs, q⟩ => ⟨xs, congrArg some q⟩) (fun ⟨ks, q⟩ => ⟨ks, congrArg some q⟩)
    · rw [upd_ne e]; exact S.hb d hd
/-- one more bad thing, a new one -/
theorem SpS.more {bad : Addr → Prop} {C s kd c : Addr} {H : Hp} {x : Str} {rows : List Pat} {o : HO} (S : SpS bad C H s x rows kd) (hc : H c = none) (ho : (∃ xs, o = .lst xs) ∨ ∃ ks, o = .dK ks) : SpS (fun d => bad d ∨ d = c) C (upd H c o) s x rows kd := by
  have sm := same_new hc o
  have S' := S.same sm
  obtain ⟨dx, pl, nv, h1, h2, h3, h4⟩ := S.ob
  have ne : ∀ {d u}, H d = some u → d ≠ c := fun {d u} e q => by rw [q, hc] at e; cases e
  refine ⟨⟨dx, pl, nv, sm _ _ h1, sm _ _ h2, fun h => h.elim h3 (ne h2), paired_imp (fun v p n => ?_) h4⟩, ?_, fun d hd => ?_, S.lr, S.lx⟩
  · obtain ⟨a, b, kids, e, g1, g2, g3, g4⟩ := n
    exact ⟨a, b, kids, e, sm _ _ g1, sm _ _ g2, g3, fun h => h.elim g4 (ne g2)⟩
  · obtain ⟨kvs, cs, h1, h2, h3, h4, h5⟩ := S.memo
    refine ⟨kvs, cs, sm _ _ h1, h2, h3, h4, fun i b v hv => ?_⟩
    obtain ⟨p, l, es, g1, g2, g3, g4, g5⟩ := h5 i b v hv
    exact ⟨p, l, es, g1, g2, sm _ _ g3, g4, fun h => h.elim g5 (ne g3)⟩
  · rcases hd with hd | hd
    · exact S'.hb d hd
    · rw [hd, upd_same]
      exact ho.imp (fun ⟨xs, q⟩ => ⟨xs, congrArg some q⟩) (fun ⟨ks, q⟩ => ⟨ks, congrArg some q⟩)
theorem SpS.less {bad bad' : Addr → Prop} {C s kd : Addr} {H : Hp} {x : Str} {rows : List Pat} (S : SpS bad C H s x rows kd) (h : ∀ c, bad' c → bad c) : SpS bad' C H s x rows kd := by
  obtain ⟨dx, pl, nv, h1, h2, h3, h4⟩ := S.ob
  refine ⟨⟨dx, pl, nv, h1, h2, fun q => h3 (h _ q), paired_imp (fun v p n => n.mono fun c hc q => hc (h _ q)) h4⟩, ?_, fun c hc => S.hb c (h c hc), S.lr, S.lx⟩
  obtain ⟨kvs, cs, h1, h2, h3, h4, h5⟩ := S.memo
  refine ⟨kvs, cs, h1, h2, h3, h4, fun i b v hv => ?_⟩
  obtain ⟨p, l, es, g1, g2, g3, g4, g5⟩ := h5 i b v hv
  exact ⟨p, l, es, g1, g2, g3, g4, fun q => g5 (h _ q)⟩
/-- what the class is -/
structure Txt (K : PySem.W.Frag) (C fE fA fG : Addr) : Prop where
  cl : Cls K C
  nP : NoAttr K C "parts"
  nT : NoAttr K C "text"
  nK : NoAttr K C "known"
  mE : Meth K C "ends" fE
  mA : Meth K C "ends_anew" fA
  mG : Meth K C "again_ends" fG
/-- ends of a part deep so much, told as a list -/
def spEndsOf (C : Addr) (d : Nat) (f : Pat → Pat) : Sp := fun vs H Q _ => ∃ (bad : Addr → Prop) (s kd : Addr) (x : Str) (rows : List Pat) (i b : Nat) (p : Pat), vs = [.ref s, .int (i : Nat), .int (b : Nat)] ∧ SpS bad C H s x rows kd ∧ rows[i]? = some p ∧ deepP p ≤ d ∧ b ≤ x.length ∧
  ∀ l es H', H' l = some (.lst (es.map V.int)) → IsEnds x.cps.toList (f p) b es → ¬ bad l → SpS bad C H' s x rows kd → Keep kd H H' → Q (.ref l) H'
theorem deep_pos (p : Pat) : 1 ≤ deepP p := by cases p <;> (unfold deepP; omega)
theorem ends_zero {P : Program} {w : World} {K : PySem.W.Frag} {mg : Str → Option Value} {base : Heap} {f : Addr} {fd : FuncData} {ps : List Str} {C : Addr} : FnOk P w K mg base CX0 1 f fd ps (spEndsOf C 0 id) := by
  have no : ∀ vs H Q E, ¬ spEndsOf C 0 id vs H Q E := fun vs H Q E h => by
    obtain ⟨_, _, _, _, _, _, _, p, _, _, _, h, _⟩ := h
    have := deep_pos p
    omega
  exact ⟨fun vs H Q E h => absurd h (no vs H Q E), fun A outer s H args us vs Q E _ _ _ _ h => absurd h (no vs H Q E)⟩
theorem scEnds : FnScope ["self", "part", "begun"] ["self", "part", "begun"] (defScope sEnds) := ⟨rfl, rfl, rfl, by decide +kernel, rfl, by decide +kernel, by decide +kernel⟩
theorem len_x (x : Str) : x.cps.toList.length = x.length := Array.length_toList
section
variable {P : Program} {w : World} {K : PySem.W.Frag} {mg : Str → Option Value} {base : Heap} {f fE fA fG C : Addr} {fd gd : FuncData}
theorem ok_ends {d : Nat} (F : Fun K "ends" "Spelling.ends" sEnds f fd) (T : Txt K C fE fA fG) (G : FnOk P w K mg base CX0 (3 * d + 3) fA gd ["self", "part", "begun"] (spEndsOf C (d + 1) id)) (bG : Binds K gd ["self", "part", "begun"] []) :
    FnOk P w K mg base CX0 (3 * d + 4) f fd ["self", "part", "begun"] (spEndsOf C (d + 1) id) := by
  refine F.ok scEnds (fun vs H Q E h => ?_) (fun cdv A outer s H vs Q E hr h => ?_)
  · obtain ⟨_, _, _, _, _, _, _, _, rfl, _⟩ := h
    rfl
  obtain ⟨bad, s, kd, x, rows, i, b, p, rfl, S, hp, hd, hb, q⟩ := h
  have hu := hu_of hr
  refine ⟨_, pss_cons (ps_if (pt_cmp (pc_dnotin hu (pe_tup (pa_cons (pv 1) (pa_cons (pv 2) pa_nil))) (pe_fld (pv 0) rfl)))
      (pss_one (ps_dput hu (pe_fld (pv 0) rfl) (pe_tup (pa_cons (pv 1) (pa_cons (pv 2) pa_nil))) (pe_meth (pv 0) T.cl T.mA G hr bG .nil pass0 (pa_cons (pv 1) (pa_cons (pv 2) pa_nil))) rfl)) pss_nil)
    (pss_one (ps_ret (pe_dget hu (pe_fld (pv 0) rfl) (pe_tup (pa_cons (pv 1) (pa_cons (pv 2) pa_nil))) (fun _ _ => rfl)))), ?_⟩
  have kk : ∀ (k : Nat × Nat), (keyN k).map kV = [V.int (k.1 : Nat), V.int (k.2 : Nat)] := fun _ => rfl
  -- the end: what is known is told
  have fin : ∀ (H1 : Hp) (kvs : List (List Key × V)), SpS bad C H1 s x rows kd → Keep kd H H1 → H1 kd = some (.dT kvs) → ∀ v, valV kvs (keyN (i, b)) = some v →
      ∀ k H2, H2 k = some (.tup [V.int (i : Nat), V.int (b : Nat)]) → Same H1 H2 → DGet H2 kd (.ref k) (some v) ∧ Q v H2 := fun H1 kvs S1 k1 e1 v hv k H2 ek s2 => by
    obtain ⟨kvs', cs, g1, g2, g3, g4, g5⟩ := S1.memo
    rw [e1] at g1
    injection g1 with g1
    injection g1 with g1
    subst g1
    obtain ⟨p', l, es, h1, rfl, h3, h4, h5⟩ := g5 i b v hv
    rw [hp] at h1
    injection h1 with h1
    subst h1
    refine ⟨?_, q l es H2 (s2 _ _ h3) h4 h5 (S1.same s2) (k1.trans (Keep.of_same s2))⟩
    rw [← hv]
    exact DGet.t (s2 _ _ e1) (ek.trans (congrArg (fun z => some (HO.tup z)) (kk (i, b)).symm))
  obtain ⟨dx, pl, nv, ho, _⟩ := S.ob
  refine ⟨_, rfl, _, rfl, (by show 2 ≤ sizeLine; decide), fun k1 hk1 => ?_⟩
  have s1 := same_new hk1 (.tup [V.int (i : Nat), V.int (b : Nat)])
  have S1 := S.same s1
  obtain ⟨kvs, hkd⟩ := S1.kd
  refine ⟨_, rfl, s, C, dx, _, _, rfl, s1 _ _ ho, T.cl, T.nK, fl_known _ _ _, kd, _, rfl, DGet.t (k := keyN (i, b)) hkd upd_same, _, rfl, ?_⟩
  cases hv : valV kvs (keyN (i, b)) with
  | some v =>
    refine iteF ?_
    refine ⟨_, rfl, s, C, dx, _, _, rfl, s1 _ _ ho, T.cl, T.nK, fl_known _ _ _, _, rfl, _, rfl, (by show 2 ≤ sizeLine; decide), fun k2 hk2 => ?_⟩
    obtain ⟨g1, g2⟩ := fin _ kvs S1 (Keep.of_same s1) hkd v hv k2 _ upd_same (same_new hk2 _)
    exact ⟨kd, v, rfl, g1, g2⟩
  | none =>
    refine iteT ?_
    refine ⟨_, rfl, s, dx, _, rfl, s1 _ _ ho, fl_anew _ _ _, _, rfl, _, rfl, bad, s, kd, x, rows, i, b, p, rfl, S1, hp, hd, hb, fun l es H2 hl he nb S2 kp2 => ?_⟩
    obtain ⟨dx2, pl2, nv2, ho2, _⟩ := S2.ob
    refine ⟨_, rfl, s, C, dx2, _, _, rfl, ho2, T.cl, T.nK, fl_known _ _ _, _, rfl, _, rfl, (by show 2 ≤ sizeLine; decide), fun k3 hk3 => ?_⟩
    have s3 := same_new hk3 (.tup [V.int (i : Nat), V.int (b : Nat)])
    have S3 := S2.same s3
    have hi : i < 1000 := by
      have := (List.getElem?_eq_some_iff.mp hp).1
      have := S.lr
      omega
    have lx := S.lx
    obtain ⟨kvs3, e3, z3, m3, kvs4, e4, v4⟩ := S3.memo.put hi (by omega) hp (s3 _ _ hl) he nb
    refine ⟨kd, _, rfl, .inr ⟨kvs3, keyN (i, b), k3, e3, rfl, upd_same, z3, rfl⟩, ?_⟩
    have S4 : SpS bad C _ s x rows kd := S3.upto (fun c o _ nk e => by rw [upd_ne nk]; exact e) m3 fun c hc => by
      have nk : c ≠ kd := fun e => by
        rcases S3.hb c hc with ⟨xs, q⟩ | ⟨ks, q⟩ <;> (rw [e, e3] at q; cases q)
      rw [upd_ne nk]
      exact S3.hb c hc
    have kp4 : Keep kd H (upd (upd H2 k3 (.tup [V.int (i : Nat), V.int (b : Nat)])) kd (.dT (putK kvs3 (keyN (i, b)) (.ref l)))) := (Keep.of_same s1).trans (kp2.trans ((Keep.of_same s3).trans (keep_jar _)))
    generalize upd (upd H2 k3 (.tup [V.int (i : Nat), V.int (b : Nat)])) kd (.dT (putK kvs3 (keyN (i, b)) (.ref l))) = H4 at S4 kp4 e4
    obtain ⟨dx4, pl4, nv4, ho4, _⟩ := S4.ob
    refine ⟨_, rfl, s, C, dx4, _, _, rfl, ho4, T.cl, T.nK, fl_known _ _ _, _, rfl, _, rfl, (by show 2 ≤ sizeLine; decide), fun k5 hk5 => ?_⟩
    obtain ⟨g1, g2⟩ := fin _ kvs4 S4 kp4 e4 _ v4 k5 _ upd_same (same_new hk5 _)
    exact ⟨kd, _, rfl, g1, g2⟩
end
end Pa
set_option maxHeartbeats 4000000
namespace Pa
open PySem PySem.Spec PyProof.Rows L2 Ty
/-! ### {e for a in a list for e in a list of numbers} -/
def addI (L : List Int) (c : Int) : List Int := if c ∈ L then L else c :: L
theorem mem_addI {L : List Int} {c k : Int} : k ∈ addI L c ↔ k ∈ L ∨ k = c := by
  unfold addI
  split
  · rename_i h
    exact ⟨.inl, fun z => z.elim id fun e => e ▸ h⟩
  · rw [List.mem_cons]
    exact Or.comm
theorem addI_nodup {L : List Int} {c : Int} (h : L.Nodup) : (addI L c).Nodup := by
  unfold addI
  split
  · exact h
  · rename_i h'
    exact List.nodup_cons.mpr ⟨h', h⟩
theorem addI_len (L : List Int) (c : Int) : (addI L c).length ≤ L.length + 1 := by
  unfold addI
  split
  · omega
  · simp
def addAll (L es : List Int) : List Int := es.foldl addI L
theorem addAll_snoc (L es : List Int) (c : Int) : addAll L (es ++ [c]) = addI (addAll L es) c := by unfold addAll; rw [List.foldl_append]; rfl
theorem mem_addAll {L : List Int} {k : Int} : ∀ {es : List Int}, k ∈ addAll L es ↔ k ∈ L ∨ k ∈ es := by
  intro es
  induction es generalizing L with
  | nil => simp [addAll]
  | cons c es ih =>
    show k ∈ addAll (addI L c) es ↔ _
    rw [ih, mem_addI, List.mem_cons, or_assoc]
theorem addAll_nodup {L : List Int} (h : L.Nodup) : ∀ es : List Int, (addAll L es).Nodup := by
  intro es
  induction es generalizing L with
  | nil => exact h
  | cons c es ih => exact ih (addI_nodup h)
theorem addAll_len (es L : List Int) : (addAll L es).length ≤ L.length + es.length := by
  induction es generalizing L with
  | nil => exact Nat.le_refl _
  | cons c es ih =>
    have h1 := ih (L := addI L c)
    have h2 := addI_len L c
    show (addAll (addI L c) es).length ≤ _
    rw [List.length_cons]; omega
def SetL (w : World) (D : Addr) (L : List Int) : HO := SetO w D (fun k => decide (k ∈ L)) L.length
theorem setL_add (w : World) (D : Addr) (L : List Int) (c : Int) : SetO w D (fun j => decide (j ∈ L) || decide (j = c)) (if decide (c ∈ L) = true then L.length else L.length + 1) = SetL w D (addI L c) := by
  unfold SetL
  congr 1
  · funext j
    rw [Bool.eq_iff_iff]
    simp only [Bool.or_eq_true, decide_eq_true_eq]
    exact mem_addI.symm
  · unfold addI
    by_cases h : c ∈ L
    · rw [if_pos h, if_pos (decide_eq_true h)]
    · rw [if_neg h, if_neg (by simp [h])]; rfl
theorem setL_nil (w : World) (D : Addr) : SetO w D (fun _ => false) 0 = SetL w D [] := by
  unfold SetL
  congr 1
theorem upd_id {H : Hp} {a : Addr} {o : HO} (h : H a = some o) : upd H a o = H := by
  funext b
  by_cases e : b = a
  · rw [e, upd_same, h]
  · rw [upd_ne e]
theorem upd_upd {H : Hp} {a : Addr} {o o' : HO} : upd (upd H a o) a o' = upd H a o' := by
  funext b
  by_cases e : b = a
  · rw [e, upd_same, upd_same]
  · rw [upd_ne e, upd_ne e, upd_ne e]
theorem sc2_inner {w : World} {K : PySem.W.Frag} {D l1 : Addr} {k1 : Nat} {vs1 : List Nat} {τ : L2.St} {H4 : Hp} {te : TE} {Nx : Hp → Prop} {es L : List Int}
    (hw : ∀ v : V, wipe ((wipe τ vs1).set k1 (some v)) vs1 = wipe τ vs1)
    (hte : ∀ (v : V) H Q, Q v H → te ((wipe τ vs1).set k1 (some v)) H Q)
    (el : H4 l1 = some (.lst (es.map V.int))) (eD : H4 D = some (SetL w D L)) (ne : l1 ≠ D) (nd : L.Nodup) (hL : L.length ≤ 200) (he : es.length ≤ 200)
    (fin : ∀ L', L'.Nodup → (∀ k, k ∈ L' ↔ k ∈ L ∨ k ∈ es) → Nx (upd H4 D (SetL w D L'))) :
    ∃ W1 : Nat → Nat → Hp → Prop, (∃ m, W1 0 m H4) ∧ ∀ j k H, W1 j k H →
          ((Itl K l1).stop j H ∧ Nx H) ∨ ((Itl K l1).go j H ∧ ∃ Nx1 : Hp → Prop, (∀ H', Nx1 H' → ∃ k', k' < k ∧ W1 (j + 1) k' H') ∧ ∀ x H', (Itl K l1).yld j H x H' → gName k1 x (wipe τ vs1) H' fun σ3 H5 => wipe σ3 vs1 = wipe τ vs1 ∧ tYes σ3 H5 fun b H6 =>
            if b = true then te σ3 H6 fun y H7 => ∃ (c : Int) (S : Int → Bool) (n : Nat), y = .int c ∧ H7 D = some (SetO w D S n) ∧ n + 1 < scanBound ∧ Nx1 (upd H7 D (SetO w D (fun j => S j || decide (j = c)) (if S c = true then n else n + 1))) else Nx1 H6) := by
  refine ⟨fun j k H => k = es.length - j ∧ j ≤ es.length ∧ H = upd H4 D (SetL w D (addAll L (es.take j))), ⟨_, rfl, Nat.zero_le _, ?_⟩, ?_⟩
  · show H4 = upd H4 D (SetL w D L)
    exact (upd_id eD).symm
  rintro j k H ⟨rfl, hj, rfl⟩
  have sq : SqL K (upd H4 D (SetL w D (addAll L (es.take j)))) l1 (es.map V.int) := SqL.of (by rw [upd_ne ne]; exact el)
  by_cases hlt : j < es.length
  case neg =>
    have e : j = es.length := by omega
    subst e
    refine .inl ⟨⟨_, sq, by simp⟩, ?_⟩
    refine fin _ (addAll_nodup nd _) fun k => ?_
    rw [mem_addAll, List.take_length]
  refine .inr ⟨⟨_, V.int es[j], sq, by simp [hlt]⟩, fun H => H = upd H4 D (SetL w D (addAll L (es.take (j + 1)))), fun H' e => ⟨es.length - (j + 1), by omega, rfl, hlt, e⟩, fun x H' y => ?_⟩
  obtain ⟨h1, y⟩ := y
  subst h1
  have y := y _ sq
  rw [List.getElem?_map, List.getElem?_eq_getElem hlt] at y
  have ex : x = V.int es[j] := (Option.some.inj y).symm
  subst ex
  refine ⟨hw _, ?_⟩
  simp only [tYes, ↓reduceIte]
  refine hte _ _ _ ⟨es[j], _, _, rfl, upd_same, ?_, ?_⟩
  · have := addAll_len (es.take j) L
    rw [List.length_take] at this
    unfold scanBound
    omega
  · show _ = _
    rw [setL_add, upd_upd, ← addAll_snoc]
    congr 3
    rw [List.take_succ, List.getElem?_eq_getElem hlt]
    rfl
theorem sc2_ints {w : World} {K : PySem.W.Frag} {a D : Addr} {k0 k1 : Nat} {vs vs1 : List Nat} {xs : List V} {σ : L2.St} {H1 : Hp} {wi1 : TI} {te : TE} {Qd : Hp → Prop}
    (hv : ∀ v, wipe ((wipe σ vs).set k0 (some v)) vs = wipe σ vs)
    (Pv : Nat → List Int → Hp → Prop) (h0 : Pv 0 [] (upd H1 D (SetL w D [])))
    (hD : ∀ i L H, Pv i L H → SqL K H a xs)
    (hs : ∀ i x L H, xs[i]? = some x → Pv i L H → wi1 ((wipe σ vs).set k0 (some x)) H fun J1 H4 => ∃ W1 : Nat → Nat → Hp → Prop, (∃ m, W1 0 m H4) ∧ ∀ j k H, W1 j k H →
          (J1.stop j H ∧ ∃ L', Pv (i + 1) L' H) ∨ (J1.go j H ∧ ∃ Nx1 : Hp → Prop, (∀ H', Nx1 H' → ∃ k', k' < k ∧ W1 (j + 1) k' H') ∧ ∀ y H', J1.yld j H y H' → gName k1 y (wipe ((wipe σ vs).set k0 (some x)) vs1) H' fun σ3 H5 => wipe σ3 vs1 = wipe ((wipe σ vs).set k0 (some x)) vs1 ∧ tYes σ3 H5 fun b H6 =>
            if b = true then te σ3 H6 fun y H7 => ∃ (c : Int) (S : Int → Bool) (n : Nat), y = .int c ∧ H7 D = some (SetO w D S n) ∧ n + 1 < scanBound ∧ Nx1 (upd H7 D (SetO w D (fun j => S j || decide (j = c)) (if S c = true then n else n + 1))) else Nx1 H6))
    (hd : ∀ L H, Pv xs.length L H → Qd H) :
    ∃ W : Nat → Nat → Hp → Prop, (∃ m, W 0 m (upd H1 D (SetO w D (fun _ => false) 0))) ∧ ∀ i m H, W i m H →
      ((Itl K a).stop i H ∧ Qd H) ∨ ((Itl K a).go i H ∧ ∃ Nx : Hp → Prop, (∀ H', Nx H' → ∃ m', m' < m ∧ W (i + 1) m' H') ∧ ∀ x H', (Itl K a).yld i H x H' → gName k0 x (wipe σ vs) H' fun σ2 H2 => wipe σ2 vs = wipe σ vs ∧ tYes σ2 H2 fun b H3 =>
        if b = true then wi1 σ2 H3 fun J1 H4 => ∃ W1 : Nat → Nat → Hp → Prop, (∃ m, W1 0 m H4) ∧ ∀ j k H, W1 j k H →
          (J1.stop j H ∧ Nx H) ∨ (J1.go j H ∧ ∃ Nx1 : Hp → Prop, (∀ H', Nx1 H' → ∃ k', k' < k ∧ W1 (j + 1) k' H') ∧ ∀ x H', J1.yld j H x H' → gName k1 x (wipe σ2 vs1) H' fun σ3 H5 => wipe σ3 vs1 = wipe σ2 vs1 ∧ tYes σ3 H5 fun b H6 =>
            if b = true then te σ3 H6 fun y H7 => ∃ (c : Int) (S : Int → Bool) (n : Nat), y = .int c ∧ H7 D = some (SetO w D S n) ∧ n + 1 < scanBound ∧ Nx1 (upd H7 D (SetO w D (fun j => S j || decide (j = c)) (if S c = true then n else n + 1))) else Nx1 H6)
        else Nx H3) := by
  rw [setL_nil]
  refine ⟨fun i m H => m = xs.length - i ∧ i ≤ xs.length ∧ ∃ L, Pv i L H, ⟨xs.length, by simp, Nat.zero_le _, [], h0⟩, ?_⟩
  rintro i m H ⟨rfl, hi, L, p⟩
  have sq := hD i L H p
  by_cases hlt : i < xs.length
  case neg =>
    have e : i = xs.length := by omega
    subst e
    exact .inl ⟨⟨xs, sq, Nat.le_refl _⟩, hd L H p⟩
  refine .inr ⟨⟨xs, xs[i], sq, by simp [hlt]⟩, fun H' => ∃ L', Pv (i + 1) L' H', fun H' ⟨L', p'⟩ => ⟨xs.length - (i + 1), by omega, rfl, hlt, L', p'⟩, fun x H' y => ?_⟩
  obtain ⟨e, y⟩ := y
  subst e
  have ex := y xs sq
  refine ⟨hv x, ?_⟩
  simp only [tYes, ↓reduceIte]
  exact hs i x L H' ex p
end Pa
set_option maxHeartbeats 4000000
namespace Pa
open PySem PySem.Spec PyProof.Rows L2 Ty
def keyE (e : Nat) : Key := Sum.inl (e : Int)
/-- what again_ends has found, and what still waits -/
structure Fnd (t : List Nat) (p : Pat) (b : Nat) (fs ws : List Nat) : Prop where
  nd : fs.Nodup
  ok : ∀ e, e ∈ fs → E t (.mo p) b e
  ws : ∀ e, e ∈ ws → e = b ∨ e ∈ fs
theorem Fnd.few {t : List Nat} {p : Pat} {b : Nat} {fs ws : List Nat} (h : Fnd t p b fs ws) (ht : t.length ≤ 60) : fs.length ≤ 61 := by
  have := nodup_len (l := fs) (m := List.range 61) h.nd fun e he => List.mem_range.mpr (by have := (h.ok e he).2.1; omega)
  rw [List.length_range] at this
  exact this
theorem Fnd.to {t : List Nat} {p : Pat} {b m e : Nat} {fs ws : List Nat} (h : Fnd t p b fs ws) (hm : m = b ∨ m ∈ fs) (g : E t p m e) : E t (.mo p) b e := by
  rcases hm with rfl | hm
  · exact E_mo1 g
  · exact E_mo_end (h.ok m hm) g
theorem nats_map (fs : List Nat) : natsV fs = (fs.map fun e : Nat => (e : Int)).map V.int := by
  unfold natsV
  rw [List.map_map]; rfl
theorem lt_of_le_nd : ∀ {l : List Int}, l.Pairwise (· ≤ ·) → l.Nodup → l.Pairwise (· < ·)
  | [], _, _ => .nil
  | x :: l, h, n => by
    have h1 := List.pairwise_cons.mp h
    have n1 := List.nodup_cons.mp n
    exact List.pairwise_cons.mpr ⟨fun y hy => by
      have := h1.1 y hy
      have : x ≠ y := fun e => n1.1 (e ▸ hy)
      omega, lt_of_le_nd h1.2 n1.2⟩
theorem cast_nodup {fs : List Nat} (h : fs.Nodup) : (fs.map fun e : Nat => (e : Int)).Nodup :=
  List.Pairwise.map _ (fun a b (hab : a ≠ b) => fun e => hab (Int.ofNat_inj.mp e)) h
theorem scAgain : FnScope ["self", "part", "begun", "found", "waiting", "end"] ["self", "part", "begun"] (defScope sAgain) := ⟨rfl, rfl, rfl, by decide +kernel, rfl, by decide +kernel, by decide +kernel⟩
section
variable {P : Program} {w : World} {K : PySem.W.Frag} {mg : Str → Option Value} {base : Heap} {f fE fA fG C : Addr} {fd gd : FuncData}
theorem ok_again {d : Nat} (F : Fun K "again_ends" "Spelling.again_ends" sAgain f fd) (T : Txt K C fE fA fG) (G : FnOk P w K mg base CX0 (3 * d + 1) fE gd ["self", "part", "begun"] (spEndsOf C d id)) (bG : Binds K gd ["self", "part", "begun"] []) (mso : mg "sorted" = none) :
    FnOk P w K mg base CX0 (3 * d + 2) f fd ["self", "part", "begun"] (spEndsOf C d Pat.mo) := by
  refine F.ok scAgain (fun vs H Q E h => ?_) (fun cdv A outer s0 H vs Q E0 hr h => ?_)
  · obtain ⟨_, _, _, _, _, _, _, _, rfl, _⟩ := h
    rfl
  obtain ⟨bad, s, kd, x, rows, i, b, p, rfl, S, hp, hd, hb, q⟩ := h
  have hu := hu_of hr
  have hu64 := hr.units
  refine ⟨_, pss_cons (ps_set (i := 3) scAgain.nd rfl (.inl rfl) pe_dnewK)
    (pss_cons (ps_set (i := 4) scAgain.nd rfl (.inl rfl) (pe_lst (pa_cons (pv 2) pa_nil)))
    (pss_cons (ps_while PassesOwn.never (pt_cmpR (op_neL0 hu64) (pv 4) (pe_lst pa_nil) (nomark _))
      (pss_one (ps_for PassesOwn.never rfl (pi_list (pe_meth (pv 0) T.cl T.mE G hr bG .nil pass0 (pa_cons (pv 1) (pa_cons (pe_bm0 PySem.F.plainAttrs_list PySem.F.slot_list_pop PySem.F.type_list_pop mt_pop (pv 4)) pa_nil)))) (pg_name (i := 5) scAgain.nd rfl (Or.inl rfl))
        (pss_one (ps_if (pt_cmp (pc_dnotin hu (pv 5) (pv 3)))
          (pss_cons (ps_dput hu (pv 3) (pv 5) pe_bl rfl)
          (pss_one (ps_expr (pe_bm PySem.F.plainAttrs_list PySem.F.slot_list_append PySem.F.type_list_append mt_append (pv 4) (pa_cons (pv 5) pa_nil)))))
          pss_nil)))))
    (pss_one (ps_ret (pe_callB (call_sortedDI rfl) rfl mso (by decide +kernel) (pa_cons (pv 3) pa_nil)))))), ?_⟩
  obtain ⟨kvs0, hkd0⟩ := S.kd
  have lx := S.lx
  have lt : x.cps.toList.length = x.length := len_x x
  refine fun fo hfo => ⟨_, rfl, (by show 1 ≤ sizeLine; decide), fun wa hwa => ?_⟩
  have fw : fo ≠ wa := ne_of_none upd_same hwa
  have S1 := (S.more hfo (o := .dK []) (.inr ⟨_, rfl⟩)).more hwa (o := .lst [V.int (b : Nat)]) (.inl ⟨_, rfl⟩)
  have fk : fo ≠ kd := fun e => by rw [e, hkd0] at hfo; cases hfo
  have wk : wa ≠ kd := fun e => by
    have h1 := same_new hfo (.dK []) kd _ hkd0
    rw [← e, hwa] at h1; cases h1
  have hwaH : H wa = none := by rw [upd_ne (Ne.symm fw)] at hwa; exact hwa
  have K1 : Keep kd H (upd (upd H fo (.dK [])) wa (.lst [V.int (b : Nat)])) := Keep.of_same ((same_new hfo _).trans (same_new hwa _))
  have eF1 : (upd (upd H fo (.dK [])) wa (.lst [V.int (b : Nat)])) fo = some (.dK []) := by rw [upd_ne fw]; exact upd_same
  have eW1 : (upd (upd H fo (.dK [])) wa (.lst [V.int (b : Nat)])) wa = some (.lst (natsV [b])) := upd_same
  generalize upd (upd H fo (.dK [])) wa (.lst [V.int (b : Nat)]) = H1 at S1 K1 eF1 eW1
  refine while_inv (fun m σ H' => ∃ kvs fs ws x5, σ = [some (.ref s), some (.int (i : Nat)), some (.int (b : Nat)), some (.ref fo), some (.ref wa), x5] ∧ H' fo = some (.dK kvs) ∧ kvs.map (·.1) = fs.map keyE ∧ H' wa = some (.lst (natsV ws)) ∧ Fnd x.cps.toList p b fs ws ∧
      (∀ m n, (m = b ∨ m ∈ fs) → m ∉ ws → E x.cps.toList p m n → n ∈ fs) ∧ SpS (fun c => (bad c ∨ c = fo) ∨ c = wa) C H' s x rows kd ∧ Keep kd H H' ∧ m = 2 * (62 - fs.length) + ws.length ∧ m ≤ 125)
    ⟨_, [], [], [b], _, rfl, eF1, rfl, eW1, ⟨.nil, (fun _ h => by cases h), fun e h => .inl (List.mem_singleton.mp h)⟩, fun m n h h' => absurd (h.elim (fun e => e ▸ List.mem_singleton_self _) fun h => by cases h) h', S1, K1, rfl, (by show 2 * (62 - 0) + 1 ≤ 125; decide)⟩ (fun m σ H' pv' => ?_)
  obtain ⟨kvs, fs, ws, x5, rfl, eF, ekv, eW, fn, cl, S2, K2, hm, hm5⟩ := pv'
  refine ⟨_, rfl, (by show 0 ≤ sizeLine; decide), fun pn hpn => ⟨wa, pn, _, rfl, rfl, same_new hpn _ _ _ eW, upd_same, ?_⟩⟩
  have s3 := same_new hpn (.lst [])
  have S3 := S2.same s3
  have K3 := K2.trans (Keep.of_same s3)
  replace eF := s3 _ _ eF
  replace eW := s3 _ _ eW
  generalize upd H' pn (.lst []) = H3 at eF eW S3 K3
  clear s3 hpn S2 K2
  cases hws : ws with
  | nil =>
    subst hws
    refine ⟨_, rfl, iteF ?_⟩
    refine ⟨_, rfl, fo, kvs, fs.map fun e : Nat => (e : Int), rfl, .inl eF, by rw [ekv, List.map_map]; rfl, by rw [List.length_map]; have := fn.few (by omega); omega, fun ys pl perm srt hpl => ?_⟩
    have s4 := same_new hpl (.lst (ys.map V.int))
    have hmem : ∀ k, k ∈ ys ↔ ∃ e : Nat, k = (e : Int) ∧ E x.cps.toList (.mo p) b e := fun k => by
      rw [perm.mem_iff, List.mem_map]
      constructor
      · rintro ⟨e, he, rfl⟩
        exact ⟨e, rfl, fn.ok e he⟩
      · rintro ⟨e, rfl, he⟩
        refine ⟨e, ?_, rfl⟩
        exact E_mo_least (S := fun e => e ∈ fs) (fun m h => cl b m (.inl rfl) (by simp) h) (fun m n h g => cl m n (.inr h) (by simp) g) he
    exact q pl ys _ upd_same ⟨lt_of_le_nd srt (perm.nodup_iff.mpr (cast_nodup fn.nd)), hmem⟩ (fun hbad => by
      rcases S3.hb pl (.inl (.inl hbad)) with ⟨xs, e⟩ | ⟨xs, e⟩ <;> (rw [hpl] at e; cases e)) ((S3.same s4).less fun c hc => .inl (.inl hc)) (K3.trans (Keep.of_same s4))
  | cons w0 ws0 =>
    have hne : ws ≠ [] := by rw [hws]; exact List.cons_ne_nil _ _
    rw [← hws]
    obtain ⟨y, hy⟩ : ∃ y, ws.getLast? = some y := by
      rw [List.getLast?_eq_some_getLast hne]; exact ⟨_, rfl⟩
    have hsplit : ws = ws.dropLast ++ [y] := by
      rw [List.getLast?_eq_some_getLast hne] at hy
      rw [← Option.some.inj hy]
      exact (List.dropLast_concat_getLast hne).symm
    have hyi : ws[ws.length - 1]? = some y := by rw [← List.getLast?_eq_getElem?]; exact hy
    have hymem : y ∈ ws := by rw [hsplit]; simp
    have hye := fn.ws y hymem
    have hyb : y ≤ x.length := by
      rcases hye with e | e
      · omega
      · have := (fn.ok y e).2.1; omega
    have hdl : ws.length = ws.dropLast.length + 1 := by
      have := congrArg List.length hsplit
      rw [List.length_append] at this; exact this
    have hnl : (natsV ws).length = ws.length := List.length_map ..
    refine ⟨_, rfl, ?_⟩
    have hne' : (if true = true then !(natsV ws).isEmpty else (natsV ws).isEmpty) = true := by
      rw [hws]; rfl
    rw [hne']
    refine iteT ?_
    obtain ⟨dx, pl, nv, ho, _⟩ := S3.ob
    refine ⟨_, fun _ _ h => h, ?_⟩
    have hdv : (natsV ws).dropLast = natsV ws.dropLast := by unfold natsV; rw [List.map_dropLast]
    refine ⟨_, rfl, s, dx, _, rfl, ho, fl_ends _ _ _, _, rfl, _, rfl, .inl ⟨rfl, _, SqL.of eW⟩, wa, _, V.int (y : Nat), rfl, rfl, eW, (by rw [hnl]; unfold natsV; rw [List.getElem?_map, hyi]; rfl), ?_⟩
    rw [hdv]
    have S4 := S3.write (c := wa) (o := .lst (natsV ws.dropLast)) (.inr rfl) (.inl ⟨_, rfl⟩)
    have K4 : Keep kd H (upd H3 wa (.lst (natsV ws.dropLast))) := K3.upd hwaH
    have eF4 : (upd H3 wa (.lst (natsV ws.dropLast))) fo = some (.dK kvs) := by rw [upd_ne fw]; exact eF
    have eW4 : (upd H3 wa (.lst (natsV ws.dropLast))) wa = some (.lst (natsV ws.dropLast)) := upd_same
    generalize upd H3 wa (.lst (natsV ws.dropLast)) = H4 at S4 K4 eF4 eW4
    refine ⟨_, s, kd, x, rows, i, y, p, rfl, S4, hp, hd, hyb, fun l es H5 hl he nb S5 kp5 => ⟨l, rfl, ⟨_, SqL.of hl⟩, ?_⟩⟩
    have lf : l ≠ fo := fun e => nb (.inl (.inr e))
    have lw : l ≠ wa := fun e => nb (.inr e)
    refine for_list (fun j σ H' => ∃ kvs fs ws' x5, σ = [some (.ref s), some (.int (i : Nat)), some (.int (b : Nat)), some (.ref fo), some (.ref wa), x5] ∧ H' fo = some (.dK kvs) ∧ kvs.map (·.1) = fs.map keyE ∧ H' wa = some (.lst (natsV ws')) ∧ Fnd x.cps.toList p b fs ws' ∧
        (∀ m n, (m = b ∨ m ∈ fs) → m ∉ ws' → m ≠ y → E x.cps.toList p m n → n ∈ fs) ∧ (∀ e : Nat, (e : Int) ∈ es.take j → e ∈ fs) ∧ SpS (fun c => (bad c ∨ c = fo) ∨ c = wa) C H' s x rows kd ∧ Keep kd H H' ∧ H' l = some (.lst (es.map V.int)) ∧ (y = b ∨ y ∈ fs) ∧ 2 * (62 - fs.length) + ws'.length < m)
      ⟨kvs, fs, ws.dropLast, _, rfl, kp5 _ _ fk eF4, ekv, kp5 _ _ wk eW4, ⟨fn.nd, fn.ok, fun e h => fn.ws e (List.dropLast_subset _ h)⟩, fun m n h1 h2 h3 g => cl m n h1 (fun h => by
        rw [hsplit] at h
        rcases List.mem_append.mp h with h | h
        · exact h2 h
        · exact h3 (List.mem_singleton.mp h)) g, (fun e h => by cases h), S5, K4.trans kp5, hl, hye, by omega⟩
      (fun j σ H' _ p => by obtain ⟨_, _, _, _, _, _, _, _, _, _, _, _, _, h, _⟩ := p; exact SqL.of h) (fun j u σ H6 hj p' => ?turn) (fun σ H' p' => ?done)
    case done =>
      obtain ⟨kvs, fs, ws', x5, rfl, eF, ekv, eW, fn, cl, hes, S6, K6, _, hyf, hlt⟩ := p'
      rw [List.length_map, List.take_length] at hes
      refine ⟨_, hlt, kvs, fs, ws', x5, rfl, eF, ekv, eW, fn, fun m n h1 h2 g => ?_, S6, K6, rfl, by omega⟩
      by_cases c : m = y
      · subst c
        exact hes n ((he.2 n).mpr ⟨n, rfl, g⟩)
      · exact cl m n h1 h2 c g
    case turn =>
      obtain ⟨kvs, fs, ws', x5, rfl, eF, ekv, eW, fn, cl, hes, S6, K6, hl6, hyf, hlt⟩ := p'
      rw [List.getElem?_map] at hj
      obtain ⟨k, hk, rfl⟩ : ∃ k, es[j]? = some k ∧ V.int k = u := by
        cases e : es[j]? with
        | none => rw [e] at hj; cases hj
        | some k => rw [e] at hj; exact ⟨k, rfl, Option.some.inj hj⟩
      obtain ⟨e, rfl, hE⟩ := (he.2 k).mp (List.mem_of_getElem? hk)
      have htk : es.take (j + 1) = es.take j ++ [(e : Int)] := by
        rw [List.take_add_one, hk]; rfl
      have hfe : E x.cps.toList (.mo p) b e := fn.to hyf hE
      refine ⟨_, rfl, _, rfl, fo, _, rfl, DGet.k (k := keyE e) eF, _, rfl, ?_⟩
      cases hv : valV kvs (keyE e) with
      | some v =>
        refine iteF ⟨kvs, fs, ws', _, rfl, eF, ekv, eW, fn, cl, fun e' h => ?_, S6, K6, hl6, hyf, hlt⟩
        rw [htk] at h
        rcases List.mem_append.mp h with h | h
        · exact hes e' h
        · have h := List.mem_singleton.mp h
          have := valV_in hv
          rw [ekv] at this
          obtain ⟨e2, h2, q2⟩ := List.mem_map.mp this
          injection q2 with q2
          have : e' = e2 := by omega
          rw [this]; exact h2
      | none =>
        have hnf : e ∉ fs := fun h => valV_not hv (by rw [ekv]; exact List.mem_map.mpr ⟨e, h, rfl⟩)
        have few : fs.length ≤ 61 := fn.few (by omega)
        have lkv : kvs.length = fs.length := by
          have := congrArg List.length ekv
          rw [List.length_map, List.length_map] at this; exact this
        have fn' : Fnd x.cps.toList p b (fs ++ [e]) (ws' ++ [e]) := ⟨List.nodup_append.mpr ⟨fn.nd, by simp, fun a ha c hc e' => hnf (by rw [← List.mem_singleton.mp hc, ← e']; exact ha)⟩, fun a h => by
            rcases List.mem_append.mp h with h | h
            · exact fn.ok a h
            · rw [List.mem_singleton.mp h]; exact hfe, fun a h => by
            rcases List.mem_append.mp h with h | h
            · exact (fn.ws a h).imp id fun h => List.mem_append_left _ h
            · exact .inr (List.mem_append_right _ h)⟩
        have few' : (fs ++ [e]).length ≤ 61 := fn'.few (by omega)
        have lw' : ws'.length ≤ 1000 := by omega
        refine iteT ⟨_, rfl, _, rfl, fo, _, rfl, DPut.k (k := keyE e) eF (by rw [sizeLine_eq]; omega), _, rfl, .inl ⟨rfl, _, SqL.of (by rw [upd_ne (Ne.symm fw)]; exact eW)⟩, _, rfl, wa, _, _, rfl, rfl, (by rw [upd_ne (Ne.symm fw)]; exact eW), (by unfold natsV; rw [List.length_map, sizeLine_eq]; omega), ?_⟩
        rw [putK_new _ hv]
        have eq : natsV ws' ++ [V.int (e : Nat)] = natsV (ws' ++ [e]) := by unfold natsV; rw [List.map_append]; rfl
        refine ⟨kvs ++ [(keyE e, .bl true)], fs ++ [e], ws' ++ [e], _, rfl, by rw [upd_ne fw]; exact upd_same, by rw [List.map_append, List.map_append, ekv]; rfl, by rw [upd_same, ← eq], fn', fun m n h1 h2 h3 g => ?_, fun e' h => ?_, ?_, (K6.upd hfo).upd hwaH, by rw [upd_ne lw, upd_ne lf]; exact hl6, hyf.imp id fun h => List.mem_append_left _ h, ?_⟩
        · have h2' : m ∉ ws' := fun h => h2 (List.mem_append_left _ h)
          have h1' : m = b ∨ m ∈ fs := h1.imp id fun h => by
            rcases List.mem_append.mp h with h | h
            · exact h
            · exact absurd (List.mem_append_right _ h) h2
          exact List.mem_append_left _ (cl m n h1' h2' h3 g)
        · rw [htk] at h
          rcases List.mem_append.mp h with h | h
          · exact List.mem_append_left _ (hes e' h)
          · have h := List.mem_singleton.mp h
            have : e' = e := by omega
            rw [this]; simp
        · exact (S6.write (c := fo) (.inl (.inr rfl)) (.inr ⟨_, rfl⟩)).write (c := wa) (.inr rfl) (.inl ⟨_, rfl⟩)
        · have l1 : (fs ++ [e]).length = fs.length + 1 := List.length_append
          have l2 : (ws' ++ [e]).length = ws'.length + 1 := List.length_append
          rw [l1] at few' ⊢
          rw [l2]
          omega
end
end Pa
set_option maxHeartbeats 4000000
namespace Pa
open PySem PySem.Spec PyProof.Rows L2 Ty Se
theorem scAnew : FnScope ["self", "part", "begun", "word", "signs", "inner", "middles", "found", "middle", "end", "one"] ["self", "part", "begun"] (defScope sAnew) := ⟨rfl, rfl, rfl, by decide +kernel, rfl, by decide +kernel, by decide +kernel⟩
theorem at_one {α : Type} {x y : α} {xs : List α} : atI (x :: y :: xs) 1 = some y := atI_nat (j := 1) rfl
theorem itW {A B : Prop} {u v : Str} (h : decide (u = v) = false) (hB : B) : if decide (V.str u = V.str v) = true then A else B := by
  rw [dec_str, h]; exact iteF hB
theorem itE {A B : Prop} {u v : Str} (h : decide (u = v) = true) (hA : A) : if decide (V.str u = V.str v) = true then A else B := by
  rw [dec_str, h]; exact iteT hA
/-- a thing of another kind is written -/
theorem SpS.ext {bad : Addr → Prop} {C s kd D : Addr} {H : Hp} {x : Str} {rows : List Pat} {w : World} {F1 : Int → Bool} {n1 : Nat} {o : HO} (S : SpS bad C H s x rows kd) (hD : H D = some (SetO w D F1 n1)) : SpS bad C (upd H D o) s x rows kd := by
  have ne : ∀ {c : Addr} {u : HO}, H c = some u → (∀ g, u ≠ .ext g) → c ≠ D := fun {c u} e h q => by
    rw [q, hD] at e
    exact h _ (Option.some.inj e).symm
  have L : ∀ {c xs}, H c = some (.lst xs) → (upd H D o) c = some (.lst xs) := fun {c xs} e => by rw [upd_ne (ne e fun _ z => by cases z)]; exact e
  obtain ⟨dx, pl, nv, h1, h2, h3, h4⟩ := S.ob
  refine ⟨⟨dx, pl, nv, by rw [upd_ne (ne h1 fun _ z => by cases z)]; exact h1, L h2, h3, paired_imp (fun v p n => n.at (fun c xs e => by rw [upd_ne (ne e fun _ z => by cases z)]; exact e) (fun c xs _ e => L e) fun _ _ h => h) h4⟩, ?_, fun c hc => ?_, S.lr, S.lx⟩
  · obtain ⟨kvs, cs, h1, h2, h3, h4, h5⟩ := S.memo
    refine ⟨kvs, cs, by rw [upd_ne (ne h1 fun _ z => by cases z)]; exact h1, h2, h3, h4, fun i b v hv => ?_⟩
    obtain ⟨p, l, es, g1, g2, g3, g4, g5⟩ := h5 i b v hv
    exact ⟨p, l, es, g1, g2, L g3, g4, g5⟩
  · rcases S.hb c hc with ⟨xs, e⟩ | ⟨xs, e⟩
    · exact .inl ⟨xs, L e⟩
    · exact .inr ⟨xs, by rw [upd_ne (ne e fun _ z => by cases z)]; exact e⟩
section
variable {P : Program} {w : World} {K : PySem.W.Frag} {mg : Str → Option Value} {base : Heap} {f fE fA fG C : Addr} {fd gd ge : FuncData}
theorem ok_anew {d : Nat} (F : Fun K "ends_anew" "Spelling.ends_anew" sAnew f fd) (T : Txt K C fE fA fG) (G : FnOk P w K mg base CX0 (3 * d + 1) fE gd ["self", "part", "begun"] (spEndsOf C d id)) (bG : Binds K gd ["self", "part", "begun"] [])
    (GA : FnOk P w K mg base CX0 (3 * d + 2) fG ge ["self", "part", "begun"] (spEndsOf C d Pat.mo)) (bA : Binds K ge ["self", "part", "begun"] []) (ml : mg "len" = none) (mso : mg "sorted" = none) (mse : mg "set" = none) :
    FnOk P w K mg base CX0 (3 * d + 3) f fd ["self", "part", "begun"] (spEndsOf C (d + 1) id) := by
  refine F.ok scAnew (fun vs H Q E h => ?_) (fun cdv A outer s0 H vs Q E0 hr h => ?_)
  · obtain ⟨_, _, _, _, _, _, _, _, rfl, _⟩ := h
    rfl
  obtain ⟨bad, s, kd, x, rows, i, b, p, rfl, S, hp, hd, hb, q⟩ := h
  have hu := hu_of hr
  have hu64 := hr.units
  have G' := G.mono (show 3 * d + 1 ≤ 3 * d + 2 by omega)
  refine ⟨_, pss_cons (ps_asg (pe_ix ix_list (pe_fld (pv 0) rfl) (pv 1) (fun _ _ => rfl)) (pg_tup rfl (pgs_cons (pg_name (i := 3) scAnew.nd rfl (.inl rfl)) (pgs_cons (pg_name (i := 4) scAnew.nd rfl (.inl rfl)) (pgs_cons (pg_name (i := 5) scAnew.nd rfl (.inr rfl)) pgs_nil)))))
    (pss_cons (ps_if (pt_cmpR op_eq (pv 3) pe_str (nomark _)) (pss_one (ps_ret (pe_ifExp (PW.pt (pw_and (pt_cmpR op_lt (pv 2) (pe_callB call_len_str rfl ml PySem.boot_len (pa_cons (pe_fld (pv 0) rfl) pa_nil)) (nomark _)) (pw_and1 (pt_cmpR op_in_sign (pe_ix ix_str (pe_fld (pv 0) rfl) (pv 2) (fun _ _ => rfl)) (pv 4) rfl)))) (pe_lst (pa_cons (pe_op op_add (pv 2) pe_int) pa_nil)) (pe_lst pa_nil)))) pss_nil)
    (pss_cons (ps_if (pt_cmpR op_eq (pv 3) pe_str (nomark _)) (pss_one (ps_ret (pe_lst (pa_cons (pv 2) pa_nil)))) pss_nil)
    (pss_cons (ps_if (pt_cmpR op_eq (pv 3) pe_str (nomark _))
      (pss_cons (ps_set (i := 6) scAnew.nd rfl (.inl rfl) (pe_meth (pv 0) T.cl T.mE G' hr bG .nil pass0 (pa_cons (pe_ix ix_list (pv 5) pe_int (fun _ _ => rfl)) (pa_cons (pv 2) pa_nil))))
      (pss_one (ps_ret (pe_callB (cr_sortedSet rfl) rfl mso (by decide +kernel) (pa_cons (pe_sc2 (own := [("middle", 8), ("end", 9)]) (vs1 := [9]) (g := gName 8) (tt := tYes) (g1 := gName 9) (tt1 := tYes) rfl scAnew.nd (pi_list (pv 6)) (blkOk_by (N := ["self", "part", "begun", "word", "signs", "inner", "middles", "found", "middle", "end", "one"]) (sc := defScope sAnew) (by decide +kernel)) (by decide) (fun _ _ _ _ _ => pg_name (i := 8) scAnew.nd rfl (Or.inl rfl)) (fun _ _ _ _ _ => pts_nil)
        (fun _ _ _ _ _ => (show PI _ _ _ (iList K _) from pi_list (pe_meth (pv 0) T.cl T.mE G' hr bG .nil pass0 (pa_cons (pe_ix (show IxR _ (rIxL K) from ix_list) (pv 5) pe_int (fun _ _ => rfl)) (pa_cons (pv 8) pa_nil))))) (fun _ _ _ _ _ => pg_name (i := 9) scAnew.nd rfl (Or.inl rfl)) (fun _ _ _ _ _ => pts_nil) (fun _ _ _ _ _ => pv 9)) pa_nil))))) pss_nil)
    (pss_cons (ps_if (pt_cmpR op_eq (pv 3) pe_str (nomark _))
      (pss_one (ps_ret (pe_callB (cr_sortedSet rfl) rfl mso (by decide +kernel) (pa_cons (pe_sc2 (own := [("one", 10), ("end", 9)]) (vs1 := [9]) (g := gName 10) (tt := tYes) (g1 := gName 9) (tt1 := tYes) rfl scAnew.nd (pi_list (pv 5)) (blkOk_by (N := ["self", "part", "begun", "word", "signs", "inner", "middles", "found", "middle", "end", "one"]) (sc := defScope sAnew) (by decide +kernel)) (by decide) (fun _ _ _ _ _ => pg_name (i := 10) scAnew.nd rfl (Or.inl rfl)) (fun _ _ _ _ _ => pts_nil)
        (fun _ _ _ _ _ => (show PI _ _ _ (iList K _) from pi_list (pe_meth (pv 0) T.cl T.mE G' hr bG .nil pass0 (pa_cons (pv 10) (pa_cons (pv 2) pa_nil))))) (fun _ _ _ _ _ => pg_name (i := 9) scAnew.nd rfl (Or.inl rfl)) (fun _ _ _ _ _ => pts_nil) (fun _ _ _ _ _ => pv 9)) pa_nil)))) pss_nil)
    (pss_cons (ps_if (pt_cmpR op_eq (pv 3) pe_str (nomark _))
      (pss_one (ps_ret (pe_callB (cr_sortedSet rfl) rfl mso (by decide +kernel) (pa_cons (pe_callTy (cr_setI rfl) rfl mse (by decide +kernel) (pa_cons (pe_op op_cat (pe_lst (pa_cons (pv 2) pa_nil)) (pe_meth (pv 0) T.cl T.mE G' hr bG .nil pass0 (pa_cons (pe_ix ix_list (pv 5) pe_int (fun _ _ => rfl)) (pa_cons (pv 2) pa_nil)))) pa_nil)) pa_nil)))) pss_nil)
    (pss_cons (ps_set (i := 7) scAnew.nd rfl (.inl rfl) (pe_meth (pv 0) T.cl T.mG GA hr bA .nil pass0 (pa_cons (pe_ix ix_list (pv 5) pe_int (fun _ _ => rfl)) (pa_cons (pv 2) pa_nil))))
    (pss_one (ps_ret (pe_ifExp (pt_cmpR op_eq (pv 3) pe_str (nomark _)) (pv 7) (pe_callB (cr_sortedSet rfl) rfl mso (by decide +kernel) (pa_cons (pe_callTy (cr_setI rfl) rfl mse (by decide +kernel) (pa_cons (pe_op op_cat (pe_lst (pa_cons (pv 2) pa_nil)) (pv 7)) pa_nil)) pa_nil))))))))))), ?_⟩
  obtain ⟨dx, pl, nv, ho, hpl, hnb, hnd⟩ := S.ob
  obtain ⟨v, hnv, a, ib, kids, rfl, ha, hib, fwd, nib⟩ := paired_rev hnd i p hp
  have lx := S.lx
  have lt : x.cps.toList.length = x.length := len_x x
  have nb_new : ∀ {H' : Hp} {l : Addr}, SpS bad C H' s x rows kd → H' l = none → ¬ bad l := fun S' hl hbad => by
    rcases S'.hb _ hbad with ⟨xs, e⟩ | ⟨xs, e⟩ <;> (rw [hl] at e; cases e)
  have few : ∀ {es : List Int}, es.Nodup → (∀ k, k ∈ es → ∃ e : Nat, k = (e : Int) ∧ E x.cps.toList p b e) → es.length ≤ 61 := fun nd h => few_ints (n := 60) nd fun k hk => by
    obtain ⟨e, h1, h2⟩ := h k hk
    exact ⟨e, h1, by have := h2.2.1; omega⟩
  have fin : ∀ (es : List Int) (H' : Hp), SpS bad C H' s x rows kd → Keep kd H H' → es.Pairwise (· < ·) → (∀ k, k ∈ es ↔ ∃ e : Nat, k = (e : Int) ∧ E x.cps.toList p b e) → ∀ l, H' l = none → Q (.ref l) (upd H' l (.lst (es.map V.int))) := fun es H' S' K' h1 h2 l hl =>
    q l es _ upd_same ⟨h1, h2⟩ (nb_new S' hl) (S'.same (same_new hl _)) (K'.trans (Keep.of_same (same_new hl _)))
  have tail : ∀ (H2 : Hp) (es1 : List Int), SpS bad C H2 s x rows kd → Keep kd H H2 → (∀ k, k ∈ (b : Int) :: es1 ↔ ∃ e : Nat, k = (e : Int) ∧ E x.cps.toList p b e) → es1.length ≤ 61 → ∀ pp, H2 pp = none →
      rSetI K w [.ref pp] (upd H2 pp (.lst ([V.int (b : Nat)] ++ es1.map V.int))) fun y H3 => rSortedSet w [y] H3 Q := fun H2 es1 S2 K2 hm hl pp hpp => by
    refine ⟨pp, (b : Int) :: es1, rfl, SqL.of upd_same, (by rw [List.length_cons]; unfold scanBound; omega), fun p2 hp2 => ?_⟩
    have s1 := same_new hpp (.lst ([V.int (b : Nat)] ++ es1.map V.int))
    have s2 := same_new hp2 (SetO w p2 (fun k => decide (k ∈ Ty.gather [] ((b : Int) :: es1))) (Ty.gather [] ((b : Int) :: es1)).length)
    have S3 := (S2.same s1).same s2
    have K3 := (K2.trans (Keep.of_same s1)).trans (Keep.of_same s2)
    refine ⟨p2, _, _, rfl, upd_same, ?_, fun ns p3 srt mem ln hp3 => fin ns _ S3 K3 srt (fun k => ?_) p3 hp3⟩
    · have := Ty.gather_len ((b : Int) :: es1) []
      rw [List.length_cons, List.length_nil] at this
      omega
    · rw [mem, decide_eq_true_eq, Ty.mem_gather, ← hm]
      simp
  refine ⟨_, rfl, s, C, dx, _, _, rfl, ho, T.cl, T.nP, fl_parts _ _ _, _, rfl, pl, nv, _, _, rfl, rfl, SqL.of hpl, atI_nat hnv, a, _, rfl, SqT.of ha, rfl, ?_⟩
  refine ⟨_, _, rfl, _, _, rfl, _, _, rfl, rfl, ?_⟩
  refine ⟨_, rfl, rfl, _, rfl, ?_⟩
  cases p with
  | sg z =>
    refine itE (by show decide (("signs" : Str) = "signs") = true; decide +kernel) ?_
    refine ⟨_, rfl, _, rfl, s, C, dx, _, _, rfl, ho, T.cl, T.nT, fl_text _ _ _, _, rfl, (by rw [sizeLine_eq]; omega), _, _, rfl, rfl, _, rfl, ?_⟩
    have none' : (∀ c, x.cps.toList[b]? = some c → c ∉ z.cps.toList) → ∀ l, H l = none → Q (.ref l) (upd H l (.lst [])) := fun h l hl => fin [] H S (Keep.of_same same_refl) .nil (fun k => ⟨(fun h => by cases h), (fun ⟨e, _, he⟩ => absurd (E_sg.mp he) (fun ⟨c, h1, h2, _⟩ => h c h1 h2))⟩) l hl
    by_cases c : b < x.length
    case neg =>
      rw [show decide (((b : Nat) : Int) < ((x.length : Nat) : Int)) = false from decide_eq_false (by omega)]
      refine iteF ?_
      refine iteF ⟨(by show 0 ≤ sizeLine; decide), fun l hl => none' (fun c' h => ?_) l hl⟩
      have := (List.getElem?_eq_some_iff.mp h).1
      omega
    rw [show decide (((b : Nat) : Int) < ((x.length : Nat) : Int)) = true from decide_eq_true (by omega)]
    refine iteT ?_
    have hat : x.cps.toList[b]? = some (x.cps.toList[b]'(by omega)) := List.getElem?_eq_getElem (by omega)
    refine ⟨_, rfl, s, C, dx, _, _, rfl, ho, T.cl, T.nT, fl_text _ _ _, _, rfl, x, _, _, rfl, rfl, (by rw [sizeLine_eq]; omega), atI_nat hat, _, rfl, _, _, rfl, rfl, _, rfl, ?_⟩
    generalize x.cps.toList[b]'(by omega) = cc at hat
    by_cases c' : cc ∈ z.cps.toList
    · rw [show decide (cc ∈ (signsP (Pat.sg z)).cps.toList) = true from decide_eq_true c']
      refine iteT ?_
      refine ⟨_, rfl, _, _, rfl, rfl, (by show 1 ≤ sizeLine; decide), fun l hl => fin [(b : Int) + 1] H S (Keep.of_same same_refl) (List.pairwise_singleton _ _) (fun k => ?_) l hl⟩
      rw [List.mem_singleton]
      constructor
      · rintro rfl
        exact ⟨b + 1, by omega, E_sg.mpr ⟨cc, hat, c', rfl⟩⟩
      · rintro ⟨e, rfl, he⟩
        obtain ⟨_, _, _, h⟩ := E_sg.mp he
        omega
    · rw [show decide (cc ∈ (signsP (Pat.sg z)).cps.toList) = false from decide_eq_false c']
      refine iteF ⟨(by show 0 ≤ sizeLine; decide), fun l hl => none' (fun c2 h => ?_) l hl⟩
      rw [hat] at h
      rw [← Option.some.inj h]; exact c'
  | em =>
    refine itW (by show decide (("empty" : Str) = "signs") = false; decide +kernel) ?_
    refine ⟨_, rfl, rfl, _, rfl, itE (by show decide (("empty" : Str) = "empty") = true; decide +kernel) ?_⟩
    refine ⟨_, rfl, (by show 1 ≤ sizeLine; decide), fun l hl => fin [(b : Int)] H S (Keep.of_same same_refl) (List.pairwise_singleton _ _) (fun k => ?_) l hl⟩
    rw [List.mem_singleton]
    constructor
    · rintro rfl
      exact ⟨b, rfl, E_em.mpr ⟨rfl, by omega⟩⟩
    · rintro ⟨e, rfl, he⟩
      rw [(E_em.mp he).1]
  | th p1 p2 =>
    have hd1 : deepP p1 ≤ d := by unfold deepP at hd; omega
    have hd2 : deepP p2 ≤ d := by unfold deepP at hd; omega
    refine itW (by show decide (("then" : Str) = "signs") = false; decide +kernel) ?_
    refine ⟨_, rfl, rfl, _, rfl, itW (by show decide (("then" : Str) = "empty") = false; decide +kernel) ?_⟩
    refine ⟨_, rfl, rfl, _, rfl, itE (by show decide (("then" : Str) = "then") = true; decide +kernel) ?_⟩
    obtain ⟨k1, k2, hk1, hk2, rfl⟩ : ∃ k1 k2, rows[k1]? = some p1 ∧ rows[k2]? = some p2 ∧ kids = [k1, k2] := by
      cases fwd with
      | cons h t =>
        cases t with
        | cons h' t => cases t; exact ⟨_, _, h, h', rfl⟩
    obtain ⟨kvs0, hkd⟩ := S.kd
    refine ⟨_, rfl, s, dx, _, rfl, ho, fl_ends _ _ _, _, rfl, ib, _, _, _, rfl, rfl, SqL.of hib, at_zero, _, rfl, bad, s, kd, x, rows, k1, b, p1, rfl, S, hk1, hd1, hb, fun l1 es1 H1 hl1 he1 nl1 S1 K1 => ?_⟩
    refine ⟨_, rfl, l1, rfl, ⟨_, SqL.of hl1⟩, fun D hD => ?_⟩
    obtain ⟨kvs1, hkd1⟩ := S1.kd
    have Dk : D ≠ kd := fun e => by rw [e, hkd1] at hD; cases hD
    have hDH : H D = none := new_back K1 Dk hD
    have lk : ∀ {H' : Hp} {c : Addr} {xs : List V}, SpS bad C H' s x rows kd → H' c = some (.lst xs) → c ≠ kd := fun S' e q => by
      obtain ⟨_, h⟩ := S'.kd
      rw [q, h] at e; cases e
    have ldD : ∀ {H' : Hp} {c : Addr} {xs : List V} {LL : List Int}, H' c = some (.lst xs) → H' D = some (SetL w D LL) → c ≠ D := fun e e' q => by
      rw [q, e'] at e; cases e
    have sD := same_new hD (SetL w D [])
    refine sc2_ints (w := w) (K := K) (xs := es1.map V.int) (fun _ => rfl) (fun i L H' => L.Nodup ∧ H' D = some (SetL w D L) ∧ H' l1 = some (.lst (es1.map V.int)) ∧ H' ib = some (.lst (natsV [k1, k2])) ∧ SpS bad C H' s x rows kd ∧ Keep kd H H' ∧ ∀ k : Int, k ∈ L ↔ ∃ m : Nat, (m : Int) ∈ es1.take i ∧ ∃ e : Nat, k = (e : Int) ∧ E x.cps.toList p2 m e)
      ⟨.nil, upd_same, sD _ _ hl1, sD _ _ (K1 _ _ (lk S hib) hib), S1.same sD, K1.trans (Keep.of_same sD), fun k => ⟨(fun h => by cases h), (fun ⟨m, h, _⟩ => by cases h)⟩⟩ (fun i L H' h => SqL.of h.2.2.1) (fun i xv L H' hxi pv' => ?turn) (fun L H' pv' => ?done)
    case done =>
      obtain ⟨nd, eD, el, ei, S2, K2, mem⟩ := pv'
      have mem' : ∀ k, k ∈ L ↔ ∃ e : Nat, k = (e : Int) ∧ E x.cps.toList (.th p1 p2) b e := fun k => by
        rw [mem, List.length_map, List.take_length]
        constructor
        · rintro ⟨m, hm, e, rfl, he⟩
          obtain ⟨m', hm', hE⟩ := (he1.2 _).mp hm
          have : m = m' := by omega
          subst this
          exact ⟨e, rfl, E_th.mpr ⟨m, hE, he⟩⟩
        · rintro ⟨e, rfl, he⟩
          obtain ⟨m, h1, h2⟩ := E_th.mp he
          exact ⟨m, (he1.2 _).mpr ⟨m, rfl, h1⟩, e, rfl, h2⟩
      exact ⟨D, _, _, rfl, eD, Nat.lt_of_le_of_lt (few nd fun k hk => (mem' k).mp hk) (by decide), fun ns p3 srt mm ln hp3 => fin ns _ S2 K2 srt (fun k => by rw [mm, decide_eq_true_eq, mem']) p3 hp3⟩
    case turn =>
      obtain ⟨nd, eD, el, ei, S2, K2, mem⟩ := pv'
      rw [List.getElem?_map] at hxi
      obtain ⟨k, hk, rfl⟩ : ∃ k, es1[i]? = some k ∧ V.int k = xv := by
        cases e : es1[i]? with
        | none => rw [e] at hxi; cases hxi
        | some k => rw [e] at hxi; exact ⟨k, rfl, Option.some.inj hxi⟩
      obtain ⟨m, rfl, hE⟩ := (he1.2 k).mp (List.mem_of_getElem? hk)
      obtain ⟨dx2, pl2, nv2, ho2, _⟩ := S2.ob
      have hm := hE.2.1
      refine ⟨_, rfl, s, dx2, _, rfl, ho2, fl_ends _ _ _, _, rfl, ib, _, _, _, rfl, rfl, SqL.of ei, at_one, _, rfl, bad, s, kd, x, rows, k2, m, p2, rfl, S2, hk2, hd2, by omega, fun l3 es3 H3 hl3 he3 nl3 S3 K3 => ⟨l3, rfl, ⟨_, SqL.of hl3⟩, ?_⟩⟩
      have eD3 : H3 D = some (SetL w D L) := K3 _ _ Dk eD
      have lL : L.length ≤ 61 := few nd fun k hk => by
        obtain ⟨m', hm', e, rfl, he⟩ := (mem k).mp hk
        obtain ⟨m2, q2, hE2⟩ := (he1.2 _).mp (List.mem_of_mem_take hm')
        have : m' = m2 := by omega
        subst this
        exact ⟨e, rfl, E_th.mpr ⟨m', hE2, he⟩⟩
      have l3n : es3.length ≤ 61 := by have := he3.few; omega
      refine sc2_inner (fun _ => rfl) (fun v H Q h => ⟨_, rfl, h⟩) hl3 eD3 (ldD hl3 eD3) nd (by omega) (by omega) fun L' nd' mem2 => ⟨L', nd', upd_same, ?_, ?_, S3.ext eD3, (K2.trans K3).upd hDH, fun k => ?_⟩
      · have := K3 _ _ (lk S2 el) el
        rw [upd_ne (ldD this eD3)]; exact this
      · have := K3 _ _ (lk S2 ei) ei
        rw [upd_ne (ldD this eD3)]; exact this
      · have htk : es1.take (i + 1) = es1.take i ++ [(m : Int)] := by
          rw [List.take_add_one, hk]; rfl
        rw [mem2, mem, htk]
        constructor
        · rintro (⟨m', h1, h2⟩ | h)
          · exact ⟨m', List.mem_append_left _ h1, h2⟩
          · exact ⟨m, List.mem_append_right _ (List.mem_singleton_self _), (he3.2 k).mp h⟩
        · rintro ⟨m', h1, h2⟩
          rcases List.mem_append.mp h1 with h1 | h1
          · exact .inl ⟨m', h1, h2⟩
          · have h1 := List.mem_singleton.mp h1
            have : m' = m := by omega
            subst this
            exact .inr ((he3.2 k).mpr h2)
  | oo p1 p2 =>
    have hd1 : deepP p1 ≤ d := by unfold deepP at hd; omega
    have hd2 : deepP p2 ≤ d := by unfold deepP at hd; omega
    refine itW (by show decide (("or" : Str) = "signs") = false; decide +kernel) ?_
    refine ⟨_, rfl, rfl, _, rfl, itW (by show decide (("or" : Str) = "empty") = false; decide +kernel) ?_⟩
    refine ⟨_, rfl, rfl, _, rfl, itW (by show decide (("or" : Str) = "then") = false; decide +kernel) ?_⟩
    refine ⟨_, rfl, rfl, _, rfl, itE (by show decide (("or" : Str) = "or") = true; decide +kernel) ?_⟩
    obtain ⟨k1, k2, hk1, hk2, rfl⟩ : ∃ k1 k2, rows[k1]? = some p1 ∧ rows[k2]? = some p2 ∧ kids = [k1, k2] := by
      cases fwd with
      | cons h t =>
        cases t with
        | cons h' t => cases t; exact ⟨_, _, h, h', rfl⟩
    obtain ⟨kvs0, hkd⟩ := S.kd
    refine ⟨_, rfl, ib, rfl, ⟨_, SqL.of hib⟩, fun D hD => ?_⟩
    have Dk : D ≠ kd := fun e => by rw [e, hkd] at hD; cases hD
    have lk : ∀ {H' : Hp} {c : Addr} {xs : List V}, SpS bad C H' s x rows kd → H' c = some (.lst xs) → c ≠ kd := fun S' e q => by
      obtain ⟨_, h⟩ := S'.kd
      rw [q, h] at e; cases e
    have ldD : ∀ {H' : Hp} {c : Addr} {xs : List V} {LL : List Int}, H' c = some (.lst xs) → H' D = some (SetL w D LL) → c ≠ D := fun e e' q => by
      rw [q, e'] at e; cases e
    have sD := same_new hD (SetL w D [])
    refine sc2_ints (w := w) (K := K) (xs := natsV [k1, k2]) (fun _ => rfl) (fun i L H' => L.Nodup ∧ H' D = some (SetL w D L) ∧ H' ib = some (.lst (natsV [k1, k2])) ∧ SpS bad C H' s x rows kd ∧ Keep kd H H' ∧ ∀ k : Int, k ∈ L ↔ ∃ r : Pat, r ∈ [p1, p2].take i ∧ ∃ e : Nat, k = (e : Int) ∧ E x.cps.toList r b e)
      ⟨.nil, upd_same, sD _ _ hib, S.same sD, Keep.of_same sD, fun k => ⟨(fun h => by cases h), (fun ⟨m, h, _⟩ => by cases h)⟩⟩ (fun i L H' h => SqL.of h.2.2.1) (fun i xv L H' hxi pv' => ?turn) (fun L H' pv' => ?done)
    case done =>
      obtain ⟨nd, eD, ei, S2, K2, mem⟩ := pv'
      have mem' : ∀ k, k ∈ L ↔ ∃ e : Nat, k = (e : Int) ∧ E x.cps.toList (.oo p1 p2) b e := fun k => by
        rw [mem]
        constructor
        · rintro ⟨r, hr, e, rfl, he⟩
          refine ⟨e, rfl, E_oo.mpr ?_⟩
          have hr : r ∈ [p1, p2] := hr
          rcases List.mem_cons.mp hr with rfl | hr
          · exact .inl he
          · rw [List.mem_singleton.mp hr] at he
            exact .inr he
        · rintro ⟨e, rfl, he⟩
          rcases E_oo.mp he with he | he
          · exact ⟨p1, by show p1 ∈ [p1, p2]; simp, e, rfl, he⟩
          · exact ⟨p2, by show p2 ∈ [p1, p2]; simp, e, rfl, he⟩
      exact ⟨D, _, _, rfl, eD, Nat.lt_of_le_of_lt (few nd fun k hk => (mem' k).mp hk) (by decide), fun ns p3 srt mm ln hp3 => fin ns _ S2 K2 srt (fun k => by rw [mm, decide_eq_true_eq, mem']) p3 hp3⟩
    case turn =>
      obtain ⟨nd, eD, ei, S2, K2, mem⟩ := pv'
      obtain ⟨kk, r, rfl, hkk, hdr, hri⟩ : ∃ (kk : Nat) (r : Pat), V.int (kk : Nat) = xv ∧ rows[kk]? = some r ∧ deepP r ≤ d ∧ [p1, p2][i]? = some r := by
        match i, hxi with
        | 0, h => exact ⟨k1, p1, Option.some.inj h, hk1, hd1, rfl⟩
        | 1, h => exact ⟨k2, p2, Option.some.inj h, hk2, hd2, rfl⟩
        | _ + 2, h => cases h
      have hrm : r ∈ [p1, p2] := List.mem_of_getElem? hri
      have up : ∀ r', r' ∈ [p1, p2] → ∀ e, E x.cps.toList r' b e → E x.cps.toList (.oo p1 p2) b e := fun r' hr' e he => E_oo.mpr (by
        rcases List.mem_cons.mp hr' with rfl | hr'
        · exact .inl he
        · rw [List.mem_singleton.mp hr'] at he
          exact .inr he)
      obtain ⟨dx2, pl2, nv2, ho2, _⟩ := S2.ob
      refine ⟨_, rfl, s, dx2, _, rfl, ho2, fl_ends _ _ _, _, rfl, _, rfl, bad, s, kd, x, rows, kk, b, r, rfl, S2, hkk, hdr, hb, fun l3 es3 H3 hl3 he3 nl3 S3 K3 => ⟨l3, rfl, ⟨_, SqL.of hl3⟩, ?_⟩⟩
      have eD3 : H3 D = some (SetL w D L) := K3 _ _ Dk eD
      have lL : L.length ≤ 61 := few nd fun k hk => by
        obtain ⟨r', hr', e, rfl, he⟩ := (mem k).mp hk
        exact ⟨e, rfl, up r' (List.mem_of_mem_take hr') e he⟩
      have l3n : es3.length ≤ 61 := by have := he3.few; omega
      refine sc2_inner (fun _ => rfl) (fun v H Q h => ⟨_, rfl, h⟩) hl3 eD3 (ldD hl3 eD3) nd (by omega) (by omega) fun L' nd' mem2 => ⟨L', nd', upd_same, ?_, S3.ext eD3, (K2.trans K3).upd hD, fun k => ?_⟩
      · have := K3 _ _ (lk S2 ei) ei
        rw [upd_ne (ldD this eD3)]; exact this
      · have htk : [p1, p2].take (i + 1) = [p1, p2].take i ++ [r] := by
          rw [List.take_add_one, hri]; rfl
        rw [mem2, mem, htk]
        constructor
        · rintro (⟨m', h1, h2⟩ | h)
          · exact ⟨m', List.mem_append_left _ h1, h2⟩
          · exact ⟨r, List.mem_append_right _ (List.mem_singleton_self _), (he3.2 k).mp h⟩
        · rintro ⟨m', h1, h2⟩
          rcases List.mem_append.mp h1 with h1 | h1
          · exact .inl ⟨m', h1, h2⟩
          · rw [List.mem_singleton.mp h1] at h2
            exact .inr ((he3.2 k).mpr h2)
  | mb p1 =>
    have hd1 : deepP p1 ≤ d := by unfold deepP at hd; omega
    obtain ⟨k1, hk1, rfl⟩ : ∃ k1, rows[k1]? = some p1 ∧ kids = [k1] := by
      cases fwd with
      | cons h t => cases t; exact ⟨_, h, rfl⟩
    refine itW (by show decide (("maybe" : Str) = "signs") = false; decide +kernel) ?_
    refine ⟨_, rfl, rfl, _, rfl, itW (by show decide (("maybe" : Str) = "empty") = false; decide +kernel) ?_⟩
    refine ⟨_, rfl, rfl, _, rfl, itW (by show decide (("maybe" : Str) = "then") = false; decide +kernel) ?_⟩
    refine ⟨_, rfl, rfl, _, rfl, itW (by show decide (("maybe" : Str) = "or") = false; decide +kernel) ?_⟩
    refine ⟨_, rfl, rfl, _, rfl, itE (by show decide (("maybe" : Str) = "maybe") = true; decide +kernel) ?_⟩
    refine ⟨_, rfl, (by show 1 ≤ sizeLine; decide), fun b1 hb1 => ?_⟩
    have s1 := same_new hb1 (.lst [V.int (b : Nat)])
    refine ⟨_, rfl, s, dx, _, rfl, s1 _ _ ho, fl_ends _ _ _, _, rfl, ib, _, _, _, rfl, rfl, SqL.of (s1 _ _ hib), at_zero, _, rfl, bad, s, kd, x, rows, k1, b, p1, rfl, S.same s1, hk1, hd1, hb, fun l1 es1 H1 hl1 he1 nl1 S1 K1 => ?_⟩
    obtain ⟨kvs, hkd⟩ := S.kd
    refine ⟨b1, l1, _, _, rfl, rfl, K1 _ _ (fun e => by rw [e, hkd] at hb1; cases hb1) upd_same, hl1, (by rw [List.length_map, sizeLine_eq]; have := he1.few; show 1 + _ ≤ _; omega), fun pp hpp => tail H1 es1 S1 ((Keep.of_same s1).trans K1) (fun k => ?_) (by have := he1.few; omega) pp hpp⟩
    rw [List.mem_cons, he1.2]
    constructor
    · rintro (rfl | ⟨e, rfl, he⟩)
      · exact ⟨b, rfl, E_mb.mpr (.inl ⟨rfl, by omega⟩)⟩
      · exact ⟨e, rfl, E_mb.mpr (.inr he)⟩
    · rintro ⟨e, rfl, he⟩
      rcases E_mb.mp he with ⟨rfl, _⟩ | h
      · exact .inl rfl
      · exact .inr ⟨e, rfl, h⟩
  | ag p1 =>
    have hd1 : deepP p1 ≤ d := by unfold deepP at hd; omega
    obtain ⟨k1, hk1, rfl⟩ : ∃ k1, rows[k1]? = some p1 ∧ kids = [k1] := by
      cases fwd with
      | cons h t => cases t; exact ⟨_, h, rfl⟩
    refine itW (by show decide (("again" : Str) = "signs") = false; decide +kernel) ?_
    refine ⟨_, rfl, rfl, _, rfl, itW (by show decide (("again" : Str) = "empty") = false; decide +kernel) ?_⟩
    refine ⟨_, rfl, rfl, _, rfl, itW (by show decide (("again" : Str) = "then") = false; decide +kernel) ?_⟩
    refine ⟨_, rfl, rfl, _, rfl, itW (by show decide (("again" : Str) = "or") = false; decide +kernel) ?_⟩
    refine ⟨_, rfl, rfl, _, rfl, itW (by show decide (("again" : Str) = "maybe") = false; decide +kernel) ?_⟩
    refine ⟨_, rfl, s, dx, _, rfl, ho, fl_again _ _ _, _, rfl, ib, _, _, _, rfl, rfl, SqL.of hib, at_zero, _, rfl, bad, s, kd, x, rows, k1, b, p1, rfl, S, hk1, hd1, hb, fun l1 es1 H1 hl1 he1 nl1 S1 K1 => ?_⟩
    refine ⟨_, rfl, rfl, _, rfl, itW (by show decide (("again" : Str) = "more") = false; decide +kernel) ?_⟩
    refine ⟨_, rfl, (by show 1 ≤ sizeLine; decide), fun b1 hb1 => ?_⟩
    have s1 := same_new hb1 (.lst [V.int (b : Nat)])
    refine ⟨_, rfl, b1, l1, _, _, rfl, rfl, upd_same, s1 _ _ hl1, (by rw [List.length_map, sizeLine_eq]; have := he1.few; show 1 + _ ≤ _; omega), fun pp hpp => tail _ es1 (S1.same s1) (K1.trans (Keep.of_same s1)) (fun k => ?_) (by have := he1.few; omega) pp hpp⟩
    rw [List.mem_cons, he1.2]
    constructor
    · rintro (rfl | ⟨e, rfl, he⟩)
      · exact ⟨b, rfl, E_ag.mpr (.inl ⟨rfl, by omega⟩)⟩
      · exact ⟨e, rfl, E_ag.mpr (.inr he)⟩
    · rintro ⟨e, rfl, he⟩
      rcases E_ag.mp he with ⟨rfl, _⟩ | h
      · exact .inl rfl
      · exact .inr ⟨e, rfl, h⟩
  | mo p1 =>
    have hd1 : deepP p1 ≤ d := by unfold deepP at hd; omega
    obtain ⟨k1, hk1, rfl⟩ : ∃ k1, rows[k1]? = some p1 ∧ kids = [k1] := by
      cases fwd with
      | cons h t => cases t; exact ⟨_, h, rfl⟩
    refine itW (by show decide (("more" : Str) = "signs") = false; decide +kernel) ?_
    refine ⟨_, rfl, rfl, _, rfl, itW (by show decide (("more" : Str) = "empty") = false; decide +kernel) ?_⟩
    refine ⟨_, rfl, rfl, _, rfl, itW (by show decide (("more" : Str) = "then") = false; decide +kernel) ?_⟩
    refine ⟨_, rfl, rfl, _, rfl, itW (by show decide (("more" : Str) = "or") = false; decide +kernel) ?_⟩
    refine ⟨_, rfl, rfl, _, rfl, itW (by show decide (("more" : Str) = "maybe") = false; decide +kernel) ?_⟩
    refine ⟨_, rfl, s, dx, _, rfl, ho, fl_again _ _ _, _, rfl, ib, _, _, _, rfl, rfl, SqL.of hib, at_zero, _, rfl, bad, s, kd, x, rows, k1, b, p1, rfl, S, hk1, hd1, hb, fun l1 es1 H1 hl1 he1 nl1 S1 K1 => ?_⟩
    exact ⟨_, rfl, rfl, _, rfl, itE (by show decide (("more" : Str) = "more") = true; decide +kernel) ⟨_, rfl, q l1 es1 H1 hl1 he1 nl1 S1 K1⟩⟩
end
end Pa
set_option maxHeartbeats 4000000
namespace Pa
open PySem PySem.Spec PyProof.Rows L2 Ty
abbrev nobad : Addr → Prop := fun _ => False
def spInit (C : Addr) : Sp := fun vs H Q _ => ∃ (s dx : Addr) (v : V) (x : Str) (p : Pat), vs = [.ref s, v, .str x] ∧ H s = some (.ins C dx []) ∧ RP H p v ∧ sizeP p ≤ 1000 ∧ x.length ≤ 60 ∧
  ∀ kd rows H', SpS nobad C H' s x rows kd → rows[0]? = some p → H kd = none → (∀ b o, H b = some o → b ≠ s → H' b = some o) → Q .non H'
theorem scInit : FnScope ["self", "pattern", "text"] ["self", "pattern", "text"] (defScope sInit) := ⟨rfl, rfl, rfl, by decide +kernel, rfl, by decide +kernel, by decide +kernel⟩
section
variable {P : Program} {w : World} {K : PySem.W.Frag} {mg : Str → Option Value} {base : Heap} {f fE fA fG C fT fI : Addr} {fd ft fdE fdA fdG fdI : FuncData}
theorem ok_init (F : Fun K "__init__" "Spelling.__init__" sInit f fd) (T : Txt K C fE fA fG) (GT : FnOk P w K mg base CX0 1 fT ft ["pattern"] spTold) (bT : Binds K ft ["pattern"] []) (kT : PySem.W.keepIn K (.ref fT) = true) (mT : mg "parts_told" = some (.ref fT)) :
    FnOk P w K mg base CX0 2 f fd ["self", "pattern", "text"] (spInit C) := by
  refine F.ok scInit (fun vs H Q E h => ?_) (fun cdv A outer s0 H vs Q E0 hr h => ?_)
  · obtain ⟨_, _, _, _, _, rfl, _⟩ := h
    rfl
  obtain ⟨s, dx, v, x, p, rfl, hs, rp, hz, lx, q⟩ := h
  refine ⟨_, pss_cons (ps_fld (pv 0) (pe_call GT hr rfl mT kT bT .nil pass0 (pa_cons (pv 1) pa_nil)) rfl) (pss_cons (ps_fld (pv 0) (pv 2) rfl) (pss_one (ps_fld (pv 0) pe_dnewT rfl))), ?_⟩
  refine ⟨_, rfl, v, p, rfl, rp, hz, fun fl nv rows H1 hfl sm efl hnd h0 lr => ?_⟩
  refine ⟨_, rfl, s, C, dx, [], rfl, sm _ _ hs, T.cl, T.nP, (by show 0 < 1000; decide), ?_⟩
  refine ⟨_, rfl, _, rfl, s, C, dx, _, rfl, upd_same, T.cl, T.nT, (by show 1 < 1000; decide), fun kd hkd => ?_⟩
  have hkd0 : kd ≠ s := fun e => by rw [e, upd_same] at hkd; cases hkd
  rw [upd_ne hkd0, upd_ne hkd0] at hkd
  have ks : s ≠ kd := Ne.symm hkd0
  refine ⟨_, rfl, s, C, dx, _, rfl, (by rw [upd_ne ks]; exact upd_same), T.cl, T.nK, (by show 2 < 1000; decide), ?_⟩
  have hkH : H kd = none := by
    cases e : H kd with
    | none => rfl
    | some o => rw [sm _ _ e] at hkd; cases hkd
  have up : ∀ c o, H1 c = some o → c ≠ s → (upd (upd (upd (upd H1 s (.ins C dx (putF "parts" (.ref fl) []))) s (.ins C dx (putF "text" (.str x) (putF "parts" (.ref fl) [])))) kd (.dT [])) s (.ins C dx (flds fl x kd))) c = some o := fun c o e n => by
    have nk : c ≠ kd := fun q => by rw [q, hkd] at e; cases e
    rw [upd_ne n, upd_ne nk, upd_ne n, upd_ne n]; exact e
  have sH1 : H1 s = some (.ins C dx []) := sm _ _ hs
  have ns : ∀ {c xs}, H1 c = some (.lst xs) → c ≠ s := fun {c xs} e q => by rw [q, sH1] at e; cases e
  have nst : ∀ {c xs}, H1 c = some (.tup xs) → c ≠ s := fun {c xs} e q => by rw [q, sH1] at e; cases e
  refine q kd rows _ ⟨⟨dx, fl, nv, upd_same, up _ _ efl (ns efl), fun h => h, paired_imp (fun v p n => ?_) hnd⟩, ⟨[], [], by rw [upd_ne hkd0]; exact upd_same, rfl, .nil, (fun c h => by cases h), fun i b v h => by cases h⟩, (fun c h => h.elim), lr, lx⟩ h0 hkH fun b o e n => up _ _ (sm _ _ e) n
  exact (n.mono (ne' := fun _ => True) fun _ _ => trivial).at (fun c xs e => up _ _ e (nst e)) (fun c xs _ e => up _ _ e (ns e)) (fun _ _ h => h) |>.mono fun _ _ h => h
/-- the three methods, by depth -/
theorem ends_all (F1 : Fun K "ends" "Spelling.ends" sEnds fE fdE) (F2 : Fun K "ends_anew" "Spelling.ends_anew" sAnew fA fdA) (F3 : Fun K "again_ends" "Spelling.again_ends" sAgain fG fdG) (T : Txt K C fE fA fG)
    (b1 : Binds K fdE ["self", "part", "begun"] []) (b2 : Binds K fdA ["self", "part", "begun"] []) (b3 : Binds K fdG ["self", "part", "begun"] []) (ml : mg "len" = none) (mso : mg "sorted" = none) (mse : mg "set" = none) :
    ∀ d, FnOk P w K mg base CX0 (3 * d + 1) fE fdE ["self", "part", "begun"] (spEndsOf C d id)
  | 0 => ends_zero
  | d + 1 => by
    have ih := ends_all F1 F2 F3 T b1 b2 b3 ml mso mse d
    have g := ok_again F3 T ih b1 mso
    have a := ok_anew F2 T ih b1 g b3 ml mso mse
    exact ok_ends F1 T a b2
/-- what the def told spells: L as a Boolean -/
def spSpells (D : Nat) : Sp := fun vs H Q _ => ∃ (v : V) (x : Str) (p : Pat), vs = [v, .str x] ∧ RP H p v ∧ sizeP p ≤ 1000 ∧ deepP p ≤ D ∧ x.length ≤ 60 ∧ ∀ (b : Bool) H', (b = true ↔ L p x.cps.toList) → Same H H' → Q (.bl b) H'
theorem scSpells : FnScope ["pattern", "text"] ["pattern", "text"] (defScope sSpells) := ⟨rfl, rfl, rfl, by decide +kernel, rfl, by decide +kernel, by decide +kernel⟩
theorem in_ints (n : Int) : ∀ es : List Int, inV (.int n) (es.map V.int) = decide (n ∈ es)
  | [] => rfl
  | e :: es => by
    have ih := in_ints n es
    unfold inV at ih ⊢
    rw [List.map_cons, List.any_cons, ih]
    show (eqV (.int e) (.int n) || _) = _
    have : eqV (.int e) (.int n) = decide (n = e) := by
      show (e == n) = _
      rw [Bool.eq_iff_iff, beq_iff_eq, decide_eq_true_eq]
      exact eq_comm
    rw [this, Bool.eq_iff_iff]
    simp [List.mem_cons]
theorem flat_ints : ∀ es : List Int, (es.map V.int).all flatV = true
  | [] => rfl
  | _ :: es => flat_ints es
theorem keep_fresh {j : Addr} {H H1 H2 : Hp} (s : Same H H1) (k : Keep j H1 H2) (n : H j = none) : Same H H2 := fun c o e => k c o (fun q => by rw [q, n] at e; cases e) (s c o e)
theorem ok_spells {D : Nat} (hD : 1 ≤ D) (F : Fun K "spells" "spells" sSpells f fd) (T : Txt K C fE fA fG) (M : Mk K C fI) (mC : mg "Spelling" = some (.ref C)) (GI : FnOk P w K mg base CX0 2 fI fdI ["self", "pattern", "text"] (spInit C)) (bI : Binds K fdI ["self", "pattern", "text"] [])
    (GE : FnOk P w K mg base CX0 (3 * D + 1) fE fdE ["self", "part", "begun"] (spEndsOf C D id)) (bE : Binds K fdE ["self", "part", "begun"] []) (ml : mg "len" = none) : FnOk P w K mg base CX0 (3 * D + 2) f fd ["pattern", "text"] (spSpells D) := by
  refine F.ok scSpells (fun vs H Q E h => ?_) (fun cdv A outer s0 H vs Q E0 hr h => ?_)
  · obtain ⟨_, _, _, rfl, _⟩ := h
    rfl
  obtain ⟨v, x, p, rfl, rp, hz, hd, lx, q⟩ := h
  refine ⟨_, pss_one (ps_ret (pe_cmpR op_in_seq (pe_callB call_len_str rfl ml PySem.boot_len (pa_cons (pv 1) pa_nil)) (pe_meth (pe_make M GI (hr.mono (by omega)) rfl mC bI .nil pass0 (pa_cons (pv 0) (pa_cons (pv 1) pa_nil))) T.cl T.mE GE hr bE .nil pass0 (pa_cons pe_int (pa_cons pe_int pa_nil))) rfl)), ?_⟩
  refine ⟨_, rfl, _, rfl, (by rw [sizeLine_eq]; omega), _, rfl, _, rfl, fun s dx hs hdx ne => ?_⟩
  have sm : Same H (upd (upd H dx (.own s)) s (.ins C dx [])) := fun b o e => by
    rw [upd_ne (ne_of_none e hs), upd_ne (ne_of_none e hdx)]; exact e
  refine ⟨s, dx, v, x, p, rfl, upd_same, rp.tk (Tk.of_same sm), hz, lx, fun kd rows H1 S h0 hkd kp => ⟨rfl, ?_⟩⟩
  obtain ⟨dx1, pl, nv, ho, _⟩ := S.ob
  refine ⟨s, dx1, _, rfl, ho, fl_ends _ _ _, nobad, s, kd, x, rows, 0, 0, p, rfl, S, h0, hd, Nat.zero_le _, fun l es H2 hl he nl S2 K2 => ?_⟩
  have hkH : H kd = none := by
    cases e : H kd with
    | none => rfl
    | some o => rw [sm _ _ e] at hkd; cases hkd
  have s1 : Same H H1 := fun c o e => kp c o (sm c o e) (ne_of_none e hs)
  refine ⟨l, _, rfl, .inl (SqL.of hl), rfl, flat_ints es, ?_⟩
  show Q (.bl (inV _ _)) H2
  rw [in_ints]
  refine q _ H2 ?_ (keep_fresh s1 K2 hkH)
  rw [decide_eq_true_eq, he.2]
  have hl2 : x.cps.toList.length = x.length := len_x x
  constructor
  · rintro ⟨e, e1, e2⟩
    have : e = x.cps.toList.length := by omega
    rw [this] at e2
    exact E_all.mp e2
  · intro h
    exact ⟨x.length, rfl, by rw [← hl2]; exact E_all.mpr h⟩
def spNone (D : Nat) : Sp := fun vs H Q _ => ∃ (v : V) (p : Pat), vs = [v] ∧ RP H p v ∧ sizeP p ≤ 1000 ∧ deepP p ≤ D ∧ ∀ (b : Bool) H', (b = true ↔ L p []) → Same H H' → Q (.bl b) H'
theorem scNone : FnScope ["pattern"] ["pattern"] (defScope sNone) := ⟨rfl, rfl, rfl, by decide +kernel, rfl, by decide +kernel, by decide +kernel⟩
theorem ok_none {D : Nat} (F : Fun K "spells_none" "spells_none" sNone f fd) (G : FnOk P w K mg base CX0 (3 * D + 2) fE fdE ["pattern", "text"] (spSpells D)) (bG : Binds K fdE ["pattern", "text"] []) (kG : PySem.W.keepIn K (.ref fE) = true) (mG : mg "spells" = some (.ref fE)) :
    FnOk P w K mg base CX0 (3 * D + 3) f fd ["pattern"] (spNone D) := by
  refine F.ok scNone (fun vs H Q E h => ?_) (fun cdv A outer s0 H vs Q E0 hr h => ?_)
  · obtain ⟨_, _, rfl, _⟩ := h
    rfl
  obtain ⟨v, p, rfl, rp, hz, hd, q⟩ := h
  refine ⟨_, pss_one (ps_ret (pe_call G hr rfl mG kG bG .nil pass0 (pa_cons (pv 0) (pa_cons pe_str pa_nil)))), ?_⟩
  exact ⟨_, rfl, v, _, p, rfl, rp, hz, hd, (by decide +kernel), fun b H' hb s' => q b H' (by rw [hb]; rfl) s'⟩
end
end Pa
set_option maxHeartbeats 2000000
namespace Pa
open PySem PySem.Spec PyProof.Rows L2 Ty
/-! ### the law's draws -/
theorem scDrawn : FnScope ["purse", "many", "found", "count", "mixed"] ["purse", "many"] (defScope lDrawn) := ⟨rfl, rfl, rfl, by decide +kernel, rfl, by decide +kernel, by decide +kernel⟩
theorem scPurse : FnScope ["script", "k", "cell"] ["script", "k"] (defScope lPurse) := ⟨rfl, rfl, rfl, by decide +kernel, rfl, by decide +kernel, by decide +kernel⟩
def spDrawn : Sp := fun vs H Q _ => ∃ (j : Addr) (C : Nat) (m : Int), vs = [.ref j, .int m] ∧ Jar j H C ∧ C ≤ 1000000000 ∧ 0 < m ∧ m < 1000000 ∧
  ∀ (r : Int) (H' : Hp), 0 ≤ r → r < m → Jar j H' (C + 1) → Keep j H H' → Q (.int r) H'
def spPurse (K : PySem.W.Frag) : Sp := fun vs H Q _ => ∃ (a : Addr) (ns : List Int) (k : Int), vs = [.ref a, .int k] ∧ SqL K H a (ns.map V.int) ∧ ns.length ≤ sizeLine ∧ 0 ≤ k ∧ k < 1000 ∧
  ∀ (j : Addr) (H' : Hp), H j = none → Same H H' → Jar j H' 0 → Q (.ref j) H'
section
variable {P : Program} {w : World} {K : PySem.W.Frag} {mg : Str → Option Value} {base : Heap} {f : Addr} {fd : FuncData}
theorem ok_drawn (F : Fun K "_law_drawn" "_law_drawn" lDrawn f fd) : FnOk P w K mg base CX0 1 f fd ["purse", "many"] spDrawn := by
  refine F.ok scDrawn (fun vs H Q E h => ?_) (fun cdv A outer s H vs Q E hr h => ?_)
  · obtain ⟨j, C, m, rfl, _⟩ := h
    rfl
  obtain ⟨j, C, m, rfl, ⟨a, b, c, hj, hb, hc0, hc⟩, hC, m0, m1, q⟩ := h
  refine ⟨_, pss_cons (ps_if (pt_cmpR op_gt (pe_ix ix_list (pv 0) pe_int (fun _ _ => rfl)) pe_int (nomark _))
      (pss_cons (ps_set (i := 2) scDrawn.nd rfl (.inl rfl) (pe_op op_mod (pe_ix ix_list (pv 0) pe_int (fun _ _ => rfl)) (pv 1)))
        (pss_cons (ps_asg (pe_op op_fdivN (pe_ix ix_list (pv 0) pe_int (fun _ _ => rfl)) (pv 1)) (pg_sub (pv 0) pe_int set_list))
          (pss_one (ps_ret (pv 2))))) pss_nil)
    (pss_cons (ps_set (i := 3) scDrawn.nd rfl (.inl rfl) (pe_op op_add (pe_ix ix_list (pv 0) pe_int (fun _ _ => rfl)) pe_int))
    (pss_cons (ps_asg (pv 3) (pg_sub (pv 0) pe_int set_list))
    (pss_cons (ps_set (i := 4) scDrawn.nd rfl (.inl rfl) (pe_op op_mod (pe_op op_powW (pe_op op_add (pe_op op_add (pe_ix ix_list (pv 0) pe_int (fun _ _ => rfl)) (pe_op op_mul (pe_op op_mul pe_int (pv 3)) (pv 3))) (pe_op op_mul pe_int (pv 3))) pe_int) (pe_op op_add (pe_op op_pow pe_int pe_int) pe_int)))
    (pss_cons (ps_set (i := 4) scDrawn.nd rfl (.inl rfl) (pe_op op_mod (pe_op op_powW (pe_op op_add (pv 4) (pe_op op_mul pe_int (pv 3))) pe_int) (pe_op op_add (pe_op op_pow pe_int pe_int) pe_int)))
    (pss_one (ps_ret (pe_op op_mod (pe_op op_fdivN (pv 4) pe_int) (pv 1)))))))), ?_⟩
  have e0 : ∀ (x y z : V), atI [x, y, z] 0 = some x := fun _ _ _ => rfl
  have e1 : ∀ (x y z : V), atI [x, y, z] 1 = some y := fun _ _ _ => rfl
  have e2 : ∀ (x y z : V), atI [x, y, z] 2 = some z := fun _ _ _ => rfl
  refine ⟨_, rfl, j, _, _, _, rfl, rfl, SqL.of hj, e0 _ _ _, _, _, rfl, rfl, _, rfl, ?_⟩
  refine ite2 (fun g => ?_) (fun g => ?_)
  · refine ⟨_, rfl, j, _, _, _, rfl, rfl, SqL.of hj, e0 _ _ _, _, rfl, _, _, rfl, rfl, m0, ?_⟩
    refine ⟨_, rfl, j, _, _, _, rfl, rfl, SqL.of hj, e0 _ _ _, _, rfl, _, _, rfl, rfl, ⟨by omega, by omega⟩, ?_⟩
    refine ⟨_, rfl, j, _, _, 0, rfl, rfl, hj, rfl, ?_⟩
    refine ⟨_, rfl, q _ _ (Int.emod_nonneg _ (by omega)) (Int.emod_lt_of_pos _ m0) ?_ (keep_jar _)⟩
    exact ⟨_, b, c, upd_same, hb, hc0, by omega⟩
  · refine ⟨_, rfl, j, _, _, _, rfl, rfl, SqL.of hj, e2 _ _ _, _, _, rfl, rfl, ?_⟩
    refine ⟨_, rfl, _, rfl, j, _, _, 2, rfl, rfl, hj, rfl, ?_⟩
    have hj2 : (upd H j (.lst [.int a, .int b, .int (c + 1)])) j = some (.lst [.int a, .int b, .int (c + 1)]) := upd_same
    have facts : ∀ d : Int, 0 ≤ d → d ≤ 1000000001 → (b + 15485863 * d * d + 32452843 * d).natAbs < 2 ^ 220 := fun d d0 d1 => by
      have dd : 0 ≤ 15485863 * d * d ∧ 15485863 * d * d ≤ 15485863 * 1000000001 * 1000000001 := by
        have g1 : 0 ≤ 15485863 * d := by omega
        have g2 : 15485863 * d ≤ 15485863 * 1000000001 := by omega
        exact ⟨Int.mul_nonneg g1 d0, Int.mul_le_mul g2 d1 d0 (by decide)⟩
      have : (2 : Nat) ^ 210 + 15485863 * 1000000001 * 1000000001 + 32452843 * 1000000001 < 2 ^ 220 := by decide
      generalize 15485863 * d * d = t at dd
      omega
    have hp1 := facts (c + 1) (by omega) (by omega)
    refine ⟨_, rfl, j, _, _, _, rfl, rfl, SqL.of hj2, e1 _ _ _, _, rfl, _, _, rfl, rfl, .inl ⟨by decide, by decide⟩, _, rfl, _, _, rfl, rfl, .inr ⟨by omega, by omega⟩, _, _, rfl, rfl, _, rfl, _, _, rfl, rfl, .inl ⟨by decide, by decide⟩, _, _, rfl, rfl, ?_⟩
    refine ⟨_, _, rfl, rfl, powW_of hp1 (by decide) (k := 5) (by decide), _, _, rfl, rfl, ⟨by decide, by decide, by decide⟩, _, _, rfl, rfl, _, _, rfl, rfl, (show (0 : Int) < (10 : Int) ^ (18 : Int).toNat + 9 by decide), ?_⟩
    have hm1 : ∀ x : Int, (x % ((10 : Int) ^ (18 : Int).toNat + 9) + 49979687 * (c + 1)).natAbs < 2 ^ 100 := fun x => by
      have h1 := Int.emod_nonneg x (b := (10 : Int) ^ (18 : Int).toNat + 9) (by decide)
      have h2 := Int.emod_lt_of_pos x (b := (10 : Int) ^ (18 : Int).toNat + 9) (by decide)
      have h3 : (10 : Int) ^ (18 : Int).toNat + 9 = 1000000000000000009 := by decide
      rw [h3] at h1 h2 ⊢
      have : (2 : Nat) ^ 100 = 1267650600228229401496703205376 := by decide
      omega
    refine ⟨_, rfl, _, rfl, _, _, rfl, rfl, .inl ⟨by decide, by decide⟩, _, _, rfl, rfl, ?_⟩
    refine ⟨_, _, rfl, rfl, powW_of (n := 100) (hm1 _) (by decide) (k := 5) (by decide), _, _, rfl, rfl, ⟨by decide, by decide, by decide⟩, _, _, rfl, rfl, _, _, rfl, rfl, (show (0 : Int) < (10 : Int) ^ (18 : Int).toNat + 3 by decide), ?_⟩
    refine ⟨_, rfl, _, _, rfl, rfl, ⟨by decide, by decide⟩, _, rfl, _, _, rfl, rfl, m0, ?_⟩
    exact q _ _ (Int.emod_nonneg _ (by omega)) (Int.emod_lt_of_pos _ m0) ⟨a, b, c + 1, upd_same, hb, by omega, by omega⟩ (keep_jar _)
theorem ok_purse (F : Fun K "_law_purse" "_law_purse" lPurse f fd) (ml : mg "len" = none) (mm : mg "max" = none) : FnOk P w K mg base CX0 1 f fd ["script", "k"] (spPurse K) := by
  refine F.ok scPurse (fun vs H Q E h => ?_) (fun cdv A outer s H vs Q E hr h => ?_)
  · obtain ⟨a, ns, k, rfl, _⟩ := h
    rfl
  obtain ⟨a, ns, k, rfl, hS, hl, k0, k1, q⟩ := h
  refine ⟨_, pss_cons (ps_set (i := 2) scPurse.nd rfl (.inl rfl) pe_int)
    (pss_cons (ps_if (pt_cmpR op_lt (pv 1) (pe_callB call_len_seq rfl ml PySem.boot_len (pa_cons (pv 0) pa_nil)) (nomark _)) (pss_one (ps_set (i := 2) scPurse.nd rfl (.inl rfl) (pe_ix ix_list (pv 0) (pv 1) (fun _ _ => rfl)))) pss_nil)
    (pss_one (ps_ret (pe_lst (pa_cons (pe_callB (call_max2 rfl) rfl mm (by decide +kernel) (pa_cons pe_int (pa_cons (pe_op op_sub (pv 2) (pe_op op_pow pe_int pe_int)) pa_nil)))
      (pa_cons (pe_op op_add (pe_op op_mod (pv 2) (pe_op op_add (pe_op op_pow pe_int pe_int) pe_int)) (pe_op op_mul pe_int (pv 1))) (pa_cons pe_int pa_nil))))))), ?_⟩
  refine ⟨_, rfl, _, rfl, a, _, rfl, .inl hS, _, _, rfl, rfl, _, rfl, ?_⟩
  have fin : ∀ (z : Int) (p : Addr), H p = none → ∀ u : Int, Q (.ref p) (upd H p (.lst [.int u, .int (z % ((10 : Int) ^ (60 : Int).toNat + 7) + 611953 * k), .int 0])) := fun z p hp u => by
    refine q p _ hp (same_new hp _) ⟨_, _, _, upd_same, ?_, Int.le_refl 0, Int.le_refl 0⟩
    have h1 := Int.emod_nonneg z (b := (10 : Int) ^ (60 : Int).toNat + 7) (by decide)
    have h2 := Int.emod_lt_of_pos z (b := (10 : Int) ^ (60 : Int).toNat + 7) (by decide)
    have h3 : (10 : Int) ^ (60 : Int).toNat + 7 = 1000000000000000000000000000000000000000000000000000000000007 := by decide
    rw [h3] at h1 h2 ⊢
    have h4 : (2 : Nat) ^ 210 = 1645504557321206042154969182557350504982735865633579863348609024 := by decide
    omega
  refine ite2 (fun c => ?_) (fun c => ?_)
  · have c' : k < (((ns.map V.int).length : Nat) : Int) := of_decide_eq_true c
    obtain ⟨x, hx1, hx2⟩ := at_in (l := ns.map V.int) k0 c'
    obtain ⟨z, _, rfl⟩ : ∃ z, ns[k.toNat]? = some z ∧ V.int z = x := by
      rw [List.getElem?_map] at hx2
      cases e : ns[k.toNat]? with
      | none => rw [e] at hx2; cases hx2
      | some z => rw [e] at hx2; exact ⟨z, rfl, by injection hx2⟩
    refine ⟨_, rfl, _, rfl, a, _, _, _, rfl, rfl, hS, hx1, ?_⟩
    exact ⟨_, rfl, _, _, rfl, rfl, ⟨by decide, by decide, by decide⟩, _, _, rfl, rfl, _, _, rfl, _, rfl, _, _, rfl, rfl, ⟨by decide, by decide, by decide⟩, _, _, rfl, rfl, _, _, rfl, rfl, (show (0 : Int) < (10 : Int) ^ (60 : Int).toNat + 7 by decide), _, rfl, _, _, rfl, rfl, .inl ⟨by decide, by decide⟩, _, _, rfl, rfl, (by show 3 ≤ sizeLine; decide), fun p hp => fin z p hp _⟩
  · exact ⟨_, rfl, _, _, rfl, rfl, ⟨by decide, by decide, by decide⟩, _, _, rfl, rfl, _, _, rfl, _, rfl, _, _, rfl, rfl, ⟨by decide, by decide, by decide⟩, _, _, rfl, rfl, _, _, rfl, rfl, (show (0 : Int) < (10 : Int) ^ (60 : Int).toNat + 7 by decide), _, rfl, _, _, rfl, rfl, .inl ⟨by decide, by decide⟩, _, _, rfl, rfl, (by show 3 ≤ sizeLine; decide), fun p hp => fin 0 p hp _⟩
end
end Pa
set_option maxHeartbeats 2000000
namespace Pa
open PySem PySem.Spec PyProof.Rows L2 Ty
theorem at_two {α : Type} {x y z : α} {xs : List α} : atI (x :: y :: z :: xs) 2 = some z := atI_nat (j := 2) rfl
theorem cut_no {n : Nat} : ¬ (HT.sIx (n + 1) 0 (some 1) = 0 ∧ HT.sIx (n + 1) (n + 1) none = n + 1) := by
  rw [sIx_one]
  exact fun h => absurd h.1 (by decide)
theorem deep_part {p q : Pat} (h : q ∈ partsP p) : deepP q + 1 ≤ deepP p := by
  cases p with
  | sg _ => cases h
  | em => cases h
  | th a b =>
    show _ ≤ max (deepP a) (deepP b) + 1
    rcases List.mem_cons.mp h with e | h
    · rw [e]; omega
    · rw [List.mem_singleton.mp h]; omega
  | oo a b =>
    show _ ≤ max (deepP a) (deepP b) + 1
    rcases List.mem_cons.mp h with e | h
    · rw [e]; omega
    · rw [List.mem_singleton.mp h]; omega
  | ag a => rw [List.mem_singleton.mp h]; exact Nat.le_refl _
  | mo a => rw [List.mem_singleton.mp h]; exact Nat.le_refl _
  | mb a => rw [List.mem_singleton.mp h]; exact Nat.le_refl _
/-- how many texts of signs a pattern holds -/
def cntP : Pat → Nat
  | .sg _ => 1
  | .em => 0
  | .th a b => cntP a + cntP b
  | .oo a b => cntP a + cntP b
  | .ag a => cntP a
  | .mo a => cntP a
  | .mb a => cntP a
def cntI (p : Pat) : Int := (cntP p : Nat)
theorem cnt_parts (p : Pat) (h : wordP p ≠ "signs") : cntI p = ((partsP p).map cntI).sum := by
  cases p with
  | sg x => exact absurd rfl h
  | em => rfl
  | th a b => show ((cntP a + cntP b : Nat) : Int) = (cntP a : Nat) + ((cntP b : Nat) + 0); omega
  | oo a b => show ((cntP a + cntP b : Nat) : Int) = (cntP a : Nat) + ((cntP b : Nat) + 0); omega
  | ag a => show ((cntP a : Nat) : Int) = (cntP a : Nat) + 0; omega
  | mo a => show ((cntP a : Nat) : Int) = (cntP a : Nat) + 0; omega
  | mb a => show ((cntP a : Nat) : Int) = (cntP a : Nat) + 0; omega
/-- whether a pattern spells nothing -/
def bareP : Pat → Bool
  | .sg _ => false
  | .em => true
  | .th a b => bareP a && bareP b
  | .oo a b => bareP a || bareP b
  | .ag _ => true
  | .mo a => bareP a
  | .mb _ => true
theorem bare_iff : ∀ p : Pat, bareP p = true ↔ L p []
  | .sg x => by
    rw [L_sg]
    exact ⟨(fun h => by cases h), (fun ⟨_, _, h⟩ => by cases h)⟩
  | .em => by rw [L_em]; exact ⟨fun _ => rfl, fun _ => rfl⟩
  | .th a b => by
    show (bareP a && bareP b) = true ↔ _
    rw [Bool.and_eq_true, bare_iff a, bare_iff b, L_th]
    constructor
    · rintro ⟨h1, h2⟩; exact ⟨[], [], rfl, h1, h2⟩
    · rintro ⟨u, v, e, h1, h2⟩
      have e := List.append_eq_nil_iff.mp e.symm
      rw [e.1] at h1; rw [e.2] at h2
      exact ⟨h1, h2⟩
  | .oo a b => by
    show (bareP a || bareP b) = true ↔ _
    rw [Bool.or_eq_true, bare_iff a, bare_iff b, L_oo]
  | .ag a => by
    rw [L_ag]
    exact ⟨fun _ => .inl rfl, fun _ => rfl⟩
  | .mo a => by
    show bareP a = true ↔ _
    rw [bare_iff a, L_mo]
    constructor
    · intro h; exact ⟨[], [], rfl, h, L_ag.mpr (.inl rfl)⟩
    · rintro ⟨u, v, e, h1, h2⟩
      have e := List.append_eq_nil_iff.mp e.symm
      rw [e.1] at h1; exact h1
  | .mb a => by
    rw [L_mb]
    exact ⟨fun _ => .inl rfl, fun _ => rfl⟩
def spCnt (d : Nat) : Sp := fun vs H Q _ => ∃ (v : V) (p : Pat), vs = [v] ∧ RP H p v ∧ deepP p ≤ d ∧ ∀ H', Same H H' → Q (.int (cntI p)) H'
def spBare (d : Nat) : Sp := fun vs H Q _ => ∃ (v : V) (p : Pat), vs = [v] ∧ RP H p v ∧ deepP p ≤ d ∧ ∀ H', Same H H' → Q (.bl (bareP p)) H'
theorem scBare : FnScope ["pattern"] ["pattern"] (defScope lBare) := ⟨rfl, rfl, rfl, by decide +kernel, rfl, by decide +kernel, by decide +kernel⟩
section
variable {P : Program} {w : World} {K : PySem.W.Frag} {mg : Str → Option Value} {base : Heap} {f g e : Addr} {fd gd ed : FuncData}
theorem cnt_left {x : Str} : FnOk P w K mg base CX0 1 f fd [x] (spCnt 0) := by
  have no : ∀ vs H Q E, ¬ spCnt 0 vs H Q E := fun vs H Q E h => by
    obtain ⟨_, p, _, _, h, _⟩ := h
    have := deep_pos p
    omega
  exact ⟨fun vs H Q E h => absurd h (no vs H Q E), fun A outer s H args us vs Q E _ _ _ _ h => absurd h (no vs H Q E)⟩
theorem bare_left : FnOk P w K mg base CX0 1 f fd ["pattern"] (spBare 0) := by
  have no : ∀ vs H Q E, ¬ spBare 0 vs H Q E := fun vs H Q E h => by
    obtain ⟨_, p, _, _, h, _⟩ := h
    have := deep_pos p
    omega
  exact ⟨fun vs H Q E h => absurd h (no vs H Q E), fun A outer s H args us vs Q E _ _ _ _ h => absurd h (no vs H Q E)⟩
theorem scSignsIn : FnScope ["pattern", "part"] ["pattern"] (defScope sSignsIn) := ⟨rfl, rfl, rfl, by decide +kernel, rfl, by decide +kernel, by decide +kernel⟩
theorem ok_signsin {d : Nat} (F : Fun K "signs_in" "signs_in" sSignsIn f fd) (GM : FnOk P w K mg base CX0 (d + 1) f fd ["pattern"] (spCnt d)) (bF : Binds K fd ["pattern"] []) (mF : mg "signs_in" = some (.ref f)) (msu : mg "sum" = none) :
    FnOk P w K mg base CX0 (d + 2) f fd ["pattern"] (spCnt (d + 1)) := by
  refine F.ok scSignsIn (fun vs H Q E h => ?_) (fun cdv A outer s0 H vs Q E0 hr h => ?_)
  · obtain ⟨_, _, rfl, _⟩ := h
    rfl
  obtain ⟨v, p, rfl, rp, hd, q⟩ := h
  refine ⟨_, pss_cons (ps_if (pt_cmpR op_eq (pe_ix ix_tup (pv 0) pe_int (fun _ _ => rfl)) pe_str (nomark _)) (pss_one (ps_ret pe_int)) pss_nil)
    (pss_one (ps_ret (pe_callB (cr_sum rfl) rfl msu (by decide +kernel) (pa_cons (pe_lc (own := [("part", 1)]) (g := gName 1) (tt := tYes) rfl scSignsIn.nd (pi_tup (pe_slice sl_tup (pv 0) (po_some pe_int) po_none)) (blkOk_by (N := ["pattern", "part"]) (sc := defScope sSignsIn) (by decide +kernel)) (fun _ _ _ _ _ => pg_name (i := 1) scSignsIn.nd rfl (Or.inl rfl)) (fun _ _ _ _ _ => pts_nil)
        (fun _ _ _ _ _ => pe_call GM hr rfl mF F.kp bF .nil pass0 (pa_cons (pv 1) pa_nil))) pa_nil)))), ?_⟩
  obtain ⟨a, vs, rfl, ha, hcase⟩ := rp.open
  refine ⟨_, rfl, a, _, _, _, rfl, rfl, SqT.of ha, at_zero, rfl, _, rfl, ?_⟩
  rcases hcase with ⟨x, rfl, rfl⟩ | ⟨hns, _, hps⟩
  · exact itE (by show decide (("signs" : Str) = "signs") = true; decide +kernel) (q H same_refl)
  refine itW (decide_eq_false hns) ?_
  refine ⟨_, rfl, _, rfl, a, _, rfl, SqT.of ha, cut_no, fun t ht => ?_⟩
  rw [cut_tail]
  have s1 := same_new ht (.tup vs)
  refine ⟨t, rfl, ⟨_, SqT.of upd_same⟩, fun L hL => ?_⟩
  have lps : vs.length = (partsP p).length := Paired.length hps
  have l2 : (partsP p).length ≤ 2 := by cases p <;> (show _ ≤ 2) <;> simp [partsP]
  have et0 : (upd H t (.tup vs)) t = some (.tup vs) := upd_same
  generalize upd H t (.tup vs) = H1 at s1 hL et0
  have sL := same_new hL (.lst [])
  have hLH : H L = none := by
    cases e : H L with
    | none => rfl
    | some o => rw [s1 _ _ e] at hL; cases hL
  have tL : t ≠ L := fun e => by rw [← e, et0] at hL; cases hL
  refine lc_tup (K := K) (xs := vs) (fun i H' => H' L = some (.lst ((((partsP p).take i).map cntI).map V.int)) ∧ Same H H' ∧ H' t = some (.tup vs)) ⟨upd_same, s1.trans sL, sL _ _ et0⟩ (fun i H' _ h => SqT.of h.2.2) (fun i v H' hv h => ?turn) (fun H' h => ?done)
  case turn =>
    obtain ⟨eL, sS, et⟩ := h
    obtain ⟨r, hr', rr⟩ := paired_get hps i v hv
    have rm := List.mem_of_getElem? hr'
    have dr := deep_part rm
    have hi := (List.getElem?_eq_some_iff.mp hv).1
    refine ⟨rfl, ?_⟩
    simp only [tYes, ↓reduceIte]
    exact ⟨_, rfl, v, r, rfl, rr.tk (Tk.of_same sS), by omega, fun H2 s2 => ⟨_, s2 _ _ eL, by rw [List.length_map, List.length_map, List.length_take, sizeLine_eq]; omega, by rw [upd_same, List.take_add_one, hr', List.map_append, List.map_append]; rfl, same_upd (sS.trans s2) hLH, by rw [upd_ne tL]; exact s2 _ _ et⟩⟩
  case done =>
    obtain ⟨eL, sS, et⟩ := h
    refine ⟨L, _, rfl, SqL.of eL, ?_⟩
    rw [lps, List.take_length, ← cnt_parts p hns]
    exact q H' sS
theorem scLSigns : FnScope ["pattern", "part"] ["pattern"] (defScope lSigns) := ⟨rfl, rfl, rfl, by decide +kernel, rfl, by decide +kernel, by decide +kernel⟩
theorem ok_lsigns {d : Nat} (F : Fun K "_law_signs" "_law_signs" lSigns f fd) (GM : FnOk P w K mg base CX0 (d + 1) f fd ["pattern"] (spCnt d)) (bF : Binds K fd ["pattern"] []) (mF : mg "_law_signs" = some (.ref f)) (msu : mg "sum" = none) :
    FnOk P w K mg base CX0 (d + 2) f fd ["pattern"] (spCnt (d + 1)) := by
  refine F.ok scLSigns (fun vs H Q E h => ?_) (fun cdv A outer s0 H vs Q E0 hr h => ?_)
  · obtain ⟨_, _, rfl, _⟩ := h
    rfl
  obtain ⟨v, p, rfl, rp, hd, q⟩ := h
  refine ⟨_, pss_one (ps_ret (pe_ifExp (pt_cmpR op_eq (pe_ix ix_tup (pv 0) pe_int (fun _ _ => rfl)) pe_str (nomark _)) pe_int (pe_callB (cr_sum rfl) rfl msu (by decide +kernel) (pa_cons (pe_lc (own := [("part", 1)]) (g := gName 1) (tt := tYes) rfl scLSigns.nd (pi_tup (pe_slice sl_tup (pv 0) (po_some pe_int) po_none)) (blkOk_by (N := ["pattern", "part"]) (sc := defScope lSigns) (by decide +kernel)) (fun _ _ _ _ _ => pg_name (i := 1) scLSigns.nd rfl (Or.inl rfl)) (fun _ _ _ _ _ => pts_nil)
        (fun _ _ _ _ _ => pe_call GM hr rfl mF F.kp bF .nil pass0 (pa_cons (pv 1) pa_nil))) pa_nil)))), ?_⟩
  obtain ⟨a, vs, rfl, ha, hcase⟩ := rp.open
  refine ⟨_, rfl, a, _, _, _, rfl, rfl, SqT.of ha, at_zero, rfl, _, rfl, ?_⟩
  rcases hcase with ⟨x, rfl, rfl⟩ | ⟨hns, _, hps⟩
  · exact itE (by show decide (("signs" : Str) = "signs") = true; decide +kernel) (q H same_refl)
  refine itW (decide_eq_false hns) ?_
  refine ⟨_, rfl, _, rfl, a, _, rfl, SqT.of ha, cut_no, fun t ht => ?_⟩
  rw [cut_tail]
  have s1 := same_new ht (.tup vs)
  refine ⟨t, rfl, ⟨_, SqT.of upd_same⟩, fun L hL => ?_⟩
  have lps : vs.length = (partsP p).length := Paired.length hps
  have l2 : (partsP p).length ≤ 2 := by cases p <;> (show _ ≤ 2) <;> simp [partsP]
  have et0 : (upd H t (.tup vs)) t = some (.tup vs) := upd_same
  generalize upd H t (.tup vs) = H1 at s1 hL et0
  have sL := same_new hL (.lst [])
  have hLH : H L = none := by
    cases e : H L with
    | none => rfl
    | some o => rw [s1 _ _ e] at hL; cases hL
  have tL : t ≠ L := fun e => by rw [← e, et0] at hL; cases hL
  refine lc_tup (K := K) (xs := vs) (fun i H' => H' L = some (.lst ((((partsP p).take i).map cntI).map V.int)) ∧ Same H H' ∧ H' t = some (.tup vs)) ⟨upd_same, s1.trans sL, sL _ _ et0⟩ (fun i H' _ h => SqT.of h.2.2) (fun i v H' hv h => ?turn) (fun H' h => ?done)
  case turn =>
    obtain ⟨eL, sS, et⟩ := h
    obtain ⟨r, hr', rr⟩ := paired_get hps i v hv
    have rm := List.mem_of_getElem? hr'
    have dr := deep_part rm
    have hi := (List.getElem?_eq_some_iff.mp hv).1
    refine ⟨rfl, ?_⟩
    simp only [tYes, ↓reduceIte]
    exact ⟨_, rfl, v, r, rfl, rr.tk (Tk.of_same sS), by omega, fun H2 s2 => ⟨_, s2 _ _ eL, by rw [List.length_map, List.length_map, List.length_take, sizeLine_eq]; omega, by rw [upd_same, List.take_add_one, hr', List.map_append, List.map_append]; rfl, same_upd (sS.trans s2) hLH, by rw [upd_ne tL]; exact s2 _ _ et⟩⟩
  case done =>
    obtain ⟨eL, sS, et⟩ := h
    refine ⟨L, _, rfl, SqL.of eL, ?_⟩
    rw [lps, List.take_length, ← cnt_parts p hns]
    exact q H' sS
theorem ok_bare {d : Nat} (F : Fun K "_law_bare" "_law_bare" lBare f fd) (GM : FnOk P w K mg base CX0 (d + 1) f fd ["pattern"] (spBare d)) (bF : Binds K fd ["pattern"] []) (mF : mg "_law_bare" = some (.ref f)) :
    FnOk P w K mg base CX0 (d + 2) f fd ["pattern"] (spBare (d + 1)) := by
  refine F.ok scBare (fun vs H Q E h => ?_) (fun cdv A outer s0 H vs Q E0 hr h => ?_)
  · obtain ⟨_, _, rfl, _⟩ := h
    rfl
  obtain ⟨v, p, rfl, rp, hd, q⟩ := h
  refine ⟨_, pss_cons (ps_if (pt_cmpR op_eq (pe_ix ix_tup (pv 0) pe_int (fun _ _ => rfl)) pe_str (nomark _)) (pss_one (ps_ret (pe_and (pe_call GM hr rfl mF F.kp bF .nil pass0 (pa_cons (pe_ix ix_tup (pv 0) pe_int (fun _ _ => rfl)) pa_nil)) (pe_one (pe_call GM hr rfl mF F.kp bF .nil pass0 (pa_cons (pe_ix ix_tup (pv 0) pe_int (fun _ _ => rfl)) pa_nil)))))) pss_nil)
    (pss_cons (ps_if (pt_cmpR op_eq (pe_ix ix_tup (pv 0) pe_int (fun _ _ => rfl)) pe_str (nomark _)) (pss_one (ps_ret (pe_or (pe_call GM hr rfl mF F.kp bF .nil pass0 (pa_cons (pe_ix ix_tup (pv 0) pe_int (fun _ _ => rfl)) pa_nil)) (pe_one (pe_call GM hr rfl mF F.kp bF .nil pass0 (pa_cons (pe_ix ix_tup (pv 0) pe_int (fun _ _ => rfl)) pa_nil)))))) pss_nil)
    (pss_cons (ps_if (pt_cmpR op_eq (pe_ix ix_tup (pv 0) pe_int (fun _ _ => rfl)) pe_str (nomark _)) (pss_one (ps_ret (pe_call GM hr rfl mF F.kp bF .nil pass0 (pa_cons (pe_ix ix_tup (pv 0) pe_int (fun _ _ => rfl)) pa_nil)))) pss_nil)
    (pss_one (ps_ret (pe_cmpR op_ne (pe_ix ix_tup (pv 0) pe_int (fun _ _ => rfl)) pe_str (nomark _)))))), ?_⟩
  cases p with
  | sg x =>
    obtain ⟨a, rfl, ha⟩ := rp
    refine ⟨_, rfl, a, _, _, _, rfl, rfl, SqT.of ha, at_zero, rfl, _, rfl, itW (by show decide (("signs" : Str) = "then") = false; decide +kernel) ?_⟩
    refine ⟨_, rfl, a, _, _, _, rfl, rfl, SqT.of ha, at_zero, rfl, _, rfl, itW (by show decide (("signs" : Str) = "or") = false; decide +kernel) ?_⟩
    refine ⟨_, rfl, a, _, _, _, rfl, rfl, SqT.of ha, at_zero, rfl, _, rfl, itW (by show decide (("signs" : Str) = "more") = false; decide +kernel) ?_⟩
    exact ⟨_, rfl, a, _, _, _, rfl, rfl, SqT.of ha, at_zero, rfl, (by rw [dec_str, show decide (("signs" : Str) = "signs") = true from by decide +kernel]; exact q H same_refl)⟩
  | em =>
    obtain ⟨a, rfl, ha⟩ := rp
    refine ⟨_, rfl, a, _, _, _, rfl, rfl, SqT.of ha, at_zero, rfl, _, rfl, itW (by show decide (("empty" : Str) = "then") = false; decide +kernel) ?_⟩
    refine ⟨_, rfl, a, _, _, _, rfl, rfl, SqT.of ha, at_zero, rfl, _, rfl, itW (by show decide (("empty" : Str) = "or") = false; decide +kernel) ?_⟩
    refine ⟨_, rfl, a, _, _, _, rfl, rfl, SqT.of ha, at_zero, rfl, _, rfl, itW (by show decide (("empty" : Str) = "more") = false; decide +kernel) ?_⟩
    exact ⟨_, rfl, a, _, _, _, rfl, rfl, SqT.of ha, at_zero, rfl, (by rw [dec_str, show decide (("empty" : Str) = "signs") = false from by decide +kernel]; exact q H same_refl)⟩
  | th p1 p2 =>
    obtain ⟨a, u1, u2, rfl, ha, r1, r2⟩ := rp
    have hd1 : deepP p1 ≤ d ∧ deepP p2 ≤ d := by unfold deepP at hd; omega
    refine ⟨_, rfl, a, _, _, _, rfl, rfl, SqT.of ha, at_zero, rfl, _, rfl, itE (by show decide (("then" : Str) = "then") = true; decide +kernel) ?_⟩
    refine ⟨_, rfl, a, _, _, _, rfl, rfl, SqT.of ha, at_one, u1, p1, rfl, r1, hd1.1, fun H1 s1 => ⟨_, rfl, ?_⟩⟩
    cases hb : bareP p1 with
    | false =>
      have e : bareP (.th p1 p2) = false := by show (bareP p1 && bareP p2) = false; rw [hb]; rfl
      exact iteF (e ▸ q H1 s1)
    | true =>
      have e : bareP (.th p1 p2) = bareP p2 := by show (bareP p1 && bareP p2) = _; rw [hb]; rfl
      exact iteT ⟨_, rfl, a, _, _, _, rfl, rfl, SqT.of (s1 _ _ ha), at_two, u2, p2, rfl, r2.tk (Tk.of_same s1), hd1.2, fun H2 s2 => e ▸ q H2 (s1.trans s2)⟩
  | oo p1 p2 =>
    obtain ⟨a, u1, u2, rfl, ha, r1, r2⟩ := rp
    have hd1 : deepP p1 ≤ d ∧ deepP p2 ≤ d := by unfold deepP at hd; omega
    refine ⟨_, rfl, a, _, _, _, rfl, rfl, SqT.of ha, at_zero, rfl, _, rfl, itW (by show decide (("or" : Str) = "then") = false; decide +kernel) ?_⟩
    refine ⟨_, rfl, a, _, _, _, rfl, rfl, SqT.of ha, at_zero, rfl, _, rfl, itE (by show decide (("or" : Str) = "or") = true; decide +kernel) ?_⟩
    refine ⟨_, rfl, a, _, _, _, rfl, rfl, SqT.of ha, at_one, u1, p1, rfl, r1, hd1.1, fun H1 s1 => ⟨_, rfl, ?_⟩⟩
    cases hb : bareP p1 with
    | true =>
      have e : bareP (.oo p1 p2) = true := by show (bareP p1 || bareP p2) = true; rw [hb]; rfl
      exact iteT (e ▸ q H1 s1)
    | false =>
      have e : bareP (.oo p1 p2) = bareP p2 := by show (bareP p1 || bareP p2) = _; rw [hb]; rfl
      exact iteF ⟨_, rfl, a, _, _, _, rfl, rfl, SqT.of (s1 _ _ ha), at_two, u2, p2, rfl, r2.tk (Tk.of_same s1), hd1.2, fun H2 s2 => e ▸ q H2 (s1.trans s2)⟩
  | ag p1 =>
    obtain ⟨a, u1, rfl, ha, r1⟩ := rp
    refine ⟨_, rfl, a, _, _, _, rfl, rfl, SqT.of ha, at_zero, rfl, _, rfl, itW (by show decide (("again" : Str) = "then") = false; decide +kernel) ?_⟩
    refine ⟨_, rfl, a, _, _, _, rfl, rfl, SqT.of ha, at_zero, rfl, _, rfl, itW (by show decide (("again" : Str) = "or") = false; decide +kernel) ?_⟩
    refine ⟨_, rfl, a, _, _, _, rfl, rfl, SqT.of ha, at_zero, rfl, _, rfl, itW (by show decide (("again" : Str) = "more") = false; decide +kernel) ?_⟩
    exact ⟨_, rfl, a, _, _, _, rfl, rfl, SqT.of ha, at_zero, rfl, (by rw [dec_str, show decide (("again" : Str) = "signs") = false from by decide +kernel]; exact q H same_refl)⟩
  | mo p1 =>
    obtain ⟨a, u1, rfl, ha, r1⟩ := rp
    have hd1 : deepP p1 ≤ d := by unfold deepP at hd; omega
    refine ⟨_, rfl, a, _, _, _, rfl, rfl, SqT.of ha, at_zero, rfl, _, rfl, itW (by show decide (("more" : Str) = "then") = false; decide +kernel) ?_⟩
    refine ⟨_, rfl, a, _, _, _, rfl, rfl, SqT.of ha, at_zero, rfl, _, rfl, itW (by show decide (("more" : Str) = "or") = false; decide +kernel) ?_⟩
    refine ⟨_, rfl, a, _, _, _, rfl, rfl, SqT.of ha, at_zero, rfl, _, rfl, itE (by show decide (("more" : Str) = "more") = true; decide +kernel) ?_⟩
    exact ⟨_, rfl, a, _, _, _, rfl, rfl, SqT.of ha, at_one, u1, p1, rfl, r1, hd1, fun H1 s1 => q H1 s1⟩
  | mb p1 =>
    obtain ⟨a, u1, rfl, ha, r1⟩ := rp
    refine ⟨_, rfl, a, _, _, _, rfl, rfl, SqT.of ha, at_zero, rfl, _, rfl, itW (by show decide (("maybe" : Str) = "then") = false; decide +kernel) ?_⟩
    refine ⟨_, rfl, a, _, _, _, rfl, rfl, SqT.of ha, at_zero, rfl, _, rfl, itW (by show decide (("maybe" : Str) = "or") = false; decide +kernel) ?_⟩
    refine ⟨_, rfl, a, _, _, _, rfl, rfl, SqT.of ha, at_zero, rfl, _, rfl, itW (by show decide (("maybe" : Str) = "more") = false; decide +kernel) ?_⟩
    exact ⟨_, rfl, a, _, _, _, rfl, rfl, SqT.of ha, at_zero, rfl, (by rw [dec_str, show decide (("maybe" : Str) = "signs") = false from by decide +kernel]; exact q H same_refl)⟩
end
end Pa
set_option maxHeartbeats 2000000
namespace Pa
open PySem PySem.Spec PyProof.Rows L2 Ty
def letters : List Nat := List.range' 97 26
def lettS : Str := ⟨letters.toArray⟩
def kept : List Str := ["word", "skip", "rule", "top", "bar"]
def nameP (x : Str) : Bool := !decide (x ∈ kept) && (decide (1 ≤ x.length) && (decide (x.length ≤ 8) && x.cps.toList.all fun c => decide (c ∈ letters)))
theorem beq_str (x y : Str) : (x == y) = decide (x = y) := by
  by_cases h : x = y
  · rw [h]; simp
  · rw [decide_eq_false h]; exact beq_eq_false_iff_ne.mpr h
/-- whether a text is such a one -/
def spB (p : Str → Bool) : Sp := fun vs H Q _ => ∃ x : Str, vs = [.str x] ∧ x.length ≤ 16000000 ∧ ∀ H', Same H H' → Q (.bl (p x)) H'
theorem inV_strs {x : Str} : ∀ {l : List Str}, inV (.str x) (l.map V.str) = decide (x ∈ l)
  | [] => by simp [inV]
  | y :: l => by
    have ih := inV_strs (x := x) (l := l)
    unfold inV at ih ⊢
    rw [List.map_cons, List.any_cons, ih]
    have e : eqV (V.str y) (V.str x) = decide (x = y) := by
      show (y == x) = _
      rw [beq_str]
      by_cases h : x = y
      · rw [h]
      · rw [decide_eq_false h, decide_eq_false fun e => h e.symm]
    rw [e]
    simp [List.mem_cons, Bool.or_eq_true]
theorem all_flat : ∀ l : List Str, (l.map V.str).all flatV = true
  | [] => rfl
  | _ :: l => by rw [List.map_cons, List.all_cons, all_flat l]; rfl
theorem eL : ("abcdefghijklm\
    nopqrstuvwxyz" : Str) = lettS := by decide +kernel
theorem scName : FnScope ["thing", "sign"] ["thing"] (defScope sName) := ⟨rfl, rfl, rfl, by decide +kernel, rfl, by decide +kernel, by decide +kernel⟩
theorem scNone2 : FnScope ["text", "sign"] ["text"] (defScope lNone) := ⟨rfl, rfl, rfl, by decide +kernel, rfl, by decide +kernel, by decide +kernel⟩
section
variable {P : Program} {w : World} {K : PySem.W.Frag} {mg : Str → Option Value} {base : Heap} {f g dK : Addr} {fd gd : FuncData} {t1 t2 : Tok}
theorem ok_name (F : Fun K "is_name" "is_name" sName f fd) (mL : mg "LETTERS" = some (.str lettS t1)) (mN : mg "LONGEST" = some (.int 8 t2)) (mK : mg "KEPT" = some (.ref dK)) (hK : ∀ H, SqT K H dK (kept.map V.str))
    (mi : mg "isinstance" = none) (ms : mg "str" = none) (ml : mg "len" = none) (ma : mg "all" = none) : FnOk P w K mg base CX0 1 f fd ["thing"] (spB nameP) := by
  refine F.ok scName (fun vs H Q E h => ?_) (fun cdv A outer s H vs Q E hr h => ?_)
  · obtain ⟨x, rfl, _⟩ := h
    rfl
  obtain ⟨x, rfl, hx, q⟩ := h
  refine ⟨_, pss_cons (ps_if (PW.pt (pw_or (pt_not (pt_val (pe_callB call_isi rfl mi (by decide +kernel) (pa_cons (pv 0) (pa_cons (pe_bltn rfl ms (by decide +kernel) (show RelV (.ty "str") (.type "str") from rfl)) pa_nil)))))
      (pw_or (pt_not (pt_chain op_le op_le pe_int (pe_callB call_len_str rfl ml PySem.boot_len (pa_cons (pv 0) pa_nil)) (pe_glob rfl mN (show RelV (.int 8) (.int 8 t2) from ⟨_, rfl⟩))))
      (pw_or1 (pt_cmpR op_in_seq (pv 0) (pe_glob rfl mK (show RelV (.ref dK) (.ref dK) from rfl)) rfl)))))
      (pss_one (ps_ret pe_bl)) pss_nil)
    (pss_one (ps_ret (pe_callB (cr_all rfl) rfl ma (by decide +kernel) (pa_cons
        (pe_lc (own := [("sign", 1)]) (g := gName 1) (tt := tYes) rfl scName.nd (pi_str (pv 0)) (blkOk_by (N := ["thing", "sign"]) (sc := defScope sName) (by decide +kernel)) (fun _ _ _ _ _ => pg_name (i := 1) scName.nd rfl (Or.inl rfl)) (fun _ _ _ _ _ => pts_nil)
          (fun _ _ _ _ _ => pe_cmpR op_in_sign (pv 1) (pe_glob rfl mL (show RelV (.str lettS) (.str lettS t1) from ⟨_, rfl⟩)) rfl)) pa_nil)))), ?_⟩
  have hl : x.cps.toList.length = x.cps.size := Array.length_toList
  refine ⟨_, rfl, .str x, .ty "str", _, _, _, rfl, .ty _, .base (.str x), kit_ty (show kitB "str" "str" = some true by decide +kernel), _, rfl, ?_⟩
  refine iteF ?_
  refine ⟨_, rfl, x, rfl, by rw [sizeLine_eq]; omega, _, _, rfl, rfl, _, rfl, ?_⟩
  have bad : nameP x = false → Q (.bl false) H := fun e => by
    have := q H (fun b o h => h)
    rw [e] at this
    exact this
  by_cases h1 : 1 ≤ x.length
  · rw [decide_eq_true (show (1 : Int) ≤ ((x.length : Nat) : Int) by omega)]
    refine iteT ⟨_, _, rfl, rfl, _, rfl, ?_⟩
    by_cases h2 : x.length ≤ 8
    · rw [decide_eq_true (show ((x.length : Nat) : Int) ≤ 8 by omega)]
      refine iteF ?_
      refine ⟨_, rfl, dK, _, rfl, .inr (hK _), rfl, all_flat _, _, rfl, ?_⟩
      rw [if_neg Bool.false_ne_true, inV_strs]
      by_cases h3 : x ∈ kept
      · rw [decide_eq_true h3]
        exact iteT (bad (by unfold nameP; rw [decide_eq_true h3]; rfl))
      · rw [decide_eq_false h3]
        refine iteF ?_
        have e2 : nameP x = x.cps.toList.all fun c => decide (c ∈ letters) := by
          unfold nameP
          rw [decide_eq_false h3, decide_eq_true h1, decide_eq_true h2]
          rfl
        refine ⟨_, rfl, x, rfl, fun D hD => ?_⟩
        refine lc_it walk_str (fun i H' => Acc H D (((x.cps.toList.take i).map fun c => decide (c ∈ letters)).map V.bl) H') (.nil hD) (fun _ _ _ _ => trivial) (fun i y H1 H2 hi p z => ?_) (fun H1 p => ?_)
        · obtain ⟨rfl, c, hc, rfl⟩ := z
          refine ⟨rfl, ?_⟩
          simp only [tYes, ↓reduceIte]
          refine ⟨_, rfl, c, lettS, rfl, rfl, _, p.2, ?_, ?_⟩
          · rw [List.length_map, List.length_map, List.length_take, hl, sizeLine_eq]; show min i x.length < _; omega
          · have h2 := p.push hD (.bl (decide (c ∈ letters)))
            have h3 : x.cps.toList[i]? = some c := by rw [Array.getElem?_toList]; exact hc
            rw [List.take_add_one, h3, Option.toList_some, List.map_append, List.map_append]
            exact h2
        · refine ⟨D, _, rfl, SqL.of p.2, ?_⟩
          rw [List.take_of_length_le (by rw [hl]; exact Nat.le_refl _)]
          have ea : (x.cps.toList.map fun c => decide (c ∈ letters)).all id = x.cps.toList.all fun c => decide (c ∈ letters) := by
            rw [List.all_map]; rfl
          rw [ea]
          rw [← e2]
          exact q H1 p.1
    · rw [decide_eq_false (show ¬ ((x.length : Nat) : Int) ≤ 8 by omega)]
      exact iteT (bad (by unfold nameP; rw [decide_eq_false h2]; simp))
  · rw [decide_eq_false (show ¬ (1 : Int) ≤ ((x.length : Nat) : Int) by omega)]
    refine iteF ⟨_, rfl, ?_⟩
    exact iteT (bad (by unfold nameP; rw [decide_eq_false h1]; simp))
theorem ok_lnone (F : Fun K "_law_none" "_law_none" lNone f fd) (ml : mg "len" = none) : FnOk P w K mg base CX0 1 f fd ["text"] (spB fun x => !nameP x) := by
  refine F.ok scNone2 (fun vs H Q E h => ?_) (fun cdv A outer s H vs Q E hr h => ?_)
  · obtain ⟨x, rfl, _⟩ := h
    rfl
  obtain ⟨x, rfl, hx, q⟩ := h
  have hu := hr.units
  refine ⟨_, pss_cons (ps_if (PW.pt (pw_or (pt_not (pt_chain op_le op_le pe_int (pe_callB call_len_str rfl ml PySem.boot_len (pa_cons (pv 0) pa_nil)) pe_int))
      (pw_or1 (pt_cmpR op_in_seq (pv 0) (pe_tup (pa_cons pe_str (pa_cons pe_str (pa_cons pe_str (pa_cons pe_str (pa_cons pe_str pa_nil)))))) rfl))))
      (pss_one (ps_ret pe_bl)) pss_nil)
    (pss_one (ps_ret (pe_cmpR (op_neL0 hu) (pe_lc (own := [("sign", 1)]) (g := gName 1) (tt := tTest _) rfl scNone2.nd (pi_str (pv 0)) (blkOk_by (N := ["text", "sign"]) (sc := defScope lNone) (by decide +kernel)) (fun _ _ _ _ _ => pg_name (i := 1) scNone2.nd rfl (Or.inl rfl)) (fun _ _ _ _ _ => pts_one (pt_cmpR op_notIn_sign (pv 1) pe_str rfl))
          (fun _ _ _ _ _ => pv 1)) (pe_lst pa_nil) (nomark _)))), ?_⟩
  have hl : x.cps.toList.length = x.cps.size := Array.length_toList
  refine ⟨_, rfl, x, rfl, by rw [sizeLine_eq]; omega, _, _, rfl, rfl, _, rfl, ?_⟩
  have bad : nameP x = false → ∀ H', Same H H' → Q (.bl true) H' := fun e H' s => by
    have : Q (.bl (!nameP x)) H' := q H' s
    rw [e] at this
    exact this
  by_cases h1 : 1 ≤ x.length
  · rw [decide_eq_true (show (1 : Int) ≤ ((x.length : Nat) : Int) by omega)]
    refine iteT ⟨_, _, rfl, rfl, _, rfl, ?_⟩
    by_cases h2 : x.length ≤ 8
    · rw [decide_eq_true (show ((x.length : Nat) : Int) ≤ 8 by omega)]
      refine iteF ?_
      refine ⟨_, rfl, (by show 5 ≤ sizeLine; decide), fun p hp => ?_⟩
      have z1 := same_new hp (.tup (kept.map V.str))
      refine ⟨p, kept.map V.str, rfl, .inr (SqT.of upd_same), rfl, all_flat _, _, rfl, ?_⟩
      rw [if_neg Bool.false_ne_true, inV_strs]
      by_cases h3 : x ∈ kept
      · rw [decide_eq_true h3]
        exact iteT (bad (by unfold nameP; rw [decide_eq_true h3]; rfl) _ z1)
      · rw [decide_eq_false h3]
        refine iteF ?_
        have e2 : nameP x = x.cps.toList.all fun c => decide (c ∈ letters) := by
          unfold nameP
          rw [decide_eq_false h3, decide_eq_true h1, decide_eq_true h2]
          rfl
        have ez : Same H (upd H p (.tup (kept.map V.str))) := z1
        refine ⟨_, rfl, x, rfl, fun D hD0 => ?_⟩
        have hD : (upd H p (.tup (kept.map V.str))) D = none := hD0
        have hDH : H D = none := by
          cases e : H D with
          | none => rfl
          | some o => rw [z1 _ _ e] at hD; cases hD
        refine lc_it walk_str (fun i H' => ∃ acc : List V, H' D = some (.lst acc) ∧ acc.length ≤ i ∧ (acc = [] ↔ ∀ c, c ∈ x.cps.toList.take i → c ∈ letters) ∧ Same H H') ⟨[], upd_same, Nat.le_refl _, ⟨(fun _ c h => by cases h), (fun _ => rfl)⟩, same_upd ez hDH⟩ (fun _ _ _ _ => trivial) (fun i y H1 H2 hi p z => ?turn) (fun H1 p => ?done)
        case turn =>
          obtain ⟨acc, eD, la, iff', sS⟩ := p
          obtain ⟨rfl, c, hc, rfl⟩ := z
          have h3 : x.cps.toList[i]? = some c := by rw [Array.getElem?_toList]; exact hc
          have htk : x.cps.toList.take (i + 1) = x.cps.toList.take i ++ [c] := by rw [List.take_add_one, h3]; rfl
          refine ⟨rfl, _, rfl, c, _, rfl, rfl, _, rfl, ?_⟩
          rw [eL]
          by_cases hcl : c ∈ letters
          · rw [show decide (c ∈ lettS.cps.toList) = true from decide_eq_true hcl]
            refine iteF ⟨acc, eD, by omega, ?_, sS⟩
            rw [iff', htk]
            exact ⟨fun h d hd => (List.mem_append.mp hd).elim (h d) fun e => by rw [List.mem_singleton.mp e]; exact hcl, fun h d hd => h d (List.mem_append_left _ hd)⟩
          · rw [show decide (c ∈ lettS.cps.toList) = false from decide_eq_false hcl]
            refine iteT ⟨_, rfl, acc, eD, by rw [sizeLine_eq]; have : i < x.length := hi; omega, acc ++ [.str ⟨#[c]⟩], upd_same, by rw [List.length_append]; show acc.length + 1 ≤ _; omega, ?_, same_upd sS hDH⟩
            rw [htk]
            exact ⟨fun h => absurd h (by simp), fun h => absurd (h c (List.mem_append_right _ (List.mem_singleton_self _))) hcl⟩
        case done =>
          obtain ⟨acc, eD, la, iff', sS⟩ := p
          refine ⟨(by show 0 ≤ sizeLine; decide), fun p2 hp2 => ⟨D, p2, acc, rfl, rfl, same_new hp2 _ _ _ eD, upd_same, ?_⟩⟩
          have s9 := sS.trans (same_new hp2 (.lst []))
          rw [List.take_of_length_le (by rw [hl]; exact Nat.le_refl _)] at iff'
          have e3 : (if true = true then !acc.isEmpty else acc.isEmpty) = !nameP x := by
            rw [if_pos rfl, e2]
            congr 1
            rw [Bool.eq_iff_iff, List.isEmpty_iff, iff', List.all_eq_true]
            simp only [decide_eq_true_eq]
          rw [e3]
          exact q _ s9
    · rw [decide_eq_false (show ¬ ((x.length : Nat) : Int) ≤ 8 by omega)]
      exact iteT (iteT (bad (by unfold nameP; rw [decide_eq_false h2]; simp) _ same_refl))
  · rw [decide_eq_false (show ¬ (1 : Int) ≤ ((x.length : Nat) : Int) by omega)]
    refine iteF ⟨_, rfl, ?_⟩
    exact iteT (iteT (bad (by unfold nameP; rw [decide_eq_false h1]; simp) _ same_refl))
end
end Pa
/-! own errors whose __init__ calls the base's own, by the base's name; isinstance of a caught one that bears fields -/
namespace Pa
open PySem PySem.Spec PyProof.Rows L2
section
variable {X : Cx} {x : Str} {e : Expr} {es : List Expr} {ta : TA} {p1 p2 pos : Pos} {CY : Addr} {mc : Value}
theorem pe_oinit {pl : Sem Bool} (hg : Gl X x) (hm : X.mg x = some (.ref CY)) (r : ClX.CRead X.K CY mc) (vV : PySem.W.findCls X.K (.ref CY) mc "__init__" = some (.val (.builtin "ValueError.__init__"))) (ha : PA X (e :: es) ta) (hdb : (x == ("__debug__" : Str)) = false := by decide)
    (hc : eval (.Call (.Attribute (.Name x p1) "__init__" p2) (e :: es) [] pos) X.env = (do
      let ov ← eval (.Name x p1) X.env
      standAt p2.atName
      let (f, first) ← holding [ov] (getMethod ov "__init__" pl)
      callWith pos f first (backTo pos (starEach (e :: es) X.env)) (backToKw pos (keywordEach [] X.env))) := by rfl)
    (he : starEach (e :: es) X.env = (false, eval e X.env) :: starEach es X.env := by rfl) (hpl : (backTo pos (starEach es X.env)).any (·.1) = false := by rfl) :
    PE X (.Call (.Attribute (.Name x p1) "__init__" p2) (e :: es) [] pos) (tVeI X.K ta) := by
  refine ⟨fun pins s σ H Q I h => ?_⟩
  refine PySem.W.methodCall_KW (ld_glob I hg hm ?_ hdb) hc
  refine PySem.W.method_cls I.kIn r.ga (PySem.W.cls_value I.kIn r.rd vV (by decide +kernel) ?_)
  refine PyProof.Rows.callWith_method1 (thn (ha.run pos pins _ σ H _ (I.tok _) h) fun us s1 hv => ?_) he hpl
  obtain ⟨vs, H1, I1, r1, a, C, ws, ev, hl, T, ea, q⟩ := hv
  subst ev
  cases r1 with
  | @cons _ u0 _ ur ra rw' =>
    obtain rfl : u0 = Value.ref a := ra
    have hlen : ur.length ≤ sizeLine := by
      rw [← Paired.length rw', sizeLine_eq]
      omega
    exact oinit_ok T I1 ea hlen fun s' J => ⟨.non, H1, J, rfl, q⟩
end
/-! ### isinstance of a caught error that has its dict -/
section
open PySem.W PySem.Calls
variable {prog : Program} {w : World} {A : Around} {E : Value → Shared → Prop} {s : Shared} {K : Frag} {x D : Addr} {ox : Obj} {od : Option Obj}
theorem data_first {C : Addr} {name : Str} {a g : Value} (hc : (clsIn K C).isSome = true) (ha : findIn K (.ref C) name = some (some a)) (hg : specialIn K a "__get__" = some (some g)) (ht : takesIn K a = some true) : findObj K C od name = some (.bind g a) := by
  obtain ⟨cd, hc⟩ := Option.isSome_iff_exists.mp hc
  unfold findObj
  rw [hc, Option.bind_some, ha, Option.bind_some]
  simp [hg, ht]
/-- its class is asked of the object's own getter, whatever its dict holds -/
theorem its_class {Q : Option Value → Shared → Prop} (T : ExcC K D) (X : K.In s.heap) (I : InstAt s.heap x ox D od) (h : Q (some (.ref D)) { s with toks := s.toks + 1 }) : wpAny (model prog w) A (getAttr? (.ref x) "__class__") Q E s := by
  have known : (clsIn K D).isSome = true := by
    obtain ⟨cd, hc, _⟩ := any_some T.hd
    rw [hc]; rfl
  have found : findObj K D od "__class__" = some (.bind (.builtin "getset_descriptor.__get__") (.builtin "object.__class__")) := data_first known T.ha T.hn T.ht
  obtain ⟨hp, g, d, t, os⟩ := s
  have seen := I.type (M := model prog w)
  have its := looks_findIn (M := model prog w) X T.hg
  have nohook := looks_findIn (M := model prog w) X T.hk
  have look := looks_find (M := model prog w) X I found
  have base : Looks (model prog w) hp (isInstance (.ref x) (.type "BaseException")) true := seen.andThen (looks_subIn X T.hs)
  have differ : (Value.builtin "BaseException.__getattribute__" == Value.builtin "object.__getattribute__") = false := by decide +kernel
  have short : (onTheHeap (Value.ref D) && Value.builtin "BaseException.__getattribute__" == Value.builtin "object.__getattribute__") = false := by rw [differ]; rfl
  have plain : (false && onTheHeap (Value.builtin "BaseException.__getattribute__")) = false := rfl
  unfold getAttr? getAttrBy? getAttrBy
  refine wpAny_bind (wpAny_mkText (wpAny_bind (wpAny_attempt (wpAny_holding (wpAny_bind (seen.at (wpAny_bind (its.at ?_))))))))
  show wpAny _ _ (if (onTheHeap (Value.ref D) && Value.builtin "BaseException.__getattribute__" == Value.builtin "object.__getattribute__") = true then _ else _) _ _ _
  rw [short, if_neg Bool.false_ne_true]
  unfold getAttrByItsOwn hookBefore
  refine wpAny_bind ?_
  rw [if_pos (show onTheHeap (Value.ref D) = true from rfl)]
  refine nohook.at (wpAny_bind (wpAny_attempt (wpAny_holding ?_)))
  unfold callGetattribute
  rw [plain, if_neg Bool.false_ne_true]
  unfold boundAndCalled
  rw [PySem.F.excAttr_ValueError.ga.bind (.ref x)]
  refine wpAny_bind (wpAny_pure ?_)
  show wpAny _ _ (call (.builtin "BaseException.__getattribute__") [.ref x, .str "__class__" t]) _ _ _
  refine wpAny_call (codeAny_call_builtin PySem.F.excAttr_ValueError.ga.plain PySem.F.entry_bexc_ga ?_)
  refine @check_slot (model prog w) _ _ ⟨hp, g, d, t + 1, os⟩ "BaseException.__getattribute__" "BaseException" "__getattribute__" (.ref x) [.str "__class__" t] [] _ (by decide +kernel) (by decide +kernel) base (PySem.F.args_bexc_ga (.ref x) (.str "__class__" t)) ?_
  unfold Builtin.«object.__getattribute__»
  refine wpAny_bind (wpAny_of_eq (a := ((Value.ref x : Value), [Value.str "__class__" t])) (by first | rfl | (simp only [slotArgs]; rfl)) ?_)
  refine wpAny_bind (wpAny_pure (wpAny_bind (seen.at (wpAny_bind (look.at ?_)))))
  show wpAny _ _ (holding [Value.builtin "object.__class__"] (call (.builtin "getset_descriptor.__get__") [.builtin "object.__class__", .ref x, .ref D]) >>= ret) _ _ _
  refine wpAny_bind (wpAny_holding (wpAny_call (class_get (s := ⟨hp, g, d, t + 1, os⟩) X I T.hm ?_)))
  refine wpAny_pure ?_
  show wpAny _ _ (handedOut (.ref D)) _ _ _
  rw [handedOut_of (v := .ref D) rfl]
  first
    | exact wpAny_pure (wpAny_pure h)
    | exact wpAny_pure h
    | exact wpAny_pure (wpAny_bind (wpAny_pure (wpAny_pure h)))
theorem kit_caught (T : ExcC K D) : KitX K (.ref x) (.ref D) (fun h => InstAt h x ox D od) where
  ty := fun _ _ _ I => I.type
  it := fun _ _ X _ => by
    obtain ⟨cd, hc, _⟩ := any_some T.hd
    unfold clsIn at hc
    split at hc
    · rename_i c' d' cd' sl' ho
      intro A' Q' E' s' k q
      unfold isType loadHead
      exact wpAny_bind (wpAny_loadPart (k _ _ (X _ _ ho)) (wpAny_pure q))
    · cases hc
  ne := fun h tp dd its n sl X htp => by
    obtain ⟨cd, hc, _⟩ := any_some T.hd
    refine Bool.eq_false_iff.mpr fun q => ?_
    have e : D = tp := Value.ref.inj (beq_iff_eq.mp q)
    subst e
    unfold clsIn at hc
    split at hc
    · rename_i c' d' cd' sl' ho
      have z := (X _ _ ho).symm.trans htp
      cases z
    · cases hc
  ca := fun X I k => its_class T X I k
end
/-- isinstance(e, c), e the caught error at a; cls its class, d its dict -/
def rIsC (K : PySem.W.Frag) (a : Addr) (cls : Value) (d : Option Addr) : List V → Hp → VK → Prop := fun xs H Q => ∃ (c : V) (cv : Value) (b : Bool) (D dd : Addr) (fs : List (Str × V)), xs = [.ref a, c] ∧ (∀ u, RelV c u → u = cv) ∧ cls = .ref D ∧ d = some dd ∧ H dd = some (.xd fs) ∧ ExcC K D ∧
  PySem.W.kitOne K (.ref D) cv = some b ∧ Q (.bl b) H
theorem call_isC {X : Cx} {a : Addr} {cls : Value} {d : Option Addr} {oe : Obj} {pn : List (Addr × Obj)} (hz : Zc cls d oe) (hf : ∃ vs, oe.data = .fields vs) : CallR (X.suite a ((a, oe) :: pn)) (.builtin "isinstance") (rIsC X.K a cls d) := by
  intro pins s σ H xs us Q I r h
  obtain ⟨c, cv, b, D, dd, fs, rfl, hcv, rfl, rfl, hd, C, e, q⟩ := h
  obtain ⟨u1, u2, rfl, r1, r2⟩ := vals2 r
  cases r1
  have ec := hcv _ r2
  subst ec
  obtain ⟨hget, _⟩ := I.pin (a, oe) (List.mem_append.mpr (.inl List.mem_cons_self))
  obtain ⟨vs, hv⟩ := hf
  have hx : ObjOk X.prog X.w H s.heap dd (.xd fs) := I.hok dd _ hd
  obtain ⟨mA, ⟨od, es, ep, ho, _⟩, _⟩ := hx
  have J : PySem.W.InstAt s.heap a oe D (some od) := ⟨hget, hz.1, by unfold PySem.W.notCls; rw [hv] <;> rfl, by rw [hz.2]; exact ho⟩
  exact PySem.W.kia_one (kit_caught C) I.kIn J e (fun z => nomatch z) fun tk => ⟨.bl b, H, I.kept (t' := tk) fun _ _ z => z, rfl, q⟩
end Pa
set_option maxHeartbeats 2000000
namespace Pa
open PySem PySem.Spec PyProof.Rows L2 Ty
abbrev sNoGrammar : Stmt := inner 0 (top 4)
theorem scNoGrammar : FnScope ["self", "what", "name"] ["self", "what", "name"] (defScope sNoGrammar) := ⟨rfl, rfl, rfl, by decide +kernel, rfl, by decide +kernel, by decide +kernel⟩
/-- NoGrammar's __init__: two fields -/
def spNoG (K : PySem.W.Frag) (C : Addr) : Sp := fun vs H Q _ => ∃ (a : Addr) (u v : V), vs = [.ref a, u, v] ∧ OexC K C ∧ PySem.W.findIn K (.ref C) "what" = some none ∧ PySem.W.findIn K (.ref C) "name" = some none ∧ H a = some (exo a C none) ∧
  ∀ d H', H d = none → d ≠ a → H' a = some (exo a C (some d)) → H' d = some (exd d [("name", v), ("what", u)]) → (∀ c o, c ≠ a → H c = some o → H' c = some o) → (∀ c, c ≠ a → c ≠ d → H' c = H c) → Q .non H'
section
variable {P : Program} {w : World} {K : PySem.W.Frag} {mg : Str → Option Value} {base : Heap} {f C CY : Addr} {fd : FuncData} {mc : Value}
theorem ok_nog (F : Fun K "__init__" "NoGrammar.__init__" sNoGrammar f fd) (mY : mg "YardError" = some (.ref CY)) (r : ClX.CRead K CY mc) (vV : PySem.W.findCls K (.ref CY) mc "__init__" = some (.val (.builtin "ValueError.__init__"))) :
    FnOk P w K mg base CX0 1 f fd ["self", "what", "name"] (spNoG K C) := by
  refine F.ok scNoGrammar (fun vs H Q E h => ?_) (fun cdv A outer s H vs Q E hr h => ?_)
  · obtain ⟨a, u, v, rfl, _⟩ := h
    rfl
  obtain ⟨a, u, v, rfl, T, n1, n2, ha, q⟩ := h
  refine ⟨_, pss_cons (ps_expr (pe_oinit rfl mY r vV (pa_cons (pv 0) (pa_cons pe_str pa_nil)))) (pss_cons (ps_ost (f := "what") (pv 0) (pv 1)) (pss_one (ps_ost (f := "name") (pv 0) (pv 2)))), ?_⟩
  refine ⟨_, rfl, a, C, _, rfl, by decide, T, ha, _, rfl, _, rfl, a, C, rfl, T, n1, .inl ⟨ha, fun d hd hn => ?_⟩⟩
  refine ⟨_, rfl, _, rfl, a, C, rfl, T, n2, .inr ⟨d, _, upd_same, by rw [upd_ne hn]; exact upd_same, (by show 1 ≤ 900; decide), ?_⟩⟩
  refine q d _ hd hn (by rw [upd_ne (Ne.symm hn)]; exact upd_same) upd_same (fun c o hc e' => ?_) (fun c h1 h2 => by rw [upd_ne h2, upd_ne h1, upd_ne h2])
  have hcd : c ≠ d := fun q' => by rw [q', hd] at e'; cases e'
  rw [upd_ne hcd, upd_ne hc, upd_ne hcd]; exact e'
end
end Pa
set_option maxHeartbeats 2000000
namespace Pa
open PySem PySem.Spec PyProof.Rows L2 Ty
/-! ### what a Grammar is made of, and why it is refused -/
abbrev Kds := List (Str × Pat × Bool)
abbrev Rls := List (Str × List (Str × List Str))
abbrev Brs := List (Str × Int × Str)
def KdV (H : Hp) (v : V) (k : Str × Pat × Bool) : Prop := ∃ a u, v = .ref a ∧ H a = some (.tup [.str k.1, u, .bl k.2.2]) ∧ RP H k.2.1 u
def AltV (H : Hp) (v : V) (r : Str × List Str) : Prop := ∃ a b, v = .ref a ∧ H a = some (.tup [.str r.1, .ref b]) ∧ H b = some (.tup (r.2.map V.str))
def RlV (ok : Addr → Prop) (H : Hp) (v : V) (r : Str × List (Str × List Str)) : Prop := ∃ a b xs, v = .ref a ∧ H a = some (.tup [.str r.1, .ref b]) ∧ H b = some (.lst xs) ∧ ok b ∧ Paired (AltV H) xs r.2
def BrV (H : Hp) (v : V) (b : Str × Int × Str) : Prop := ∃ a, v = .ref a ∧ H a = some (.tup [.str b.1, .int b.2.1, .str b.2.2])
theorem KdV.tk {H H' : Hp} {v : V} {k : Str × Pat × Bool} (h : KdV H v k) (t : Tk H H') : KdV H' v k := by
  obtain ⟨a, u, e, h1, h2⟩ := h
  exact ⟨a, u, e, t _ _ h1, h2.tk t⟩
theorem AltV.tk {H H' : Hp} {v : V} {k : Str × List Str} (h : AltV H v k) (t : Tk H H') : AltV H' v k := by
  obtain ⟨a, b, e, h1, h2⟩ := h
  exact ⟨a, b, e, t _ _ h1, t _ _ h2⟩
theorem RlV.tk {ok : Addr → Prop} {H H' : Hp} {v : V} {k : Str × List (Str × List Str)} (h : RlV ok H v k) (t : Tk H H') (l : ∀ b xs, ok b → H b = some (.lst xs) → H' b = some (.lst xs)) : RlV ok H' v k := by
  obtain ⟨a, b, xs, e, h1, h2, h3, h4⟩ := h
  exact ⟨a, b, xs, e, t _ _ h1, l _ _ h3 h2, h3, paired_imp (fun _ _ r => r.tk t) h4⟩
theorem BrV.tk {H H' : Hp} {v : V} {k : Str × Int × Str} (h : BrV H v k) (t : Tk H H') : BrV H' v k := by
  obtain ⟨a, e, h1⟩ := h
  exact ⟨a, e, t _ _ h1⟩
/-- a refusal: with what word, of which name -/
abbrev No := Str × Option Str
def altsN (rs : Rls) : Nat := (rs.map fun r => r.2.length).sum
def signsN (ks : Kds) : Nat := (ks.map fun k => cntP k.2.1).sum
def manyE (ks : Kds) (rs : Rls) (bs : Brs) : Bool := decide (ks = []) || decide (rs = []) || decide (14 < ks.length) || decide (40 < signsN ks) || decide (40 < rs.length) || decide (100 < altsN rs) || decide (30 < bs.length)
def kindE : List Str → Kds → Option No
  | _, [] => none
  | met, (n, p, _) :: ks => if nameP n = false then some ("name", some n) else if n ∈ met then some ("twice", some n) else if bareP p = true then some ("empty", some n) else kindE (met ++ [n]) ks
def altE : List Str → List (Str × List Str) → Option No
  | _, [] => none
  | ls, (l, row) :: as => if nameP l = false then some ("label", some l) else if l ∈ ls then some ("again", some l) else if 6 < row.length then some ("long", some l) else altE (ls ++ [l]) as
def ruleE : List Str → List Str → Rls → Option No
  | _, _, [] => none
  | met, ls, (n, as) :: rs => if nameP n = false then some ("name", some n) else if n ∈ met then some ("twice", some n) else if as = [] then some ("bare", some n) else
      match altE ls as with
      | some e => some e
      | none => ruleE (met ++ [n]) (ls ++ as.map (·.1)) rs
def rowsOf (rs : Rls) : List (List Str) := rs.flatMap fun r => r.2.map (·.2)
def symE (names heads skips : List Str) : List Str → Option No
  | [] => none
  | s :: ss => if s ∉ names ∧ s ∉ heads then some ("symbol", some s) else if s ∈ skips then some ("skipped", some s) else symE names heads skips ss
def spelledP (rs : Rls) (l : Str) : List Str := ((rs.flatMap (·.2)).lookup l).getD []
def homeP (rs : Rls) (l : Str) : Option Str := (rs.flatMap fun r => r.2.map fun a => (a.1, r.1)).lookup l
def barE (rs : Rls) : Brs → Brs → Option No
  | _, [] => none
  | met, (one, place, other) :: bs =>
    if ¬ (1 ≤ place ∧ place ≤ ((spelledP rs one).length : Nat)) ∨ (one, place, other) ∈ met ∨ homeP rs other ≠ (spelledP rs one)[(place - 1).toNat]? then some ("bar", some one) else barE rs (met ++ [(one, place, other)]) bs
def gramE (ks : Kds) (rs : Rls) (start : Str) (bs : Brs) : Option No :=
  if manyE ks rs bs = true then some ("many", none) else
  match kindE [] ks with
  | some e => some e
  | none => match ruleE (ks.map (·.1)) [] rs with
    | some e => some e
    | none => match symE (ks.map (·.1)) (rs.map (·.1)) ((ks.filter fun k => k.2.2).map (·.1)) (rowsOf rs).flatten with
      | some e => some e
      | none => if start ∉ rs.map (·.1) then some ("begin", some start) else barE rs [] bs
end Pa
set_option maxHeartbeats 4000000
namespace Pa
open PySem PySem.Spec PyProof.Rows L2 Ty
/-- what stands of the classes -/
structure GTxt (K : PySem.W.Frag) (mg : Str → Option Value) (C CN fN : Addr) : Prop where
  cl : Cls K C
  nK : NoAttr K C "kind_rows"
  nR : NoAttr K C "rule_rows"
  nB : NoAttr K C "bar_rows"
  nF : NoAttr K C "first_rule"
  nP : NoAttr K C "patterns"
  nS : NoAttr K C "skips"
  nH : NoAttr K C "homes"
  nL : NoAttr K C "spelled"
  nN : NoAttr K C "numbers"
  nW : NoAttr K C "label_rows"
  tN : OexC K CN
  n1 : PySem.W.findIn K (.ref CN) "what" = some none
  n2 : PySem.W.findIn K (.ref CN) "name" = some none
  iN : PySem.W.findIn K (.ref CN) "__init__" = some (some (.ref fN))
  yN : PySem.W.typeIn K (.ref fN) = some (.type "function")
  mN : mg "NoGrammar" = some (.ref CN)
theorem scFew : FnScope ["self", "many", "signs", "sizes", "mosts", "name", "alternatives", "pattern", "skipped", "size", "most"] ["self"] (defScope gFew) := ⟨rfl, rfl, rfl, by decide +kernel, rfl, by decide +kernel, by decide +kernel⟩
def oV : Option Str → V
  | none => .non
  | some x => .str x
abbrev anyB : Addr → Prop := fun _ => True
theorem walk_zipT {K : PySem.W.Frag} {a b : Addr} {xs ys : List V} {n : Nat} (hn : n = xs.length) (hm : ys.length = xs.length) : Walk (RZ.ItzT K a b) n (fun H => SqT K H a xs ∧ SqT K H b ys) (YPair (fun i => xs[i]?) (fun i => ys[i]?)) := by
  subst hn
  refine ⟨fun i _ hi q => ?_, fun _ q => ⟨xs, ys, q.1, q.2, by omega⟩, fun i H v H' _ q y => ?_⟩
  · have h2 : i < ys.length := by omega
    exact ⟨xs, ys, xs[i], ys[i], q.1, q.2, by simp [hi], by simp [h2]⟩
  · obtain ⟨T, x, z, h1, h2, h3, h4, h5⟩ := y
    exact ⟨T, x, z, h1, h2, h3, h4 xs q.1, h5 ys q.2⟩
/-- how a refusal leaves -/
def Out (E : XK) (CN : Addr) (H : Hp) (e : No) : Prop := ∀ dd H', H dd = none → Same H H' → H' dd = some (.xd [("name", oV e.2), ("what", .str e.1)]) → E (.ref CN) (some dd) H'
theorem Out.same {E : XK} {CN : Addr} {H H1 : Hp} {e : No} (o : Out E CN H e) (s : Same H H1) : Out E CN H1 e := fun dd H' h1 h2 h3 => o dd H' (by
  cases q : H dd with
  | none => rfl
  | some u => rw [s _ _ q] at h1; cases h1) (s.trans h2) h3
theorem raise_nog {K : PySem.W.Frag} {C : Addr} {H : Hp} {E : XK} {x : Str} {y : Option Str} (T : OexC K C) (n1 : PySem.W.findIn K (.ref C) "what" = some none) (n2 : PySem.W.findIn K (.ref C) "name" = some none) (q : Out E C H (x, y)) :
    [V.str x, oV y].length ≤ 1000 ∧ ∀ a, H a = none → spNoG K C (.ref a :: ([V.str x, oV y] ++ [])) (upd H a (exo a C none))
      (fun u H2 => u = .non ∧ ∃ (d : Addr) (fs : List (Str × V)), H2 a = some (exo a C (some d)) ∧ H2 d = some (exd d fs) ∧ H d = none ∧ E (.ref C) (some d) (upd (del H2 a) d (.xd fs))) (fun _ _ _ => False) := by
  refine ⟨(by show 2 ≤ 1000; decide), fun a ha => ⟨a, _, _, rfl, T, n1, n2, upd_same, fun d H' hd hne h1 h2 h3 h4 => ⟨rfl, d, _, h1, h2, ?_, ?_⟩⟩⟩
  · rw [upd_ne hne] at hd; exact hd
  · rw [upd_ne hne] at hd
    refine q d _ hd (fun b o e => ?_) upd_same
    have hb : b ≠ a := ne_of_none e ha
    have hbd : b ≠ d := ne_of_none e hd
    rw [upd_ne hbd, del_ne hb, h4 b hb hbd, upd_ne hb]
    exact e
theorem sum_cast {α : Type} (f : α → Nat) : ∀ l : List α, ((l.map fun x => ((f x : Nat) : Int))).sum = (((l.map f).sum : Nat) : Int)
  | [] => rfl
  | x :: l => by
    rw [List.map_cons, List.map_cons, List.sum_cons, List.sum_cons, sum_cast f l]
    omega
theorem _root_.L2.SqT.same {K : PySem.W.Frag} {H H' : Hp} {a : Addr} {xs : List V} (h : SqT K H a xs) (e : Same H H') : SqT K H' a xs :=
  h.elim (fun h => .inl (h.elim (fun h => .inl (e _ _ h)) fun ⟨o, h⟩ => .inr ⟨o, e _ _ h⟩)) fun h => .inr h
/-- the lists that a Grammar keeps -/
structure GLs (K : PySem.W.Frag) (d : Nat) (C : Addr) (H : Hp) (g : Addr) (ks : Kds) (rs : Rls) (bs : Brs) : Prop where
  ob : ∃ dx fs a b c ka rb cb, H g = some (.ins C dx fs) ∧ fs.lookup ("kind_rows" : Str) = some (.ref a) ∧ fs.lookup ("rule_rows" : Str) = some (.ref b) ∧ fs.lookup ("bar_rows" : Str) = some (.ref c) ∧
    H a = some (.lst ka) ∧ Paired (KdV H) ka ks ∧ H b = some (.lst rb) ∧ Paired (RlV anyB H) rb rs ∧ SqT K H c cb ∧ Paired (BrV H) cb bs
  deep : ∀ k, k ∈ ks → deepP k.2.1 ≤ d
  sz : ks.length ≤ 10000 ∧ rs.length ≤ 10000 ∧ bs.length ≤ 10000
def spFew (K : PySem.W.Frag) (d : Nat) (C CN : Addr) : Sp := fun vs H Q E => ∃ (g : Addr) (ks : Kds) (rs : Rls) (bs : Brs), vs = [.ref g] ∧ GLs K d C H g ks rs bs ∧
  (manyE ks rs bs = false → ∀ H', Same H H' → Q .non H') ∧ (manyE ks rs bs = true → Out E CN H ("many", none))
section
variable {P : Program} {w : World} {K : PySem.W.Frag} {mg : Str → Option Value} {base : Heap} {f g C CN fN : Addr} {fd gd dN : FuncData} {t1 t2 t3 t4 t5 : Tok}
theorem ok_few {d : Nat} (F : Fun K "need_few" "Grammar.need_few" gFew f fd) (T : GTxt K mg C CN fN) (GN : FnOk P w K mg base CX0 1 fN dN ["self", "what", "name"] (spNoG K CN)) (bN : Binds K dN ["self", "what", "name"] [])
    (G : FnOk P w K mg base CX0 (d + 1) g gd ["pattern"] (spCnt d)) (bG : Binds K gd ["pattern"] []) (kG : PySem.W.keepIn K (.ref g) = true) (mG : mg "signs_in" = some (.ref g))
    (c1 : mg "MOST_KINDS" = some (.int 14 t1)) (c2 : mg "MOST_SIGNS" = some (.int 40 t2)) (c3 : mg "MOST_RULES" = some (.int 40 t3)) (c4 : mg "MOST_ALTERNATIVES" = some (.int 100 t4)) (c5 : mg "MOST_BARS" = some (.int 30 t5))
    (ml : mg "len" = none) (msu : mg "sum" = none) (may : mg "any" = none) (mz : mg "zip" = none) :
    FnOk P w K mg base (L2.CX P w) (d + 3) f fd ["self"] (spFew K d C CN) := by
  refine F.okX scFew (fun vs H Q E h => ?_) (fun cdv A outer s H vs Q E hr h => ?_)
  · obtain ⟨_, _, _, _, rfl, _⟩ := h
    rfl
  have hu := hr.units
  have G' := G.mono (show d + 1 ≤ d + 2 by omega)
  refine ⟨_, pss_cons (ps_set (i := 1) scFew.nd rfl (.inl rfl) (pe_callB (cr_sum rfl) rfl msu (by decide +kernel) (pa_cons (pe_lc (own := [("name", 5), ("alternatives", 6)]) (g := gTup K 2 (gCons (gName 5) (gCons (gName 6) gNil))) (tt := tYes) rfl scFew.nd (pi_list (pe_fld (pv 0) rfl)) (blkOk_by (N := ["self", "many", "signs", "sizes", "mosts", "name", "alternatives", "pattern", "skipped", "size", "most"]) (sc := defScope gFew) (by decide +kernel)) (fun _ _ _ _ _ => pg_tup rfl (pgs_cons (pg_name (i := 5) scFew.nd rfl (Or.inl rfl)) (pgs_cons (pg_name (i := 6) scFew.nd rfl (Or.inl rfl)) pgs_nil))) (fun _ _ _ _ _ => pts_nil)
        (fun _ _ _ _ _ => pe_callB (show CallR _ _ (fun xs H Q => ∃ p ys, xs = [V.ref p] ∧ (SqL K H p ys ∨ SqT K H p ys) ∧ Q (V.int (ys.length : Nat)) H) from call_len_seq) rfl ml PySem.boot_len (pa_cons (pv 6) pa_nil))) pa_nil)))
    (pss_cons (ps_set (i := 2) scFew.nd rfl (.inl rfl) (pe_callB (cr_sum rfl) rfl msu (by decide +kernel) (pa_cons (pe_lc (own := [("name", 5), ("pattern", 7), ("skipped", 8)]) (g := gTup K 3 (gCons (gName 5) (gCons (gName 7) (gCons (gName 8) gNil)))) (tt := tYes) rfl scFew.nd (pi_list (pe_fld (pv 0) rfl)) (blkOk_by (N := ["self", "many", "signs", "sizes", "mosts", "name", "alternatives", "pattern", "skipped", "size", "most"]) (sc := defScope gFew) (by decide +kernel)) (fun _ _ _ _ _ => pg_tup rfl (pgs_cons (pg_name (i := 5) scFew.nd rfl (Or.inl rfl)) (pgs_cons (pg_name (i := 7) scFew.nd rfl (Or.inl rfl)) (pgs_cons (pg_name (i := 8) scFew.nd rfl (Or.inl rfl)) pgs_nil)))) (fun _ _ _ _ _ => pts_nil)
        (fun _ _ _ _ _ => pe_call G' hr rfl mG kG bG .nil pass0 (pa_cons (pv 7) pa_nil))) pa_nil)))
    (pss_cons (ps_set (i := 3) scFew.nd rfl (.inl rfl) (pe_tup (pa_cons (pe_callB call_len_seq rfl ml PySem.boot_len (pa_cons (pe_fld (pv 0) rfl) pa_nil)) (pa_cons (pv 2) (pa_cons (pe_callB call_len_seq rfl ml PySem.boot_len (pa_cons (pe_fld (pv 0) rfl) pa_nil)) (pa_cons (pv 1) (pa_cons (pe_callB call_len_seq rfl ml PySem.boot_len (pa_cons (pe_fld (pv 0) rfl) pa_nil)) pa_nil)))))))
    (pss_cons (ps_set (i := 4) scFew.nd rfl (.inl rfl) (pe_tup (pa_cons (pe_glob rfl c1 (show RelV (.int 14) (.int 14 t1) from ⟨_, rfl⟩)) (pa_cons (pe_glob rfl c2 (show RelV (.int 40) (.int 40 t2) from ⟨_, rfl⟩)) (pa_cons (pe_glob rfl c3 (show RelV (.int 40) (.int 40 t3) from ⟨_, rfl⟩)) (pa_cons (pe_glob rfl c4 (show RelV (.int 100) (.int 100 t4) from ⟨_, rfl⟩)) (pa_cons (pe_glob rfl c5 (show RelV (.int 30) (.int 30 t5) from ⟨_, rfl⟩)) pa_nil)))))))
    (pss_one (ps_if (PW.pt (pw_or (pt_cmpR (op_eqL0 hu) (pe_fld (pv 0) rfl) (pe_lst pa_nil) (nomark _)) (pw_or (pt_cmpR (op_eqL0 hu) (pe_fld (pv 0) rfl) (pe_lst pa_nil) (nomark _)) (pw_or1 (pt_val (pe_callB (cr_any rfl) rfl may (by decide +kernel) (pa_cons
        (pe_lc (own := [("size", 9), ("most", 10)]) (g := gTup K 2 (gCons (gName 9) (gCons (gName 10) gNil))) (tt := tYes) rfl scFew.nd (RZ.pi_zipA rfl mz (pa_cons (pv 3) (pa_cons (pv 4) pa_nil))) (blkOk_by (N := ["self", "many", "signs", "sizes", "mosts", "name", "alternatives", "pattern", "skipped", "size", "most"]) (sc := defScope gFew) (by decide +kernel)) (fun _ _ _ _ _ => pg_tup rfl (pgs_cons (pg_name (i := 9) scFew.nd rfl (Or.inl rfl)) (pgs_cons (pg_name (i := 10) scFew.nd rfl (Or.inl rfl)) pgs_nil))) (fun _ _ _ _ _ => pts_nil)
          (fun _ _ _ _ _ => pe_cmpR op_gt (pv 9) (pv 10) (nomark _))) pa_nil)))))))
      (pss_one (ps_raise rfl (takes_of rfl rfl rfl rfl) (pmk_oex T.tN T.iN T.yN GN (hr.mono (show 1 + 1 ≤ d + 2 by omega)) bN .nil pass0 rfl T.mN (pa_cons pe_str (pa_cons pe_non pa_nil))))) pss_nil))))), ?_⟩
  obtain ⟨gg, ks, rs, bs, rfl, S, q1, q2⟩ := h
  obtain ⟨dx, fs, a, b, c, ka, rb, cb, hob, l1, l2, l3, ha, pk, hb, pr, hc, pb⟩ := S.ob
  obtain ⟨z1, z2, z3⟩ := S.sz
  have lka : ka.length = ks.length := Paired.length pk
  have lrb : rb.length = rs.length := Paired.length pr
  have lcb : cb.length = bs.length := Paired.length pb
  refine ⟨_, rfl, gg, C, dx, _, _, rfl, hob, T.cl, T.nR, l2, b, rfl, ⟨_, SqL.of hb⟩, fun D hD => ?_⟩
  have sD := same_new hD (.lst [])
  refine lc_list (K := K) (xs := rb) (fun i H' => H' D = some (.lst ((((rs.take i).map fun r => ((r.2.length : Nat) : Int))).map V.int)) ∧ Same H H') ⟨upd_same, sD⟩ (fun i H' _ h => SqL.of (h.2 _ _ hb)) (fun i v H' hv h => ?turn1) (fun H1 h1 => ?done1)
  case turn1 =>
    obtain ⟨eD, sS⟩ := h
    obtain ⟨r, hr', ⟨ra, ab, xs, rfl, h1, h2, _, h3⟩⟩ := paired_get pr i v hv
    have hi := (List.getElem?_eq_some_iff.mp hv).1
    refine ⟨ra, _, rfl, SqT.of (sS _ _ h1), rfl, _, _, rfl, _, _, rfl, rfl, rfl, ?_⟩
    simp only [tYes, ↓reduceIte]
    refine ⟨_, rfl, ab, _, rfl, .inl (SqL.of (sS _ _ h2)), _, eD, by rw [List.length_map, List.length_map, List.length_take, sizeLine_eq]; omega, ?_, same_upd sS hD⟩
    rw [upd_same, List.take_add_one, hr', List.map_append, List.map_append]
    have : xs.length = r.2.length := Paired.length h3
    rw [this]; rfl
  obtain ⟨eD1, s1⟩ := h1
  rw [lrb, List.take_length] at eD1
  refine ⟨D, _, rfl, SqL.of eD1, ?_⟩
  have hsum1 : ((rs.map fun r => ((r.2.length : Nat) : Int))).sum = ((altsN rs : Nat) : Int) := sum_cast _ _
  rw [hsum1]
  refine ⟨_, rfl, gg, C, dx, _, _, rfl, s1 _ _ hob, T.cl, T.nK, l1, a, rfl, ⟨_, SqL.of (s1 _ _ ha)⟩, fun D2 hD2 => ?_⟩
  have sD2 := same_new hD2 (.lst [])
  have hD2H : H D2 = none := by
    cases e : H D2 with
    | none => rfl
    | some o => rw [s1 _ _ e] at hD2; cases hD2
  refine lc_list (K := K) (xs := ka) (fun i H' => H' D2 = some (.lst ((((ks.take i).map fun k => cntI k.2.1)).map V.int)) ∧ Same H H') ⟨upd_same, s1.trans sD2⟩ (fun i H' _ h => SqL.of (h.2 _ _ ha)) (fun i v H' hv h => ?turn2) (fun H2 h2 => ?done2)
  case turn2 =>
    obtain ⟨eD, sS⟩ := h
    obtain ⟨k, hk', ⟨ra, u, rfl, h1, h3⟩⟩ := paired_get pk i v hv
    have hi := (List.getElem?_eq_some_iff.mp hv).1
    refine ⟨ra, _, rfl, SqT.of (sS _ _ h1), rfl, _, _, rfl, _, _, rfl, _, _, rfl, rfl, rfl, ?_⟩
    simp only [tYes, ↓reduceIte]
    refine ⟨_, rfl, u, k.2.1, rfl, h3.tk (Tk.of_same sS), S.deep k (List.mem_of_getElem? hk'), fun H3 s3 => ⟨_, s3 _ _ eD, by rw [List.length_map, List.length_map, List.length_take, sizeLine_eq]; omega, ?_, same_upd (sS.trans s3) hD2H⟩⟩
    rw [upd_same, List.take_add_one, hk', List.map_append, List.map_append]
    rfl
  obtain ⟨eD2, s2⟩ := h2
  rw [lka, List.take_length] at eD2
  refine ⟨D2, _, rfl, SqL.of eD2, ?_⟩
  have hsum2 : ((ks.map fun k => cntI k.2.1)).sum = ((signsN ks : Nat) : Int) := sum_cast _ _
  rw [hsum2]
  refine ⟨_, rfl, gg, C, dx, _, _, rfl, s2 _ _ hob, T.cl, T.nK, l1, a, _, rfl, .inl (SqL.of (s2 _ _ ha)), _, rfl, _, rfl, gg, C, dx, _, _, rfl, s2 _ _ hob, T.cl, T.nR, l2, b, _, rfl, .inl (SqL.of (s2 _ _ hb)), _, rfl, _, rfl, gg, C, dx, _, _, rfl, s2 _ _ hob, T.cl, T.nB, l3, c, _, rfl, .inr (hc.same s2), (by show 5 ≤ sizeLine; decide), fun p1 hp1 => ⟨(by show 5 ≤ sizeLine; decide), fun p2 hp2 => ?_⟩⟩
  rw [lka, lrb, lcb] at hp2 ⊢
  obtain ⟨sz, hsz⟩ : ∃ sz : List Int, sz = [((ks.length : Nat) : Int), ((signsN ks : Nat) : Int), ((rs.length : Nat) : Int), ((altsN rs : Nat) : Int), ((bs.length : Nat) : Int)] := ⟨_, rfl⟩
  have y1 := same_new hp1 (.tup [.int ((ka.length : Nat) : Int), .int ((signsN ks : Nat) : Int), .int ((rb.length : Nat) : Int), .int ((altsN rs : Nat) : Int), .int ((cb.length : Nat) : Int)])
  rw [lka, lrb, lcb] at y1
  have y2 := same_new hp2 (.tup [.int 14, .int 40, .int 40, .int 100, .int 30])
  have s3 := s2.trans (y1.trans y2)
  have e1 := y2 _ _ (upd_same (H := H2) (a := p1) (o := .tup [.int ((ks.length : Nat) : Int), .int ((signsN ks : Nat) : Int), .int ((rs.length : Nat) : Int), .int ((altsN rs : Nat) : Int), .int ((bs.length : Nat) : Int)]))
  have e2 : (upd (upd H2 p1 (.tup [.int ((ks.length : Nat) : Int), .int ((signsN ks : Nat) : Int), .int ((rs.length : Nat) : Int), .int ((altsN rs : Nat) : Int), .int ((bs.length : Nat) : Int)])) p2 (.tup [.int 14, .int 40, .int 40, .int 100, .int 30])) p2 = some (.tup [.int 14, .int 40, .int 40, .int 100, .int 30]) := upd_same
  generalize upd (upd H2 p1 (.tup [.int ((ks.length : Nat) : Int), .int ((signsN ks : Nat) : Int), .int ((rs.length : Nat) : Int), .int ((altsN rs : Nat) : Int), .int ((bs.length : Nat) : Int)])) p2 (.tup [.int 14, .int 40, .int 40, .int 100, .int 30]) = H3 at s3 e1 e2
  have raise : ∀ H', Same H H' → manyE ks rs bs = true → _ := fun H' s hm => raise_nog (K := K) (y := none) T.tN T.n1 T.n2 ((q2 hm).same s)
  refine ⟨_, rfl, gg, C, dx, _, _, rfl, s3 _ _ hob, T.cl, T.nK, l1, (by show 0 ≤ sizeLine; decide), fun pn hpn => ⟨a, pn, _, rfl, rfl, same_new hpn _ _ _ (s3 _ _ ha), upd_same, _, rfl, ?_⟩⟩
  have s4 := s3.trans (same_new hpn (.lst []))
  have ek : (if false = true then !ka.isEmpty else ka.isEmpty) = decide (ks = []) := by
    cases ka with
    | nil => cases ks with
      | nil => rfl
      | cons _ _ => cases lka
    | cons _ _ => cases ks with
      | nil => cases lka
      | cons _ _ => rfl
  have er : (if false = true then !rb.isEmpty else rb.isEmpty) = decide (rs = []) := by
    cases rb with
    | nil => cases rs with
      | nil => rfl
      | cons _ _ => cases lrb
    | cons _ _ => cases rs with
      | nil => cases lrb
      | cons _ _ => rfl
  rw [ek]
  by_cases k1 : ks = []
  · rw [decide_eq_true k1]
    exact iteT (iteT (raise _ s4 (by unfold manyE; rw [decide_eq_true k1]; rfl)))
  rw [decide_eq_false k1]
  refine iteF ?_
  refine ⟨_, rfl, gg, C, dx, _, _, rfl, s4 _ _ hob, T.cl, T.nR, l2, (by show 0 ≤ sizeLine; decide), fun pn2 hpn2 => ⟨b, pn2, _, rfl, rfl, same_new hpn2 _ _ _ (s4 _ _ hb), upd_same, _, rfl, ?_⟩⟩
  have s5 := s4.trans (same_new hpn2 (.lst []))
  have e1' := (same_new hpn2 (.lst [])) _ _ ((same_new hpn (.lst [])) _ _ e1)
  have e2' := (same_new hpn2 (.lst [])) _ _ ((same_new hpn (.lst [])) _ _ e2)
  rw [er]
  by_cases k2 : rs = []
  · rw [decide_eq_true k2]
    exact iteT (iteT (raise _ s5 (by unfold manyE; rw [decide_eq_true k2]; simp)))
  rw [decide_eq_false k2]
  refine iteF ?_
  generalize upd (upd H3 pn (.lst [])) pn2 (.lst []) = H5 at s5 e1' e2'
  obtain ⟨MI, hMI⟩ : ∃ m : List Int, m = [14, 40, 40, 100, 30] := ⟨_, rfl⟩
  have hx : ([.int ((ks.length : Nat) : Int), .int ((signsN ks : Nat) : Int), .int ((rs.length : Nat) : Int), .int ((altsN rs : Nat) : Int), .int ((bs.length : Nat) : Int)] : List V) = sz.map V.int := by rw [hsz]; rfl
  have hy : ([.int 14, .int 40, .int 40, .int 100, .int 30] : List V) = MI.map V.int := by rw [hMI]; rfl
  rw [hx] at e1'
  rw [hy] at e2'
  have lsz : sz.length = 5 := by rw [hsz]; rfl
  have lMI : MI.length = 5 := by rw [hMI]; rfl
  refine ⟨_, rfl, _, rfl, p1, p2, _, _, rfl, .inr ⟨SqT.of e1', SqT.of e2', fun D3 hD3 => ?_⟩⟩
  have hD3H : H D3 = none := by
    cases e : H D3 with
    | none => rfl
    | some o => rw [s5 _ _ e] at hD3; cases hD3
  have sD3 := same_new hD3 (.lst [])
  refine lc_it (walk_zipT (n := 5) (xs := sz.map V.int) (ys := MI.map V.int) (by rw [List.length_map, lsz]) (by rw [List.length_map, List.length_map, lsz, lMI])) (fun i H' => H' D3 = some (.lst (((List.zipWith (fun s m => decide (m < s)) sz MI).take i).map V.bl)) ∧ Same H H' ∧ H' p1 = some (.tup (sz.map V.int)) ∧ H' p2 = some (.tup (MI.map V.int)))
    ⟨upd_same, s5.trans sD3, sD3 _ _ e1', sD3 _ _ e2'⟩ (fun i H' _ h => ⟨SqT.of h.2.2.1, SqT.of h.2.2.2⟩) (fun i y H6 H7 hi h z => ?turn3) (fun H' h => ?done3)
  case turn3 =>
    obtain ⟨eD, sS, h1, h2⟩ := h
    obtain ⟨t, x, y', rfl, ht, rfl, hx', hy'⟩ := z
    have zz := same_new ht (.tup [x, y'])
    have hx' : (sz.map V.int)[i]? = some x := hx'
    have hy' : (MI.map V.int)[i]? = some y' := hy'
    rw [List.getElem?_map] at hx' hy'
    have hi1 : i < sz.length := by omega
    have hi2 : i < MI.length := by omega
    rw [List.getElem?_eq_getElem hi1] at hx'
    rw [List.getElem?_eq_getElem hi2] at hy'
    obtain rfl : V.int sz[i] = x := Option.some.inj hx'
    obtain rfl : V.int MI[i] = y' := Option.some.inj hy'
    have p1D : p1 ≠ D3 := fun e => by rw [e, eD] at h1; cases h1
    have p2D : p2 ≠ D3 := fun e => by rw [e, eD] at h2; cases h2
    refine ⟨t, _, rfl, SqT.of upd_same, rfl, _, _, rfl, _, _, rfl, rfl, rfl, ?_⟩
    simp only [tYes, ↓reduceIte]
    refine ⟨_, rfl, _, rfl, _, _, rfl, rfl, _, zz _ _ eD, ?_, ?_, same_upd (sS.trans zz) hD3H, by rw [upd_ne p1D]; exact zz _ _ h1, by rw [upd_ne p2D]; exact zz _ _ h2⟩
    · rw [List.length_map, List.length_take, sizeLine_eq]; omega
    · rw [upd_same, List.take_add_one, List.getElem?_zipWith, List.getElem?_eq_getElem hi1, List.getElem?_eq_getElem hi2, List.map_append]
      rfl
  case done3 =>
    obtain ⟨eD, sS, h1, h2⟩ := h
    rw [List.take_of_length_le (by rw [List.length_zipWith, lsz, lMI]; exact Nat.le_refl _)] at eD
    refine ⟨D3, _, rfl, SqL.of eD, ?_⟩
    have eany : (List.zipWith (fun s m => decide (m < s)) sz MI).any id = manyE ks rs bs := by
      rw [hsz, hMI]
      unfold manyE
      rw [decide_eq_false k1, decide_eq_false k2]
      show (decide ((14 : Int) < ((ks.length : Nat) : Int)) || (decide ((40 : Int) < ((signsN ks : Nat) : Int)) || (decide ((40 : Int) < ((rs.length : Nat) : Int)) || (decide ((100 : Int) < ((altsN rs : Nat) : Int)) || (decide ((30 : Int) < ((bs.length : Nat) : Int)) || false))))) = _
      have cv : ∀ n m : Nat, decide (((n : Nat) : Int) < ((m : Nat) : Int)) = decide (n < m) := fun n m => by
        by_cases h : n < m
        · rw [decide_eq_true h, decide_eq_true (by omega)]
        · rw [decide_eq_false h, decide_eq_false (by omega)]
      have c1 := cv 14 ks.length
      have c2 := cv 40 (signsN ks)
      have c3 := cv 40 rs.length
      have c4 := cv 100 (altsN rs)
      have c5 := cv 30 bs.length
      have c1' : decide ((14 : Int) < ((ks.length : Nat) : Int)) = decide (14 < ks.length) := c1
      have c2' : decide ((40 : Int) < ((signsN ks : Nat) : Int)) = decide (40 < signsN ks) := c2
      have c3' : decide ((40 : Int) < ((rs.length : Nat) : Int)) = decide (40 < rs.length) := c3
      have c4' : decide ((100 : Int) < ((altsN rs : Nat) : Int)) = decide (100 < altsN rs) := c4
      have c5' : decide ((30 : Int) < ((bs.length : Nat) : Int)) = decide (30 < bs.length) := c5
      rw [c1', c2', c3', c4', c5']
      simp [Bool.or_assoc]
    rw [eany]
    cases hm : manyE ks rs bs with
    | true => exact ⟨_, rfl, iteT (raise _ sS hm)⟩
    | false => exact ⟨_, rfl, iteF (q1 hm _ sS)⟩
end
end Pa
set_option maxHeartbeats 4000000
namespace Pa
open PySem PySem.Spec PyProof.Rows L2 Ty
theorem scLabel : FnScope ["self", "label", "row"] ["self", "label", "row"] (defScope gLabel) := ⟨rfl, rfl, rfl, by decide +kernel, rfl, by decide +kernel, by decide +kernel⟩
def spLabel (C CN : Addr) : Sp := fun vs H Q E => ∃ (g b hd dx : Addr) (fs : List (Str × V)) (kvs : List (Key × V)) (ls : List Str) (l : Str) (row : List Str), vs = [.ref g, .str l, .ref b] ∧ H g = some (.ins C dx fs) ∧ fs.lookup ("homes" : Str) = some (.ref hd) ∧ H hd = some (.dK kvs) ∧ kvs.map (·.1) = ls.map Sum.inr ∧
  H b = some (.tup (row.map V.str)) ∧ l.length ≤ 16000000 ∧ (altE ls [(l, row)] = none → ∀ H', Same H H' → Q .non H') ∧ (∀ e, altE ls [(l, row)] = some e → Out E CN H e)
section
variable {P : Program} {w : World} {K : PySem.W.Frag} {mg : Str → Option Value} {base : Heap} {f g C CN fN : Addr} {fd gd dN : FuncData} {t1 : Tok}
theorem ok_label (F : Fun K "look_label" "Grammar.look_label" gLabel f fd) (T : GTxt K mg C CN fN) (GN : FnOk P w K mg base CX0 1 fN dN ["self", "what", "name"] (spNoG K CN)) (bN : Binds K dN ["self", "what", "name"] [])
    (G : FnOk P w K mg base CX0 1 g gd ["thing"] (spB nameP)) (bG : Binds K gd ["thing"] []) (kG : PySem.W.keepIn K (.ref g) = true) (mG : mg "is_name" = some (.ref g)) (c1 : mg "MOST_SYMBOLS" = some (.int 6 t1)) (ml : mg "len" = none) :
    FnOk P w K mg base (L2.CX P w) 3 f fd ["self", "label", "row"] (spLabel C CN) := by
  refine F.okX scLabel (fun vs H Q E h => ?_) (fun cdv A outer s H vs Q E hr h => ?_)
  · obtain ⟨_, _, _, _, _, _, _, _, _, rfl, _⟩ := h
    rfl
  have hu1 := hu_of hr
  have G' := G.mono (show 1 ≤ 2 by decide)
  refine ⟨_, pss_cons (ps_if (pt_not (pt_val (pe_call G' hr rfl mG kG bG .nil pass0 (pa_cons (pv 1) pa_nil))))
      (pss_one (ps_raise rfl (takes_of rfl rfl rfl rfl) (pmk_oex T.tN T.iN T.yN GN (hr.mono (by decide)) bN .nil pass0 rfl T.mN (pa_cons pe_str (pa_cons (pv 1) pa_nil))))) pss_nil)
    (pss_cons (ps_if (pt_cmp (pc_din hu1 (pv 1) (pe_fld (pv 0) rfl)))
      (pss_one (ps_raise rfl (takes_of rfl rfl rfl rfl) (pmk_oex T.tN T.iN T.yN GN (hr.mono (by decide)) bN .nil pass0 rfl T.mN (pa_cons pe_str (pa_cons (pv 1) pa_nil))))) pss_nil)
    (pss_one (ps_if (pt_cmpR op_gt (pe_callB call_len_seq rfl ml PySem.boot_len (pa_cons (pv 2) pa_nil)) (pe_glob rfl c1 (show RelV (.int 6) (.int 6 t1) from ⟨_, rfl⟩)) (nomark _))
      (pss_one (ps_raise rfl (takes_of rfl rfl rfl rfl) (pmk_oex T.tN T.iN T.yN GN (hr.mono (by decide)) bN .nil pass0 rfl T.mN (pa_cons pe_str (pa_cons (pv 1) pa_nil))))) pss_nil))), ?_⟩
  obtain ⟨gg, b, hd, dx, fs, kvs, ls, l, row, rfl, hg, l1, hh, hk, hb, hl, q1, q2⟩ := h
  have ea : altE ls [(l, row)] = if nameP l = false then some (("label" : Str), some l) else if l ∈ ls then some (("again" : Str), some l) else if 6 < row.length then some (("long" : Str), some l) else none := rfl
  refine ⟨_, rfl, l, rfl, hl, fun H1 s1 => ⟨_, rfl, ?_⟩⟩
  cases hn : nameP l with
  | false =>
    rw [hn, if_pos rfl] at ea
    exact iteT ⟨_, rfl, raise_nog (y := some l) T.tN T.n1 T.n2 ((q2 _ ea).same s1)⟩
  | true =>
    rw [hn, if_neg (by decide)] at ea
    refine iteF ?_
    refine ⟨_, rfl, _, rfl, gg, C, dx, _, _, rfl, s1 _ _ hg, T.cl, T.nH, l1, hd, _, rfl, DGet.k (k := Sum.inr l) (s1 _ _ hh), _, rfl, ?_⟩
    have hin : (valV kvs (Sum.inr l : Key)).isSome = decide (l ∈ ls) := by
      cases hv : valV kvs (Sum.inr l : Key) with
      | some v =>
        have := valV_in hv
        rw [hk] at this
        obtain ⟨x, hx, e⟩ := List.mem_map.mp this
        injection e with e
        rw [e] at hx
        rw [decide_eq_true hx]; rfl
      | none =>
        have := valV_not hv
        rw [hk] at this
        rw [decide_eq_false fun h => this (List.mem_map.mpr ⟨l, h, rfl⟩)]; rfl
    rw [hin]
    by_cases hm : l ∈ ls
    · rw [if_pos hm] at ea
      rw [decide_eq_true hm]
      exact iteT ⟨_, rfl, raise_nog (y := some l) T.tN T.n1 T.n2 ((q2 _ ea).same s1)⟩
    · rw [if_neg hm] at ea
      rw [decide_eq_false hm]
      refine iteF ?_
      refine ⟨_, rfl, b, _, rfl, .inr (SqT.of (s1 _ _ hb)), _, _, rfl, rfl, _, rfl, ?_⟩
      rw [List.length_map]
      by_cases h6 : 6 < row.length
      · rw [if_pos h6] at ea
        rw [show decide ((6 : Int) < ((row.length : Nat) : Int)) = true from decide_eq_true (by omega)]
        exact iteT ⟨_, rfl, raise_nog (y := some l) T.tN T.n1 T.n2 ((q2 _ ea).same s1)⟩
      · rw [if_neg h6] at ea
        rw [show decide ((6 : Int) < ((row.length : Nat) : Int)) = false from decide_eq_false (by omega)]
        exact iteF (q1 ea _ s1)
end
end Pa
set_option maxHeartbeats 4000000
namespace Pa
open PySem PySem.Spec PyProof.Rows L2 Ty
/-- what stands but for some -/
def KX (X : List Addr) (H H' : Hp) : Prop := ∀ c o, c ∉ X → H c = some o → H' c = some o
theorem KX.of {X : List Addr} {H H' : Hp} (s : Same H H') : KX X H H' := fun c o _ e => s c o e
theorem KX.trans {X : List Addr} {H H1 H2 : Hp} (a : KX X H H1) (b : KX X H1 H2) : KX X H H2 := fun c o n e => b c o n (a c o n e)
theorem KX.upd {X : List Addr} {H : Hp} {p : Addr} (m : p ∈ X) (o : HO) : KX X H (upd H p o) := fun c u n e => by rw [upd_ne (fun q => n (by rw [q]; exact m))]; exact e
theorem scKinds2 : FnScope ["self", "name", "pattern", "skipped"] ["self"] (defScope gKinds) := ⟨rfl, rfl, rfl, by decide +kernel, rfl, by decide +kernel, by decide +kernel⟩
def spGKinds (D : Nat) (C CN : Addr) : Sp := fun vs H Q E => ∃ (g a pd sd dx : Addr) (fs : List (Str × V)) (ka : List V) (ks : Kds), vs = [.ref g] ∧ H g = some (.ins C dx fs) ∧ fs.lookup ("kind_rows" : Str) = some (.ref a) ∧ fs.lookup ("patterns" : Str) = some (.ref pd) ∧ fs.lookup ("skips" : Str) = some (.ref sd) ∧
  H a = some (.lst ka) ∧ Paired (KdV H) ka ks ∧ H pd = some (.dK []) ∧ H sd = some (.dK []) ∧ pd ≠ sd ∧ ks.length ≤ 10000 ∧ (∀ k, k ∈ ks → k.1.length ≤ 16000000 ∧ sizeP k.2.1 ≤ 1000 ∧ deepP k.2.1 ≤ D) ∧
  (kindE [] ks = none → ∀ pk H', H' pd = some (.dK pk) → pk.map (·.1) = ks.map (fun k => (Sum.inr k.1 : Key)) → H' sd = some (.dK (ks.map fun k => ((Sum.inr k.1 : Key), V.bl k.2.2))) → KX [pd, sd] H H' → Q .non H') ∧
  (∀ e, kindE [] ks = some e → ∀ H', KX [pd, sd] H H' → Out E CN H' e)
section
variable {P : Program} {w : World} {K : PySem.W.Frag} {mg : Str → Option Value} {base : Heap} {f g g2 C CN fN : Addr} {fd gd gd2 dN : FuncData} {t1 : Tok}
theorem ok_gkinds {D : Nat} (F : Fun K "look_kinds" "Grammar.look_kinds" gKinds f fd) (T : GTxt K mg C CN fN) (GN : FnOk P w K mg base CX0 1 fN dN ["self", "what", "name"] (spNoG K CN)) (bN : Binds K dN ["self", "what", "name"] [])
    (G : FnOk P w K mg base CX0 1 g gd ["thing"] (spB nameP)) (bG : Binds K gd ["thing"] []) (kG : PySem.W.keepIn K (.ref g) = true) (mG : mg "is_name" = some (.ref g))
    (G2 : FnOk P w K mg base CX0 (3 * D + 3) g2 gd2 ["pattern"] (spNone D)) (b2 : Binds K gd2 ["pattern"] []) (k2 : PySem.W.keepIn K (.ref g2) = true) (m2 : mg "spells_none" = some (.ref g2)) :
    FnOk P w K mg base (L2.CX P w) (3 * D + 4) f fd ["self"] (spGKinds D C CN) := by
  refine F.okX scKinds2 (fun vs H Q E h => ?_) (fun cdv A outer s H vs Q E hr h => ?_)
  · obtain ⟨_, _, _, _, _, _, _, _, rfl, _⟩ := h
    rfl
  have hu1 := hu_of hr
  have G' := G.mono (show 1 ≤ 3 * D + 3 by omega)
  refine ⟨_, pss_one (ps_for (passes_of rfl) rfl (pi_list (pe_fld (pv 0) rfl)) (pg_tup rfl (pgs_cons (pg_name (i := 1) scKinds2.nd rfl (Or.inl rfl)) (pgs_cons (pg_name (i := 2) scKinds2.nd rfl (Or.inl rfl)) (pgs_cons (pg_name (i := 3) scKinds2.nd rfl (Or.inl rfl)) pgs_nil))))
    (pss_cons (ps_if (pt_not (pt_val (pe_call G' hr rfl mG kG bG .nil pass0 (pa_cons (pv 1) pa_nil))))
      (pss_one (ps_raise rfl (takes_of rfl rfl rfl rfl) (pmk_oex T.tN T.iN T.yN GN (hr.mono (show 1 + 1 ≤ 3 * D + 3 by omega)) bN .nil pass0 rfl T.mN (pa_cons pe_str (pa_cons (pv 1) pa_nil))))) pss_nil)
    (pss_cons (ps_if (pt_cmp (pc_din hu1 (pv 1) (pe_fld (pv 0) rfl)))
      (pss_one (ps_raise rfl (takes_of rfl rfl rfl rfl) (pmk_oex T.tN T.iN T.yN GN (hr.mono (show 1 + 1 ≤ 3 * D + 3 by omega)) bN .nil pass0 rfl T.mN (pa_cons pe_str (pa_cons (pv 1) pa_nil))))) pss_nil)
    (pss_cons (ps_if (pt_val (pe_call G2 hr rfl m2 k2 b2 .nil pass0 (pa_cons (pv 2) pa_nil)))
      (pss_one (ps_raise rfl (takes_of rfl rfl rfl rfl) (pmk_oex T.tN T.iN T.yN GN (hr.mono (show 1 + 1 ≤ 3 * D + 3 by omega)) bN .nil pass0 rfl T.mN (pa_cons pe_str (pa_cons (pv 1) pa_nil))))) pss_nil)
    (pss_cons (ps_dput hu1 (pe_fld (pv 0) rfl) (pv 1) (pv 2) rfl)
    (pss_one (ps_dput hu1 (pe_fld (pv 0) rfl) (pv 1) (pv 3) rfl))))))), ?_⟩
  obtain ⟨gg, a, pd, sd, dx, fs, ka, ks, rfl, hg, l1, l2, l3, ha, pk, hp, hs, ps, hk, hok, q1, q2⟩ := h
  have gx : gg ∉ [pd, sd] := fun h => by
    rcases List.mem_cons.mp h with e | h
    · rw [e, hp] at hg; cases hg
    · rw [List.mem_singleton.mp h, hs] at hg; cases hg
  have ax : a ∉ [pd, sd] := fun h => by
    rcases List.mem_cons.mp h with e | h
    · rw [e, hp] at ha; cases ha
    · rw [List.mem_singleton.mp h, hs] at ha; cases ha
  have tkx : ∀ {H'}, KX [pd, sd] H H' → Tk H H' := fun {H'} k c xs e => k c _ (fun h => by
    rcases List.mem_cons.mp h with q | h
    · rw [q, hp] at e; cases e
    · rw [List.mem_singleton.mp h, hs] at e; cases e) e
  have lka : ka.length = ks.length := Paired.length pk
  refine ⟨_, rfl, gg, C, dx, _, _, rfl, hg, T.cl, T.nK, l1, a, rfl, ⟨_, SqL.of ha⟩, ?_⟩
  refine for_list (K := K) (xs := ka) (fun i σ H' => ∃ x1 x2 x3 pkv, σ = [some (.ref gg), x1, x2, x3] ∧ H' pd = some (.dK pkv) ∧ pkv.map (·.1) = (ks.take i).map (fun k => (Sum.inr k.1 : Key)) ∧ H' sd = some (.dK ((ks.take i).map fun k => ((Sum.inr k.1 : Key), V.bl k.2.2))) ∧ KX [pd, sd] H H' ∧ kindE [] ks = kindE ((ks.take i).map (·.1)) (ks.drop i))
    ⟨_, _, _, [], rfl, hp, rfl, hs, KX.of same_refl, rfl⟩ (fun i σ H' _ h => by obtain ⟨_, _, _, _, _, _, _, _, k, _⟩ := h; exact SqL.of (k _ _ ax ha)) (fun i v σ H' hv h => ?turn) (fun σ H' h => ?done)
  case done =>
    obtain ⟨x1, x2, x3, pkv, rfl, e1, e2, e3, kx, ek⟩ := h
    rw [lka, List.take_length] at e2 e3
    rw [lka, List.drop_length] at ek
    exact q1 ek pkv H' e1 e2 e3 kx
  case turn =>
    obtain ⟨x1, x2, x3, pkv, rfl, e1, e2, e3, kx, ek⟩ := h
    obtain ⟨⟨n, p, sk⟩, hki, ⟨ra, u, rfl, h1, h2⟩⟩ := paired_get pk i v hv
    have hi : i < ks.length := (List.getElem?_eq_some_iff.mp hki).1
    have kok := hok _ (List.mem_of_getElem? hki)
    have hdrop : ks.drop i = (n, p, sk) :: ks.drop (i + 1) := by
      rw [List.drop_eq_getElem_cons hi]
      congr 1
      rw [List.getElem?_eq_getElem hi] at hki
      exact Option.some.inj hki
    have htk : ks.take (i + 1) = ks.take i ++ [(n, p, sk)] := by rw [List.take_add_one, hki]; rfl
    rw [hdrop] at ek
    have ea : kindE ((ks.take i).map (·.1)) ((n, p, sk) :: ks.drop (i + 1)) = if nameP n = false then some (("name" : Str), some n) else if n ∈ (ks.take i).map (·.1) then some (("twice" : Str), some n) else if bareP p = true then some (("empty" : Str), some n) else kindE ((ks.take i).map (·.1) ++ [n]) (ks.drop (i + 1)) := rfl
    rw [ea] at ek
    have tk := tkx kx
    refine ⟨ra, _, rfl, SqT.of (tk _ _ h1), rfl, _, _, rfl, _, _, rfl, _, _, rfl, rfl, ?_⟩
    refine ⟨_, rfl, n, rfl, kok.1, fun H1 s1 => ⟨_, rfl, ?_⟩⟩
    have kx1 := kx.trans (KX.of s1)
    cases hn : nameP n with
    | false =>
      rw [hn, if_pos rfl] at ek
      exact iteT ⟨_, rfl, raise_nog (y := some n) T.tN T.n1 T.n2 (q2 _ ek H1 kx1)⟩
    | true =>
      rw [hn, if_neg (by decide)] at ek
      refine iteF ?_
      refine ⟨_, rfl, _, rfl, gg, C, dx, _, _, rfl, kx1 _ _ gx hg, T.cl, T.nP, l2, pd, _, rfl, DGet.k (k := Sum.inr n) (s1 _ _ e1), _, rfl, ?_⟩
      by_cases hm : n ∈ (ks.take i).map (·.1)
      · rw [if_pos hm] at ek
        have hin : (valV pkv (Sum.inr n : Key)).isSome = true := by
          cases hv : valV pkv (Sum.inr n : Key) with
          | some v => rfl
          | none =>
            have := valV_not hv
            rw [e2] at this
            obtain ⟨k, hk, e⟩ := List.mem_map.mp hm
            exact absurd (List.mem_map.mpr ⟨k, hk, by rw [e]⟩) this
        rw [hin]
        exact iteT ⟨_, rfl, raise_nog (y := some n) T.tN T.n1 T.n2 (q2 _ ek H1 kx1)⟩
      · rw [if_neg hm] at ek
        have hno : valV pkv (Sum.inr n : Key) = none := by
          cases hv : valV pkv (Sum.inr n : Key) with
          | none => rfl
          | some v =>
            have := valV_in hv
            rw [e2] at this
            obtain ⟨k, hk, e⟩ := List.mem_map.mp this
            injection e with e
            exact absurd (List.mem_map.mpr ⟨k, hk, e⟩) hm
        rw [hno]
        refine iteF ?_
        refine ⟨_, rfl, u, p, rfl, h2.tk (tk.trans (Tk.of_same s1)), kok.2.1, kok.2.2, fun bb H2 hbb s2 => ⟨_, rfl, ?_⟩⟩
        have kx2 := kx1.trans (KX.of s2)
        have ebb : bb = bareP p := Bool.eq_iff_iff.mpr (hbb.trans (bare_iff p).symm)
        subst ebb
        cases hb : bareP p with
        | true =>
          rw [hb, if_pos rfl] at ek
          exact iteT ⟨_, rfl, raise_nog (y := some n) T.tN T.n1 T.n2 (q2 _ ek H2 kx2)⟩
        | false =>
          rw [hb, if_neg (by decide)] at ek
          refine iteF ?_
          have e1' := s2 _ _ (s1 _ _ e1)
          have e3' := s2 _ _ (s1 _ _ e3)
          have lpk : pkv.length = (ks.take i).length := by
            have := congrArg List.length e2
            rw [List.length_map, List.length_map] at this; exact this
          have lti : (ks.take i).length ≤ 10000 := by rw [List.length_take]; omega
          refine ⟨_, rfl, _, rfl, gg, C, dx, _, _, rfl, kx2 _ _ gx hg, T.cl, T.nP, l2, _, rfl, pd, _, rfl, DPut.k (k := Sum.inr n) e1' (by rw [sizeLine_eq]; omega), ?_⟩
          rw [putK_new _ hno]
          have kx3 := kx2.trans (KX.upd (X := [pd, sd]) (p := pd) List.mem_cons_self (.dK (pkv ++ [(Sum.inr n, u)])))
          have e3'' : (upd H2 pd (.dK (pkv ++ [(Sum.inr n, u)]))) sd = some (.dK ((ks.take i).map fun k => ((Sum.inr k.1 : Key), V.bl k.2.2))) := by rw [upd_ne (Ne.symm ps)]; exact e3'
          refine ⟨_, rfl, _, rfl, gg, C, dx, _, _, rfl, kx3 _ _ gx hg, T.cl, T.nS, l3, _, rfl, sd, _, rfl, DPut.k (k := Sum.inr n) e3'' (by rw [List.length_map, sizeLine_eq]; omega), ?_⟩
          have hno2 : valV ((ks.take i).map fun k => ((Sum.inr k.1 : Key), V.bl k.2.2)) (Sum.inr n : Key) = none := by
            cases hv : valV ((ks.take i).map fun k => ((Sum.inr k.1 : Key), V.bl k.2.2)) (Sum.inr n : Key) with
            | none => rfl
            | some v =>
              have := valV_in hv
              rw [List.map_map] at this
              obtain ⟨k, hk, e⟩ := List.mem_map.mp this
              injection e with e
              exact absurd (List.mem_map.mpr ⟨k, hk, e⟩) hm
          rw [putK_new _ hno2]
          refine ⟨_, _, _, pkv ++ [(Sum.inr n, u)], rfl, by rw [upd_ne ps]; exact upd_same, by rw [htk, List.map_append, List.map_append, e2]; rfl, by rw [upd_same, htk, List.map_append]; rfl, kx3.trans (KX.upd (List.mem_cons_of_mem _ (List.mem_singleton_self _)) _), ?_⟩
          rw [htk, List.map_append]
          exact ek
end
end Pa
set_option maxHeartbeats 4000000
namespace Pa
open PySem PySem.Spec PyProof.Rows L2 Ty
theorem scSyms : FnScope ["self", "row", "symbol"] ["self"] (defScope gSymbols) := ⟨rfl, rfl, rfl, by decide +kernel, rfl, by decide +kernel, by decide +kernel⟩
theorem key_in {kvs : List (Key × V)} {ns : List Str} (hk : kvs.map (·.1) = ns.map Sum.inr) (n : Str) : (valV kvs (Sum.inr n : Key)).isSome = decide (n ∈ ns) := by
  cases hv : valV kvs (Sum.inr n : Key) with
  | some v =>
    have := valV_in hv
    rw [hk] at this
    obtain ⟨x, hx, e⟩ := List.mem_map.mp this
    injection e with e
    rw [e] at hx
    rw [decide_eq_true hx]; rfl
  | none =>
    have := valV_not hv
    rw [hk] at this
    rw [decide_eq_false fun h => this (List.mem_map.mpr ⟨n, h, rfl⟩)]; rfl
def spSyms (C CN : Addr) : Sp := fun vs H Q E => ∃ (g ed pd wd sd dx : Addr) (fs : List (Str × V)) (ek pk wk sk : List (Key × V)) (rows : List (List Str)) (names heads skips : List Str), vs = [.ref g] ∧ H g = some (.ins C dx fs) ∧ fs.lookup ("spelled" : Str) = some (.ref ed) ∧ fs.lookup ("patterns" : Str) = some (.ref pd) ∧ fs.lookup ("label_rows" : Str) = some (.ref wd) ∧ fs.lookup ("skips" : Str) = some (.ref sd) ∧
  H ed = some (.dK ek) ∧ Paired (fun (kv : Key × V) row => ∃ b, kv.2 = .ref b ∧ H b = some (.tup (row.map V.str))) ek rows ∧ H pd = some (.dK pk) ∧ pk.map (·.1) = names.map Sum.inr ∧ H wd = some (.dK wk) ∧ wk.map (·.1) = heads.map Sum.inr ∧ H sd = some (.dK sk) ∧
  (∀ n, (valV sk (Sum.inr n : Key)).getD (.bl false) = .bl (decide (n ∈ skips))) ∧ ed ≠ pd ∧ ed ≠ wd ∧ ed ≠ sd ∧
  (symE names heads skips rows.flatten = none → ∀ H', Same H H' → Q .non H') ∧ (∀ e, symE names heads skips rows.flatten = some e → ∀ H', KX [ed] H H' → Out E CN H' e)
section
variable {P : Program} {w : World} {K : PySem.W.Frag} {mg : Str → Option Value} {base : Heap} {f C CN fN : Addr} {fd dN : FuncData}
theorem ok_syms (F : Fun K "look_symbols" "Grammar.look_symbols" gSymbols f fd) (T : GTxt K mg C CN fN) (GN : FnOk P w K mg base CX0 1 fN dN ["self", "what", "name"] (spNoG K CN)) (bN : Binds K dN ["self", "what", "name"] []) :
    FnOk P w K mg base (L2.CX P w) 3 f fd ["self"] (spSyms C CN) := by
  refine F.okX scSyms (fun vs H Q E h => ?_) (fun cdv A outer s H vs Q E hr h => ?_)
  · obtain ⟨_, _, _, _, _, _, _, _, _, _, _, _, _, _, _, rfl, _⟩ := h
    rfl
  have hu1 := hu_of hr
  refine ⟨_, pss_one (ps_lock (ps_for (passes_of rfl) rfl (pi_values (pe_fld (pv 0) rfl)) (pg_name (i := 1) scSyms.nd rfl (Or.inl rfl))
    (pss_one (ps_for (passes_of rfl) rfl (pi_tup (pv 1)) (pg_name (i := 2) scSyms.nd rfl (Or.inl rfl))
      (pss_cons (ps_if (PW.pt (pw_and (pt_cmp (pc_dnotin hu1 (pv 2) (pe_fld (pv 0) rfl))) (pw_and1 (pt_cmp (pc_dnotin hu1 (pv 2) (pe_fld (pv 0) rfl))))))
        (pss_one (ps_raise rfl (takes_of rfl rfl rfl rfl) (pmk_oex T.tN T.iN T.yN GN (hr.mono (by decide)) bN .nil pass0 rfl T.mN (pa_cons pe_str (pa_cons (pv 2) pa_nil))))) pss_nil)
      (pss_one (ps_if (pt_val (pe_dget2 hu1 (pe_fld (pv 0) rfl) (pv 2) pe_bl ⟨rfl, rfl, rfl, rfl⟩))
        (pss_one (ps_raise rfl (takes_of rfl rfl rfl rfl) (pmk_oex T.tN T.iN T.yN GN (hr.mono (by decide)) bN .nil pass0 rfl T.mN (pa_cons pe_str (pa_cons (pv 2) pa_nil))))) pss_nil))))))), ?_⟩
  obtain ⟨gg, ed, pd, wd, sd, dx, fs, ek, pk, wk, sk, rows, names, heads, skips, rfl, hg, l1, l2, l3, l4, he, pe, hp, kp, hw, kw, hs, hsk, n1, n2, n3, q1, q2⟩ := h
  refine ⟨ed, .dK ek, he, trivial, fun od => ?_⟩
  have ge : gg ≠ ed := fun e => by rw [e, he] at hg; cases hg
  have up : ∀ {c u}, c ≠ ed → H c = some u → (upd H ed (.frz od (.dK ek))) c = some u := fun n e => by rw [upd_ne n]; exact e
  have efr : (upd H ed (.frz od (.dK ek))) ed = some (.frz od (.dK ek)) := upd_same
  have kxL : KX [ed] H (upd H ed (.frz od (.dK ek))) := KX.upd List.mem_cons_self _
  have back : ∀ H', Same (upd H ed (.frz od (.dK ek))) H' → Same H (upd H' ed (.dK ek)) := fun H' s c u e => by
    by_cases q : c = ed
    · rw [q, upd_same, ← he, ← q]; exact e
    · rw [upd_ne q]; exact s _ _ (up q e)
  generalize upd H ed (.frz od (.dK ek)) = HL at up efr kxL back
  have lek : ek.length = rows.length := Paired.length pe
  refine ⟨_, rfl, gg, C, dx, _, _, rfl, up ge hg, T.cl, T.nL, l1, ed, od, ek, rfl, efr, ?_⟩
  refine for_it walk_values (fun i σ H' => ∃ x1 x2, σ = [some (.ref gg), x1, x2] ∧ Same HL H' ∧ symE names heads skips rows.flatten = symE names heads skips (rows.drop i).flatten) ⟨_, _, rfl, same_refl, rfl⟩ (fun i σ H' _ h => by obtain ⟨_, _, _, s, _⟩ := h; exact s _ _ efr) (fun i x σ H1 H2 hi h z => ?turn) (fun σ H' h => ?done)
  case done =>
    obtain ⟨x1, x2, rfl, s, es⟩ := h
    rw [lek, List.drop_length] at es
    exact ⟨s _ _ efr, q1 es _ (back _ s)⟩
  case turn =>
    obtain ⟨x1, x2, rfl, s, es⟩ := h
    obtain ⟨rfl, k, hk⟩ := z
    obtain ⟨row, hrow, b, hb, hbt⟩ := paired_get pe i _ hk
    have hb : x = .ref b := hb
    subst hb
    have hi2 : i < rows.length := by omega
    have hdrop : rows.drop i = row :: rows.drop (i + 1) := by
      rw [List.drop_eq_getElem_cons hi2]
      congr 1
      rw [List.getElem?_eq_getElem hi2] at hrow
      exact Option.some.inj hrow
    rw [hdrop, List.flatten_cons] at es
    have be : b ≠ ed := fun e => by rw [e, he] at hbt; cases hbt
    have hbL := s _ _ (up be hbt)
    refine ⟨_, rfl, b, rfl, ⟨_, SqT.of hbL⟩, for_tup (K := K) (xs := row.map V.str) (fun j σ H' => ∃ x1 x2, σ = [some (.ref gg), x1, x2] ∧ Same HL H' ∧ symE names heads skips rows.flatten = symE names heads skips (row.drop j ++ (rows.drop (i + 1)).flatten)) ⟨_, _, rfl, s, es⟩ (fun j σ H' _ h => by obtain ⟨_, _, _, s', _⟩ := h; exact SqT.of (s' _ _ (up be hbt))) (fun j y σ H' hy h => ?turn2) (fun σ H' h => ?done2)⟩
    case done2 =>
      obtain ⟨x1, x2, rfl, s', es'⟩ := h
      rw [List.length_map, List.drop_length] at es'
      exact ⟨_, _, rfl, s', es'⟩
    case turn2 =>
      obtain ⟨x1, x2, rfl, s', es'⟩ := h
      rw [List.getElem?_map] at hy
      obtain ⟨n, hn, rfl⟩ : ∃ n, row[j]? = some n ∧ V.str n = y := by
        cases e : row[j]? with
        | none => rw [e] at hy; cases hy
        | some k => rw [e] at hy; exact ⟨k, rfl, Option.some.inj hy⟩
      have hj : j < row.length := (List.getElem?_eq_some_iff.mp hn).1
      have hd2 : row.drop j = n :: row.drop (j + 1) := by
        rw [List.drop_eq_getElem_cons hj]
        congr 1
        rw [List.getElem?_eq_getElem hj] at hn
        exact Option.some.inj hn
      rw [hd2] at es'
      have ee : symE names heads skips (n :: (row.drop (j + 1) ++ (rows.drop (i + 1)).flatten)) = if n ∉ names ∧ n ∉ heads then some (("symbol" : Str), some n) else if n ∈ skips then some (("skipped" : Str), some n) else symE names heads skips (row.drop (j + 1) ++ (rows.drop (i + 1)).flatten) := rfl
      rw [List.cons_append, ee] at es'
      have kx := kxL.trans (KX.of (X := [ed]) s')
      have raise : ∀ (t : Str), symE names heads skips rows.flatten = some (t, some n) → _ := fun t e => raise_nog (K := K) (x := t) (y := some n) T.tN T.n1 T.n2 (q2 _ e H' kx)
      refine ⟨_, rfl, _, rfl, gg, C, dx, _, _, rfl, s' _ _ (up ge hg), T.cl, T.nP, l2, pd, _, rfl, DGet.k (k := Sum.inr n) (s' _ _ (up (Ne.symm n1) hp)), _, rfl, ?_⟩
      rw [key_in kp n]
      by_cases a1 : n ∈ names
      · rw [decide_eq_true a1]
        refine iteF (iteF ?_)
        have es2 := es'
        rw [if_neg (fun q => q.1 a1)] at es2
        refine ⟨_, rfl, gg, C, dx, _, _, rfl, s' _ _ (up ge hg), T.cl, T.nS, l4, sd, rfl, .inl ⟨_, .inl (s' _ _ (up (Ne.symm n3) hs))⟩, _, rfl, _, DGet.k (k := Sum.inr n) (s' _ _ (up (Ne.symm n3) hs)), decide (n ∈ skips), hsk n, ?_⟩
        by_cases a3 : n ∈ skips
        · rw [decide_eq_true a3]
          rw [if_pos a3] at es2
          exact iteT ⟨_, rfl, raise _ es2⟩
        · rw [decide_eq_false a3]
          rw [if_neg a3] at es2
          exact iteF ⟨_, _, rfl, s', es2⟩
      · rw [decide_eq_false a1]
        refine iteT ?_
        refine ⟨_, rfl, _, rfl, gg, C, dx, _, _, rfl, s' _ _ (up ge hg), T.cl, T.nW, l3, wd, _, rfl, DGet.k (k := Sum.inr n) (s' _ _ (up (Ne.symm n2) hw)), _, rfl, ?_⟩
        rw [key_in kw n]
        by_cases a2 : n ∈ heads
        · rw [decide_eq_true a2]
          refine iteF ?_
          have es2 := es'
          rw [if_neg (fun q => q.2 a2)] at es2
          refine ⟨_, rfl, gg, C, dx, _, _, rfl, s' _ _ (up ge hg), T.cl, T.nS, l4, sd, rfl, .inl ⟨_, .inl (s' _ _ (up (Ne.symm n3) hs))⟩, _, rfl, _, DGet.k (k := Sum.inr n) (s' _ _ (up (Ne.symm n3) hs)), decide (n ∈ skips), hsk n, ?_⟩
          by_cases a3 : n ∈ skips
          · rw [decide_eq_true a3]
            rw [if_pos a3] at es2
            exact iteT ⟨_, rfl, raise _ es2⟩
          · rw [decide_eq_false a3]
            rw [if_neg a3] at es2
            exact iteF ⟨_, _, rfl, s', es2⟩
        · rw [decide_eq_false a2]
          rw [if_pos ⟨a1, a2⟩] at es'
          exact iteT ⟨_, rfl, raise _ es'⟩
end
end Pa
set_option maxHeartbeats 4000000
namespace Pa
open PySem PySem.Spec PyProof.Rows L2 Ty
theorem scBars : FnScope ["self", "met", "bar", "one", "place", "other", "row"] ["self"] (defScope gBars) := ⟨rfl, rfl, rfl, by decide +kernel, rfl, by decide +kernel, by decide +kernel⟩
def spGBars (K : PySem.W.Frag) (C CN : Addr) : Sp := fun vs H Q E => ∃ (g ed hd c dx : Addr) (fs : List (Str × V)) (ek hk : List (Key × V)) (cb : List V) (rs : Rls) (bs : Brs), vs = [.ref g] ∧ H g = some (.ins C dx fs) ∧ fs.lookup ("spelled" : Str) = some (.ref ed) ∧ fs.lookup ("homes" : Str) = some (.ref hd) ∧ fs.lookup ("bar_rows" : Str) = some (.ref c) ∧
  H ed = some (.dK ek) ∧ H hd = some (.dK hk) ∧ SqT K H c cb ∧ Paired (BrV H) cb bs ∧ bs.length ≤ 10000 ∧
  (∀ n, (∃ b, valV ek (Sum.inr n : Key) = some (.ref b) ∧ H b = some (.tup ((spelledP rs n).map V.str))) ∨ (valV ek (Sum.inr n : Key) = none ∧ spelledP rs n = [])) ∧ (∀ n, valV hk (Sum.inr n : Key) = (homeP rs n).map V.str) ∧ (∀ n, (spelledP rs n).length ≤ 10000) ∧
  (barE rs [] bs = none → ∀ H', Same H H' → Q .non H') ∧ (∀ e, barE rs [] bs = some e → Out E CN H e)
def bK (b : Str × Int × Str) : List Key := [Sum.inr b.1, Sum.inl b.2.1, Sum.inr b.2.2]
theorem bK_inj {a b : Str × Int × Str} (h : bK a = bK b) : a = b := by
  obtain ⟨a1, a2, a3⟩ := a
  obtain ⟨b1, b2, b3⟩ := b
  simp only [bK, List.cons.injEq, Sum.inr.injEq, Sum.inl.injEq, and_true] at h
  rw [h.1, h.2.1, h.2.2]
theorem bK_in {mk : List (List Key × V)} {bs : Brs} (h : mk.map (·.1) = bs.map bK) (b : Str × Int × Str) : (valV mk (bK b)).isSome = decide (b ∈ bs) := by
  cases hv : valV mk (bK b) with
  | some v =>
    have := valV_in hv
    rw [h] at this
    obtain ⟨x, hx, e⟩ := List.mem_map.mp this
    rw [bK_inj e] at hx
    rw [decide_eq_true hx]; rfl
  | none =>
    have := valV_not hv
    rw [h] at this
    rw [decide_eq_false fun q => this (List.mem_map.mpr ⟨b, q, rfl⟩)]; rfl
section
variable {P : Program} {w : World} {K : PySem.W.Frag} {mg : Str → Option Value} {base : Heap} {f C CN fN : Addr} {fd dN : FuncData}
theorem ok_gbars (F : Fun K "look_bars" "Grammar.look_bars" gBars f fd) (T : GTxt K mg C CN fN) (GN : FnOk P w K mg base CX0 1 fN dN ["self", "what", "name"] (spNoG K CN)) (bN : Binds K dN ["self", "what", "name"] []) (ml : mg "len" = none) :
    FnOk P w K mg base (L2.CX P w) 3 f fd ["self"] (spGBars K C CN) := by
  refine F.okX scBars (fun vs H Q E h => ?_) (fun cdv A outer s H vs Q E hr h => ?_)
  · obtain ⟨_, _, _, _, _, _, _, _, _, _, _, rfl, _⟩ := h
    rfl
  have hu1 := hu_of hr
  refine ⟨_, pss_cons (ps_set (i := 1) scBars.nd rfl (.inl rfl) pe_dnewT)
    (pss_one (ps_for (passes_of rfl) rfl (pi_tup (pe_fld (pv 0) rfl)) (pg_name (i := 2) scBars.nd rfl (Or.inl rfl))
      (pss_cons (ps_asg (pv 2) (pg_tup rfl (pgs_cons (pg_name (i := 3) scBars.nd rfl (Or.inl rfl)) (pgs_cons (pg_name (i := 4) scBars.nd rfl (Or.inl rfl)) (pgs_cons (pg_name (i := 5) scBars.nd rfl (Or.inl rfl)) pgs_nil)))))
      (pss_cons (ps_set (i := 6) scBars.nd rfl (.inl rfl) (pe_dget2 hu1 (pe_fld (pv 0) rfl) (pv 3) (pe_tup pa_nil) ⟨rfl, rfl, rfl, rfl⟩))
      (pss_cons (ps_if (PW.pt (pw_or (pt_not (pt_chain op_le op_le pe_int (pv 4) (pe_callB call_len_seq rfl ml PySem.boot_len (pa_cons (pv 6) pa_nil)))) (pw_or (pt_cmp (pc_din hu1 (pv 2) (pv 1))) (pw_or1 (pt_cmpR op_ne (pe_dget1 hu1 (pe_fld (pv 0) rfl) (pv 5) ⟨rfl, rfl, rfl, rfl⟩) (pe_ix ix_tup (pv 6) (pe_op op_sub (pv 4) pe_int) (fun _ _ => rfl)) (nomark _))))))
        (pss_one (ps_raise rfl (takes_of rfl rfl rfl rfl) (pmk_oex T.tN T.iN T.yN GN (hr.mono (by decide)) bN .nil pass0 rfl T.mN (pa_cons pe_str (pa_cons (pv 3) pa_nil))))) pss_nil)
      (pss_one (ps_dput hu1 (pv 1) (pv 2) pe_bl rfl))))))), ?_⟩
  obtain ⟨gg, ed, hd, c, dx, fs, ek, hk, cb, rs, bs, rfl, hg, l1, l2, l3, he, hh, hc, pc, hl, hs, hho, hsl, q1, q2⟩ := h
  refine fun m mf => ⟨_, rfl, ?_⟩
  have lcb : cb.length = bs.length := Paired.length pc
  have hgm : gg ≠ m := fun e => by rw [e, mf] at hg; cases hg
  have up : ∀ {c' u}, H c' = some u → (upd H m (HO.dT [])) c' = some u := fun {c' u} e => by rw [upd_ne (fun q => by rw [q, mf] at e; cases e)]; exact e
  have em : (upd H m (HO.dT [])) m = some (.dT []) := upd_same
  have kx0 : Same H (upd H m (HO.dT [])) := fun c' u e => up e
  refine ⟨gg, C, dx, _, _, rfl, up hg, T.cl, T.nB, l3, c, rfl, ⟨_, hc.same kx0⟩, for_tup (K := K) (xs := cb) (fun i σ H' => ∃ x1 x2 x3 x4 x5 mk, σ = [some (.ref gg), some (.ref m), x1, x2, x3, x4, x5] ∧ H' m = some (.dT mk) ∧ Same H H' ∧ barE rs [] bs = barE rs (bs.take i) (bs.drop i) ∧ mk.map (·.1) = (bs.take i).map bK) ⟨_, _, _, _, _, [], rfl, em, kx0, rfl, rfl⟩ (fun i σ H' _ h => by obtain ⟨_, _, _, _, _, _, _, _, s, _⟩ := h; exact hc.same s) (fun i x σ H' hi h => ?turn) (fun σ H' h => ?done)⟩
  case done =>
    obtain ⟨x1, x2, x3, x4, x5, mk, rfl, hm, s, es, _⟩ := h
    rw [lcb, List.drop_length] at es
    exact q1 es _ s
  case turn =>
    obtain ⟨x1, x2, x3, x4, x5, mk, rfl, hm, s, es, lm⟩ := h
    obtain ⟨⟨n, p, ot⟩, hki, ⟨ra, rfl, h1⟩⟩ := paired_get pc i x hi
    have hil : i < bs.length := (List.getElem?_eq_some_iff.mp hki).1
    have hdrop : bs.drop i = (n, p, ot) :: bs.drop (i + 1) := by
      rw [List.drop_eq_getElem_cons hil]
      congr 1
      rw [List.getElem?_eq_getElem hil] at hki
      exact Option.some.inj hki
    have htk : bs.take (i + 1) = bs.take i ++ [(n, p, ot)] := by rw [List.take_add_one, hki]; rfl
    rw [hdrop] at es
    have ea : barE rs (bs.take i) ((n, p, ot) :: bs.drop (i + 1)) = if ¬ (1 ≤ p ∧ p ≤ ((spelledP rs n).length : Nat)) ∨ (n, p, ot) ∈ bs.take i ∨ homeP rs ot ≠ (spelledP rs n)[(p - 1).toNat]? then some (("bar" : Str), some n) else barE rs (bs.take i ++ [(n, p, ot)]) (bs.drop (i + 1)) := rfl
    rw [ea, ← htk] at es
    refine ⟨_, rfl, ra, _, rfl, SqT.of (s _ _ h1), rfl, _, _, rfl, _, _, rfl, _, _, rfl, rfl, ?_⟩
    refine ⟨_, rfl, gg, C, dx, _, _, rfl, s _ _ hg, T.cl, T.nL, l1, ed, rfl, .inl ⟨_, .inl (s _ _ he)⟩, _, rfl, ?_⟩
    refine ⟨Nat.zero_le _, fun d df => ?_⟩
    have up1 : ∀ {c' u}, H c' = some u → (upd H' d (.tup [])) c' = some u := fun {c' u} e => by
      rw [upd_ne (fun q => by rw [q] at e; have := s _ _ e; rw [df] at this; cases this)]; exact s _ _ e
    have hmd : (upd H' d (.tup [])) m = some (.dT mk) := by
      rw [upd_ne (fun q => by rw [q, df] at hm; cases hm)]; exact hm
    have edd : (upd H' d (.tup [])) d = some (.tup []) := upd_same
    generalize upd H' d (.tup []) = H2 at up1 hmd edd
    obtain ⟨b, hb1, hb2⟩ : ∃ b, (valV ek (Sum.inr n : Key)).getD (.ref d) = .ref b ∧ H2 b = some (.tup ((spelledP rs n).map V.str)) := by
      rcases hs n with ⟨b, e1, e2⟩ | ⟨e1, e2⟩
      · exact ⟨b, by rw [e1]; rfl, up1 e2⟩
      · exact ⟨d, by rw [e1]; rfl, by rw [e2]; exact edd⟩
    refine ⟨_, DGet.k (k := Sum.inr n) (up1 he), ?_⟩
    rw [hb1]
    refine ⟨_, rfl, _, _, rfl, rfl, _, rfl, ?_⟩
    have raise : barE rs [] bs = some (("bar" : Str), some n) → _ := fun e => raise_nog (K := K) (x := "bar") (y := some n) T.tN T.n1 T.n2 ((q2 _ e).same (H1 := H2) fun c' u e' => up1 e')
    have hp1 : decide ((1 : Int) ≤ p) = true ∨ decide ((1 : Int) ≤ p) = false := by cases decide ((1 : Int) ≤ p) <;> simp
    rcases hp1 with hp | hp
    case inr =>
      show (if decide ((1 : Int) ≤ p) = true then _ else _)
      rw [hp]
      refine iteF ?_
      exact ⟨_, rfl, iteT (iteT ⟨_, rfl, raise (es.trans (if_pos (Or.inl fun q => of_decide_eq_false hp q.1)))⟩)⟩
    case inl =>
      show (if decide ((1 : Int) ≤ p) = true then _ else _)
      rw [hp]
      refine iteT ?_
      refine ⟨_, rfl, b, _, rfl, .inr (SqT.of hb2), _, _, rfl, rfl, ?_⟩
      rw [List.length_map]
      by_cases hq : p ≤ (((spelledP rs n).length : Nat) : Int)
      case neg =>
        refine ⟨false, congrArg V.bl (decide_eq_false hq), iteT (iteT ⟨_, rfl, raise (es.trans (if_pos (Or.inl fun q => hq q.2)))⟩)⟩
      refine ⟨true, congrArg V.bl (decide_eq_true hq), iteF ?_⟩
      refine ⟨_, rfl, _, rfl, m, _, rfl, DGet.t (k := bK (n, p, ot)) hmd (up1 h1), ?_⟩
      rw [bK_in lm]
      by_cases hin : (n, p, ot) ∈ bs.take i
      case pos =>
        rw [decide_eq_true hin]
        exact ⟨_, rfl, iteT (iteT ⟨_, rfl, raise (es.trans (if_pos (Or.inr (Or.inl hin))))⟩)⟩
      rw [decide_eq_false hin]
      refine ⟨_, rfl, iteF ?_⟩
      refine ⟨_, rfl, gg, C, dx, _, _, rfl, up1 hg, T.cl, T.nH, l2, hd, rfl, .inl ⟨_, .inl (up1 hh)⟩, _, rfl, _, DGet.k (k := Sum.inr ot) (up1 hh), ?_⟩
      rw [hho ot]
      have hp2 : (1 : Int) ≤ p := of_decide_eq_true hp
      have hlt : (p - 1).toNat < (spelledP rs n).length := by omega
      obtain ⟨v, hv⟩ : ∃ v, (spelledP rs n)[(p - 1).toNat]? = some v := ⟨_, List.getElem?_eq_getElem hlt⟩
      have hat : atI ((spelledP rs n).map V.str) (p - 1) = some (.str v) := by
        have := atI_nat (xs := (spelledP rs n).map V.str) (j := (p - 1).toNat) (v := .str v) (by rw [List.getElem?_map, hv]; rfl)
        rwa [show (((p - 1).toNat : Nat) : Int) = p - 1 by omega] at this
      refine ⟨_, rfl, _, rfl, _, _, rfl, rfl, b, _, _, _, rfl, rfl, SqT.of hb2, hat, ?_⟩
      have hsc : scal ((Option.map V.str (homeP rs ot)).getD V.non) (.str v) = true := by cases homeP rs ot <;> rfl
      have hde : (!decide ((Option.map V.str (homeP rs ot)).getD V.non = .str v)) = decide (homeP rs ot ≠ (spelledP rs n)[(p - 1).toNat]?) := by
        rw [hv]
        cases homeP rs ot with
        | none => rfl
        | some u =>
          by_cases e : u = v
          · rw [e]; simp
          · simp [e]
      refine ⟨hsc, _, rfl, ?_⟩
      rw [hde]
      by_cases hne : homeP rs ot ≠ (spelledP rs n)[(p - 1).toNat]?
      case pos =>
        rw [decide_eq_true hne]
        exact iteT ⟨_, rfl, raise (es.trans (if_pos (Or.inr (Or.inr hne))))⟩
      rw [decide_eq_false hne]
      refine iteF ?_
      have lmk : mk.length ≤ 10000 := by
        have := congrArg List.length lm
        rw [List.length_map, List.length_map, List.length_take] at this
        omega
      have hnone : valV mk (bK (n, p, ot)) = none := by
        have := bK_in lm (n, p, ot)
        rw [decide_eq_false hin] at this
        cases e : valV mk (bK (n, p, ot)) with
        | none => rfl
        | some _ => rw [e] at this; cases this
      refine ⟨_, rfl, _, rfl, m, _, rfl, DPut.t (k := bK (n, p, ot)) hmd (up1 h1) (by rw [sizeLine_eq]; omega), ?_⟩
      rw [putK_new _ hnone]
      have hmH : H m = none := mf
      refine ⟨_, _, _, _, _, mk ++ [(bK (n, p, ot), .bl true)], rfl, upd_same, same_upd (fun c' u e => up1 e) hmH, ?_, by rw [List.map_append, lm, htk, List.map_append]; rfl⟩
      rw [es, if_neg (fun h => h.elim (fun h => h ⟨hp2, hq⟩) fun h => h.elim hin hne)]
end
end Pa
set_option maxHeartbeats 4000000
namespace Pa
open PySem PySem.Spec PyProof.Rows L2 Ty
theorem scRules : FnScope ["self", "name", "alternatives", "label", "row"] ["self"] (defScope gRules) := ⟨rfl, rfl, rfl, by decide +kernel, rfl, by decide +kernel, by decide +kernel⟩
abbrev altsOf (rs : Rls) : List (Str × List Str) := rs.flatMap (·.2)
abbrev homesOf (rs : Rls) : List (Str × Str) := rs.flatMap fun r => r.2.map fun a => (a.1, r.1)
def SpE (H : Hp) (kv : Key × V) (a : Str × List Str) : Prop := kv.1 = Sum.inr a.1 ∧ ∃ b, kv.2 = .ref b ∧ H b = some (.tup (a.2.map V.str))
theorem SpE.tk {H H' : Hp} {kv : Key × V} {a : Str × List Str} (s : SpE H kv a) (t : Tk H H') : SpE H' kv a := by
  obtain ⟨e, b, h1, h2⟩ := s
  exact ⟨e, b, h1, t _ _ h2⟩
theorem KX.new {X : List Addr} {H H' : Hp} {p : Addr} {o : HO} (k : KX X H H') (n : H p = none) : KX X H (L2.upd H' p o) := fun c u m e => by rw [upd_ne (ne_of_none e n)]; exact k c u m e
theorem KX.put {X : List Addr} {H H' : Hp} {p : Addr} {o : HO} (k : KX X H H') (n : p ∈ X) : KX X H (L2.upd H' p o) := k.trans (KX.upd n o)
theorem homes_keys : ∀ rs : Rls, (homesOf rs).map (·.1) = (altsOf rs).map (·.1)
  | [] => rfl
  | (n, as) :: rs => by
    show (List.map _ (_ ++ homesOf rs)) = List.map _ (as ++ altsOf rs)
    rw [List.map_append, List.map_append, homes_keys rs, List.map_map]
    rfl
theorem alt_cons {ls : List Str} {a : Str × List Str} {as : List (Str × List Str)} : altE ls (a :: as) = match altE ls [a] with | some e => some e | none => altE (ls ++ [a.1]) as := by
  obtain ⟨l, row⟩ := a
  have e1 : altE ls ((l, row) :: as) = if nameP l = false then some (("label" : Str), some l) else if l ∈ ls then some (("again" : Str), some l) else if 6 < row.length then some (("long" : Str), some l) else altE (ls ++ [l]) as := rfl
  have e2 : altE ls [(l, row)] = if nameP l = false then some (("label" : Str), some l) else if l ∈ ls then some (("again" : Str), some l) else if 6 < row.length then some (("long" : Str), some l) else none := rfl
  rw [e1, e2]
  by_cases h1 : nameP l = false
  · rw [if_pos h1, if_pos h1]
  · rw [if_neg h1, if_neg h1]
    by_cases h2 : l ∈ ls
    · rw [if_pos h2, if_pos h2]
    · rw [if_neg h2, if_neg h2]
      by_cases h3 : 6 < row.length
      · rw [if_pos h3, if_pos h3]
      · rw [if_neg h3, if_neg h3]
theorem key_none {kvs : List (Key × V)} {ns : List Str} (hk : kvs.map (·.1) = ns.map Sum.inr) {n : Str} (h : n ∉ ns) : valV kvs (Sum.inr n : Key) = none := by
  cases hv : valV kvs (Sum.inr n : Key) with
  | none => rfl
  | some v =>
    have := key_in hk n
    rw [hv, decide_eq_false h] at this
    cases this
theorem alt_none {ls : List Str} {l : Str} {row : List Str} (h : altE ls [(l, row)] = none) : l ∉ ls := by
  intro m
  have e2 : altE ls [(l, row)] = if nameP l = false then some (("label" : Str), some l) else if l ∈ ls then some (("again" : Str), some l) else if 6 < row.length then some (("long" : Str), some l) else none := rfl
  rw [e2] at h
  by_cases h1 : nameP l = false
  · rw [if_pos h1] at h; cases h
  · rw [if_neg h1, if_pos m] at h; cases h
def spGRules (C CN : Addr) : Sp := fun vs H Q E => ∃ (g b pd wd hd ed nd dx : Addr) (fs : List (Str × V)) (pk : List (Key × V)) (rb : List V) (names : List Str) (rs : Rls), vs = [.ref g] ∧ H g = some (.ins C dx fs) ∧ fs.lookup ("rule_rows" : Str) = some (.ref b) ∧ fs.lookup ("patterns" : Str) = some (.ref pd) ∧
  fs.lookup ("label_rows" : Str) = some (.ref wd) ∧ fs.lookup ("homes" : Str) = some (.ref hd) ∧ fs.lookup ("spelled" : Str) = some (.ref ed) ∧ fs.lookup ("numbers" : Str) = some (.ref nd) ∧ fs.lookup ("look_label" : Str) = none ∧
  H b = some (.lst rb) ∧ Paired (RlV anyB H) rb rs ∧ H pd = some (.dK pk) ∧ pk.map (·.1) = names.map Sum.inr ∧ H wd = some (.dK []) ∧ H hd = some (.dK []) ∧ H ed = some (.dK []) ∧ H nd = some (.dK []) ∧
  (wd ≠ hd ∧ wd ≠ ed ∧ wd ≠ nd ∧ hd ≠ ed ∧ hd ≠ nd ∧ ed ≠ nd ∧ pd ≠ wd ∧ pd ≠ hd ∧ pd ≠ ed ∧ pd ≠ nd) ∧
  rs.length ≤ 10000 ∧ (altsOf rs).length ≤ 1000000 ∧ (∀ r, r ∈ rs → r.1.length ≤ 16000000 ∧ ∀ a, a ∈ r.2 → a.1.length ≤ 16000000) ∧
  (ruleE names [] rs = none → ∀ wk ek H', H' wd = some (.dK wk) → wk.map (·.1) = rs.map (fun r => (Sum.inr r.1 : Key)) → H' hd = some (.dK ((homesOf rs).map fun h => ((Sum.inr h.1 : Key), V.str h.2))) → H' ed = some (.dK ek) → Paired (SpE H') ek (altsOf rs) → KX [wd, hd, ed, nd] H H' → Q .non H') ∧
  (∀ e, ruleE names [] rs = some e → ∀ H', KX [wd, hd, ed, nd] H H' → Out E CN H' e)
section
variable {P : Program} {w : World} {K : PySem.W.Frag} {mg : Str → Option Value} {base : Heap} {f g C CN fN fL : Addr} {fd gd dN dL : FuncData}
theorem ok_grules (F : Fun K "look_rules" "Grammar.look_rules" gRules f fd) (T : GTxt K mg C CN fN) (GN : FnOk P w K mg base CX0 1 fN dN ["self", "what", "name"] (spNoG K CN)) (bN : Binds K dN ["self", "what", "name"] [])
    (G : FnOk P w K mg base CX0 1 g gd ["thing"] (spB nameP)) (bG : Binds K gd ["thing"] []) (kG : PySem.W.keepIn K (.ref g) = true) (mG : mg "is_name" = some (.ref g))
    (L : FnOk P w K mg base (L2.CX P w) 3 fL dL ["self", "label", "row"] (spLabel C CN)) (bL : Binds K dL ["self", "label", "row"] []) (mL : Meth K C "look_label" fL) (ml : mg "len" = none) :
    FnOk P w K mg base (L2.CX P w) 4 f fd ["self"] (spGRules C CN) := by
  refine F.okX scRules (fun vs H Q E h => ?_) (fun cdv A outer s H vs Q E hr h => ?_)
  · obtain ⟨_, _, _, _, _, _, _, _, _, _, _, _, _, rfl, _⟩ := h
    rfl
  have hu1 := hu_of hr
  have hu := hr.units
  have G' := G.mono (show 1 ≤ 3 by decide)
  refine ⟨_, pss_one (ps_for (passes_of rfl) rfl (pi_list (pe_fld (pv 0) rfl)) (pg_tup rfl (pgs_cons (pg_name (i := 1) scRules.nd rfl (Or.inl rfl)) (pgs_cons (pg_name (i := 2) scRules.nd rfl (Or.inl rfl)) pgs_nil)))
    (pss_cons (ps_if (pt_not (pt_val (pe_call G' hr rfl mG kG bG .nil pass0 (pa_cons (pv 1) pa_nil))))
      (pss_one (ps_raise rfl (takes_of rfl rfl rfl rfl) (pmk_oex T.tN T.iN T.yN GN (hr.mono (by decide)) bN .nil pass0 rfl T.mN (pa_cons pe_str (pa_cons (pv 1) pa_nil))))) pss_nil)
    (pss_cons (ps_if (PW.pt (pw_or (pt_cmp (pc_din hu1 (pv 1) (pe_fld (pv 0) rfl))) (pw_or1 (pt_cmp (pc_din hu1 (pv 1) (pe_fld (pv 0) rfl))))))
      (pss_one (ps_raise rfl (takes_of rfl rfl rfl rfl) (pmk_oex T.tN T.iN T.yN GN (hr.mono (by decide)) bN .nil pass0 rfl T.mN (pa_cons pe_str (pa_cons (pv 1) pa_nil))))) pss_nil)
    (pss_cons (ps_if (pt_cmpR (op_eqL0 hu) (pv 2) (pe_lst pa_nil) (nomark _))
      (pss_one (ps_raise rfl (takes_of rfl rfl rfl rfl) (pmk_oex T.tN T.iN T.yN GN (hr.mono (by decide)) bN .nil pass0 rfl T.mN (pa_cons pe_str (pa_cons (pv 1) pa_nil))))) pss_nil)
    (pss_cons (ps_dput hu1 (pe_fld (pv 0) rfl) (pv 1) (pe_lst pa_nil) rfl)
    (pss_one (ps_for (passes_of rfl) rfl (pi_list (pv 2)) (pg_tup rfl (pgs_cons (pg_name (i := 3) scRules.nd rfl (Or.inl rfl)) (pgs_cons (pg_name (i := 4) scRules.nd rfl (Or.inl rfl)) pgs_nil)))
      (pss_cons (ps_expr (pe_meth (pv 0) T.cl mL L hr bL .nil (passes_call (takes_of rfl rfl rfl rfl) (fun _ _ _ _ z => z)) (pa_cons (pv 3) (pa_cons (pv 4) pa_nil))))
      (pss_cons (ps_dput hu1 (pe_fld (pv 0) rfl) (pv 3) (pe_callB call_lenD rfl ml PySem.boot_len (pa_cons (pe_fld (pv 0) rfl) pa_nil)) rfl)
      (pss_cons (ps_dput hu1 (pe_fld (pv 0) rfl) (pv 3) (pv 1) rfl)
      (pss_cons (ps_dput hu1 (pe_fld (pv 0) rfl) (pv 3) (pv 4) rfl)
      (pss_one (ps_expr (pe_bm PySem.F.plainAttrs_list PySem.F.slot_list_append PySem.F.type_list_append mt_append (pe_dget hu1 (pe_fld (pv 0) rfl) (pv 1) (fun _ _ => rfl)) (pa_cons (pv 3) pa_nil))))))))))))))), ?_⟩
  obtain ⟨gg, b, pd, wd, hd, ed, nd, dx, fs, pk, rb, names, rs, rfl, hg, l1, l2, l3, l4, l5, l6, l7, hb, pr, hp, kp, hw, hh, he, hn, ⟨d1, d2, d3, d4, d5, d6, d7, d8, d9, d10⟩, z1, z2, hok, q1, q2⟩ := h
  have isX : ∀ {c : Addr} {u : HO}, H c = some u → (∀ kv, u ≠ .dK kv) → c ∉ [wd, hd, ed, nd] := fun {c u} e ne h => by
    simp only [List.mem_cons, List.not_mem_nil, or_false] at h
    rcases h with rfl | rfl | rfl | rfl
    · rw [hw] at e; exact ne _ (Option.some.inj e).symm
    · rw [hh] at e; exact ne _ (Option.some.inj e).symm
    · rw [he] at e; exact ne _ (Option.some.inj e).symm
    · rw [hn] at e; exact ne _ (Option.some.inj e).symm
  have gx := isX hg (fun _ e => by cases e)
  have bx := isX hb (fun _ e => by cases e)
  have px : pd ∉ [wd, hd, ed, nd] := by simp [d7, d8, d9, d10]
  have tkx : ∀ {H'}, KX [wd, hd, ed, nd] H H' → Tk H H' := fun {H'} k c xs e => k c _ (isX e (fun _ q => by cases q)) e
  have lrb : rb.length = rs.length := Paired.length pr
  refine ⟨_, rfl, gg, C, dx, _, _, rfl, hg, T.cl, T.nR, l1, b, rfl, ⟨_, SqL.of hb⟩, ?_⟩
  refine for_list (K := K) (xs := rb) (fun i σ H' => ∃ x1 x2 x3 x4 wk ek nk, σ = [some (.ref gg), x1, x2, x3, x4] ∧ H' wd = some (.dK wk) ∧ wk.map (·.1) = ((rs.take i).map (·.1)).map Sum.inr ∧ H' hd = some (.dK ((homesOf (rs.take i)).map fun h => ((Sum.inr h.1 : Key), V.str h.2))) ∧ H' ed = some (.dK ek) ∧ Paired (SpE H') ek (altsOf (rs.take i)) ∧
      H' nd = some (.dK nk) ∧ nk.map (·.1) = ((altsOf (rs.take i)).map (·.1)).map Sum.inr ∧ KX [wd, hd, ed, nd] H H' ∧ ruleE names [] rs = ruleE (names ++ (rs.take i).map (·.1)) ((altsOf (rs.take i)).map (·.1)) (rs.drop i))
    ⟨_, _, _, _, [], [], [], rfl, hw, rfl, hh, he, .nil, hn, rfl, KX.of same_refl, by rw [show rs.take 0 = [] from rfl, List.map_nil, List.append_nil]; rfl⟩ (fun i σ H' _ h => by obtain ⟨_, _, _, _, _, _, _, _, _, _, _, _, _, _, _, k, _⟩ := h; exact SqL.of (k _ _ bx hb)) (fun i v σ H' hv h => ?turn) (fun σ H' h => ?done)
  case done =>
    obtain ⟨x1, x2, x3, x4, wk, ek, nk, rfl, e1, e2, e3, e4, e5, e6, e7, kx, ek'⟩ := h
    rw [lrb, List.take_length] at e2 e3 e5
    rw [lrb, List.drop_length] at ek'
    exact q1 ek' wk ek H' e1 (by rw [e2, List.map_map]; rfl) e3 e4 e5 kx
  case turn =>
    obtain ⟨x1, x2, x3, x4, wk, ek, nk, rfl, e1, e2, e3, e4, e5, e6, e7, kx, er⟩ := h
    obtain ⟨⟨n, as⟩, hri, ⟨ra, ab, xs, rfl, h1, h2, _, h3⟩⟩ := paired_get pr i v hv
    have hi : i < rs.length := (List.getElem?_eq_some_iff.mp hri).1
    have rok := hok _ (List.mem_of_getElem? hri)
    have hdrop : rs.drop i = (n, as) :: rs.drop (i + 1) := by
      rw [List.drop_eq_getElem_cons hi]
      congr 1
      rw [List.getElem?_eq_getElem hi] at hri
      exact Option.some.inj hri
    have htk : rs.take (i + 1) = rs.take i ++ [(n, as)] := by rw [List.take_add_one, hri]; rfl
    rw [hdrop] at er
    have ea : ruleE (names ++ (rs.take i).map (·.1)) ((altsOf (rs.take i)).map (·.1)) ((n, as) :: rs.drop (i + 1)) = if nameP n = false then some (("name" : Str), some n) else if n ∈ names ++ (rs.take i).map (·.1) then some (("twice" : Str), some n) else if as = [] then some (("bare" : Str), some n) else
      match altE ((altsOf (rs.take i)).map (·.1)) as with
      | some e => some e
      | none => ruleE (names ++ (rs.take i).map (·.1) ++ [n]) ((altsOf (rs.take i)).map (·.1) ++ as.map (·.1)) (rs.drop (i + 1)) := rfl
    rw [ea] at er
    have tk := tkx kx
    have zal : (altsOf (rs.take i)).length + as.length ≤ 1000000 := by
      have : (altsOf (rs.take (i + 1))).length ≤ (altsOf rs).length := by
        have e := List.take_append_drop (i + 1) rs
        have : altsOf rs = altsOf (rs.take (i + 1)) ++ altsOf (rs.drop (i + 1)) := by
          show _ = List.flatMap _ _ ++ List.flatMap _ _
          rw [← List.flatMap_append, e]
        rw [this, List.length_append]; omega
      rw [htk, show altsOf (rs.take i ++ [(n, as)]) = altsOf (rs.take i) ++ as by show List.flatMap _ _ = _; rw [List.flatMap_append]; simp, List.length_append] at this
      omega
    refine ⟨ra, _, rfl, SqT.of (tk _ _ h1), rfl, _, _, rfl, _, _, rfl, rfl, ?_⟩
    refine ⟨_, rfl, n, rfl, rok.1, fun H1 s1 => ⟨_, rfl, ?_⟩⟩
    have kx1 := kx.trans (KX.of s1)
    cases hnm : nameP n with
    | false =>
      rw [hnm, if_pos rfl] at er
      exact iteT ⟨_, rfl, raise_nog (y := some n) T.tN T.n1 T.n2 (q2 _ er H1 kx1)⟩
    | true =>
      rw [hnm, if_neg (by decide)] at er
      refine iteF ?_
      refine ⟨_, rfl, _, rfl, gg, C, dx, _, _, rfl, kx1 _ _ gx hg, T.cl, T.nP, l2, pd, _, rfl, DGet.k (k := Sum.inr n) (kx1 _ _ px hp), _, rfl, ?_⟩
      rw [key_in kp n]
      by_cases m1 : n ∈ names
      case pos =>
        rw [if_pos (List.mem_append_left _ m1)] at er
        rw [decide_eq_true m1]
        exact iteT (iteT ⟨_, rfl, raise_nog (y := some n) T.tN T.n1 T.n2 (q2 _ er H1 kx1)⟩)
      rw [decide_eq_false m1]
      refine iteF ?_
      refine ⟨_, rfl, _, rfl, gg, C, dx, _, _, rfl, kx1 _ _ gx hg, T.cl, T.nW, l3, wd, _, rfl, DGet.k (k := Sum.inr n) (s1 _ _ e1), _, rfl, ?_⟩
      rw [key_in e2 n]
      by_cases m2 : n ∈ (rs.take i).map (·.1)
      case pos =>
        rw [if_pos (List.mem_append_right _ m2)] at er
        rw [decide_eq_true m2]
        exact iteT ⟨_, rfl, raise_nog (y := some n) T.tN T.n1 T.n2 (q2 _ er H1 kx1)⟩
      rw [if_neg (fun h => (List.mem_append.mp h).elim m1 m2)] at er
      rw [decide_eq_false m2]
      refine iteF ?_
      have lxs : xs.length = as.length := Paired.length h3
      have abx := isX h2 (fun _ e => by cases e)
      refine ⟨_, rfl, (by show 0 ≤ sizeLine; decide), fun p0 hp0 => ⟨ab, p0, xs, rfl, rfl, same_new hp0 _ _ _ (s1 _ _ (kx _ _ abx h2)), upd_same, _, rfl, ?_⟩⟩
      have s2 := same_new hp0 (.lst [])
      generalize upd H1 p0 (.lst []) = H2 at s2
      have kx2 := kx1.trans (KX.of s2)
      by_cases hne : as = []
      case pos =>
        rw [if_pos hne] at er
        rw [hne] at lxs
        obtain rfl := List.length_eq_zero_iff.mp lxs
        exact iteT ⟨_, rfl, raise_nog (y := some n) T.tN T.n1 T.n2 (q2 _ er H2 kx2)⟩
      rw [if_neg hne] at er
      have hemp : xs.isEmpty = false := by
        cases xs with
        | nil => exact absurd (List.length_eq_zero_iff.mp lxs.symm) hne
        | cons _ _ => rfl
      rw [if_neg (by decide), hemp]
      refine iteF ?_
      have s12 : Same H' H2 := s1.trans s2
      have lwk : wk.length ≤ 10000 := by
        have := congrArg List.length e2
        rw [List.length_map, List.length_map, List.length_map, List.length_take] at this
        omega
      refine ⟨(by show 0 ≤ sizeLine; decide), fun l hl => ?_⟩
      have s3 := same_new hl (.lst [])
      have el : (upd H2 l (.lst [])) l = some (.lst []) := upd_same
      generalize upd H2 l (.lst []) = H3 at s3 el
      have s13 : Same H' H3 := s12.trans s3
      have kx3 := kx2.trans (KX.of s3)
      have lH : H' l = none := by
        cases e : H' l with
        | none => rfl
        | some o => rw [s12 _ _ e] at hl; cases hl
      have lw : l ≠ wd := fun e => by rw [e, e1] at lH; cases lH
      have lh : l ≠ hd := fun e => by rw [e, e3] at lH; cases lH
      have le : l ≠ ed := fun e => by rw [e, e4] at lH; cases lH
      have ln : l ≠ nd := fun e => by rw [e, e6] at lH; cases lH
      refine ⟨_, rfl, gg, C, dx, _, _, rfl, kx3 _ _ gx hg, T.cl, T.nW, l3, _, rfl, wd, _, rfl, DPut.k (k := Sum.inr n) (s13 _ _ e1) (by rw [sizeLine_eq]; omega), ?_⟩
      have hno := key_none e2 m2
      rw [putK_new _ hno]
      have kx4 : KX [wd, hd, ed, nd] H (upd H3 wd (.dK (wk ++ [(Sum.inr n, .ref l)]))) := kx3.put (by simp)
      have w4 : (upd H3 wd (.dK (wk ++ [(Sum.inr n, .ref l)]))) wd = some (.dK (wk ++ [(Sum.inr n, .ref l)])) := upd_same
      have l4' : (upd H3 wd (.dK (wk ++ [(Sum.inr n, .ref l)]))) l = some (.lst []) := by rw [upd_ne lw]; exact el
      have h4 : (upd H3 wd (.dK (wk ++ [(Sum.inr n, .ref l)]))) hd = some (.dK ((homesOf (rs.take i)).map fun h => ((Sum.inr h.1 : Key), V.str h.2))) := by rw [upd_ne (Ne.symm d1)]; exact s13 _ _ e3
      have ed4 : (upd H3 wd (.dK (wk ++ [(Sum.inr n, .ref l)]))) ed = some (.dK ek) := by rw [upd_ne (Ne.symm d2)]; exact s13 _ _ e4
      have n4 : (upd H3 wd (.dK (wk ++ [(Sum.inr n, .ref l)]))) nd = some (.dK nk) := by rw [upd_ne (Ne.symm d3)]; exact s13 _ _ e6
      have tk4 : Tk H' (upd H3 wd (.dK (wk ++ [(Sum.inr n, .ref l)]))) := fun c ys e => by
        rw [upd_ne (fun q => by rw [q, e1] at e; cases e)]; exact s13 _ _ e
      generalize upd H3 wd (.dK (wk ++ [(Sum.inr n, .ref l)])) = H4 at kx4 w4 l4' h4 ed4 n4 tk4
      have lHH : H l = none ∨ l ∈ [wd, hd, ed, nd] := by
        cases e : H l with
        | none => exact .inl rfl
        | some o => exact .inr (Classical.byContradiction fun nm => by rw [kx _ _ nm e] at lH; cases lH)
      have lH0 : H l = none := lHH.elim id fun h => by
        simp only [List.mem_cons, List.not_mem_nil, or_false] at h
        rcases h with h | h | h | h
        · exact absurd h lw
        · exact absurd h lh
        · exact absurd h le
        · exact absurd h ln
      have hvw : valV (wk ++ [(Sum.inr n, V.ref l)]) (Sum.inr n : Key) = some (.ref l) := by rw [valV_snoc _ _ _ _ hno, if_pos rfl]
      have hab : H4 ab = some (.lst xs) := kx4 _ _ abx h2
      have t3 : Tk H H4 := tkx kx4
      refine ⟨_, rfl, ab, rfl, ⟨_, SqL.of hab⟩, ?_⟩
      have esp4 : Paired (SpE H4) ek (altsOf (rs.take i)) := paired_imp (fun _ _ r => r.tk tk4) e5
      have ekk : ek.map (·.1) = ((altsOf (rs.take i)).map (·.1)).map Sum.inr := by
        have : ∀ {u : List (Key × V)} {v : List (Str × List Str)}, Paired (SpE H4) u v → u.map (·.1) = (v.map (·.1)).map Sum.inr := fun {u v} p => by
          induction p with
          | nil => rfl
          | cons h _ ih => rw [List.map_cons, List.map_cons, List.map_cons, ih, h.1]
        exact this esp4
      refine for_list (K := K) (xs := xs) (fun j σ H' => ∃ x1 x2 ls ek nk, σ = [some (.ref gg), some (.str n), some (.ref ab), x1, x2] ∧ H' wd = some (.dK (wk ++ [(Sum.inr n, .ref l)])) ∧ H' l = some (.lst ls) ∧ ls.length ≤ j ∧
          H' hd = some (.dK ((homesOf (rs.take i) ++ (as.take j).map fun a => (a.1, n)).map fun h => ((Sum.inr h.1 : Key), V.str h.2))) ∧ H' ed = some (.dK ek) ∧ Paired (SpE H') ek (altsOf (rs.take i) ++ as.take j) ∧
          H' nd = some (.dK nk) ∧ nk.map (·.1) = ((altsOf (rs.take i) ++ as.take j).map (·.1)).map Sum.inr ∧ KX [wd, hd, ed, nd] H H' ∧ altE ((altsOf (rs.take i)).map (·.1)) as = altE ((altsOf (rs.take i) ++ as.take j).map (·.1)) (as.drop j))
        ⟨_, _, [], ek, nk, rfl, w4, l4', Nat.le_refl _, by rw [List.take_zero, List.map_nil, List.append_nil]; exact h4, ed4, by rw [List.take_zero, List.append_nil]; exact esp4, n4, by rw [List.take_zero, List.append_nil]; exact e7, kx4, by rw [List.take_zero, List.append_nil]; rfl⟩
        (fun j σ H' _ h => by obtain ⟨_, _, _, _, _, _, _, _, _, _, _, _, _, _, k, _⟩ := h; exact SqL.of (k _ _ abx h2)) (fun j v σ H' hv h => ?turn2) (fun σ H' h => ?done2)
      case done2 =>
        obtain ⟨x1, x2, ls, ek, nk, rfl, f1, f2, f3, f4, f5, f6, f7, f8, kx5, ea5⟩ := h
        rw [lxs, List.take_length] at f4 f6 f8
        rw [lxs, List.drop_length, show altE _ [] = none from rfl] at ea5
        rw [ea5] at er
        have eal : altsOf (rs.take (i + 1)) = altsOf (rs.take i) ++ as := by rw [htk]; show List.flatMap _ _ = _; rw [List.flatMap_append]; simp
        have eho : homesOf (rs.take (i + 1)) = homesOf (rs.take i) ++ as.map fun a => (a.1, n) := by rw [htk]; show List.flatMap _ _ = _; rw [List.flatMap_append]; simp
        refine ⟨_, _, _, _, _, _, _, rfl, f1, by rw [List.map_append, e2, htk, List.map_append, List.map_append]; rfl, by rw [eho]; exact f4, f5, by rw [eal]; exact f6, f7, by rw [eal]; exact f8, kx5, ?_⟩
        rw [er, eal, htk, List.map_append, List.map_append, List.append_assoc]
        rfl
      case turn2 =>
        obtain ⟨x1, x2, ls, ek, nk, rfl, f1, f2, f3, f4, f5, f6, f7, f8, kx5, ea5⟩ := h
        obtain ⟨⟨lb, row⟩, haj, ⟨ra2, rb2, rfl, g1, g2⟩⟩ := paired_get h3 j v hv
        have hj : j < as.length := (List.getElem?_eq_some_iff.mp haj).1
        have hd2 : as.drop j = (lb, row) :: as.drop (j + 1) := by
          rw [List.drop_eq_getElem_cons hj]
          congr 1
          rw [List.getElem?_eq_getElem hj] at haj
          exact Option.some.inj haj
        have ht2 : as.take (j + 1) = as.take j ++ [(lb, row)] := by rw [List.take_add_one, haj]; rfl
        rw [hd2, alt_cons] at ea5
        have t5 := tkx kx5
        have fkk : ek.map (·.1) = ((altsOf (rs.take i) ++ as.take j).map (·.1)).map Sum.inr := by
          have : ∀ {u : List (Key × V)} {v : List (Str × List Str)}, Paired (SpE H') u v → u.map (·.1) = (v.map (·.1)).map Sum.inr := fun {u v} p => by
            induction p with
            | nil => rfl
            | cons h _ ih => rw [List.map_cons, List.map_cons, List.map_cons, ih, h.1]
          exact this f6
        have hkk : ((homesOf (rs.take i) ++ (as.take j).map fun a => (a.1, n)).map fun h => ((Sum.inr h.1 : Key), V.str h.2)).map (·.1) = ((altsOf (rs.take i) ++ as.take j).map (·.1)).map Sum.inr := by
          rw [List.map_append, List.map_append, List.map_append, List.map_append, ← homes_keys]
          simp only [List.map_map]
          rfl
        have lal : (altsOf (rs.take i) ++ as.take j).length ≤ 1000000 := by rw [List.length_append, List.length_take]; omega
        have lof : ∀ {u : List (Key × V)}, u.map (·.1) = ((altsOf (rs.take i) ++ as.take j).map (·.1)).map Sum.inr → u.length ≤ 1000000 := fun {u} e => by
          have := congrArg List.length e
          rw [List.length_map, List.length_map, List.length_map] at this
          omega
        refine ⟨ra2, _, rfl, SqT.of (t5 _ _ g1), rfl, _, _, rfl, _, _, rfl, rfl, ?_⟩
        refine ⟨_, rfl, gg, dx, fs, rfl, kx5 _ _ gx hg, l7, _, rfl, _, rfl, gg, rb2, hd, dx, fs, _, _, lb, row, rfl, kx5 _ _ gx hg, l4, f4, hkk, t5 _ _ g2, rok.2 _ (List.mem_of_getElem? haj), fun hal H6 s6 => ?_, fun e he' => ?_⟩
        case refine_2 =>
          rw [he'] at ea5
          rw [ea5] at er
          exact q2 _ er H' kx5
        rw [hal] at ea5
        have nin := alt_none hal
        have kx6 := kx5.trans (KX.of s6)
        refine ⟨_, rfl, gg, C, dx, _, _, rfl, kx6 _ _ gx hg, T.cl, T.nN, l6, nd, nk, rfl, s6 _ _ f7, _, rfl, gg, C, dx, _, _, rfl, kx6 _ _ gx hg, T.cl, T.nN, l6, _, rfl, nd, _, rfl, DPut.k (k := Sum.inr lb) (s6 _ _ f7) (by rw [sizeLine_eq]; have := lof f8; omega), ?_⟩
        rw [putK_new _ (key_none f8 nin)]
        generalize eN : nk ++ [((Sum.inr lb : Key), V.int (nk.length : Nat))] = nk7
        have en7 : nk7.map (·.1) = ((altsOf (rs.take i) ++ as.take (j + 1)).map (·.1)).map Sum.inr := by
          rw [← eN, List.map_append, f8, ht2, ← List.append_assoc, List.map_append (l₂ := [(lb, row)]), List.map_append (l₂ := [(lb, row)].map _)]
          rfl
        have kx7 : KX [wd, hd, ed, nd] H (upd H6 nd (.dK nk7)) := kx6.put (by simp)
        refine ⟨_, rfl, _, rfl, gg, C, dx, _, _, rfl, kx7 _ _ gx hg, T.cl, T.nH, l4, _, rfl, hd, _, rfl, DPut.k (k := Sum.inr lb) (by rw [upd_ne d5]; exact s6 _ _ f4) (by rw [sizeLine_eq]; have := lof hkk; omega), ?_⟩
        rw [putK_new _ (key_none hkk nin)]
        generalize eHo : ((homesOf (rs.take i) ++ (as.take j).map fun a => (a.1, n)).map fun h => ((Sum.inr h.1 : Key), V.str h.2)) ++ [((Sum.inr lb : Key), V.str n)] = hk8
        have eh8 : hk8 = ((homesOf (rs.take i) ++ (as.take (j + 1)).map fun a => (a.1, n)).map fun h => ((Sum.inr h.1 : Key), V.str h.2)) := by
          rw [← eHo, ht2, List.map_append (l₂ := [(lb, row)]), ← List.append_assoc, List.map_append (l₂ := [(lb, row)].map _)]
          rfl
        have kx8 : KX [wd, hd, ed, nd] H (upd (upd H6 nd (.dK nk7)) hd (.dK hk8)) := kx7.put (by simp)
        refine ⟨_, rfl, _, rfl, gg, C, dx, _, _, rfl, kx8 _ _ gx hg, T.cl, T.nL, l5, _, rfl, ed, _, rfl, DPut.k (k := Sum.inr lb) (by rw [upd_ne (Ne.symm d4), upd_ne d6]; exact s6 _ _ f5) (by rw [sizeLine_eq]; have := lof fkk; omega), ?_⟩
        rw [putK_new _ (key_none fkk nin)]
        have kx9 : KX [wd, hd, ed, nd] H (upd (upd (upd H6 nd (.dK nk7)) hd (.dK hk8)) ed (.dK (ek ++ [(Sum.inr lb, .ref rb2)]))) := kx8.put (by simp)
        have w9 : (upd (upd (upd H6 nd (.dK nk7)) hd (.dK hk8)) ed (.dK (ek ++ [(Sum.inr lb, .ref rb2)]))) wd = some (.dK (wk ++ [(Sum.inr n, .ref l)])) := by rw [upd_ne d2, upd_ne d1, upd_ne d3]; exact s6 _ _ f1
        have l9 : (upd (upd (upd H6 nd (.dK nk7)) hd (.dK hk8)) ed (.dK (ek ++ [(Sum.inr lb, .ref rb2)]))) l = some (.lst ls) := by rw [upd_ne le, upd_ne lh, upd_ne ln]; exact s6 _ _ f2
        have n9 : (upd (upd (upd H6 nd (.dK nk7)) hd (.dK hk8)) ed (.dK (ek ++ [(Sum.inr lb, .ref rb2)]))) nd = some (.dK nk7) := by rw [upd_ne (Ne.symm d6), upd_ne (Ne.symm d5)]; exact upd_same
        have h9 : (upd (upd (upd H6 nd (.dK nk7)) hd (.dK hk8)) ed (.dK (ek ++ [(Sum.inr lb, .ref rb2)]))) hd = some (.dK hk8) := by rw [upd_ne d4]; exact upd_same
        have e9 : (upd (upd (upd H6 nd (.dK nk7)) hd (.dK hk8)) ed (.dK (ek ++ [(Sum.inr lb, .ref rb2)]))) ed = some (.dK (ek ++ [(Sum.inr lb, .ref rb2)])) := upd_same
        have tk9 : Tk H' (upd (upd (upd H6 nd (.dK nk7)) hd (.dK hk8)) ed (.dK (ek ++ [(Sum.inr lb, .ref rb2)]))) := fun c ys e => by
          rw [upd_ne (fun q => by rw [q, f5] at e; cases e), upd_ne (fun q => by rw [q, f4] at e; cases e), upd_ne (fun q => by rw [q, f7] at e; cases e)]; exact s6 _ _ e
        have r9 := tkx kx9 _ _ g2
        generalize (upd (upd (upd H6 nd (.dK nk7)) hd (.dK hk8)) ed (.dK (ek ++ [(Sum.inr lb, .ref rb2)]))) = H9 at kx9 w9 l9 n9 h9 e9 tk9 r9
        have f6' : Paired (SpE H9) (ek ++ [(Sum.inr lb, .ref rb2)]) (altsOf (rs.take i) ++ as.take (j + 1)) := by
          rw [ht2, ← List.append_assoc]
          exact paired_snoc (paired_imp (fun _ _ r => r.tk tk9) f6) ⟨rfl, rb2, rfl, r9⟩
        have DG := DGet.k (k := Sum.inr n) w9
        rw [hvw] at DG
        refine ⟨_, rfl, gg, C, dx, _, _, rfl, kx9 _ _ gx hg, T.cl, T.nW, l3, _, rfl, wd, _, rfl, DG, .inl ⟨rfl, _, SqL.of l9⟩, _, rfl, l, _, _, rfl, rfl, l9, by rw [sizeLine_eq]; omega, ?_⟩
        refine ⟨_, _, ls ++ [.str lb], _, nk7, rfl, by rw [upd_ne (Ne.symm lw)]; exact w9, upd_same, by rw [List.length_append]; show ls.length + 1 ≤ _; omega, by rw [upd_ne (Ne.symm lh), ← eh8]; exact h9, by rw [upd_ne (Ne.symm le)]; exact e9, paired_imp (fun _ _ r => r.tk (Tk.lst l9)) f6', by rw [upd_ne (Ne.symm ln)]; exact n9, en7, kx9.new lH0, ?_⟩
        rw [ea5, ht2, ← List.append_assoc, List.map_append (l₂ := [(lb, row)])]
        rfl
end
end Pa
set_option maxHeartbeats 8000000
namespace Pa
open PySem PySem.Spec PyProof.Rows L2 Ty
theorem scGInit : FnScope ["self", "kinds", "rules", "begin", "bars", "name", "alternatives"] ["self", "kinds", "rules", "begin", "bars"] (defScope gInit) := ⟨rfl, rfl, rfl, by decide +kernel, rfl, by decide +kernel, by decide +kernel⟩
theorem KX.fresh {X Y : List Addr} {H H1 H2 : Hp} (a : KX X H H1) (b : KX Y H1 H2) (n : ∀ y, y ∈ Y → H y = none) : KX X H H2 := fun c o nc e => b c o (fun m => by rw [n c m] at e; cases e) (a c o nc e)
theorem KX.seqT {X : List Addr} {K : PySem.W.Frag} {H H' : Hp} {a : Addr} {xs : List V} (k : KX X H H') (h : SqT K H a xs) (n : Rd H a (.tup xs) → a ∉ X) : SqT K H' a xs :=
  h.elim (fun h => .inl (h.elim (fun e => .inl (k _ _ (n h) e)) fun ⟨o, e⟩ => .inr ⟨o, k _ _ (n h) e⟩)) fun h => .inr h
theorem stepD {C dx g d : Addr} {fs : List (Str × V)} {f : Str} {H : Hp} (hg : H g = some (.ins C dx fs)) (hd : H d = none) :
    d ≠ g ∧ KX [g] H (upd (upd H d (.dK [])) g (.ins C dx (putF f (.ref d) fs))) ∧ (upd (upd H d (.dK [])) g (.ins C dx (putF f (.ref d) fs))) g = some (.ins C dx (putF f (.ref d) fs)) ∧ (upd (upd H d (.dK [])) g (.ins C dx (putF f (.ref d) fs))) d = some (.dK []) := by
  have ne : d ≠ g := fun e => by rw [e, hg] at hd; cases hd
  refine ⟨ne, fun c o nc e => ?_, upd_same, ?_⟩
  · rw [upd_ne (fun q => nc (by rw [q]; simp)), upd_ne (fun q => by rw [q, hd] at e; cases e)]; exact e
  · rw [upd_ne ne]; exact upd_same
theorem ifT {A B : Prop} {c : Bool} (h : c = true) (a : A) : if c = true then A else B := by rw [if_pos h]; exact a
theorem ifF {A B : Prop} {c : Bool} (h : c = false) (a : B) : if c = true then A else B := by rw [if_neg (by rw [h]; decide)]; exact a
theorem aux_rest {R M : Prop} (f : R → M) (r : R) : M := f r
/-- plain: a dict laid in order is read as a list of pairs -/
theorem kind_nodup : ∀ {met : List Str} {ks : Kds}, kindE met ks = none → (ks.map (·.1)).Nodup ∧ ∀ k, k ∈ ks → k.1 ∉ met
  | _, [], _ => ⟨.nil, fun k h => by cases h⟩
  | met, (n, p, s) :: ks, h => by
    have e : kindE met ((n, p, s) :: ks) = if nameP n = false then some (("name" : Str), some n) else if n ∈ met then some (("twice" : Str), some n) else if bareP p = true then some (("empty" : Str), some n) else kindE (met ++ [n]) ks := rfl
    rw [e] at h
    by_cases h1 : nameP n = false
    · rw [if_pos h1] at h; cases h
    rw [if_neg h1] at h
    by_cases h2 : n ∈ met
    · rw [if_pos h2] at h; cases h
    rw [if_neg h2] at h
    by_cases h3 : bareP p = true
    · rw [if_pos h3] at h; cases h
    rw [if_neg h3] at h
    obtain ⟨i1, i2⟩ := kind_nodup h
    refine ⟨List.nodup_cons.mpr ⟨fun m => ?_, i1⟩, fun k hk => ?_⟩
    · obtain ⟨k, hk, e⟩ := List.mem_map.mp m
      exact i2 k hk (by rw [e]; simp)
    · rcases List.mem_cons.mp hk with e | hk
      · rw [e]; exact h2
      · exact fun m => i2 k hk (List.mem_append_left _ m)
theorem skips_at (n : Str) : ∀ {ks : Kds}, (ks.map (·.1)).Nodup → (valV (ks.map fun k => ((Sum.inr k.1 : Key), V.bl k.2.2)) (Sum.inr n : Key)).getD (.bl false) = .bl (decide (n ∈ (ks.filter fun k => k.2.2).map (·.1)))
  | [], _ => rfl
  | (m, p, s) :: ks, h => by
    have ih := skips_at n (List.nodup_cons.mp h).2
    have hm := (List.nodup_cons.mp h).1
    rw [List.map_cons]
    by_cases e : m = n
    · subst e
      rw [valV_pos (p := ((Sum.inr m : Key), V.bl s)) rfl]
      have hno : m ∉ (ks.filter fun k => k.2.2).map (·.1) := fun q => by
        obtain ⟨k, hk, e⟩ := List.mem_map.mp q
        exact hm (List.mem_map.mpr ⟨k, (List.mem_filter.mp hk).1, e⟩)
      cases s with
      | true => simp [List.filter_cons]
      | false =>
        rw [List.filter_cons, if_neg (by simp), decide_eq_false hno]; rfl
    · rw [valV_neg (p := ((Sum.inr m : Key), V.bl s)) (fun q => e (Sum.inr.inj q)), ih]
      cases s with
      | true =>
        rw [List.filter_cons, if_pos rfl, List.map_cons]
        congr 1
        rw [Bool.eq_iff_iff, decide_eq_true_eq, decide_eq_true_eq, List.mem_cons]
        exact ⟨.inr, fun h => h.elim (fun q => absurd q.symm e) id⟩
      | false => rw [List.filter_cons, if_neg (by simp)]
theorem homes_at (n : Str) : ∀ hs : List (Str × Str), valV (hs.map fun h => ((Sum.inr h.1 : Key), V.str h.2)) (Sum.inr n : Key) = (hs.lookup n).map V.str
  | [] => rfl
  | (l, r) :: hs => by
    rw [List.map_cons]
    by_cases e : l = n
    · subst e
      rw [valV_pos (p := ((Sum.inr l : Key), V.str r)) rfl, List.lookup_cons]
      simp
    · rw [valV_neg (p := ((Sum.inr l : Key), V.str r)) (fun q => e (Sum.inr.inj q)), homes_at n hs, List.lookup_cons]
      have : (n == l) = false := beq_eq_false_iff_ne.mpr (Ne.symm e)
      rw [this]
theorem spelled_at {H : Hp} (n : Str) : ∀ {ek : List (Key × V)} {as : List (Str × List Str)}, Paired (SpE H) ek as → (∃ b, valV ek (Sum.inr n : Key) = some (.ref b) ∧ H b = some (.tup (((as.lookup n).getD []).map V.str))) ∨ (valV ek (Sum.inr n : Key) = none ∧ (as.lookup n).getD [] = [])
  | _, _, .nil => .inr ⟨rfl, rfl⟩
  | kv :: _, (l, row) :: _, .cons h t => by
    obtain ⟨e1, b, e2, hb⟩ := h
    by_cases e : l = n
    · subst e
      refine .inl ⟨b, by rw [valV_pos e1, e2], ?_⟩
      rw [List.lookup_cons]
      simpa using hb
    · have : (n == l) = false := beq_eq_false_iff_ne.mpr (Ne.symm e)
      rw [valV_neg (fun q => e (Sum.inr.inj (e1.symm.trans q))), List.lookup_cons, this]
      exact spelled_at n t
structure GBd (D : Nat) (ks : Kds) (rs : Rls) (bs : Brs) : Prop where
  kl : ks.length ≤ 10000
  rl : rs.length ≤ 10000
  bl : bs.length ≤ 10000
  al : (altsOf rs).length ≤ 1000000
  kd : ∀ k, k ∈ ks → k.1.length ≤ 16000000 ∧ sizeP k.2.1 ≤ 1000 ∧ deepP k.2.1 ≤ D
  rd : ∀ r, r ∈ rs → r.1.length ≤ 16000000 ∧ ∀ a, a ∈ r.2 → a.1.length ≤ 16000000 ∧ a.2.length ≤ 10000
def spGInit (K : PySem.W.Frag) (D : Nat) (C CN : Addr) : Sp := fun vs H Q E => ∃ (g a b c dx : Addr) (vb : V) (ka rb cb : List V) (ks : Kds) (rs : Rls) (bs : Brs) (start : Str), vs = [.ref g, .ref a, .ref b, vb, .ref c] ∧ H g = some (.ins C dx []) ∧ H a = some (.lst ka) ∧ Paired (KdV H) ka ks ∧ H b = some (.lst rb) ∧ Paired (RlV anyB H) rb rs ∧ SqT K H c cb ∧ Paired (BrV H) cb bs ∧
  (vb = .str start ∨ (vb = .non ∧ ∀ n as t, rs = (n, as) :: t → start = n)) ∧ GBd D ks rs bs ∧
  (gramE ks rs start bs = none → ∀ fs H', H' g = some (.ins C dx fs) → fs.lookup ("first_rule" : Str) = some (.str start) → fs.lookup ("begin" : Str) = none → KX [g] H H' → Q .non H') ∧ (∀ e, gramE ks rs start bs = some e → ∀ H', KX [g] H H' → Out E CN H' e)
section
variable {P : Program} {w : World} {K : PySem.W.Frag} {mg : Str → Option Value} {base : Heap} {f C CN fN f1 f2 f3 f4 f5 : Addr} {fd dN d1 d2 d3 d4 d5 : FuncData}
theorem ok_ginit {D : Nat} (F : Fun K "__init__" "Grammar.__init__" gInit f fd) (T : GTxt K mg C CN fN) (GN : FnOk P w K mg base CX0 1 fN dN ["self", "what", "name"] (spNoG K CN)) (bN : Binds K dN ["self", "what", "name"] [])
    (G1 : FnOk P w K mg base (L2.CX P w) (D + 3) f1 d1 ["self"] (spFew K D C CN)) (b1 : Binds K d1 ["self"] []) (m1 : Meth K C "need_few" f1)
    (G2 : FnOk P w K mg base (L2.CX P w) (3 * D + 4) f2 d2 ["self"] (spGKinds D C CN)) (b2 : Binds K d2 ["self"] []) (m2 : Meth K C "look_kinds" f2)
    (G3 : FnOk P w K mg base (L2.CX P w) 4 f3 d3 ["self"] (spGRules C CN)) (b3 : Binds K d3 ["self"] []) (m3 : Meth K C "look_rules" f3)
    (G4 : FnOk P w K mg base (L2.CX P w) 3 f4 d4 ["self"] (spSyms C CN)) (b4 : Binds K d4 ["self"] []) (m4 : Meth K C "look_symbols" f4)
    (G5 : FnOk P w K mg base (L2.CX P w) 3 f5 d5 ["self"] (spGBars K C CN)) (b5 : Binds K d5 ["self"] []) (m5 : Meth K C "look_bars" f5)
    (mli : mg "list" = none) (mtu : mg "tuple" = none) :
    FnOk P w K mg base (L2.CX P w) (3 * D + 5) f fd ["self", "kinds", "rules", "begin", "bars"] (spGInit K D C CN) := by
  refine F.okX scGInit (fun vs H Q E h => ?_) (fun cdv A outer s H vs Q E hr h => ?_)
  · obtain ⟨_, _, _, _, _, _, _, _, _, _, _, _, _, rfl, _⟩ := h
    rfl
  have hu1 := hu_of hr
  have hu := hr.units
  have G1' := G1.mono (show D + 3 ≤ 3 * D + 4 by omega)
  have G3' := G3.mono (show 4 ≤ 3 * D + 4 by omega)
  have G4' := G4.mono (show 3 ≤ 3 * D + 4 by omega)
  have G5' := G5.mono (show 3 ≤ 3 * D + 4 by omega)
  refine ⟨_, pss_cons (ps_fld (pv 0) (pe_callTy call_list_of rfl mli (by decide +kernel) (pa_cons (pv 1) pa_nil)) rfl)
    (pss_cons (ps_fld (pv 0) (pe_lc (own := [("name", 5), ("alternatives", 6)]) (g := gTup K 2 (gCons (gName 5) (gCons (gName 6) gNil))) (tt := tYes) rfl scGInit.nd (pi_list (pv 2)) (blkOk_by (N := ["self", "kinds", "rules", "begin", "bars", "name", "alternatives"]) (sc := defScope gInit) (by decide +kernel)) (fun _ _ _ _ _ => pg_tup rfl (pgs_cons (pg_name (i := 5) scGInit.nd rfl (Or.inl rfl)) (pgs_cons (pg_name (i := 6) scGInit.nd rfl (Or.inl rfl)) pgs_nil))) (fun _ _ _ _ _ => pts_nil)
        (fun _ _ _ _ _ => pe_tup (pa_cons (pv 5) (pa_cons (pe_callTy (show CallR _ _ (fun xs H Q => ∃ p ys, xs = [V.ref p] ∧ (SqL K H p ys ∨ SqT K H p ys) ∧ ∀ l, H l = none → Q (V.ref l) (upd H l (.lst ys))) from call_list_of) rfl mli (by decide +kernel) (pa_cons (pv 6) pa_nil)) pa_nil)))) rfl)
    (pss_cons (ps_fld (pv 0) (pe_callTy call_tuple_of rfl mtu (by decide +kernel) (pa_cons (pv 4) pa_nil)) rfl)
    (pss_cons (ps_expr (pe_meth0 (pv 0) T.cl m1 G1' hr b1 .nil (passes_call (takes_of rfl rfl rfl rfl) (fun _ _ _ _ z => z))))
    (pss_cons (ps_fld (pv 0) (pe_ifExp (pt_cmpR op_isN (pv 3) pe_non (nomark _)) (pe_ix ix_tup (pe_ix ix_list (pe_fld (pv 0) rfl) pe_int (fun _ _ => rfl)) pe_int (fun _ _ => rfl)) (pv 3)) rfl)
    (pss_cons (ps_fld (pv 0) pe_dnewK rfl)
    (pss_cons (ps_fld (pv 0) pe_dnewK rfl)
    (pss_cons (ps_fld (pv 0) pe_dnewK rfl)
    (pss_cons (ps_fld (pv 0) pe_dnewK rfl)
    (pss_cons (ps_fld (pv 0) pe_dnewK rfl)
    (pss_cons (ps_fld (pv 0) pe_dnewK rfl)
    (pss_cons (ps_expr (pe_meth0 (pv 0) T.cl m2 G2 hr b2 .nil (passes_call (takes_of rfl rfl rfl rfl) (fun _ _ _ _ z => z))))
    (pss_cons (ps_expr (pe_meth0 (pv 0) T.cl m3 G3' hr b3 .nil (passes_call (takes_of rfl rfl rfl rfl) (fun _ _ _ _ z => z))))
    (pss_cons (ps_expr (pe_meth0 (pv 0) T.cl m4 G4' hr b4 .nil (passes_call (takes_of rfl rfl rfl rfl) (fun _ _ _ _ z => z))))
    (pss_cons (ps_if (pt_cmp (pc_dnotin hu1 (pe_fld (pv 0) rfl) (pe_fld (pv 0) rfl)))
      (pss_one (ps_raise rfl (takes_of rfl rfl rfl rfl) (pmk_oex T.tN T.iN T.yN GN (hr.mono (show 1 + 1 ≤ 3 * D + 4 by omega)) bN .nil pass0 rfl T.mN (pa_cons pe_str (pa_cons (pe_fld (pv 0) rfl) pa_nil))))) pss_nil)
    (pss_one (ps_expr (pe_meth0 (pv 0) T.cl m5 G5' hr b5 .nil (passes_call (takes_of rfl rfl rfl rfl) (fun _ _ _ _ z => z))))))))))))))))))), ?_⟩
  obtain ⟨g, a, b, c, dx, vb, ka, rb, cb, ks, rs, bs, start, rfl, hg, ha, pk, hb, pr, hc, pb, hvb, bd, q1, q2⟩ := h
  refine ⟨_, rfl, a, _, rfl, .inl (SqL.of ha), fun la hla => ?_⟩
  have ng : ∀ {c : Addr} {u : HO}, H c = some u → (∀ dx fs, u ≠ .ins C dx fs) → c ≠ g := fun {c u} e ne q => by rw [q, hg] at e; exact ne _ _ (Option.some.inj e).symm
  have nla : la ≠ g := fun e => by rw [e, hg] at hla; cases hla
  refine ⟨_, rfl, g, C, dx, [], rfl, same_new hla _ _ _ hg, T.cl, T.nK, (by show 0 < 1000; decide), ?_⟩
  have kx1 : KX [g] H (upd (upd H la (.lst ka)) g (.ins C dx (putF "kind_rows" (.ref la) []))) := (KX.of (same_new hla (.lst ka))).put (by simp)
  have g1 : (upd (upd H la (.lst ka)) g (.ins C dx (putF "kind_rows" (.ref la) []))) g = some (.ins C dx (putF "kind_rows" (.ref la) [])) := upd_same
  have la1 : (upd (upd H la (.lst ka)) g (.ins C dx (putF "kind_rows" (.ref la) []))) la = some (.lst ka) := by rw [upd_ne nla]; exact upd_same
  generalize upd (upd H la (.lst ka)) g (.ins C dx (putF "kind_rows" (.ref la) [])) = H1 at kx1 g1 la1
  have hb1 : H1 b = some (.lst rb) := kx1 _ _ (by simpa using ng hb (fun _ _ e => by cases e)) hb
  have tk1 : Tk H H1 := fun c xs e => kx1 _ _ (by simpa using ng e (fun _ _ e => by cases e)) e
  have kl1 : ∀ {c xs}, H c = some (.lst xs) → H1 c = some (.lst xs) := fun {c xs} e => kx1 _ _ (by simpa using ng e (fun _ _ e => by cases e)) e
  have lrb : rb.length = rs.length := Paired.length pr
  refine ⟨_, rfl, b, rfl, ⟨_, SqL.of hb1⟩, fun D0 hD => ?_⟩
  refine lc_list (K := K) (xs := rb) (fun i H' => ∃ acc, H' D0 = some (.lst acc) ∧ acc.length = i ∧ Paired (RlV (fun p => p ≠ D0) H') acc (rs.take i) ∧ Same H1 H') ⟨[], upd_same, rfl, .nil, same_new hD _⟩ (fun i H' _ h => by obtain ⟨_, _, _, _, s⟩ := h; exact SqL.of (s _ _ hb1)) (fun i v H' hv h => ?turn) (fun H2 h => ?done)
  case turn =>
    obtain ⟨acc, eD, lac, pa, sS⟩ := h
    obtain ⟨r, hr', ⟨ra, ab, xs, rfl, h1, h2, _, h3⟩⟩ := paired_get pr i v hv
    have hi := (List.getElem?_eq_some_iff.mp hr').1
    refine ⟨ra, _, rfl, SqT.of (sS _ _ (tk1 _ _ h1)), rfl, _, _, rfl, _, _, rfl, rfl, rfl, ?_⟩
    simp only [tYes, ↓reduceIte]
    have hab := sS _ _ (kl1 h2)
    refine ⟨_, rfl, _, rfl, ab, _, rfl, .inl (SqL.of hab), fun l hl => ⟨(by show 2 ≤ sizeLine; decide), fun t ht => ?_⟩⟩
    have u1 := same_new hl (.lst xs)
    have u2 := same_new ht (.tup [.str r.1, .ref l])
    have eD2 := u2 _ _ (u1 _ _ eD)
    have lD : l ≠ D0 := fun e => by rw [e, eD] at hl; cases hl
    have tD : t ≠ D0 := fun e => by rw [e, u1 _ _ eD] at ht; cases ht
    have tl : t ≠ l := fun e => by rw [e, upd_same] at ht; cases ht
    have tk3 : Tk H' (upd (upd (upd H' l (.lst xs)) t (.tup [.str r.1, .ref l])) D0 (.lst (acc ++ [.ref t]))) := fun c ys e => by
      rw [upd_ne (fun q => by rw [q, eD] at e; cases e)]; exact u2 _ _ (u1 _ _ e)
    refine ⟨acc, eD2, by rw [sizeLine_eq, lac]; have := bd.rl; omega, acc ++ [.ref t], upd_same, by rw [List.length_append, lac]; rfl, ?_, same_upd (sS.trans (u1.trans u2)) hD⟩
    rw [List.take_add_one, hr', Option.toList_some]
    refine paired_snoc (paired_imp (fun v k r => r.tk tk3 fun b ys n e => by rw [upd_ne n]; exact u2 _ _ (u1 _ _ e)) pa) ?_
    exact ⟨t, l, xs, rfl, by rw [upd_ne tD]; exact upd_same, by rw [upd_ne lD, upd_ne (Ne.symm tl)]; exact upd_same, lD, paired_imp (fun _ _ r => r.tk ((tk1.trans (Tk.of_same sS)).trans tk3)) h3⟩
  obtain ⟨acc, eD, lac, pa, s2⟩ := h
  rw [lrb, List.take_length] at pa
  have pa : Paired (RlV anyB H2) acc rs := paired_imp (fun _ _ ⟨a, b, xs, e, h1, h2, _, h4⟩ => ⟨a, b, xs, e, h1, h2, trivial, h4⟩) pa
  have g2 := s2 _ _ g1
  have nD : D0 ≠ g := fun e => by rw [e, g2] at eD; cases eD
  have laD : la ≠ D0 := fun e => by rw [← e, la1] at hD; cases hD
  refine ⟨_, rfl, g, C, dx, _, rfl, g2, T.cl, T.nR, (by show 1 < 1000; decide), ?_⟩
  have kx2 : KX [g] H (upd H2 g (.ins C dx (putF "rule_rows" (.ref D0) (putF "kind_rows" (.ref la) [])))) := (kx1.trans (KX.of s2)).put (by simp)
  have g3 : (upd H2 g (.ins C dx (putF "rule_rows" (.ref D0) (putF "kind_rows" (.ref la) [])))) g = some (.ins C dx (putF "rule_rows" (.ref D0) (putF "kind_rows" (.ref la) []))) := upd_same
  have kg : ∀ {p o}, p ≠ g → H2 p = some o → (upd H2 g (.ins C dx (putF "rule_rows" (.ref D0) (putF "kind_rows" (.ref la) [])))) p = some o := fun n e => by rw [upd_ne n]; exact e
  have pa : Paired (RlV anyB (upd H2 g (.ins C dx (putF "rule_rows" (.ref D0) (putF "kind_rows" (.ref la) []))))) acc rs := paired_imp (fun _ _ r => r.tk (fun c xs e => kg (fun q => by rw [q, g2] at e; cases e) e) fun b xs _ e => kg (fun q => by rw [q, g2] at e; cases e) e) pa
  have eD := kg nD eD
  have la1 := kg nla (s2 _ _ la1)
  clear kg g2 s2
  generalize upd H2 g (.ins C dx (putF "rule_rows" (.ref D0) (putF "kind_rows" (.ref la) []))) = H3 at kx2 g3 pa eD la1
  have ngc : Rd H c (.tup cb) → c ∉ [g] := fun h => by
    rcases h with h | ⟨o, h⟩
    · simpa using ng h (fun _ _ e => by cases e)
    · simpa using ng h (fun _ _ e => by cases e)
  have hc3 := kx2.seqT hc ngc
  refine ⟨_, rfl, c, _, rfl, .inr ⟨hc3, _, rfl, g, C, dx, _, rfl, g3, T.cl, T.nB, (by show 2 < 1000; decide), ?_⟩⟩
  have kx4 : KX [g] H (upd H3 g (.ins C dx (putF "bar_rows" (.ref c) (putF "rule_rows" (.ref D0) (putF "kind_rows" (.ref la) []))))) := kx2.put (by simp)
  have g4 : (upd H3 g (.ins C dx (putF "bar_rows" (.ref c) (putF "rule_rows" (.ref D0) (putF "kind_rows" (.ref la) []))))) g = some (.ins C dx (putF "bar_rows" (.ref c) (putF "rule_rows" (.ref D0) (putF "kind_rows" (.ref la) [])))) := upd_same
  have kg : ∀ {p o}, p ≠ g → H3 p = some o → (upd H3 g (.ins C dx (putF "bar_rows" (.ref c) (putF "rule_rows" (.ref D0) (putF "kind_rows" (.ref la) []))))) p = some o := fun n e => by rw [upd_ne n]; exact e
  have pa : Paired (RlV anyB (upd H3 g (.ins C dx (putF "bar_rows" (.ref c) (putF "rule_rows" (.ref D0) (putF "kind_rows" (.ref la) [])))))) acc rs := paired_imp (fun _ _ r => r.tk (fun c xs e => kg (fun q => by rw [q, g3] at e; cases e) e) fun b xs _ e => kg (fun q => by rw [q, g3] at e; cases e) e) pa
  have eD := kg nD eD
  have la1 := kg nla la1
  clear kg g3 kx2 hc3
  generalize upd H3 g (.ins C dx (putF "bar_rows" (.ref c) (putF "rule_rows" (.ref D0) (putF "kind_rows" (.ref la) [])))) = H4 at kx4 g4 pa eD la1
  have tkG : ∀ {H'}, KX [g] H H' → Tk H H' := fun {H'} k c xs e => k _ _ (by simpa using ng e (fun _ _ e => by cases e)) e
  have hc4 := kx4.seqT hc ngc
  have pk4 : Paired (KdV H4) ka ks := paired_imp (fun _ _ r => r.tk (tkG kx4)) pk
  have pb4 : Paired (BrV H4) cb bs := paired_imp (fun _ _ r => r.tk (tkG kx4)) pb
  have few : gramE ks rs start bs = if manyE ks rs bs = true then some (("many" : Str), none) else gramE ks rs start bs := by
    by_cases h : manyE ks rs bs = true
    · unfold gramE; rw [if_pos h, if_pos h]
    · rw [if_neg h]
  refine ⟨_, rfl, g, dx, _, rfl, g4, rfl, g, ks, rs, bs, rfl, ⟨⟨dx, _, la, D0, c, ka, acc, cb, g4, rfl, rfl, rfl, la1, pk4, eD, pa, hc4, pb4⟩, fun k hk => (bd.kd k hk).2.2, bd.kl, bd.rl, bd.bl⟩, fun hm H5 s5 => ?_, fun hm => ?_⟩
  case refine_2 =>
    rw [if_pos hm] at few
    exact q2 _ few _ kx4
  have kx5 := kx4.trans (KX.of s5)
  have g5 := s5 _ _ g4
  have hm0 := hm
  unfold manyE at hm0
  simp only [Bool.or_eq_false_iff, decide_eq_false_iff_not] at hm0
  have hrs : rs ≠ [] := hm0.1.1.1.1.1.2
  obtain ⟨⟨n0, as0⟩, rt, ers⟩ : ∃ r t, rs = r :: t := by
    cases rs with
    | nil => exact absurd rfl hrs
    | cons r t => exact ⟨r, t, rfl⟩
  obtain ⟨t0, at0, eac⟩ : ∃ t at0, acc = t :: at0 := by
    have := Paired.length pa
    rw [ers] at this
    cases acc with
    | nil => simp at this
    | cons t l => exact ⟨t, l, rfl⟩
  have pa5 : Paired (RlV anyB H5) acc rs := paired_imp (fun _ _ r => r.tk (Tk.of_same s5) fun b xs _ e => s5 _ _ e) pa
  have hr0 : ∃ ra b0, t0 = .ref ra ∧ H5 ra = some (.tup [.str n0, .ref b0]) := by
    have p := pa5
    rw [ers, eac] at p
    cases p with
    | cons r _ =>
      obtain ⟨ra, b0, _, e, h1, _⟩ := r
      exact ⟨ra, b0, e, h1⟩
  obtain ⟨ra, b0, et0, hra⟩ := hr0
  refine' aux_rest (fun hR => ?main) ?rest
  case main =>
    refine ⟨_, rfl, rfl, _, rfl, ?_⟩
    have hvb2 := hvb
    rcases hvb2 with hv | ⟨hv, hst⟩
    · refine ifF (show decide (vb = V.non) = false from decide_eq_false (fun e => by rw [hv] at e; cases e)) ?_
      refine ⟨.str start, (show some (some vb) = some (some (V.str start)) by rw [hv]), _, rfl, g, C, dx, _, rfl, g5, T.cl, T.nF, (by show 3 < 1000; decide), ?_⟩
      exact hR
    · have e0 := hst _ _ _ ers
      refine ifT (show decide (vb = V.non) = true from decide_eq_true hv) ?_
      refine ⟨_, rfl, g, C, dx, _, _, rfl, g5, T.cl, T.nR, rfl, D0, acc, _, t0, rfl, rfl, SqL.of (s5 _ _ eD), by rw [eac]; exact at_zero, ra, _, _, .str start, et0, rfl, SqT.of hra, by rw [e0]; exact at_zero, _, rfl, g, C, dx, _, rfl, g5, T.cl, T.nF, (by show 3 < 1000; decide), ?_⟩
      exact hR
  have kx6 : KX [g] H (upd H5 g (.ins C dx (putF "first_rule" (.str start) (putF "bar_rows" (.ref c) (putF "rule_rows" (.ref D0) (putF "kind_rows" (.ref la) [])))))) := kx5.put (by simp)
  have g6 : (upd H5 g (.ins C dx (putF "first_rule" (.str start) (putF "bar_rows" (.ref c) (putF "rule_rows" (.ref D0) (putF "kind_rows" (.ref la) [])))))) g = some (.ins C dx (putF "first_rule" (.str start) (putF "bar_rows" (.ref c) (putF "rule_rows" (.ref D0) (putF "kind_rows" (.ref la) []))))) := upd_same
  have kg : ∀ {p o}, p ≠ g → H5 p = some o → (upd H5 g (.ins C dx (putF "first_rule" (.str start) (putF "bar_rows" (.ref c) (putF "rule_rows" (.ref D0) (putF "kind_rows" (.ref la) [])))))) p = some o := fun n e => by rw [upd_ne n]; exact e
  have pa6 : Paired (RlV anyB (upd H5 g (.ins C dx (putF "first_rule" (.str start) (putF "bar_rows" (.ref c) (putF "rule_rows" (.ref D0) (putF "kind_rows" (.ref la) []))))))) acc rs := paired_imp (fun _ _ r => r.tk (fun c xs e => kg (fun q => by rw [q, g5] at e; cases e) e) fun b xs _ e => kg (fun q => by rw [q, g5] at e; cases e) e) pa5
  have eD6 := kg nD (s5 _ _ eD)
  have la6 := kg nla (s5 _ _ la1)
  clear kg
  generalize upd H5 g (.ins C dx (putF "first_rule" (.str start) (putF "bar_rows" (.ref c) (putF "rule_rows" (.ref D0) (putF "kind_rows" (.ref la) []))))) = H6 at kx6 g6 pa6 eD6 la6
  refine fun pd hpd => ?_
  obtain ⟨npd, kpd, g7, pd7⟩ := stepD (f := "patterns") g6 hpd
  refine ⟨_, rfl, g, C, dx, _, rfl, (by rw [upd_ne (Ne.symm npd)]; exact g6), T.cl, T.nP, (by show 4 < 1000; decide), ?_⟩
  have kx7 := kx6.trans kpd
  have pa7 : Paired (RlV anyB _) acc rs := paired_imp (fun _ _ r => r.tk (fun c xs (e : H6 c = _) => kpd _ _ (by simpa using fun q => by rw [q, g6] at e; cases e) e) fun b xs _ (e : H6 b = _) => kpd _ _ (by simpa using fun q => by rw [q, g6] at e; cases e) e) pa6
  have eD7 := kpd _ _ (by simpa using nD) eD6
  have la7 := kpd _ _ (by simpa using nla) la6
  generalize (upd (upd H6 pd (HO.dK [])) g (.ins C dx (putF "patterns" (.ref pd) (putF "first_rule" (.str start) (putF "bar_rows" (.ref c) (putF "rule_rows" (.ref D0) (putF "kind_rows" (.ref la) []))))))) = H7 at kpd kx7 g7 pa7 eD7 la7 pd7
  refine fun sd hsd => ?_
  obtain ⟨nsd, ksd, g8, sd8⟩ := stepD (f := "skips") g7 hsd
  refine ⟨_, rfl, g, C, dx, _, rfl, (by rw [upd_ne (Ne.symm nsd)]; exact g7), T.cl, T.nS, (by show 5 < 1000; decide), ?_⟩
  have kx8 := kx7.trans ksd
  have pa8 : Paired (RlV anyB _) acc rs := paired_imp (fun _ _ r => r.tk (fun c xs (e : H7 c = _) => ksd _ _ (by simpa using fun q => by rw [q, g7] at e; cases e) e) fun b xs _ (e : H7 b = _) => ksd _ _ (by simpa using fun q => by rw [q, g7] at e; cases e) e) pa7
  have eD8 := ksd _ _ (by simpa using nD) eD7
  have la8 := ksd _ _ (by simpa using nla) la7
  have ne_pd_sd : pd ≠ sd := fun e => by rw [← e, pd7] at hsd; cases hsd
  have pd8 := ksd _ _ (by simpa using npd) pd7
  generalize (upd (upd H7 sd (HO.dK [])) g (.ins C dx (putF "skips" (.ref sd) (putF "patterns" (.ref pd) (putF "first_rule" (.str start) (putF "bar_rows" (.ref c) (putF "rule_rows" (.ref D0) (putF "kind_rows" (.ref la) [])))))))) = H8 at ksd kx8 g8 pa8 eD8 la8 pd8 sd8
  refine fun hd hhd => ?_
  obtain ⟨nhd, khd, g9, hd9⟩ := stepD (f := "homes") g8 hhd
  refine ⟨_, rfl, g, C, dx, _, rfl, (by rw [upd_ne (Ne.symm nhd)]; exact g8), T.cl, T.nH, (by show 6 < 1000; decide), ?_⟩
  have kx9 := kx8.trans khd
  have pa9 : Paired (RlV anyB _) acc rs := paired_imp (fun _ _ r => r.tk (fun c xs (e : H8 c = _) => khd _ _ (by simpa using fun q => by rw [q, g8] at e; cases e) e) fun b xs _ (e : H8 b = _) => khd _ _ (by simpa using fun q => by rw [q, g8] at e; cases e) e) pa8
  have eD9 := khd _ _ (by simpa using nD) eD8
  have la9 := khd _ _ (by simpa using nla) la8
  have ne_pd_hd : pd ≠ hd := fun e => by rw [← e, pd8] at hhd; cases hhd
  have pd9 := khd _ _ (by simpa using npd) pd8
  have ne_sd_hd : sd ≠ hd := fun e => by rw [← e, sd8] at hhd; cases hhd
  have sd9 := khd _ _ (by simpa using nsd) sd8
  generalize (upd (upd H8 hd (HO.dK [])) g (.ins C dx (putF "homes" (.ref hd) (putF "skips" (.ref sd) (putF "patterns" (.ref pd) (putF "first_rule" (.str start) (putF "bar_rows" (.ref c) (putF "rule_rows" (.ref D0) (putF "kind_rows" (.ref la) []))))))))) = H9 at khd kx9 g9 pa9 eD9 la9 pd9 sd9 hd9
  refine fun ed hed => ?_
  obtain ⟨ned, ked, g10, ed10⟩ := stepD (f := "spelled") g9 hed
  refine ⟨_, rfl, g, C, dx, _, rfl, (by rw [upd_ne (Ne.symm ned)]; exact g9), T.cl, T.nL, (by show 7 < 1000; decide), ?_⟩
  have kx10 := kx9.trans ked
  have pa10 : Paired (RlV anyB _) acc rs := paired_imp (fun _ _ r => r.tk (fun c xs (e : H9 c = _) => ked _ _ (by simpa using fun q => by rw [q, g9] at e; cases e) e) fun b xs _ (e : H9 b = _) => ked _ _ (by simpa using fun q => by rw [q, g9] at e; cases e) e) pa9
  have eD10 := ked _ _ (by simpa using nD) eD9
  have la10 := ked _ _ (by simpa using nla) la9
  have ne_pd_ed : pd ≠ ed := fun e => by rw [← e, pd9] at hed; cases hed
  have pd10 := ked _ _ (by simpa using npd) pd9
  have ne_sd_ed : sd ≠ ed := fun e => by rw [← e, sd9] at hed; cases hed
  have sd10 := ked _ _ (by simpa using nsd) sd9
  have ne_hd_ed : hd ≠ ed := fun e => by rw [← e, hd9] at hed; cases hed
  have hd10 := ked _ _ (by simpa using nhd) hd9
  generalize (upd (upd H9 ed (HO.dK [])) g (.ins C dx (putF "spelled" (.ref ed) (putF "homes" (.ref hd) (putF "skips" (.ref sd) (putF "patterns" (.ref pd) (putF "first_rule" (.str start) (putF "bar_rows" (.ref c) (putF "rule_rows" (.ref D0) (putF "kind_rows" (.ref la) [])))))))))) = H10 at ked kx10 g10 pa10 eD10 la10 pd10 sd10 hd10 ed10
  refine fun nd hnd => ?_
  obtain ⟨nnd, knd, g11, nd11⟩ := stepD (f := "numbers") g10 hnd
  refine ⟨_, rfl, g, C, dx, _, rfl, (by rw [upd_ne (Ne.symm nnd)]; exact g10), T.cl, T.nN, (by show 8 < 1000; decide), ?_⟩
  have kx11 := kx10.trans knd
  have pa11 : Paired (RlV anyB _) acc rs := paired_imp (fun _ _ r => r.tk (fun c xs (e : H10 c = _) => knd _ _ (by simpa using fun q => by rw [q, g10] at e; cases e) e) fun b xs _ (e : H10 b = _) => knd _ _ (by simpa using fun q => by rw [q, g10] at e; cases e) e) pa10
  have eD11 := knd _ _ (by simpa using nD) eD10
  have la11 := knd _ _ (by simpa using nla) la10
  have ne_pd_nd : pd ≠ nd := fun e => by rw [← e, pd10] at hnd; cases hnd
  have pd11 := knd _ _ (by simpa using npd) pd10
  have ne_sd_nd : sd ≠ nd := fun e => by rw [← e, sd10] at hnd; cases hnd
  have sd11 := knd _ _ (by simpa using nsd) sd10
  have ne_hd_nd : hd ≠ nd := fun e => by rw [← e, hd10] at hnd; cases hnd
  have hd11 := knd _ _ (by simpa using nhd) hd10
  have ne_ed_nd : ed ≠ nd := fun e => by rw [← e, ed10] at hnd; cases hnd
  have ed11 := knd _ _ (by simpa using ned) ed10
  generalize (upd (upd H10 nd (HO.dK [])) g (.ins C dx (putF "numbers" (.ref nd) (putF "spelled" (.ref ed) (putF "homes" (.ref hd) (putF "skips" (.ref sd) (putF "patterns" (.ref pd) (putF "first_rule" (.str start) (putF "bar_rows" (.ref c) (putF "rule_rows" (.ref D0) (putF "kind_rows" (.ref la) []))))))))))) = H11 at knd kx11 g11 pa11 eD11 la11 pd11 sd11 hd11 ed11 nd11
  refine fun wd hwd => ?_
  obtain ⟨nwd, kwd, g12, wd12⟩ := stepD (f := "label_rows") g11 hwd
  refine ⟨_, rfl, g, C, dx, _, rfl, (by rw [upd_ne (Ne.symm nwd)]; exact g11), T.cl, T.nW, (by show 9 < 1000; decide), ?_⟩
  have kx12 := kx11.trans kwd
  have pa12 : Paired (RlV anyB _) acc rs := paired_imp (fun _ _ r => r.tk (fun c xs (e : H11 c = _) => kwd _ _ (by simpa using fun q => by rw [q, g11] at e; cases e) e) fun b xs _ (e : H11 b = _) => kwd _ _ (by simpa using fun q => by rw [q, g11] at e; cases e) e) pa11
  have eD12 := kwd _ _ (by simpa using nD) eD11
  have la12 := kwd _ _ (by simpa using nla) la11
  have ne_pd_wd : pd ≠ wd := fun e => by rw [← e, pd11] at hwd; cases hwd
  have pd12 := kwd _ _ (by simpa using npd) pd11
  have ne_sd_wd : sd ≠ wd := fun e => by rw [← e, sd11] at hwd; cases hwd
  have sd12 := kwd _ _ (by simpa using nsd) sd11
  have ne_hd_wd : hd ≠ wd := fun e => by rw [← e, hd11] at hwd; cases hwd
  have hd12 := kwd _ _ (by simpa using nhd) hd11
  have ne_ed_wd : ed ≠ wd := fun e => by rw [← e, ed11] at hwd; cases hwd
  have ed12 := kwd _ _ (by simpa using ned) ed11
  have ne_nd_wd : nd ≠ wd := fun e => by rw [← e, nd11] at hwd; cases hwd
  have nd12 := kwd _ _ (by simpa using nnd) nd11
  generalize (upd (upd H11 wd (HO.dK [])) g (.ins C dx (putF "label_rows" (.ref wd) (putF "numbers" (.ref nd) (putF "spelled" (.ref ed) (putF "homes" (.ref hd) (putF "skips" (.ref sd) (putF "patterns" (.ref pd) (putF "first_rule" (.str start) (putF "bar_rows" (.ref c) (putF "rule_rows" (.ref D0) (putF "kind_rows" (.ref la) [])))))))))))) = H12 at kwd kx12 g12 pa12 eD12 la12 pd12 sd12 hd12 ed12 nd12 wd12
  have hN : ∀ p, p ∈ [pd, sd, hd, ed, nd, wd] → H p = none := fun p hp => by
    cases e : H p with
    | none => rfl
    | some u =>
      simp only [List.mem_cons, List.not_mem_nil, or_false] at hp
      exfalso
      rcases hp with rfl | rfl | rfl | rfl | rfl | rfl
      · rw [kx6 _ _ (by simpa using npd) e] at hpd; cases hpd
      · rw [kx7 _ _ (by simpa using nsd) e] at hsd; cases hsd
      · rw [kx8 _ _ (by simpa using nhd) e] at hhd; cases hhd
      · rw [kx9 _ _ (by simpa using ned) e] at hed; cases hed
      · rw [kx10 _ _ (by simpa using nnd) e] at hnd; cases hnd
      · rw [kx11 _ _ (by simpa using nwd) e] at hwd; cases hwd
  have gr : gramE ks rs start bs = match kindE [] ks with
    | some e => some e
    | none => match ruleE (ks.map (·.1)) [] rs with
      | some e => some e
      | none => match symE (ks.map (·.1)) (rs.map (·.1)) ((ks.filter fun k => k.2.2).map (·.1)) (rowsOf rs).flatten with
        | some e => some e
        | none => if start ∉ rs.map (·.1) then some ("begin", some start) else barE rs [] bs := by
    unfold gramE
    rw [if_neg (by rw [hm]; decide)]
    all_goals rfl
  have ng12 : ∀ {p u}, H12 p = some u → (∀ dx fs, u ≠ .ins C dx fs) → p ≠ g := fun {p u} e ne q => by rw [q, g12] at e; exact ne _ _ (Option.some.inj e).symm
  have pk12 : Paired (KdV H12) ka ks := paired_imp (fun _ _ r => r.tk (tkG kx12)) pk
  have pb12 : Paired (BrV H12) cb bs := paired_imp (fun _ _ r => r.tk (tkG kx12)) pb
  have hc12 := kx12.seqT hc ngc
  have F0 : ∃ fs : List (Str × V), fs = (putF "label_rows" (.ref wd) (putF "numbers" (.ref nd) (putF "spelled" (.ref ed) (putF "homes" (.ref hd) (putF "skips" (.ref sd) (putF "patterns" (.ref pd) (putF "first_rule" (.str start) (putF "bar_rows" (.ref c) (putF "rule_rows" (.ref D0) (putF "kind_rows" (.ref la) [])))))))))) := ⟨_, rfl⟩
  obtain ⟨FS, hFS⟩ := F0
  rw [← hFS] at g12
  have Lk1 : FS.lookup ("kind_rows" : Str) = some (.ref la) := by rw [hFS]; rfl
  have Lk2 : FS.lookup ("rule_rows" : Str) = some (.ref D0) := by rw [hFS]; rfl
  have Lk3 : FS.lookup ("bar_rows" : Str) = some (.ref c) := by rw [hFS]; rfl
  have Lk4 : FS.lookup ("first_rule" : Str) = some (.str start) := by rw [hFS]; rfl
  have Lk5 : FS.lookup ("patterns" : Str) = some (.ref pd) := by rw [hFS]; rfl
  have Lk6 : FS.lookup ("skips" : Str) = some (.ref sd) := by rw [hFS]; rfl
  have Lk7 : FS.lookup ("homes" : Str) = some (.ref hd) := by rw [hFS]; rfl
  have Lk8 : FS.lookup ("spelled" : Str) = some (.ref ed) := by rw [hFS]; rfl
  have Lk9 : FS.lookup ("numbers" : Str) = some (.ref nd) := by rw [hFS]; rfl
  have Lk10 : FS.lookup ("label_rows" : Str) = some (.ref wd) := by rw [hFS]; rfl
  have M2 : FS.lookup ("look_kinds" : Str) = none := by rw [hFS]; rfl
  have M3 : FS.lookup ("look_rules" : Str) = none := by rw [hFS]; rfl
  have M4 : FS.lookup ("look_symbols" : Str) = none := by rw [hFS]; rfl
  have M5 : FS.lookup ("look_bars" : Str) = none := by rw [hFS]; rfl
  have M6 : FS.lookup ("look_label" : Str) = none := by rw [hFS]; rfl
  have M7 : FS.lookup ("begin" : Str) = none := by rw [hFS]; rfl
  clear hFS
  refine ⟨_, rfl, g, dx, FS, rfl, g12, M2, g, la, pd, sd, dx, FS, ka, ks, rfl, g12, Lk1, Lk5, Lk6, la12, pk12, pd12, sd12, ne_pd_sd, bd.kl, bd.kd, fun hk pkv H13 p13 pkk s13 kx13 => ?_, fun e he H' kx' => ?_⟩
  case refine_2 =>
    rw [he] at gr
    exact q2 e gr H' (kx12.fresh kx' fun y hy => hN y (by simp only [List.mem_cons, List.not_mem_nil, or_false] at hy ⊢; rcases hy with h | h <;> simp [h]))
  rw [hk] at gr
  have kxa : KX [g] H H13 := kx12.fresh kx13 fun y hy => hN y (by simp only [List.mem_cons, List.not_mem_nil, or_false] at hy ⊢; rcases hy with h | h <;> simp [h])
  have in13 : ∀ {p u}, H12 p = some u → p ≠ pd → p ≠ sd → H13 p = some u := fun {p u} e n1 n2 => kx13 _ _ (by simp [n1, n2]) e
  have g13 := in13 g12 (Ne.symm npd) (Ne.symm nsd)
  have nLst : ∀ {p xs}, H12 p = some (.lst xs) → p ≠ pd ∧ p ≠ sd := fun {p xs} e => ⟨fun q => (by rw [q, pd12] at e; cases e), fun q => (by rw [q, sd12] at e; cases e)⟩
  have pa13 : Paired (RlV anyB H13) acc rs := paired_imp (fun _ _ r => r.tk (fun c xs (e : H12 c = some (.tup xs)) => in13 e (fun q => (by rw [q, pd12] at e; cases e)) (fun q => (by rw [q, sd12] at e; cases e))) fun b xs _ e => in13 e (nLst e).1 (nLst e).2) pa12
  have pkk2 : pkv.map (·.1) = (ks.map (·.1)).map Sum.inr := by rw [pkk, List.map_map]; rfl
  have b13 := in13 eD12 (nLst eD12).1 (nLst eD12).2
  have hd13 := in13 hd12 (Ne.symm ne_pd_hd) (Ne.symm ne_sd_hd)
  have ed13 := in13 ed12 (Ne.symm ne_pd_ed) (Ne.symm ne_sd_ed)
  have nd13 := in13 nd12 (Ne.symm ne_pd_nd) (Ne.symm ne_sd_nd)
  have wd13 := in13 wd12 (Ne.symm ne_pd_wd) (Ne.symm ne_sd_wd)
  refine ⟨_, rfl, g, dx, FS, rfl, g13, M3, g, D0, pd, wd, hd, ed, nd, dx, FS, pkv, acc, ks.map (·.1), rs, rfl, g13, Lk2, Lk5, Lk10, Lk7, Lk8, Lk9, M6, b13, pa13, p13, pkk2, wd13, hd13, ed13, nd13, ⟨Ne.symm ne_hd_wd, Ne.symm ne_ed_wd, Ne.symm ne_nd_wd, ne_hd_ed, ne_hd_nd, ne_ed_nd, ne_pd_wd, ne_pd_hd, ne_pd_ed, ne_pd_nd⟩, bd.rl, bd.al, fun r hr => ⟨(bd.rd r hr).1, fun a ha => ((bd.rd r hr).2 a ha).1⟩, fun hru wk ek H14 w14 wkk h14 e14 sp14 kx14 => ?_, fun e he H' kx' => ?_⟩
  case refine_2 =>
    rw [he] at gr
    exact q2 e gr H' (kxa.fresh kx' fun y hy => hN y (by simp only [List.mem_cons, List.not_mem_nil, or_false] at hy ⊢; rcases hy with h | h | h | h <;> simp [h]))
  rw [hru] at gr
  have kxb : KX [g] H H14 := kxa.fresh kx14 fun y hy => hN y (by simp only [List.mem_cons, List.not_mem_nil, or_false] at hy ⊢; rcases hy with h | h | h | h <;> simp [h])
  have in14 : ∀ {p u}, H13 p = some u → p ∉ [wd, hd, ed, nd] → H14 p = some u := fun {p u} e n => kx14 _ _ n e
  have g14 := in14 g13 (by simp [Ne.symm nwd, Ne.symm nhd, Ne.symm ned, Ne.symm nnd])
  have p14 := in14 p13 (by simp [ne_pd_wd, ne_pd_hd, ne_pd_ed, ne_pd_nd])
  have s14 := in14 s13 (by simp [ne_sd_wd, ne_sd_hd, ne_sd_ed, ne_sd_nd])
  have nd1 := kind_nodup hk
  have spr : Paired (fun (kv : Key × V) row => ∃ b, kv.2 = .ref b ∧ H14 b = some (.tup (row.map V.str))) ek (rowsOf rs) := by
    have e : rowsOf rs = (altsOf rs).map (·.2) := by
      show List.flatMap _ _ = List.map _ (List.flatMap _ _)
      rw [List.map_flatMap]
    rw [e]
    have : ∀ {u : List (Key × V)} {v : List (Str × List Str)}, Paired (SpE H14) u v → Paired (fun (kv : Key × V) row => ∃ b, kv.2 = .ref b ∧ H14 b = some (.tup (row.map V.str))) u (v.map (·.2)) := fun {u v} p => by
      induction p with
      | nil => exact .nil
      | cons h _ ih => exact .cons h.2 ih
    exact this sp14
  have wkk2 : wk.map (·.1) = (rs.map (·.1)).map Sum.inr := by rw [wkk, List.map_map]; rfl
  refine ⟨_, rfl, g, dx, FS, rfl, g14, M4, g, ed, pd, wd, sd, dx, FS, ek, pkv, wk, _, rowsOf rs, ks.map (·.1), rs.map (·.1), (ks.filter fun k => k.2.2).map (·.1), rfl, g14, Lk8, Lk5, Lk10, Lk6, e14, spr, p14, pkk2, w14, wkk2, s14, fun n => skips_at n nd1.1, Ne.symm ne_pd_ed, ne_ed_wd, Ne.symm ne_sd_ed, fun hsy H15 s15 => ?_, fun e he H' kx' => ?_⟩
  case refine_2 =>
    rw [he] at gr
    exact q2 e gr H' (kxb.fresh kx' fun y hy => hN y (by simp only [List.mem_cons, List.not_mem_nil, or_false] at hy ⊢; simp [hy]))
  rw [hsy] at gr
  have kxc := kxb.trans (KX.of s15)
  have g15 := s15 _ _ g14
  refine ⟨_, rfl, g, C, dx, _, _, rfl, g15, T.cl, T.nF, Lk4, _, rfl, g, C, dx, _, _, rfl, g15, T.cl, T.nW, Lk10, wd, _, rfl, DGet.k (k := Sum.inr start) (s15 _ _ w14), _, rfl, ?_⟩
  rw [key_in wkk2 start]
  by_cases hst : start ∈ rs.map (·.1)
  case neg =>
    rw [decide_eq_false hst]
    refine ifT rfl ⟨_, rfl, g, C, dx, _, _, rfl, g15, T.cl, T.nF, Lk4, raise_nog (y := some start) T.tN T.n1 T.n2 (q2 _ (gr.trans (if_pos hst)) H15 kxc)⟩
  rw [decide_eq_true hst]
  refine ifF rfl ?_
  replace gr := gr.trans (if_neg (fun h => h hst))
  have sp15 : Paired (SpE H15) ek (altsOf rs) := paired_imp (fun _ _ r => r.tk (Tk.of_same s15)) sp14
  have hc15 := kxc.seqT hc ngc
  have pb15 : Paired (BrV H15) cb bs := paired_imp (fun _ _ r => r.tk (tkG kxc)) pb
  have lsp : ∀ n, (spelledP rs n).length ≤ 10000 := fun n => by
    show (((altsOf rs).lookup n).getD []).length ≤ 10000
    cases e : (altsOf rs).lookup n with
    | none => exact Nat.zero_le _
    | some row =>
      have hm : (n, row) ∈ altsOf rs := by
        have : ∀ {l : List (Str × List Str)}, l.lookup n = some row → (n, row) ∈ l := fun {l} e => by
          induction l with
          | nil => cases e
          | cons a l ih =>
            obtain ⟨x, y⟩ := a
            rw [List.lookup_cons] at e
            by_cases q : n = x
            · rw [q] at e ⊢; simp at e; rw [e]; exact List.mem_cons_self
            · rw [beq_eq_false_iff_ne.mpr q] at e
              exact List.mem_cons_of_mem _ (ih e)
        exact this e
      obtain ⟨r, hr1, hr2⟩ := List.mem_flatMap.mp hm
      exact ((bd.rd r hr1).2 _ hr2).2
  refine ⟨_, rfl, g, dx, FS, rfl, g15, M5, g, ed, hd, c, dx, FS, ek, _, cb, rs, bs, rfl, g15, Lk8, Lk7, Lk3, s15 _ _ e14, s15 _ _ h14, hc15, pb15, bd.bl, fun n => spelled_at n sp15, fun n => homes_at n _, lsp, fun hba H16 s16 => ?_, fun e he => ?_⟩
  case refine_2 =>
    rw [he] at gr
    exact q2 e gr H15 kxc
  rw [hba] at gr
  exact q1 gr FS H16 (s16 _ _ g15) Lk4 M7 (kxc.trans (KX.of s16))
end
end Pa
set_option maxHeartbeats 4000000
namespace Pa
open PySem PySem.Spec PyProof.Rows L2 Ty
/-! ### begin; data in the heap, and their repr -/
theorem scBegin : FnScope ["self"] ["self"] (defScope gBegin) := ⟨rfl, rfl, rfl, by decide +kernel, rfl, by decide +kernel, by decide +kernel⟩
def spBegin (C : Addr) : Sp := fun vs H Q _ => ∃ (g dx : Addr) (fs : List (Str × V)) (v : V), vs = [.ref g] ∧ H g = some (.ins C dx fs) ∧ fs.lookup ("first_rule" : Str) = some v ∧ Q v H
theorem ok_begin {P : Program} {w : World} {K : PySem.W.Frag} {mg : Str → Option Value} {base : Heap} {f C CN fN : Addr} {fd : FuncData} (F : Fun K "begin" "Grammar.begin" gBegin f fd) (T : GTxt K mg C CN fN) : FnOk P w K mg base CX0 1 f fd ["self"] (spBegin C) := by
  refine F.ok scBegin (fun vs H Q E h => ?_) (fun cdv A outer s H vs Q E hr h => ?_)
  · obtain ⟨_, _, _, _, rfl, _⟩ := h
    rfl
  obtain ⟨g, dx, fs, v, rfl, hg, hl, q⟩ := h
  refine ⟨_, pss_one (ps_ret (pe_fld (pv 0) rfl)), ?_⟩
  exact ⟨_, rfl, g, C, dx, _, _, rfl, hg, T.cl, T.nF, hl, q⟩
mutual
/-- v reads as d -/
inductive RpD (H : Hp) : V → PyData → Prop
  | bl (b : Bool) : RpD H (.bl b) (.bool b)
  | int (i : Int) : RpD H (.int i) (.int i)
  | str (x : Str) : RpD H (.str x) (.str x)
  | lst {a : Addr} {xs : List V} {ds : List PyData} : H a = some (.lst xs) → RpDs H xs ds → RpD H (.ref a) (.list ds)
  | tup {a : Addr} {xs : List V} {ds : List PyData} : H a = some (.tup xs) → RpDs H xs ds → RpD H (.ref a) (.tuple ds)
inductive RpDs (H : Hp) : List V → List PyData → Prop
  | nil : RpDs H [] []
  | cons {v : V} {vs : List V} {d : PyData} {ds : List PyData} : RpD H v d → RpDs H vs ds → RpDs H (v :: vs) (d :: ds)
end
theorem RpDs.of {H : Hp} {α : Type} {R : V → α → Prop} {f : α → PyData} (h : ∀ v x, R v x → RpD H v (f x)) : ∀ {vs : List V} {xs : List α}, Paired R vs xs → RpDs H vs (xs.map f)
  | _, _, .nil => .nil
  | _, _, .cons r t => .cons (h _ _ r) (RpDs.of h t)
theorem RpDs.strs {H : Hp} : ∀ l : List Str, RpDs H (l.map V.str) (l.map PyData.str)
  | [] => .nil
  | x :: l => .cons (.str x) (RpDs.strs l)
section
variable {X : Cx} {pins : List (Addr × Obj)} {σ : L2.St} {H : Hp} {s : Shared}
mutual
theorem RpD.reads (I : Inv X pins σ H s) : ∀ (d : PyData) (v : V) (u : Value), RpD H v d → RelV v u → ∃ as, Reads s.heap u d as
  | .none, _, _, h, r => by cases h
  | .dict _, _, _, h, r => by cases h
  | .bool b, _, _, h, r => by
    cases h
    cases r
    exact ⟨_, Reads.bool b⟩
  | .int i, _, _, h, r => by
    cases h
    obtain ⟨t, rfl⟩ := r
    exact ⟨_, Reads.int i t⟩
  | .str x, _, _, h, r => by
    cases h
    obtain ⟨t, rfl⟩ := r
    exact ⟨_, Reads.str x t⟩
  | .list ds, _, _, h, r => by
    cases h with
    | lst e q =>
      cases r
      obtain ⟨z, its, m, rv, ho⟩ := I.hok _ _ e
      obtain ⟨as, hr⟩ := RpDs.reads I ds _ its q rv
      exact ⟨_, Reads.list ho rfl rfl (by simpa using hr)⟩
  | .tuple ds, _, _, h, r => by
    cases h with
    | tup e q =>
      cases r
      obtain ⟨z, its, rv, o, ho, hc, m, hd⟩ := I.hok _ _ e
      obtain ⟨as, hr⟩ := RpDs.reads I ds _ its q rv
      exact ⟨_, Reads.tuple ho hc hd (by simpa using hr)⟩
theorem RpDs.reads (I : Inv X pins σ H s) : ∀ (ds : List PyData) (vs : List V) (us : List Value), RpDs H vs ds → Vals vs us → ∃ as, ReadsAll s.heap us ds as
  | [], _, _, h, r => by
    cases h
    cases r
    exact ⟨_, ReadsAll.nil⟩
  | d :: ds, _, _, h, r => by
    cases h with
    | cons h1 h2 =>
      cases r with
      | cons r1 r2 =>
        obtain ⟨as, q1⟩ := RpD.reads I d _ _ h1 r1
        obtain ⟨bs, q2⟩ := RpDs.reads I ds _ _ h2 r2
        exact ⟨_, ReadsAll.cons q1 q2⟩
end
end
/-- plain data: no dicts, low signs, small numbers, so deep -/
inductive Fi : Nat → PyData → Prop
  | bl {n : Nat} (b : Bool) : Fi n (.bool b)
  | int {n : Nat} {i : Int} (h : i.natAbs ≤ 9) : Fi n (.int i)
  | str {n : Nat} {x : Str} (h : ∀ c, c ∈ x.cps.toList → c < 128) : Fi n (.str x)
  | lst {n : Nat} {ds : List PyData} (h : ∀ d, d ∈ ds → Fi n d) : Fi (n + 1) (.list ds)
  | tup {n : Nat} {ds : List PyData} (h : ∀ d, d ∈ ds → Fi n d) : Fi (n + 1) (.tuple ds)
theorem Fi.mono {n : Nat} {d : PyData} (f : Fi n d) : ∀ {n' : Nat}, n ≤ n' → Fi n' d := by
  induction f with
  | bl b => intros; exact .bl b
  | int h => intros; exact .int h
  | str h => intros; exact .str h
  | lst h ih =>
    intro n' l
    obtain ⟨k, rfl⟩ : ∃ k, n' = k + 1 := ⟨n' - 1, by omega⟩
    exact .lst fun d hd => ih d hd (by omega)
  | tup h ih =>
    intro n' l
    obtain ⟨k, rfl⟩ : ∃ k, n' = k + 1 := ⟨n' - 1, by omega⟩
    exact .tup fun d hd => ih d hd (by omega)
mutual
def wd : PyData → Nat
  | .str x => 10 * x.length + 4
  | .list ds => wds ds + 5
  | .tuple ds => wds ds + 5
  | .none => 7
  | .bool _ => 7
  | .int _ => 7
  | .dict _ => 7
def wds : List PyData → Nat
  | [] => 0
  | d :: ds => wd d + wds ds
end
theorem wds_app : ∀ a b : List PyData, wds (a ++ b) = wds a + wds b
  | [], b => by simp [wds]
  | d :: a, b => by simp only [List.cons_append, wds, wds_app a b]; omega
theorem wds_le {α : Type} {f : α → PyData} {k : Nat} : ∀ l : List α, (∀ x, x ∈ l → wd (f x) ≤ k) → wds (l.map f) ≤ k * l.length
  | [], _ => by simp [wds]
  | x :: l, h => by
    have h1 := h x List.mem_cons_self
    have h2 := wds_le l fun y hy => h y (List.mem_cons_of_mem _ hy)
    simp only [List.map_cons, wds, List.length_cons, Nat.mul_add, Nat.mul_one]
    omega
theorem Fi.depth {n : Nat} {d : PyData} (f : Fi n d) : d.depth ≤ n := by
  have all : ∀ (n : Nat) (ds : List PyData), (∀ d, d ∈ ds → d.depth ≤ n) → PyData.depthAll ds ≤ n := by
    intro n ds
    induction ds with
    | nil => intro _; simp [PyData.depthAll]
    | cons d ds ih =>
      intro h
      have h1 := h d List.mem_cons_self
      have h2 := ih fun e he => h e (List.mem_cons_of_mem _ he)
      simp only [PyData.depthAll]
      omega
  induction f with
  | bl b => simp [PyData.depth]
  | int h => simp [PyData.depth]
  | str h => simp [PyData.depth]
  | lst h ih =>
    have := all _ _ ih
    simp only [PyData.depth]
    omega
  | tup h ih =>
    have := all _ _ ih
    simp only [PyData.depth]
    omega
theorem Fi.showable {n : Nat} {d : PyData} (f : Fi n d) : d.showable = true := by
  have all : ∀ (ds : List PyData), (∀ d, d ∈ ds → d.showable = true) → PyData.showableAll ds = true := by
    intro ds
    induction ds with
    | nil => intro _; simp [PyData.showableAll]
    | cons d ds ih =>
      intro h
      simp only [PyData.showableAll, h d List.mem_cons_self, ih fun e he => h e (List.mem_cons_of_mem _ he), Bool.and_self]
  induction f with
  | bl b => simp [PyData.showable]
  | @int n i h =>
    have h2 : i.natAbs.log2 ≤ i.natAbs := Nat.log2_le_self i.natAbs
    simp only [PyData.showable, decide_eq_true_eq]
    omega
  | str h => simp [PyData.showable]
  | lst h ih => simp only [PyData.showable]; exact all _ ih
  | tup h ih => simp only [PyData.showable]; exact all _ ih
theorem Fi.noDict {n : Nat} {d : PyData} (f : Fi n d) : d.hasDict = false := by
  have all : ∀ (ds : List PyData), (∀ d, d ∈ ds → d.hasDict = false) → PyData.hasDictAll ds = false := by
    intro ds
    induction ds with
    | nil => intro _; simp [PyData.hasDictAll]
    | cons d ds ih =>
      intro h
      simp only [PyData.hasDictAll, h d List.mem_cons_self, ih fun e he => h e (List.mem_cons_of_mem _ he), Bool.or_self]
  induction f with
  | bl b => simp [PyData.hasDict]
  | int h => simp [PyData.hasDict]
  | str h => simp [PyData.hasDict]
  | lst h ih => simp only [PyData.hasDict]; exact all _ ih
  | tup h ih => simp only [PyData.hasDict]; exact all _ ih
theorem listText_len (ts : List Str) : (listText ts).length ≤ piled ts + 2 := by
  cases ts with
  | nil => decide
  | cons t r =>
    have h := textFrom_length_pos r 1 (("[" : Str) ++ (if (0 : Nat) > 0 then ", " else "" : String) ++ t) (Nat.succ_pos 0)
    show (textFrom 1 (("[" : Str) ++ (if (0 : Nat) > 0 then ", " else "" : String) ++ t) r ++ "]").length ≤ _
    rw [strLen_append, h, strLen_append, strLen_append, piled_cons]
    have e1 : ((("[" : String) : Str)).length = 1 := rfl
    have e2 : ((("]" : String) : Str)).length = 1 := rfl
    have e3 : (((if (0 : Nat) > 0 then ", " else "" : String) : Str)).length = 0 := rfl
    omega
theorem tupleText_len (ts : List Str) : (tupleText ts).length ≤ piled ts + 3 := by
  unfold tupleText
  rw [strLen_append, strLen_append]
  have e1 : ((("(" : String) : Str)).length = 1 := rfl
  have e3 : (((if ts.length == 1 then ",)" else ")" : String) : Str)).length ≤ 2 := by split <;> decide
  rw [e1]
  by_cases h : ts = []
  · subst h
    have : (Str.join ", " ([] : List Str)).length = 0 := rfl
    omega
  · have := join_length_add ts h
    omega
theorem ints_short : ∀ k : Nat, k ≤ 9 → (Str.ofString (toString (k : Int))).length ≤ 4 ∧ (Str.ofString (toString (-(k : Int)))).length ≤ 4 := by decide +kernel
theorem Fi.shown_le {n : Nat} {d : PyData} (f : Fi n d) : d.shown.length + 2 ≤ wd d := by
  have all : ∀ (ds : List PyData), (∀ d, d ∈ ds → d.shown.length + 2 ≤ wd d) → piled (PyData.shownAll ds) ≤ wds ds := by
    intro ds
    induction ds with
    | nil => intro _; simp [PyData.shownAll, piled, wds]
    | cons d ds ih =>
      intro h
      have h1 := h d List.mem_cons_self
      have h2 := ih fun e he => h e (List.mem_cons_of_mem _ he)
      simp only [PyData.shownAll, piled_cons, wds]
      omega
  induction f with
  | bl b => simp only [PyData.shown, wd]; cases b <;> decide
  | @int n i h =>
    have hh : (PyData.int i).shown.length ≤ 4 := by
      simp only [PyData.shown]
      have q := ints_short i.natAbs h
      rcases Int.natAbs_eq i with e | e
      · rw [e]; exact q.1
      · rw [e]; exact q.2
    simp only [wd]
    omega
  | @str n x h =>
    have := PySem.StrLaws.reprText_len x fun c hc => by have := h c hc; omega
    simp only [PyData.shown, wd]
    omega
  | @lst n ds h ih =>
    have h1 := all _ ih
    have h2 := listText_len (PyData.shownAll ds)
    simp only [PyData.shown, wd]
    omega
  | @tup n ds h ih =>
    have h1 := all _ ih
    have h2 := tupleText_len (PyData.shownAll ds)
    simp only [PyData.shown, wd]
    omega
def rReprD : List V → Hp → VK → Prop := fun vs H Q => ∃ (a : Addr) (d : PyData) (n : Nat), vs = [.ref a] ∧ RpD H (.ref a) d ∧ Fi n d ∧ n ≤ 60 ∧ wd d ≤ 16777216 ∧ Q (.str d.shown) H
theorem call_reprD {X : Cx} (hg : X.A.guards = some []) (hu : X.A.units + 64 < cLine) : CallR X (.builtin "repr") rReprD := by
  intro pins s σ H xs us Q I r h
  obtain ⟨a, d, n, rfl, rp, fi, hn, hw, q⟩ := h
  obtain ⟨u, rfl, rx⟩ := vals1 r
  obtain ⟨as, rd⟩ := RpD.reads I _ _ _ rp rx
  cases rx
  have := fi.depth
  have hs := fi.shown_le
  exact repr_of_reads' rd fi.showable (PyData.noDict_hsm fi.noDict) hg (by omega) (fun _ _ e => e) (fun g u tk kp => ⟨.str _, H, I.kept (t' := tk) kp, ⟨_, rfl⟩, q⟩) (by rw [sizeLine_eq]; omega)
/-! ### a world's data -/
def patD : Pat → PyData
  | .sg x => .tuple [.str "signs", .str x]
  | .em => .tuple [.str "empty"]
  | .th a b => .tuple [.str "then", patD a, patD b]
  | .oo a b => .tuple [.str "or", patD a, patD b]
  | .ag a => .tuple [.str "again", patD a]
  | .mo a => .tuple [.str "more", patD a]
  | .mb a => .tuple [.str "maybe", patD a]
theorem RP.data {H : Hp} : ∀ {p : Pat} {v : V}, RP H p v → RpD H v (patD p)
  | .sg x, v, h => by obtain ⟨a, rfl, h⟩ := h; exact .tup h (.cons (.str _) (.cons (.str _) .nil))
  | .em, v, h => by obtain ⟨a, rfl, h⟩ := h; exact .tup h (.cons (.str _) .nil)
  | .th p q, v, h => by obtain ⟨a, u, w, rfl, h, r1, r2⟩ := h; exact .tup h (.cons (.str _) (.cons (RP.data r1) (.cons (RP.data r2) .nil)))
  | .oo p q, v, h => by obtain ⟨a, u, w, rfl, h, r1, r2⟩ := h; exact .tup h (.cons (.str _) (.cons (RP.data r1) (.cons (RP.data r2) .nil)))
  | .ag p, v, h => by obtain ⟨a, u, rfl, h, r1⟩ := h; exact .tup h (.cons (.str _) (.cons (RP.data r1) .nil))
  | .mo p, v, h => by obtain ⟨a, u, rfl, h, r1⟩ := h; exact .tup h (.cons (.str _) (.cons (RP.data r1) .nil))
  | .mb p, v, h => by obtain ⟨a, u, rfl, h, r1⟩ := h; exact .tup h (.cons (.str _) (.cons (RP.data r1) .nil))
def kdD (k : Str × Pat × Bool) : PyData := .tuple [.str k.1, patD k.2.1, .bool k.2.2]
def altD (a : Str × List Str) : PyData := .tuple [.str a.1, .tuple (a.2.map PyData.str)]
def rlD (r : Str × List (Str × List Str)) : PyData := .tuple [.str r.1, .list (r.2.map altD)]
def brD (b : Str × Int × Str) : PyData := .tuple [.str b.1, .int b.2.1, .str b.2.2]
theorem KdV.data {H : Hp} {v : V} {k : Str × Pat × Bool} (h : KdV H v k) : RpD H v (kdD k) := by
  obtain ⟨a, u, rfl, h1, h2⟩ := h
  exact .tup h1 (.cons (.str _) (.cons h2.data (.cons (.bl _) .nil)))
theorem AltV.data {H : Hp} {v : V} {r : Str × List Str} (h : AltV H v r) : RpD H v (altD r) := by
  obtain ⟨a, b, rfl, h1, h2⟩ := h
  exact .tup h1 (.cons (.str _) (.cons (.tup h2 (RpDs.strs _)) .nil))
theorem RlV.data {ok : Addr → Prop} {H : Hp} {v : V} {r : Str × List (Str × List Str)} (h : RlV ok H v r) : RpD H v (rlD r) := by
  obtain ⟨a, b, xs, rfl, h1, h2, _, h4⟩ := h
  exact .tup h1 (.cons (.str _) (.cons (.lst h2 (RpDs.of (fun _ _ r => r.data) h4)) .nil))
theorem BrV.data {H : Hp} {v : V} {b : Str × Int × Str} (h : BrV H v b) : RpD H v (brD b) := by
  obtain ⟨a, rfl, h1⟩ := h
  exact .tup h1 (.cons (.str _) (.cons (.int _) (.cons (.str _) .nil)))
/-- a world: kinds, rules, a start, bars -/
structure Wor where
  ks : Kds
  rs : Rls
  st : Str
  bs : Brs
def worD (W : Wor) : PyData := .list [.list (W.ks.map kdD), .list (W.rs.map rlD), .str W.st, .list (W.bs.map brD)]
def WV (H : Hp) (v : V) (W : Wor) : Prop := ∃ w a b c ka rb cb, v = .ref w ∧ H w = some (.lst [.ref a, .ref b, .str W.st, .ref c]) ∧ H a = some (.lst ka) ∧ Paired (KdV H) ka W.ks ∧ H b = some (.lst rb) ∧ Paired (RlV anyB H) rb W.rs ∧ H c = some (.lst cb) ∧ Paired (BrV H) cb W.bs
theorem WV.data {H : Hp} {v : V} {W : Wor} (h : WV H v W) : RpD H v (worD W) := by
  obtain ⟨w, a, b, c, ka, rb, cb, rfl, hw, ha, pa, hb, pb, hc, pc⟩ := h
  exact .lst hw (.cons (.lst ha (RpDs.of (fun _ _ r => r.data) pa)) (.cons (.lst hb (RpDs.of (fun _ _ r => r.data) pb)) (.cons (.str _) (.cons (.lst hc (RpDs.of (fun _ _ r => r.data) pc)) .nil))))
end Pa
set_option maxHeartbeats 4000000
namespace Pa
open PySem PySem.Spec PyProof.Rows L2 Ty
/-! ### lists that the jar's draws leave as they are -/
def Nm (x : Str) : Prop := x.length ≤ 9 ∧ ∀ c, c ∈ x.cps.toList → c < 128
def KL (H : Hp) (a : Addr) (ks : Kds) : Prop := ∃ xs, H a = some (.lst xs) ∧ Paired (KdV H) xs ks
def RL (H : Hp) (a : Addr) (rs : Rls) : Prop := ∃ xs, H a = some (.lst xs) ∧ Paired (RlV anyB H) xs rs
def BL (H : Hp) (a : Addr) (bs : Brs) : Prop := ∃ xs, H a = some (.lst xs) ∧ Paired (BrV H) xs bs
def AL (H : Hp) (a : Addr) (as : List (Str × List Str)) : Prop := ∃ xs, H a = some (.lst xs) ∧ Paired (AltV H) xs as
theorem jar_ne {j a : Addr} {H : Hp} {C : Nat} {xs : List V} (jr : Jar j H C) (e : H a = some (.lst xs)) (h : ∀ i, .int i ∉ xs) : a ≠ j := by
  obtain ⟨x, y, z, hj, _⟩ := jr
  intro q
  rw [q, hj] at e
  exact h x (by rw [← HO.lst.inj (Option.some.inj e)]; simp)
theorem ref_int {R : V → α → Prop} (h : ∀ v x, R v x → ∃ a, v = .ref a) {xs : List V} {ys : List α} (p : Paired R xs ys) : ∀ i, .int i ∉ xs := fun i m => by
  induction p with
  | nil => cases m
  | cons r _ ih =>
    rcases List.mem_cons.mp m with e | m
    · obtain ⟨a, q⟩ := h _ _ r
      rw [q] at e; cases e
    · exact ih m
theorem str_int (l : List Str) : ∀ i, V.int i ∉ l.map V.str := fun i m => by
  obtain ⟨x, _, e⟩ := List.mem_map.mp m
  cases e
theorem KdV.ref {H : Hp} {v : V} {k : Str × Pat × Bool} (h : KdV H v k) : ∃ a, v = .ref a := let ⟨a, _, e, _⟩ := h; ⟨a, e⟩
theorem AltV.ref {H : Hp} {v : V} {k : Str × List Str} (h : AltV H v k) : ∃ a, v = .ref a := let ⟨a, _, e, _⟩ := h; ⟨a, e⟩
theorem RlV.ref {ok : Addr → Prop} {H : Hp} {v : V} {k : Str × List (Str × List Str)} (h : RlV ok H v k) : ∃ a, v = .ref a := let ⟨a, _, _, e, _⟩ := h; ⟨a, e⟩
theorem BrV.ref {H : Hp} {v : V} {k : Str × Int × Str} (h : BrV H v k) : ∃ a, v = .ref a := let ⟨a, e, _⟩ := h; ⟨a, e⟩
section
variable {j : Addr} {H H' : Hp} {C : Nat}
theorem AL.keep {a : Addr} {as : List (Str × List Str)} (jr : Jar j H C) (k : Keep j H H') (h : AL H a as) : AL H' a as := by
  obtain ⟨xs, e, p⟩ := h
  exact ⟨xs, k _ _ (jar_ne jr e (ref_int (fun _ _ r => r.ref) p)) e, paired_imp (fun _ _ r => r.tk (Tk.of_keep jr k)) p⟩
theorem RlV.keep {v : V} {r : Str × List (Str × List Str)} (jr : Jar j H C) (k : Keep j H H') (h : RlV anyB H v r) : RlV anyB H' v r := by
  obtain ⟨a, b, xs, e, h1, h2, h3, h4⟩ := h
  exact ⟨a, b, xs, e, Tk.of_keep jr k _ _ h1, k _ _ (jar_ne jr h2 (ref_int (fun _ _ r => r.ref) h4)) h2, h3, paired_imp (fun _ _ r => r.tk (Tk.of_keep jr k)) h4⟩
theorem KL.keep {a : Addr} {ks : Kds} (jr : Jar j H C) (k : Keep j H H') (h : KL H a ks) : KL H' a ks := by
  obtain ⟨xs, e, p⟩ := h
  exact ⟨xs, k _ _ (jar_ne jr e (ref_int (fun _ _ r => r.ref) p)) e, paired_imp (fun _ _ r => r.tk (Tk.of_keep jr k)) p⟩
theorem RL.keep {a : Addr} {rs : Rls} (jr : Jar j H C) (k : Keep j H H') (h : RL H a rs) : RL H' a rs := by
  obtain ⟨xs, e, p⟩ := h
  exact ⟨xs, k _ _ (jar_ne jr e (ref_int (fun _ _ r => r.ref) p)) e, paired_imp (fun _ _ r => r.keep jr k) p⟩
theorem BL.keep {a : Addr} {bs : Brs} (jr : Jar j H C) (k : Keep j H H') (h : BL H a bs) : BL H' a bs := by
  obtain ⟨xs, e, p⟩ := h
  exact ⟨xs, k _ _ (jar_ne jr e (ref_int (fun _ _ r => r.ref) p)) e, paired_imp (fun _ _ r => r.tk (Tk.of_keep jr k)) p⟩
theorem SL.keep {a : Addr} {l : List Str} (jr : Jar j H C) (k : Keep j H H') (e : H a = some (.lst (l.map V.str))) : H' a = some (.lst (l.map V.str)) := k _ _ (jar_ne jr e (str_int l)) e
theorem WV.keep {v : V} {W : Wor} (jr : Jar j H C) (k : Keep j H H') (h : WV H v W) : WV H' v W := by
  obtain ⟨w, a, b, c, ka, rb, cb, e, hw, ha, pa, hb, pb, hc, pc⟩ := h
  obtain ⟨_, e1, p1⟩ := KL.keep jr k ⟨ka, ha, pa⟩
  obtain ⟨_, e2, p2⟩ := RL.keep jr k ⟨rb, hb, pb⟩
  obtain ⟨_, e3, p3⟩ := BL.keep jr k ⟨cb, hc, pc⟩
  exact ⟨w, a, b, c, _, _, _, e, k _ _ (jar_ne jr hw (by simp)) hw, e1, p1, e2, p2, e3, p3⟩
end
theorem AL.same {H H' : Hp} {a : Addr} {as : List (Str × List Str)} (s : Same H H') (h : AL H a as) : AL H' a as := by
  obtain ⟨xs, e, p⟩ := h
  exact ⟨xs, s _ _ e, paired_imp (fun _ _ r => r.tk (Tk.of_same s)) p⟩
theorem RlV.same {ok : Addr → Prop} {H H' : Hp} {v : V} {r : Str × List (Str × List Str)} (s : Same H H') (h : RlV ok H v r) : RlV ok H' v r := h.tk (Tk.of_same s) fun b xs _ e => s _ _ e
theorem KL.same {H H' : Hp} {a : Addr} {ks : Kds} (s : Same H H') (h : KL H a ks) : KL H' a ks := by
  obtain ⟨xs, e, p⟩ := h
  exact ⟨xs, s _ _ e, paired_imp (fun _ _ r => r.tk (Tk.of_same s)) p⟩
theorem RL.same {H H' : Hp} {a : Addr} {rs : Rls} (s : Same H H') (h : RL H a rs) : RL H' a rs := by
  obtain ⟨xs, e, p⟩ := h
  exact ⟨xs, s _ _ e, paired_imp (fun _ _ r => r.same s) p⟩
theorem BL.same {H H' : Hp} {a : Addr} {bs : Brs} (s : Same H H') (h : BL H a bs) : BL H' a bs := by
  obtain ⟨xs, e, p⟩ := h
  exact ⟨xs, s _ _ e, paired_imp (fun _ _ r => r.tk (Tk.of_same s)) p⟩
theorem WV.same {H H' : Hp} {v : V} {W : Wor} (s : Same H H') (h : WV H v W) : WV H' v W := by
  obtain ⟨w, a, b, c, ka, rb, cb, e, hw, ha, pa, hb, pb, hc, pc⟩ := h
  obtain ⟨_, e1, p1⟩ := KL.same s ⟨ka, ha, pa⟩
  obtain ⟨_, e2, p2⟩ := RL.same s ⟨rb, hb, pb⟩
  obtain ⟨_, e3, p3⟩ := BL.same s ⟨cb, hc, pc⟩
  exact ⟨w, a, b, c, _, _, _, e, s _ _ hw, e1, p1, e2, p2, e3, p3⟩
theorem new_of {H H1 : Hp} {p : Addr} (s : Same H H1) (h : H1 p = none) : H p = none := by
  cases e : H p with
  | none => rfl
  | some o => rw [s _ _ e] at h; cases h
theorem str_at {l : List Str} {i : Int} {v : V} (h : atI (l.map V.str) i = some v) : ∃ x, x ∈ l ∧ v = .str x := by
  unfold atI at h
  cases e : ixN (l.map V.str).length i with
  | none => rw [e] at h; cases h
  | some k =>
    rw [e] at h
    have h : (l.map V.str)[k]? = some v := h
    rw [List.getElem?_map] at h
    cases e2 : l[k]? with
    | none => rw [e2] at h; cases h
    | some x => rw [e2] at h; exact ⟨x, List.mem_of_getElem? e2, (Option.some.inj h).symm⟩
/-! ### a name that is none, or any that stands -/
def oddL : List Str := ["", "abcdefghi", "Ab", "word", "skip", "rule", "top", "bar", "a1", "a b", "zz", "_"]
theorem odd_nm : ∀ x, x ∈ oddL → x.length ≤ 9 ∧ ∀ c, c ∈ x.cps.toList → c < 128 := by decide +kernel
def spStrange : Sp := fun vs H Q _ => ∃ (j s : Addr) (C : Nat) (ss : List Str), vs = [.ref j, .ref s] ∧ Jar j H C ∧ C ≤ 1000000000 ∧ H s = some (.lst (ss.map V.str)) ∧ ss.length ≤ 100000 ∧ (∀ x, x ∈ ss → Nm x) ∧
  ∀ x H', Nm x → Jar j H' (C + 1) → Keep j H H' → Q (.str x) H'
theorem scStrange : FnScope ["purse", "some", "odd"] ["purse", "some"] (defScope lStrange) := ⟨rfl, rfl, rfl, by decide +kernel, rfl, by decide +kernel, by decide +kernel⟩
section
variable {P : Program} {w : World} {K : PySem.W.Frag} {mg : Str → Option Value} {base : Heap} {f g : Addr} {fd gd : FuncData}
theorem ok_strange (F : Fun K "_law_strange" "_law_strange" lStrange f fd) (G : FnOk P w K mg base CX0 1 g gd ["purse", "many"] spDrawn) (bG : Binds K gd ["purse", "many"] []) (kG : PySem.W.keepIn K (.ref g) = true) (mG : mg "_law_drawn" = some (.ref g)) (ml : mg "len" = none) :
    FnOk P w K mg base CX0 2 f fd ["purse", "some"] spStrange := by
  refine F.ok scStrange (fun vs H Q E h => ?_) (fun cdv A outer s0 H vs Q E hr h => ?_)
  · obtain ⟨_, _, _, _, rfl, _⟩ := h
    rfl
  obtain ⟨j, s, C, ss, rfl, jr, hC, hs, hl, hn, q⟩ := h
  refine ⟨_, pss_cons (ps_set (i := 2) scStrange.nd rfl (.inl rfl) (pe_lst (pa_cons pe_str (pa_cons pe_str (pa_cons pe_str (pa_cons pe_str (pa_cons pe_str (pa_cons pe_str (pa_cons pe_str (pa_cons pe_str (pa_cons pe_str (pa_cons pe_str (pa_cons pe_str (pa_cons pe_str pa_nil))))))))))))))
    (pss_one (ps_ret (pe_ix ix_list (pe_op op_cat (pv 2) (pv 1)) (pe_call G hr rfl mG kG bG .nil pass0 (pa_cons (pv 0) (pa_cons (pe_op op_add pe_int (pe_callB call_len_seq rfl ml PySem.boot_len (pa_cons (pv 1) pa_nil))) pa_nil))) (fun _ _ => rfl)))), ?_⟩
  refine ⟨(by show 12 ≤ sizeLine; decide), fun o ho => ?_⟩
  have s1 := same_new ho (.lst (oddL.map V.str))
  refine ⟨_, rfl, _, rfl, o, s, oddL.map V.str, ss.map V.str, rfl, rfl, upd_same, s1 _ _ hs, by rw [List.length_map, List.length_map, sizeLine_eq]; show 12 + ss.length ≤ _; omega, fun p hp => ?_⟩
  have s2 := same_new hp (.lst (oddL.map V.str ++ ss.map V.str))
  have ep : (upd (upd H o (.lst (oddL.map V.str))) p (.lst (oddL.map V.str ++ ss.map V.str))) p = some (.lst ((oddL ++ ss).map V.str)) := by rw [List.map_append]; exact upd_same
  have s12 : Same H (upd (upd H o (.lst (oddL.map V.str))) p (.lst (oddL.map V.str ++ ss.map V.str))) := s1.trans s2
  refine ⟨_, rfl, _, rfl, s, _, rfl, .inl (SqL.of (s12 _ _ hs)), _, _, rfl, rfl, j, C, _, rfl, jr.keep s12, hC, by rw [List.length_map]; omega, by rw [List.length_map]; omega, fun r H2 r0 r1 jr2 k2 => ?_⟩
  rw [List.length_map] at r1
  have ep2 := SL.keep (jr.keep s12) k2 ep
  have lo : (oddL ++ ss).length = 12 + ss.length := by rw [List.length_append]; rfl
  obtain ⟨v, hv1, hv2⟩ := at_in (l := (oddL ++ ss).map V.str) r0 (by rw [List.length_map, lo]; omega)
  obtain ⟨x, hx, rfl⟩ := str_at hv1
  refine ⟨p, _, _, _, rfl, rfl, SqL.of ep2, hv1, q x H2 ?_ jr2 ((Keep.of_same s12).trans k2)⟩
  rcases List.mem_append.mp hx with h | h
  · exact odd_nm x h
  · exact hn x h
end
/-! ### all alternatives -/
abbrev Als := List (Str × Str × List Str)
abbrev allOf (rs : Rls) : Als := rs.flatMap fun r => r.2.map fun a => (r.1, a.1, a.2)
def AlV (H : Hp) (v : V) (a : Str × Str × List Str) : Prop := ∃ t b, v = .ref t ∧ H t = some (.tup [.str a.1, .str a.2.1, .ref b]) ∧ H b = some (.tup (a.2.2.map V.str))
theorem AlV.tk {H H' : Hp} {v : V} {a : Str × Str × List Str} (h : AlV H v a) (t : Tk H H') : AlV H' v a := by
  obtain ⟨x, b, e, h1, h2⟩ := h
  exact ⟨x, b, e, t _ _ h1, t _ _ h2⟩
theorem AlV.ref {H : Hp} {v : V} {k : Str × Str × List Str} (h : AlV H v k) : ∃ a, v = .ref a := let ⟨a, _, e, _⟩ := h; ⟨a, e⟩
theorem all_len (rs : Rls) : (allOf rs).length = (altsOf rs).length := by
  induction rs with
  | nil => rfl
  | cons r rs ih =>
    show (_ ++ allOf rs).length = (_ ++ altsOf rs).length
    rw [List.length_append, List.length_append, ih, List.length_map]
def spAll : Sp := fun vs H Q _ => ∃ (b : Addr) (rs : Rls), vs = [.ref b] ∧ RL H b rs ∧ (altsOf rs).length ≤ 1000000 ∧
  ∀ p xs H', H p = none → H' p = some (.lst xs) → Paired (AlV H') xs (allOf rs) → Same H H' → Q (.ref p) H'
theorem scAll : FnScope ["rules", "found", "head", "some", "label", "row"] ["rules"] (defScope lAll) := ⟨rfl, rfl, rfl, by decide +kernel, rfl, by decide +kernel, by decide +kernel⟩
section
variable {P : Program} {w : World} {K : PySem.W.Frag} {mg : Str → Option Value} {base : Heap} {f g : Addr} {fd gd : FuncData}
theorem ok_all (F : Fun K "_law_all" "_law_all" lAll f fd) : FnOk P w K mg base CX0 1 f fd ["rules"] spAll := by
  refine F.ok scAll (fun vs H Q E h => ?_) (fun cdv A outer s0 H vs Q E hr h => ?_)
  · obtain ⟨_, _, rfl, _⟩ := h
    rfl
  obtain ⟨b, rs, rfl, ⟨rb, hb, pr⟩, hl, q⟩ := h
  refine ⟨_, pss_cons (ps_set (i := 1) scAll.nd rfl (.inl rfl) (pe_lst pa_nil))
    (pss_cons (ps_for PassesOwn.never rfl (pi_list (pv 0)) (pg_tup rfl (pgs_cons (pg_name (i := 2) scAll.nd rfl (Or.inr rfl)) (pgs_cons (pg_name (i := 3) scAll.nd rfl (Or.inl rfl)) pgs_nil)))
      (pss_one (ps_expr (pe_bm PySem.F.plainAttrs_list PySem.F.slot_list_extend PySem.F.type_list_extend mt_extend (pv 1) (pa_cons
        (pe_lc (own := [("label", 4), ("row", 5)]) (g := gTup K 2 (gCons (gName 4) (gCons (gName 5) gNil))) (tt := tYes) rfl scAll.nd (pi_list (pv 3)) (blkOk_by (N := ["rules", "found", "head", "some", "label", "row"]) (sc := defScope lAll) (by decide +kernel)) (fun _ _ _ _ _ => pg_tup rfl (pgs_cons (pg_name (i := 4) scAll.nd rfl (Or.inl rfl)) (pgs_cons (pg_name (i := 5) scAll.nd rfl (Or.inl rfl)) pgs_nil))) (fun _ _ _ _ _ => pts_nil)
          (fun _ _ _ _ _ => pe_tup (pa_cons (pv 2) (pa_cons (pv 4) (pa_cons (pv 5) pa_nil))))) pa_nil)))))
    (pss_one (ps_ret (pv 1)))), ?_⟩
  have lrb : rb.length = rs.length := Paired.length pr
  refine ⟨(by show 0 ≤ sizeLine; decide), fun p hp => ?_⟩
  have s1 := same_new hp (.lst [])
  refine ⟨_, rfl, b, rfl, ⟨_, SqL.of (s1 _ _ hb)⟩, ?_⟩
  refine for_list (K := K) (xs := rb) (fun i σ H' => ∃ x1 x2 x3 x4 acc, σ = [some (.ref b), some (.ref p), x1, x2, x3, x4] ∧ H' p = some (.lst acc) ∧ Paired (AlV H') acc (allOf (rs.take i)) ∧ Same H H') ⟨_, _, _, _, [], rfl, upd_same, .nil, s1⟩ (fun i σ H' _ h => by obtain ⟨_, _, _, _, _, _, _, _, s⟩ := h; exact SqL.of (s _ _ hb)) (fun i v σ H' hv h => ?turn) (fun σ H' h => ?done)
  case done =>
    obtain ⟨x1, x2, x3, x4, acc, rfl, e1, pa, s⟩ := h
    rw [lrb, List.take_length] at pa
    exact ⟨_, rfl, q p acc H' hp e1 pa s⟩
  case turn =>
    obtain ⟨x1, x2, x3, x4, acc, rfl, e1, pa, s⟩ := h
    obtain ⟨⟨n, as⟩, hri, ⟨ra, ab, xs, rfl, h1, h2, _, h3⟩⟩ := paired_get pr i v hv
    have hi : i < rs.length := (List.getElem?_eq_some_iff.mp hri).1
    have htk : rs.take (i + 1) = rs.take i ++ [(n, as)] := by rw [List.take_add_one, hri]; rfl
    have lxs : xs.length = as.length := Paired.length h3
    have zal : (allOf (rs.take i)).length + as.length ≤ 1000000 := by
      have e := List.take_append_drop (i + 1) rs
      have e2 : allOf rs = allOf (rs.take (i + 1)) ++ allOf (rs.drop (i + 1)) := by
        show _ = List.flatMap _ _ ++ List.flatMap _ _
        rw [← List.flatMap_append, e]
      have e3 := all_len rs
      rw [e2, List.length_append, htk, show allOf (rs.take i ++ [(n, as)]) = allOf (rs.take i) ++ as.map (fun a => (n, a.1, a.2)) by show List.flatMap _ _ = _; rw [List.flatMap_append]; simp, List.length_append, List.length_map] at e3
      omega
    refine ⟨ra, _, rfl, SqT.of (s _ _ h1), rfl, _, _, rfl, _, _, rfl, rfl, ?_⟩
    refine ⟨_, rfl, .inl ⟨rfl, _, SqL.of e1⟩, _, rfl, ab, rfl, ⟨_, SqL.of (s _ _ h2)⟩, fun D hD => ?_⟩
    have pD : p ≠ D := fun e => by rw [← e, e1] at hD; cases hD
    refine lc_list (K := K) (xs := xs) (fun j H2 => ∃ bcc, H2 D = some (.lst bcc) ∧ bcc.length = j ∧ Paired (AlV H2) bcc ((as.take j).map fun a => (n, a.1, a.2)) ∧ Same H' H2) ⟨[], upd_same, rfl, .nil, same_new hD _⟩ (fun j H2 _ h => by obtain ⟨_, _, _, _, s2⟩ := h; exact SqL.of (s2 _ _ (s _ _ h2))) (fun j v H2 hv h => ?turn2) (fun H2 h => ?done2)
    case turn2 =>
      obtain ⟨bcc, f1, f2, f3, s2⟩ := h
      obtain ⟨⟨lb, row⟩, haj, ⟨ra2, rb2, rfl, g1, g2⟩⟩ := paired_get h3 j v hv
      have hj : j < as.length := (List.getElem?_eq_some_iff.mp haj).1
      refine ⟨ra2, _, rfl, SqT.of (s2 _ _ (s _ _ g1)), rfl, _, _, rfl, _, _, rfl, rfl, rfl, ?_⟩
      simp only [tYes, ↓reduceIte]
      refine ⟨_, rfl, _, rfl, _, rfl, (by show 3 ≤ sizeLine; decide), fun t ht => ?_⟩
      have u := same_new ht (.tup [.str n, .str lb, .ref rb2])
      have tD : t ≠ D := fun e => by rw [e, f1] at ht; cases ht
      have f1' := u _ _ f1
      have tk3 : Tk H2 (upd (upd H2 t (.tup [.str n, .str lb, .ref rb2])) D (.lst (bcc ++ [.ref t]))) := fun c ys e => by
        rw [upd_ne (fun q => by rw [q, f1] at e; cases e)]; exact u _ _ e
      refine ⟨bcc, f1', by rw [sizeLine_eq, f2]; omega, bcc ++ [.ref t], upd_same, by rw [List.length_append, f2]; rfl, ?_, same_upd (s2.trans u) hD⟩
      rw [List.take_add_one, haj, List.map_append]
      refine paired_snoc (paired_imp (fun _ _ r => r.tk tk3) f3) ⟨t, rb2, rfl, by rw [upd_ne tD]; exact upd_same, tk3 _ _ (s2 _ _ (s _ _ g2))⟩
    obtain ⟨bcc, f1, f2, f3, s2⟩ := h
    rw [lxs] at f2
    rw [lxs, List.take_length] at f3
    have la : acc.length = (allOf (rs.take i)).length := Paired.length pa
    refine ⟨p, D, acc, bcc, rfl, rfl, s2 _ _ e1, f1, by rw [sizeLine_eq, la, f2]; exact Nat.le_trans zal (by decide), ?_⟩
    have tk4 := Tk.lst (o := .lst (acc ++ bcc)) (s2 _ _ e1)
    refine ⟨_, _, _, _, acc ++ bcc, rfl, upd_same, ?_, same_upd (s.trans s2) hp⟩
    rw [htk, show allOf (rs.take i ++ [(n, as)]) = allOf (rs.take i) ++ as.map (fun a => (n, a.1, a.2)) by show List.flatMap _ _ = _; rw [List.flatMap_append]; simp]
    exact paired_app (paired_imp (fun _ _ r => (r.tk (Tk.of_same s2)).tk tk4) pa) (paired_imp (fun _ _ r => r.tk tk4) f3)
end
end Pa
set_option maxHeartbeats 4000000
namespace Pa
open PySem PySem.Spec PyProof.Rows L2 Ty
/-! ### comprehensions, what stands between two turns -/
def LcI {α : Type} (H : Hp) (D : Addr) (f : α → V) (ys : List α) (i : Nat) (H' : Hp) : Prop := H' D = some (.lst ((ys.take i).map f)) ∧ Same H H'
theorem LcI.start {α : Type} {H : Hp} {D : Addr} {f : α → V} {ys : List α} (hD : H D = none) : LcI H D f ys 0 (upd H D (.lst [])) := ⟨upd_same, same_new hD _⟩
theorem LcI.step {α : Type} {H H' : Hp} {D : Addr} {f : α → V} {ys : List α} {i : Nat} {y : α} (h : LcI H D f ys i H') (hD : H D = none) (hy : ys[i]? = some y) : LcI H D f ys (i + 1) (upd H' D (.lst ((ys.take i).map f ++ [f y]))) :=
  ⟨by rw [List.take_add_one, hy, List.map_append]; exact upd_same, same_upd h.2 hD⟩
theorem LcI.len {α : Type} {H H' : Hp} {D : Addr} {f : α → V} {ys : List α} {i : Nat} (h : LcI H D f ys i H') : ((ys.take i).map f).length ≤ ys.length := by rw [List.length_map, List.length_take]; omega
theorem LcI.done {α : Type} {H H' : Hp} {D : Addr} {f : α → V} {ys : List α} {n : Nat} (h : LcI H D f ys n H') (e : n = ys.length) : H' D = some (.lst (ys.map f)) ∧ Same H H' := by
  rw [e] at h
  unfold LcI at h
  rw [List.take_length] at h
  exact h
def LcR {α : Type} (H : Hp) (D : Addr) (R : Hp → V → α → Prop) (ys : List α) (i : Nat) (H' : Hp) : Prop := ∃ acc, H' D = some (.lst acc) ∧ acc.length = i ∧ Paired (R H') acc (ys.take i) ∧ Same H H'
theorem LcR.start {α : Type} {H : Hp} {D : Addr} {R : Hp → V → α → Prop} {ys : List α} (hD : H D = none) : LcR H D R ys 0 (upd H D (.lst [])) := ⟨[], upd_same, rfl, .nil, same_new hD _⟩
theorem LcR.step {α : Type} {H H' H2 : Hp} {D : Addr} {R : Hp → V → α → Prop} {ys : List α} {i : Nat} {y : α} {acc : List V} {v : V} (st : ∀ {H1 H2 v y}, Tk H1 H2 → R H1 v y → R H2 v y) (e : H' D = some (.lst acc)) (l : acc.length = i) (p : Paired (R H') acc (ys.take i)) (s : Same H H') (s2 : Same H' H2)
    (hD : H D = none) (hy : ys[i]? = some y) (r : R H2 v y) : LcR H D R ys (i + 1) (upd H2 D (.lst (acc ++ [v]))) := by
  have t : Tk H2 (upd H2 D (.lst (acc ++ [v]))) := Tk.lst (s2 _ _ e)
  refine ⟨acc ++ [v], upd_same, by rw [List.length_append, l]; rfl, ?_, same_upd (s.trans s2) hD⟩
  rw [List.take_add_one, hy, Option.toList_some]
  exact paired_snoc (paired_imp (fun _ _ r => st t (st (Tk.of_same s2) r)) p) (st t r)
theorem LcR.done {α : Type} {H H' : Hp} {D : Addr} {R : Hp → V → α → Prop} {ys : List α} {n : Nat} (h : LcR H D R ys n H') (e : n = ys.length) : ∃ acc, H' D = some (.lst acc) ∧ Paired (R H') acc ys ∧ Same H H' := by
  obtain ⟨acc, h1, _, h3, h4⟩ := h
  rw [e, List.take_length] at h3
  exact ⟨acc, h1, h3, h4⟩
/-! ### all names -/
def namesOf (W : Wor) : List Str := W.ks.map (·.1) ++ W.rs.map (·.1) ++ (allOf W.rs).map (·.2.1)
def spNames : Sp := fun vs H Q _ => ∃ (v : V) (W : Wor), vs = [v] ∧ WV H v W ∧ W.ks.length ≤ 100000 ∧ W.rs.length ≤ 100000 ∧ (altsOf W.rs).length ≤ 1000000 ∧
  ∀ p H', H p = none → H' p = some (.lst ((namesOf W).map V.str)) → Same H H' → Q (.ref p) H'
theorem scNames : FnScope ["world", "kinds", "rules", "start", "barred", "labels", "head", "label", "row", "one", "some"] ["world"] (defScope lNames) := ⟨rfl, rfl, rfl, by decide +kernel, rfl, by decide +kernel, by decide +kernel⟩
section
variable {P : Program} {w : World} {K : PySem.W.Frag} {mg : Str → Option Value} {base : Heap} {f g : Addr} {fd gd : FuncData}
theorem ok_names (F : Fun K "_law_all_names" "_law_all_names" lNames f fd) (G : FnOk P w K mg base CX0 1 g gd ["rules"] spAll) (bG : Binds K gd ["rules"] []) (kG : PySem.W.keepIn K (.ref g) = true) (mG : mg "_law_all" = some (.ref g)) :
    FnOk P w K mg base CX0 2 f fd ["world"] spNames := by
  refine F.ok scNames (fun vs H Q E h => ?_) (fun cdv A outer s0 H vs Q E hr h => ?_)
  · obtain ⟨_, _, rfl, _⟩ := h
    rfl
  obtain ⟨v, ⟨ks, rs, st, bs⟩, rfl, ⟨ww, a, b, c, ka, rb, cb, rfl, hw, ha, pa, hb, pb, hc, pc⟩, z1, z2, z3, q⟩ := h
  refine ⟨_, pss_cons (ps_asg (pv 0) (pg_lst rfl (pgs_cons (pg_name (i := 1) scNames.nd rfl (Or.inl rfl)) (pgs_cons (pg_name (i := 2) scNames.nd rfl (Or.inl rfl)) (pgs_cons (pg_name (i := 3) scNames.nd rfl (Or.inl rfl)) (pgs_cons (pg_name (i := 4) scNames.nd rfl (Or.inl rfl)) pgs_nil))))))
    (pss_cons (ps_setLc (i := 5) (own := [("head", 6), ("label", 7), ("row", 8)]) (g := gTup K 3 (gCons (gName 6) (gCons (gName 7) (gCons (gName 8) gNil)))) (tt := tYes) rfl scNames.nd rfl rfl (sw_true rfl rfl rfl (by decide +kernel)) (pi_list (pe_call G hr rfl mG kG bG .nil pass0 (pa_cons (pv 2) pa_nil))) (blkOk_by (N := ["world", "kinds", "rules", "start", "barred", "labels", "head", "label", "row", "one", "some"]) (sc := defScope lNames) (by decide +kernel)) (fun _ _ _ _ _ => pg_tup rfl (pgs_cons (pg_name (i := 6) scNames.nd rfl (Or.inl rfl)) (pgs_cons (pg_name (i := 7) scNames.nd rfl (Or.inl rfl)) (pgs_cons (pg_name (i := 8) scNames.nd rfl (Or.inl rfl)) pgs_nil)))) (fun _ _ _ _ _ => pts_nil) (fun _ _ _ _ _ => pv 7))
    (pss_one (ps_ret (pe_op op_cat (pe_op op_cat
      (pe_lc (own := [("one", 9)]) (g := gName 9) (tt := tYes) rfl scNames.nd (pi_list (pv 1)) (blkOk_by (N := ["world", "kinds", "rules", "start", "barred", "labels", "head", "label", "row", "one", "some"]) (sc := defScope lNames) (by decide +kernel)) (fun _ _ _ _ _ => pg_name (i := 9) scNames.nd rfl (Or.inl rfl)) (fun _ _ _ _ _ => pts_nil) (fun _ _ _ _ _ => pe_ix (show IxR _ (rIxT K) from ix_tup) (pv 9) pe_int (fun _ _ => rfl)))
      (pe_lc (own := [("head", 6), ("some", 10)]) (g := gTup K 2 (gCons (gName 6) (gCons (gName 10) gNil))) (tt := tYes) rfl scNames.nd (pi_list (pv 2)) (blkOk_by (N := ["world", "kinds", "rules", "start", "barred", "labels", "head", "label", "row", "one", "some"]) (sc := defScope lNames) (by decide +kernel)) (fun _ _ _ _ _ => pg_tup rfl (pgs_cons (pg_name (i := 6) scNames.nd rfl (Or.inl rfl)) (pgs_cons (pg_name (i := 10) scNames.nd rfl (Or.inl rfl)) pgs_nil))) (fun _ _ _ _ _ => pts_nil) (fun _ _ _ _ _ => pv 6)))
      (pv 5))))), ?_⟩
  replace z1 : ks.length ≤ 100000 := z1
  replace z2 : rs.length ≤ 100000 := z2
  replace z3 : (altsOf rs).length ≤ 1000000 := z3
  have lka : ka.length = ks.length := Paired.length pa
  have lrb : rb.length = rs.length := Paired.length pb
  refine ⟨_, rfl, ww, _, rfl, SqL.of hw, rfl, _, _, rfl, _, _, rfl, _, _, rfl, _, _, rfl, rfl, ?_⟩
  refine ⟨_, rfl, b, rs, rfl, ⟨rb, hb, pb⟩, z3, fun p1 xs H1 np1 e1 pa1 s1 => ⟨p1, rfl, ⟨_, SqL.of e1⟩, fun D hD => ?_⟩⟩
  have la1 : xs.length = (allOf rs).length := Paired.length pa1
  have lal := all_len rs
  refine lc_list (K := K) (xs := xs) (LcI H1 D (fun a : Str × Str × List Str => V.str a.2.1) (allOf rs)) (.start hD) (fun i H' _ h => SqL.of (h.2 _ _ e1)) (fun i v H' hv h => ?turn1) (fun H2 h => ?done1)
  case turn1 =>
    obtain ⟨⟨n, lb, row⟩, hy, ⟨ra, rb2, rfl, g1, g2⟩⟩ := paired_get pa1 i v hv
    refine ⟨ra, _, rfl, SqT.of (h.2 _ _ g1), rfl, _, _, rfl, _, _, rfl, _, _, rfl, rfl, rfl, ?_⟩
    simp only [tYes, ↓reduceIte]
    exact ⟨_, rfl, _, h.1, by rw [sizeLine_eq]; have := h.len; omega, h.step hD hy⟩
  obtain ⟨eD, s2⟩ := h.done la1
  have s12 : Same H H2 := s1.trans s2
  refine ⟨_, rfl, a, rfl, ⟨_, SqL.of (s12 _ _ ha)⟩, fun D2 hD2 => ?_⟩
  refine lc_list (K := K) (xs := ka) (LcI H2 D2 (fun k : Str × Pat × Bool => V.str k.1) ks) (.start hD2) (fun i H' _ h => SqL.of (h.2 _ _ (s12 _ _ ha))) (fun i v H' hv h => ?turn2) (fun H3 h3 => ?done2)
  case turn2 =>
    obtain ⟨k, hy, ⟨ra, u, rfl, g1, g2⟩⟩ := paired_get pa i v hv
    refine ⟨rfl, ?_⟩
    simp only [tYes, ↓reduceIte]
    exact ⟨_, rfl, ra, _, _, _, rfl, rfl, SqT.of (h.2 _ _ (s12 _ _ g1)), at_zero, _, h.1, by rw [sizeLine_eq]; have := h.len; omega, h.step hD2 hy⟩
  obtain ⟨eD2, s3⟩ := h3.done lka
  have s13 : Same H H3 := s12.trans s3
  refine ⟨_, rfl, b, rfl, ⟨_, SqL.of (s13 _ _ hb)⟩, fun D3 hD3 => ?_⟩
  refine lc_list (K := K) (xs := rb) (LcI H3 D3 (fun r : Str × List (Str × List Str) => V.str r.1) rs) (.start hD3) (fun i H' _ h => SqL.of (h.2 _ _ (s13 _ _ hb))) (fun i v H' hv h => ?turn3) (fun H4 h4 => ?done3)
  case turn3 =>
    obtain ⟨k, hy, ⟨ra, u, ys, rfl, g1, g2⟩⟩ := paired_get pb i v hv
    refine ⟨ra, _, rfl, SqT.of (h.2 _ _ (s13 _ _ g1)), rfl, _, _, rfl, _, _, rfl, rfl, rfl, ?_⟩
    simp only [tYes, ↓reduceIte]
    exact ⟨_, rfl, _, h.1, by rw [sizeLine_eq]; have := h.len; omega, h.step hD3 hy⟩
  obtain ⟨eD3, s4⟩ := h4.done lrb
  have eD2' := s4 _ _ eD2
  have eD' := s4 _ _ (s3 _ _ eD)
  have s14 : Same H H4 := s13.trans s4
  refine ⟨D2, D3, _, _, rfl, rfl, eD2', eD3, by rw [List.length_map, List.length_map, sizeLine_eq]; omega, fun p5 hp5 => ?_⟩
  have u5 := same_new hp5 (.lst (ks.map (fun k : Str × Pat × Bool => V.str k.1) ++ rs.map (fun r : Str × List (Str × List Str) => V.str r.1)))
  refine ⟨_, rfl, p5, D, _, _, rfl, rfl, upd_same, u5 _ _ eD', by rw [List.length_append, List.length_map, List.length_map, List.length_map, sizeLine_eq]; omega, fun p6 hp6 => ?_⟩
  refine q p6 _ (new_of (s14.trans u5) hp6) ?_ (s14.trans (u5.trans (same_new hp6 _)))
  rw [upd_same]
  unfold namesOf
  rw [List.map_append, List.map_append, List.map_map, List.map_map, List.map_map]
  rfl
end
end Pa
set_option maxHeartbeats 4000000
namespace Pa
open PySem PySem.Spec PyProof.Rows L2 Ty
theorem aux_rest2 {X C0 : Int → Hp → Prop} {M : Prop} (f : (∀ r H, C0 r H → X r H) → M) (r : ∀ r H, C0 r H → X r H) : M := f r
/-! ### patterns drawn -/
def PW : Pat → Prop
  | .sg x => x.length ≤ 3 ∧ ∀ c, c ∈ x.cps.toList → c < 128
  | .em => True
  | .th a b => PW a ∧ PW b
  | .oo a b => PW a ∧ PW b
  | .ag a => PW a
  | .mo a => PW a
  | .mb a => PW a
theorem words_low : ∀ x : Str, x ∈ (["signs", "empty", "then", "or", "again", "more", "maybe"] : List Str) → x.length ≤ 5 ∧ ∀ c, c ∈ x.cps.toList → c < 128 := by decide +kernel
theorem pat_wd : ∀ {p : Pat}, PW p → wd (patD p) ≤ 110 * sizeP p
  | .sg x, h => by
    have := h.1
    have e : ("signs" : Str).length = 5 := by decide +kernel
    simp only [patD, wd, wds, sizeP, e]; omega
  | .em, _ => by
    have e : ("empty" : Str).length = 5 := by decide +kernel
    simp only [patD, wd, wds, sizeP, e]; omega
  | .th a b, h => by
    have e : ("then" : Str).length = 4 := by decide +kernel
    have h1 := pat_wd h.1
    have h2 := pat_wd h.2
    simp only [patD, wd, wds, sizeP, e]; omega
  | .oo a b, h => by
    have e : ("or" : Str).length = 2 := by decide +kernel
    have h1 := pat_wd h.1
    have h2 := pat_wd h.2
    simp only [patD, wd, wds, sizeP, e]; omega
  | .ag a, h => by
    have e : ("again" : Str).length = 5 := by decide +kernel
    have h1 := pat_wd (p := a) h
    simp only [patD, wd, wds, sizeP, e]; omega
  | .mo a, h => by
    have e : ("more" : Str).length = 4 := by decide +kernel
    have h1 := pat_wd (p := a) h
    simp only [patD, wd, wds, sizeP, e]; omega
  | .mb a, h => by
    have e : ("maybe" : Str).length = 5 := by decide +kernel
    have h1 := pat_wd (p := a) h
    simp only [patD, wd, wds, sizeP, e]; omega
theorem two_fi {n : Nat} {ds : List PyData} (h : ∀ d, d ∈ ds → Fi n d) : Fi (n + 1) (.tuple ds) := .tup h
theorem pat_fi : ∀ {p : Pat}, PW p → Fi (deepP p) (patD p)
  | .sg x, h => .tup fun d hd => by
    simp only [List.mem_cons, List.not_mem_nil, or_false] at hd
    rcases hd with rfl | rfl
    · exact .str (words_low _ (by simp)).2
    · exact .str h.2
  | .em, _ => .tup fun d hd => by
    rw [List.mem_singleton.mp hd]
    exact .str (words_low _ (by simp)).2
  | .th a b, h => .tup fun d hd => by
    simp only [List.mem_cons, List.not_mem_nil, or_false] at hd
    rcases hd with rfl | rfl | rfl
    · exact .str (words_low _ (by simp)).2
    · exact (pat_fi h.1).mono (Nat.le_max_left _ _)
    · exact (pat_fi h.2).mono (Nat.le_max_right _ _)
  | .oo a b, h => .tup fun d hd => by
    simp only [List.mem_cons, List.not_mem_nil, or_false] at hd
    rcases hd with rfl | rfl | rfl
    · exact .str (words_low _ (by simp)).2
    · exact (pat_fi h.1).mono (Nat.le_max_left _ _)
    · exact (pat_fi h.2).mono (Nat.le_max_right _ _)
  | .ag a, h => .tup fun d hd => by
    simp only [List.mem_cons, List.not_mem_nil, or_false] at hd
    rcases hd with rfl | rfl
    · exact .str (words_low _ (by simp)).2
    · exact pat_fi (p := a) h
  | .mo a, h => .tup fun d hd => by
    simp only [List.mem_cons, List.not_mem_nil, or_false] at hd
    rcases hd with rfl | rfl
    · exact .str (words_low _ (by simp)).2
    · exact pat_fi (p := a) h
  | .mb a, h => .tup fun d hd => by
    simp only [List.mem_cons, List.not_mem_nil, or_false] at hd
    rcases hd with rfl | rfl
    · exact .str (words_low _ (by simp)).2
    · exact pat_fi (p := a) h
def sgS : Str := "\n !\"#()*+,\
  -.0129:;[\\]abcxyz|"
theorem sgS_low : sgS.length = 28 ∧ ∀ c, c ∈ sgS.cps.toList → c < 128 := by decide +kernel
def nd : Nat → Nat
  | 0 => 6
  | k + 1 => 2 * nd k + 6
def ms : Nat → Nat
  | 0 => 1
  | k + 1 => 2 * ms k + 1
def mm : Nat → Nat
  | 0 => 1
  | k + 1 => 2 * mm k
theorem nd_six : ∀ k, 6 ≤ nd k
  | 0 => Nat.le_refl _
  | k + 1 => by unfold nd; omega
theorem ms_one : ∀ k, 1 ≤ ms k
  | 0 => Nat.le_refl _
  | k + 1 => by unfold ms; omega
theorem mm_one : ∀ k, 1 ≤ mm k
  | 0 => Nat.le_refl _
  | k + 1 => by have := mm_one k; unfold mm; omega
def DrawnP (j : Addr) (H : Hp) (C D S M : Nat) (Q : VK) : Prop := ∀ (v : V) (p : Pat) (H' : Hp), RP H' p v → PW p → deepP p ≤ D → sizeP p ≤ S → cntP p ≤ M → Jar j H' C → Keep j H H' → Q v H'
def spPattern (n : Nat) : Sp := fun vs H Q _ => ∃ (j : Addr) (C k : Nat), vs = [.ref j, .int (k : Nat)] ∧ k < n ∧ Jar j H C ∧ C + nd k ≤ 999998000 ∧ DrawnP j H (C + nd k) (k + 1) (ms k) (mm k) Q
theorem scPattern : FnScope ["purse", "deep", "signs", "way", "some", "one", "k"] ["purse", "deep"] (defScope lPattern) := ⟨rfl, rfl, rfl, by decide +kernel, rfl, by decide +kernel, by decide +kernel⟩
section
variable {P : Program} {w : World} {K : PySem.W.Frag} {mg : Str → Option Value} {base : Heap} {f g : Addr} {fd gd : FuncData}
theorem pattern_left : FnOk P w K mg base CX0 1 f fd ["purse", "deep"] (spPattern 0) := by
  have no : ∀ vs H Q E, ¬ spPattern 0 vs H Q E := fun vs H Q E h => by
    obtain ⟨j, C, k, _, h, _⟩ := h
    omega
  exact ⟨fun vs H Q E h => absurd h (no vs H Q E), fun A outer s H args us vs Q E _ _ _ _ h => absurd h (no vs H Q E)⟩
theorem ok_pattern {n : Nat} (F : Fun K "_law_pattern" "_law_pattern" lPattern f fd) (GM : FnOk P w K mg base CX0 (n + 1) f fd ["purse", "deep"] (spPattern n)) (bF : Binds K fd ["purse", "deep"] []) (mF : mg "_law_pattern" = some (.ref f))
    (G : FnOk P w K mg base CX0 1 g gd ["purse", "many"] spDrawn) (bG : Binds K gd ["purse", "many"] []) (kG : PySem.W.keepIn K (.ref g) = true) (mG : mg "_law_drawn" = some (.ref g))
    (mso : mg "sorted" = none) (mse : mg "set" = none) (mr : mg "range" = none) (ml : mg "len" = none) :
    FnOk P w K mg base CX0 (n + 2) f fd ["purse", "deep"] (spPattern (n + 1)) := by
  refine F.ok scPattern (fun vs H Q E h => ?_) (fun cdv A outer s H vs Q E hr h => ?_)
  · obtain ⟨j, C, k, rfl, _⟩ := h
    rfl
  obtain ⟨j, C, k, rfl, hk, hj, hC, q⟩ := h
  have G' := G.mono (show 1 ≤ n + 1 by omega)
  have h6 := nd_six k
  have h1 := ms_one k
  have h3 := mm_one k
  refine ⟨_, pss_cons (ps_set (i := 2) scPattern.nd rfl (.inr rfl) pe_str)
    (pss_cons (ps_set (i := 3) scPattern.nd rfl (.inl rfl) pe_int)
    (pss_cons (ps_if (pt_cmpR op_gt (pv 1) pe_int (nomark _)) (pss_one (ps_set (i := 3) scPattern.nd rfl (.inl rfl) (pe_call G' hr rfl mG kG bG .nil pass0 (pa_cons (pv 0) (pa_cons pe_int pa_nil))))) pss_nil)
    (pss_cons (ps_if (pt_cmpR op_lt (pv 3) pe_int (nomark _))
      (pss_cons (ps_setLc (i := 4) (own := [("k", 6)]) (g := gName 6) (tt := tYes) rfl scPattern.nd rfl rfl (sw_true rfl rfl rfl (by decide +kernel)) (pi_range1 rfl mr (pa_cons (pe_op op_add pe_int (pe_call G' hr rfl mG kG bG .nil pass0 (pa_cons (pv 0) (pa_cons pe_int pa_nil)))) pa_nil)) (blkOk_by (N := ["purse", "deep", "signs", "way", "some", "one", "k"]) (sc := defScope lPattern) (by decide +kernel)) (fun _ _ _ _ _ => pg_name (i := 6) scPattern.nd rfl (Or.inl rfl)) (fun _ _ _ _ _ => pts_nil)
          (fun _ _ _ _ _ => pe_ix ix_str (pv 2) (pe_call G' hr rfl mG kG bG .nil pass0 (pa_cons (pv 0) (pa_cons (pe_callB call_len_str rfl ml PySem.boot_len (pa_cons (pv 2) pa_nil)) pa_nil))) (fun _ _ => rfl)))
      (pss_one (ps_ret (pe_tup (pa_cons pe_str (pa_cons (pe_join pe_str (pe_callB (cr_sortedTx rfl) rfl mso (by decide +kernel) (pa_cons (pe_callTy (cr_setTx rfl) rfl mse (by decide +kernel) (pa_cons (pv 4) pa_nil)) pa_nil))) pa_nil)))))) pss_nil)
    (pss_cons (ps_set (i := 5) scPattern.nd rfl (.inl rfl) (pe_call GM hr rfl mF F.kp bF .nil pass0 (pa_cons (pv 0) (pa_cons (pe_op op_sub (pv 1) pe_int) pa_nil))))
    (pss_cons (ps_if (pt_cmpR op_lt (pv 3) pe_int (nomark _))
      (pss_one (ps_ret (pe_tup (pa_cons (pe_ix ix_list (pe_lst (pa_cons pe_str (pa_cons pe_str pa_nil))) (pe_op op_sub (pv 3) pe_int) (fun _ _ => rfl)) (pa_cons (pv 5) (pa_cons (pe_call GM hr rfl mF F.kp bF .nil pass0 (pa_cons (pv 0) (pa_cons (pe_op op_sub (pv 1) pe_int) pa_nil))) pa_nil)))))) pss_nil)
    (pss_cons (ps_if (pt_cmpR op_eq (pv 3) pe_int (nomark _))
      (pss_one (ps_ret (pe_ix ix_list (pe_lst (pa_cons (pe_tup (pa_cons pe_str pa_nil)) (pa_cons (pe_tup (pa_cons pe_str (pa_cons (pv 5) pa_nil))) pa_nil))) (pe_call G' hr rfl mG kG bG .nil pass0 (pa_cons (pv 0) (pa_cons pe_int pa_nil))) (fun _ _ => rfl)))) pss_nil)
    (pss_one (ps_ret (pe_tup (pa_cons (pe_ix ix_list (pe_lst (pa_cons pe_str (pa_cons pe_str pa_nil))) (pe_op op_sub (pv 3) pe_int) (fun _ _ => rfl)) (pa_cons (pv 5) pa_nil))))))))))), ?_⟩
  refine ⟨_, rfl, _, _, rfl, rfl, _, rfl, ?_⟩
  have hyl : sgS.length ≤ sizeLine := by rw [sgS_low.1]; decide
  refine' aux_rest2 (C0 := fun r H1 => 0 ≤ r ∧ r < 9 ∧ (k = 0 → r = 0) ∧ Jar j H1 (C + 1) ∧ Keep j H H1) (fun hR => ?main) ?rest
  case main =>
    refine ite2 (fun c => ?_) (fun c => ?_)
    · have c' : (k : Int) > 0 := of_decide_eq_true c
      refine ⟨_, rfl, j, C, 9, rfl, hj, by omega, by decide, by decide, fun r H1 r0 r1 hj1 kp1 => ?_⟩
      exact hR r H1 ⟨r0, r1, fun e => by omega, hj1, kp1⟩
    · exact hR 0 H ⟨by decide, by decide, fun _ => rfl, hj.mono (by omega), Keep.refl⟩
  rintro r H1 ⟨r0, r9, rk, hj1, kp1⟩
  refine ⟨_, rfl, _, _, rfl, rfl, _, rfl, ?_⟩
  refine ite2 (fun c => ?leaf) (fun c => ?more)
  case leaf =>
    refine ⟨_, rfl, j, C + 1, 3, rfl, hj1, by omega, by decide, by decide, fun r2 H2 r20 r21 hj2 kp2 => ?_⟩
    refine ⟨_, _, rfl, rfl, _, rfl, by omega, by omega, fun D hD => ?_⟩
    have hDj := hj2.ne hD
    have k3 : Keep j H H2 := kp1.trans kp2
    refine lc_range (lo := 0) (n := (1 + r2).toNat) (fun i H' => ∃ ys : List Str, H' D = some (.lst (ys.map V.str)) ∧ ys.length = i ∧ Ones ys ∧ Jar j H' (C + 2 + i) ∧ Keep j H H') ⟨[], upd_same, rfl, (fun _ h => by cases h), hj2.keep (same_new hD _), k3.trans (keep_new hD _)⟩ (fun i H' hi p => ?_) (fun H' p => ?_)
    · obtain ⟨ys, hys, hl, ho, hj', kp'⟩ := p
      refine ⟨rfl, ?_⟩
      simp only [tYes, ↓reduceIte]
      refine ⟨_, rfl, _, rfl, _, rfl, sgS, rfl, hyl, j, C + 2 + i, _, rfl, hj', by omega, by rw [sgS_low.1]; decide, by rw [sgS_low.1]; decide, fun r3 H3 r30 r31 hj3 kp3 => ?_⟩
      have hyc : sgS.cps.toList.length = sgS.length := Array.length_toList
      obtain ⟨c, hc1, hc2⟩ := at_in (l := sgS.cps.toList) r30 (by rw [hyc]; exact r31)
      refine ⟨sgS, _, c, rfl, rfl, hyl, hc1, _, kp3 _ _ hDj hys, by rw [List.length_map, sizeLine_eq]; omega, ys ++ [⟨#[c]⟩], ?_, ?_, ?_, ?_, ?_⟩
      · rw [upd_same, List.map_append]
        rfl
      · rw [List.length_append, hl]; rfl
      · intro z hz
        rcases List.mem_append.mp hz with h | h
        · exact ho z h
        · exact ⟨c, sgS_low.2 c (List.mem_of_getElem? hc2), List.mem_singleton.mp h⟩
      · exact (hj3.upd hDj).mono (by omega)
      · intro b o hb ho
        rw [upd_ne (ne_of_none (k3 b o hb ho) hD)]
        exact kp3 b o hb (kp' b o hb ho)
    · obtain ⟨ys, hys, hl, ho, hj', kp'⟩ := p
      have h4 : ys.length ≤ 3 := by rw [hl]; omega
      refine ⟨⟨_, rfl⟩, _, rfl, D, ys, rfl, SqL.of hys, by show ys.length + 1 < 4096; omega, fun p2 hp2 => ?_⟩
      have hgl := gather_len ys ([] : List Str)
      rw [List.length_nil, Nat.zero_add] at hgl
      have n2 := same_new hp2 (SetTx P w p2 (gather [] ys))
      refine ⟨p2, gather [] ys, rfl, upd_same, by omega, fun zs p3 pm hs hp3 => ?_⟩
      have hzl : zs.length ≤ 3 := by rw [pm.length_eq]; omega
      have hzm : ∀ z, z ∈ zs ↔ z ∈ ys := fun z => by rw [pm.mem_iff, mem_gather]; simp
      have hzo : Ones zs := fun z hz => ho z ((hzm z).mp hz)
      obtain ⟨l, rfl, hlow⟩ := hzo.codes
      rw [List.length_map] at hzl
      have n3 := same_new hp3 (.lst ((l.map fun c => (⟨#[c]⟩ : Str)).map V.str))
      refine ⟨_, p3, _, rfl, rfl, .inl (SqL.of upd_same), ?_, ?_⟩
      · rw [ones_sum]
        show _ + _ * 0 ≤ _
        omega
      · rw [join_one]
        refine ⟨(by show 2 ≤ sizeLine; decide), fun p4 hp4 => ?_⟩
        have s4 := (n2.trans n3).trans (same_new hp4 (.tup [.str "signs", .str ⟨l.toArray⟩]))
        have hj4 := hj'.keep s4
        exact q _ (.sg ⟨l.toArray⟩) _ ⟨p4, rfl, upd_same⟩ ⟨by show l.toArray.size ≤ 3; rw [List.size_toArray]; exact hzl, hlow⟩ (by show 1 ≤ _; omega) h1 h3 (hj4.mono (by omega)) (kp'.trans (Keep.of_same s4))
  case more =>
    have c2' : ¬ r < 4 := of_decide_eq_false (Bool.eq_false_iff.mpr c)
    obtain ⟨k, rfl⟩ : ∃ k', k = k' + 1 := ⟨k - 1, by
      by_cases e : k = 0
      · have := rk e; omega
      · omega⟩
    have hdeep : ((k + 1 : Nat) : Int) - 1 = (k : Nat) := by omega
    have end1 : nd (k + 1) = 2 * nd k + 6 := rfl
    have ems : ms (k + 1) = 2 * ms k + 1 := rfl
    have emm : mm (k + 1) = 2 * mm k := rfl
    have h6' := nd_six k
    have h1' := ms_one k
    have h3' := mm_one k
    refine ⟨_, rfl, _, rfl, _, _, rfl, rfl, j, C + 1, k, ?_, by omega, hj1, by omega, fun v1 d1 H2 rd1 wd1 dd1 sd1 md1 jd1 kd1 => ?_⟩
    · show [V.ref j, V.int (((k + 1 : Nat) : Int) - 1)] ++ [] = _
      rw [hdeep]; rfl
    refine ⟨_, rfl, _, _, rfl, rfl, _, rfl, ?_⟩
    refine ite2 (fun c4 => ?_) (fun c4 => ?_)
    · have c4' : r < 6 := of_decide_eq_true c4
      refine ⟨(by show 2 ≤ sizeLine; decide), fun p hp => ?_⟩
      have s3 := same_new hp (.lst [.str "then", .str "or"])
      obtain ⟨y, hy1, hy2⟩ : ∃ y : Str, atI [V.str "then", V.str "or"] (r - 4) = some (.str y) ∧ (y = "then" ∨ y = "or") := by
        have h : r = 4 ∨ r = 5 := by omega
        rcases h with rfl | rfl
        · exact ⟨_, rfl, .inl rfl⟩
        · exact ⟨_, rfl, .inr rfl⟩
      refine ⟨_, rfl, _, _, rfl, rfl, p, _, _, _, rfl, rfl, SqL.of upd_same, hy1, _, rfl, _, rfl, _, rfl, _, _, rfl, rfl, j, C + 1 + nd k, k, ?_, by omega, jd1.keep s3, by omega, fun v2 d2 H3 rd2 wd2 dd2 sd2 md2 jd2 kd2 => ?_⟩
      · show [V.ref j, V.int (((k + 1 : Nat) : Int) - 1)] ++ [] = _
        rw [hdeep]; rfl
      refine ⟨(by show 3 ≤ sizeLine; decide), fun p2 hp2 => ?_⟩
      have s4 := same_new hp2 (.tup [.str y, v1, v2])
      have rd1' := (rd1.tk (Tk.of_same s3)).tk (Tk.of_keep (jd1.keep s3) kd2)
      have kA := kp1.trans (kd1.trans ((Keep.of_same s3).trans (kd2.trans (Keep.of_same s4))))
      rcases hy2 with rfl | rfl
      · exact q _ (.th d1 d2) _ ⟨p2, v1, v2, rfl, upd_same, rd1'.tk (Tk.of_same s4), rd2.tk (Tk.of_same s4)⟩ ⟨wd1, wd2⟩ (by show max _ _ + 1 ≤ _; omega) (by show _ + _ + 1 ≤ _; omega) (by show cntP d1 + cntP d2 ≤ _; omega) ((jd2.keep s4).mono (by omega)) kA
      · exact q _ (.oo d1 d2) _ ⟨p2, v1, v2, rfl, upd_same, rd1'.tk (Tk.of_same s4), rd2.tk (Tk.of_same s4)⟩ ⟨wd1, wd2⟩ (by show max _ _ + 1 ≤ _; omega) (by show _ + _ + 1 ≤ _; omega) (by show cntP d1 + cntP d2 ≤ _; omega) ((jd2.keep s4).mono (by omega)) kA
    have c4' : ¬ r < 6 := of_decide_eq_false (Bool.eq_false_iff.mpr c4)
    refine ⟨_, rfl, rfl, _, rfl, ?_⟩
    refine ite2 (fun c5 => ?_) (fun c5 => ?_)
    · refine ⟨(by show 1 ≤ sizeLine; decide), fun p0 hp0 => ⟨_, rfl, (by show 2 ≤ sizeLine; decide), fun p1 hp1 => ⟨(by show 2 ≤ sizeLine; decide), fun p2 hp2 => ?_⟩⟩⟩
      have s3 := same_new hp0 (.tup [.str "empty"])
      have s4 := same_new hp1 (.tup [.str "again", v1])
      have s5 := same_new hp2 (.lst [.ref p0, .ref p1])
      have sA := (s3.trans s4).trans s5
      have e0 : (upd (upd (upd H2 p0 (.tup [.str "empty"])) p1 (.tup [.str "again", v1])) p2 (.lst [.ref p0, .ref p1])) p0 = some (.tup [.str "empty"]) := (s4.trans s5) _ _ upd_same
      have e1 : (upd (upd (upd H2 p0 (.tup [.str "empty"])) p1 (.tup [.str "again", v1])) p2 (.lst [.ref p0, .ref p1])) p1 = some (.tup [.str "again", v1]) := s5 _ _ upd_same
      have e2 : (upd (upd (upd H2 p0 (.tup [.str "empty"])) p1 (.tup [.str "again", v1])) p2 (.lst [.ref p0, .ref p1])) p2 = some (.lst [.ref p0, .ref p1]) := upd_same
      have j5 := jd1.keep sA
      refine ⟨_, rfl, j, C + 1 + nd k, 2, rfl, j5, by omega, by decide, by decide, fun r3 H3 r30 r31 j6 kp3 => ?_⟩
      have t3 := Tk.of_keep j5 kp3
      have e2' := kp3 _ _ (jar_ne j5 e2 (by simp)) e2
      have kA := kp1.trans (kd1.trans ((Keep.of_same sA).trans kp3))
      have hr3 : r3 = 0 ∨ r3 = 1 := by omega
      rcases hr3 with rfl | rfl
      · exact ⟨p2, _, _, _, rfl, rfl, SqL.of e2', rfl, q _ .em _ ⟨p0, rfl, t3 _ _ e0⟩ trivial (by show 1 ≤ _; omega) h1 (Nat.zero_le _) (j6.mono (by omega)) kA⟩
      · exact ⟨p2, _, _, _, rfl, rfl, SqL.of e2', rfl, q _ (.ag d1) _ ⟨p1, v1, rfl, t3 _ _ e1, (rd1.tk (Tk.of_same sA)).tk t3⟩ wd1 (by show _ + 1 ≤ _; omega) (by show _ + 1 ≤ _; omega) (by show cntP d1 ≤ _; omega) (j6.mono (by omega)) kA⟩
    have c5' : r ≠ 8 := fun e => of_decide_eq_false (Bool.eq_false_iff.mpr c5) (by rw [e])
    refine ⟨(by show 2 ≤ sizeLine; decide), fun p hp => ?_⟩
    have s3 := same_new hp (.lst [.str "more", .str "maybe"])
    obtain ⟨y, hy1, hy2⟩ : ∃ y : Str, atI [V.str "more", V.str "maybe"] (r - 6) = some (.str y) ∧ (y = "more" ∨ y = "maybe") := by
      have h : r = 6 ∨ r = 7 := by omega
      rcases h with rfl | rfl
      · exact ⟨_, rfl, .inl rfl⟩
      · exact ⟨_, rfl, .inr rfl⟩
    refine ⟨_, rfl, _, _, rfl, rfl, p, _, _, _, rfl, rfl, SqL.of upd_same, hy1, _, rfl, (by show 2 ≤ sizeLine; decide), fun p2 hp2 => ?_⟩
    have s4 := same_new hp2 (.tup [.str y, v1])
    have rd1' := (rd1.tk (Tk.of_same s3)).tk (Tk.of_same s4)
    have kA := kp1.trans (kd1.trans ((Keep.of_same s3).trans (Keep.of_same s4)))
    rcases hy2 with rfl | rfl
    · exact q _ (.mo d1) _ ⟨p2, v1, rfl, upd_same, rd1'⟩ wd1 (by show _ + 1 ≤ _; omega) (by show _ + 1 ≤ _; omega) (by show cntP d1 ≤ _; omega) (((jd1.keep s3).keep s4).mono (by omega)) kA
    · exact q _ (.mb d1) _ ⟨p2, v1, rfl, upd_same, rd1'⟩ wd1 (by show _ + 1 ≤ _; omega) (by show _ + 1 ≤ _; omega) (by show cntP d1 ≤ _; omega) (((jd1.keep s3).keep s4).mono (by omega)) kA
end
end Pa
set_option maxHeartbeats 4000000
namespace Pa
open PySem PySem.Spec PyProof.Rows L2 Ty
/-! ### unlike names -/
abbrev Tx (l : List Nat) : Str := ⟨l.toArray⟩
theorem tx_list (l : List Nat) : (Tx l).cps.toList = l := rfl
theorem tx_len (l : List Nat) : (Tx l).length = l.length := by show l.toArray.size = _; rw [List.size_toArray]
theorem tx_app (a b : List Nat) : (Tx a) ++ (Tx b) = Tx (a ++ b) := by
  refine str_of_list ?_
  rw [Str.cps_append, Array.toList_append]
theorem tx_inj {a b : List Nat} (h : Tx a = Tx b) : a = b := by
  have := congrArg (fun x : Str => x.cps.toList) h
  exact this
theorem tx_to (l : List Nat) (n : Nat) : cutS (Tx l) none (some (n : Int)) = Tx (l.take n) := by
  refine str_of_list ?_
  unfold cutS
  rw [HT.sIx_nat, tx_len]
  show (l.drop 0).take (min n l.length - 0) = l.take n
  rw [List.drop_zero, Nat.sub_zero]
  by_cases h : n ≤ l.length
  · rw [Nat.min_eq_left h]
  · rw [Nat.min_eq_right (by omega), List.take_of_length_le (Nat.le_refl _), List.take_of_length_le (by omega)]
theorem tx_from (l : List Nat) (n : Nat) : cutS (Tx l) (some (n : Int)) none = Tx (l.drop n) := by
  refine str_of_list ?_
  unfold cutS
  rw [HT.sIx_nat, tx_len]
  show (l.drop (min n l.length)).take (l.length - min n l.length) = l.drop n
  rw [List.take_of_length_le (by rw [List.length_drop]; omega)]
  by_cases h : n ≤ l.length
  · rw [Nat.min_eq_left h]
  · rw [Nat.min_eq_right (by omega), List.drop_eq_nil_of_le (by omega), List.drop_eq_nil_of_le (by omega)]
theorem kept_len : ∀ x, x ∈ kept → x.length = 3 ∨ x.length = 4 := by decide +kernel
theorem letters_get {n : Nat} (h : n < 26) : letters[n]? = some (97 + n) := by
  unfold letters
  rw [List.getElem?_range' h]
  simp
theorem letters_in {n : Nat} (h : n < 26) : 97 + n ∈ letters := List.mem_of_getElem? (letters_get h)
theorem letters_low : ∀ c, c ∈ letters → c < 128 := by decide +kernel
def NmG (x : Str) : Prop := nameP x = true ∧ (x.length = 1 ∨ x.length = 2 ∨ x.length = 8) ∧ Nm x
theorem nmg_of {l : List Nat} (h : l.length = 1 ∨ l.length = 2 ∨ l.length = 8) (hl : ∀ c, c ∈ l → c ∈ letters) : NmG (Tx l) := by
  have e := tx_len l
  refine ⟨?_, by rw [e]; exact h, by rw [e]; omega, fun c hc => letters_low c (hl c hc)⟩
  unfold nameP
  rw [decide_eq_false (fun m => by have := kept_len _ m; rw [e] at this; omega), decide_eq_true (show 1 ≤ (Tx l).length by rw [e]; omega), decide_eq_true (show (Tx l).length ≤ 8 by rw [e]; omega)]
  have : (Tx l).cps.toList.all (fun c => decide (c ∈ letters)) = true := by
    rw [List.all_eq_true]
    intro c hc
    exact decide_eq_true (hl c hc)
  rw [this]
  rfl
/-- the k-th name -/
def nmC (st : Nat) (stem : List Nat) (t sh k : Nat) : List Nat :=
  if st = 0 then [97 + (sh + k) % 26, 97 + sh] else if st = 1 then stem.take t ++ [97 + (sh + k) % 26, 97 + sh] ++ stem.drop t else [97 + (sh + k) % 26]
theorem nmC_ok {st : Nat} {stem : List Nat} {t sh k : Nat} (hs : stem.length = 6) (hl : ∀ c, c ∈ stem → c ∈ letters) (h : sh < 26) : NmG (Tx (nmC st stem t sh k)) := by
  have h1 := letters_in (n := (sh + k) % 26) (by omega)
  have h2 := letters_in h
  unfold nmC
  by_cases e0 : st = 0
  · rw [if_pos e0]
    exact nmg_of (.inr (.inl rfl)) fun c hc => by
      simp only [List.mem_cons, List.not_mem_nil, or_false] at hc
      rcases hc with rfl | rfl <;> assumption
  rw [if_neg e0]
  by_cases e1 : st = 1
  · rw [if_pos e1]
    refine nmg_of (.inr (.inr ?_)) fun c hc => ?_
    · rw [List.length_append, List.length_append, List.length_take, List.length_drop]
      show min t stem.length + 2 + _ = 8
      omega
    · rcases List.mem_append.mp hc with hc | hc
      · rcases List.mem_append.mp hc with hc | hc
        · exact hl c (List.mem_of_mem_take hc)
        · simp only [List.mem_cons, List.not_mem_nil, or_false] at hc
          rcases hc with rfl | rfl <;> assumption
      · exact hl c (List.mem_of_mem_drop hc)
  · rw [if_neg e1]
    exact nmg_of (.inl rfl) fun c hc => by
      rw [List.mem_singleton.mp hc]; exact h1
theorem nmC_inj {st : Nat} {stem : List Nat} {t sh k l : Nat} (hk : k < 26) (hl : l < 26) (h : nmC st stem t sh k = nmC st stem t sh l) : k = l := by
  have key : 97 + (sh + k) % 26 = 97 + (sh + l) % 26 := by
    unfold nmC at h
    by_cases e0 : st = 0
    · rw [if_pos e0, if_pos e0] at h
      exact (List.cons.inj h).1
    rw [if_neg e0, if_neg e0] at h
    by_cases e1 : st = 1
    · rw [if_pos e1, if_pos e1, List.append_assoc, List.append_assoc] at h
      exact (List.cons.inj (List.append_cancel_left h)).1
    · rw [if_neg e1, if_neg e1] at h
      exact (List.cons.inj h).1
  omega
def nmS (st : Nat) (stem : List Nat) (t sh : Nat) (k : Nat) : Str := Tx (nmC st stem t sh k)
theorem nms_nodup {st : Nat} {stem : List Nat} {t sh m : Nat} (hm : m ≤ 26) : ((List.range m).map (nmS st stem t sh)).Nodup := by
  refine List.Pairwise.map _ (fun a b h => h) ?_
  refine List.Pairwise.imp_of_mem (R := fun a b => a ≠ b) (fun {a b} ha hb hne e => hne ?_) List.nodup_range
  exact nmC_inj (by have := List.mem_range.mp ha; omega) (by have := List.mem_range.mp hb; omega) (tx_inj e)
theorem aux_rest3 {α : Type} {X C0 : α → Prop} {M : Prop} (f : (∀ y, C0 y → X y) → M) (r : ∀ y, C0 y → X y) : M := f r
def spNamed : Sp := fun vs H Q _ => ∃ (j : Addr) (C m : Nat), vs = [.ref j, .int (m : Nat)] ∧ m ≤ 26 ∧ Jar j H C ∧ C ≤ 999999000 ∧
  ∀ (p : Addr) (ns : List Str) (H' : Hp), H p = none → p ≠ j → H' p = some (.lst (ns.map V.str)) → ns.length = m → ns.Nodup → (∀ x, x ∈ ns → NmG x) → Jar j H' (C + 9) → Keep j H H' → Q (.ref p) H'
theorem scNamed : FnScope ["purse", "many", "letters", "style", "k", "stem", "at", "shift", "found", "pair"] ["purse", "many"] (defScope lNamed) := ⟨rfl, rfl, rfl, by decide +kernel, rfl, by decide +kernel, by decide +kernel⟩
section
variable {P : Program} {w : World} {K : PySem.W.Frag} {mg : Str → Option Value} {base : Heap} {f g : Addr} {fd gd : FuncData}
theorem ok_named (F : Fun K "_law_named" "_law_named" lNamed f fd)
    (G : FnOk P w K mg base CX0 1 g gd ["purse", "many"] spDrawn) (bG : Binds K gd ["purse", "many"] []) (kG : PySem.W.keepIn K (.ref g) = true) (mG : mg "_law_drawn" = some (.ref g)) (mr : mg "range" = none) :
    FnOk P w K mg base CX0 2 f fd ["purse", "many"] spNamed := by
  refine F.ok scNamed (fun vs H Q E h => ?_) (fun cdv A outer s H vs Q E hr h => ?_)
  · obtain ⟨j, C, k, rfl, _⟩ := h
    rfl
  obtain ⟨j, C, m, rfl, hm, hj, hC, q⟩ := h
  refine ⟨_, pss_cons (ps_set (i := 2) scNamed.nd rfl (.inr rfl) pe_str)
    (pss_cons (ps_set (i := 3) scNamed.nd rfl (.inl rfl) (pe_call G hr rfl mG kG bG .nil pass0 (pa_cons (pv 0) (pa_cons pe_int pa_nil))))
    (pss_cons (ps_set (i := 5) scNamed.nd rfl (.inl rfl) (pe_join pe_str (pe_lc (own := [("k", 4)]) (g := gName 4) (tt := tYes) rfl scNamed.nd (pi_range1 rfl mr (pa_cons pe_int pa_nil)) (blkOk_by (N := ["purse", "many", "letters", "style", "k", "stem", "at", "shift", "found", "pair"]) (sc := defScope lNamed) (by decide +kernel)) (fun _ _ _ _ _ => pg_name (i := 4) scNamed.nd rfl (Or.inl rfl)) (fun _ _ _ _ _ => pts_nil)
          (fun _ _ _ _ _ => pe_ix ix_str (pv 2) (pe_call G hr rfl mG kG bG .nil pass0 (pa_cons (pv 0) (pa_cons pe_int pa_nil))) (fun _ _ => rfl)))))
    (pss_cons (ps_set (i := 6) scNamed.nd rfl (.inl rfl) (pe_call G hr rfl mG kG bG .nil pass0 (pa_cons (pv 0) (pa_cons pe_int pa_nil))))
    (pss_cons (ps_set (i := 7) scNamed.nd rfl (.inl rfl) (pe_call G hr rfl mG kG bG .nil pass0 (pa_cons (pv 0) (pa_cons pe_int pa_nil))))
    (pss_cons (ps_set (i := 8) scNamed.nd rfl (.inl rfl) (pe_lst pa_nil))
    (pss_cons (ps_for PassesOwn.never rfl (pi_range1 rfl mr (pa_cons (pv 1) pa_nil)) (pg_name (i := 4) scNamed.nd rfl (Or.inl rfl))
      (pss_cons (ps_set (i := 9) scNamed.nd rfl (.inl rfl) (pe_op op_add_str (pe_ix ix_str (pv 2) (pe_op op_mod (pe_op op_add (pv 7) (pv 4)) pe_int) (fun _ _ => rfl)) (pe_ix ix_str (pv 2) (pe_op op_mod (pe_op op_add (pv 7) (pe_op op_fdivN (pv 4) pe_int)) pe_int) (fun _ _ => rfl))))
      (pss_cons (ps_if (PW.pt (pw_and (pt_cmpR op_eq (pv 3) pe_int (nomark _)) (pw_and1 (pt_cmpR op_lt (pv 4) pe_int (nomark _))))) (pss_one (ps_set (i := 9) scNamed.nd rfl (.inl rfl) (pe_ix ix_str (pv 9) pe_int (fun _ _ => rfl)))) pss_nil)
      (pss_one (ps_expr (pe_bm PySem.F.plainAttrs_list PySem.F.slot_list_append PySem.F.type_list_append mt_append (pv 8) (pa_cons
        (pe_ix ix_list (pe_lst (pa_cons (pv 9) (pa_cons (pe_op op_add_str (pe_op op_add_str (pe_slice sl_str (pv 5) po_none (po_some (pv 6))) (pv 9)) (pe_slice sl_str (pv 5) (po_some (pv 6)) po_none)) (pa_cons (pv 9) pa_nil)))) (pv 3) (fun _ _ => rfl)) pa_nil)))))))
    (pss_one (ps_ret (pv 8))))))))), ?_⟩
  refine ⟨_, rfl, j, C, 3, rfl, hj, by omega, by decide, by decide, fun st H1 st0 st3 hj1 kp1 => ?_⟩
  obtain ⟨st, rfl⟩ : ∃ n : Nat, st = (n : Int) := ⟨st.toNat, by omega⟩
  refine ⟨⟨_, rfl⟩, 6, rfl, by decide, by decide, fun D hD => ?_⟩
  have hDj := hj1.ne hD
  have lsz : lettS.length ≤ sizeLine := by decide
  refine lc_range (lo := 0) (n := (6 : Int).toNat) (fun i H' => ∃ l : List Nat, H' D = some (.lst ((l.map fun c => (⟨#[c]⟩ : Str)).map V.str)) ∧ l.length = i ∧ (∀ c, c ∈ l → c ∈ letters) ∧ Jar j H' (C + 1 + i) ∧ Keep j H H') ⟨[], upd_same, rfl, (fun _ h => by cases h), hj1.keep (same_new hD _), kp1.trans (keep_new hD _)⟩ (fun i H' hi p => ?turn1) (fun H2 p => ?done1)
  case turn1 =>
    obtain ⟨l, hl, ll, hin, hj', kp'⟩ := p
    have hi6 : i < 6 := hi
    refine ⟨rfl, ?_⟩
    simp only [tYes, ↓reduceIte]
    refine ⟨_, rfl, _, rfl, j, C + 1 + i, 26, rfl, hj', by omega, by decide, by decide, fun r H3 r0 r1 hj3 kp3 => ?_⟩
    have hrn : r.toNat < 26 := by omega
    have hat : atI lettS.cps.toList r = some (97 + r.toNat) := by
      have := atI_nat (xs := lettS.cps.toList) (j := r.toNat) (v := 97 + r.toNat) (letters_get hrn)
      rwa [show ((r.toNat : Nat) : Int) = r by omega] at this
    refine ⟨lettS, _, _, eL ▸ rfl, rfl, lsz, hat, _, kp3 _ _ hDj hl, by rw [List.length_map, List.length_map, sizeLine_eq]; omega, l ++ [97 + r.toNat], ?_, by rw [List.length_append, ll]; rfl, ?_, (hj3.upd hDj).mono (by omega), ?_⟩
    · rw [upd_same, List.map_append, List.map_append]; rfl
    · intro c hc
      rcases List.mem_append.mp hc with h | h
      · exact hin c h
      · rw [List.mem_singleton.mp h]; exact letters_in hrn
    · intro b o hb ho
      have hDH : H D = none := by
        cases e : H D with
        | none => rfl
        | some u => rw [kp1 _ _ hDj e] at hD; cases hD
      rw [upd_ne (ne_of_none ho hDH)]
      exact kp3 b o hb (kp' b o hb ho)
  obtain ⟨stem, hst, lst6, hin, hj2, kp2⟩ := p
  have lst6 : stem.length = 6 := lst6
  refine ⟨_, D, _, rfl, rfl, .inl (SqL.of hst), ?_, ?_⟩
  · rw [ones_sum]
    show _ + _ * 0 ≤ _
    omega
  rw [join_one]
  have hj2 : Jar j H2 (C + 7) := hj2
  refine ⟨_, rfl, j, C + 7, 7, rfl, hj2, by omega, by decide, by decide, fun t H3 t0 t7 hj3 kp3 => ?_⟩
  obtain ⟨t, rfl⟩ : ∃ n : Nat, t = (n : Int) := ⟨t.toNat, by omega⟩
  refine ⟨_, rfl, j, C + 8, 26, rfl, hj3, by omega, by decide, by decide, fun sh H4 sh0 sh26 hj4 kp4 => ?_⟩
  obtain ⟨sh, rfl⟩ : ∃ n : Nat, sh = (n : Int) := ⟨sh.toNat, by omega⟩
  have hsh : sh < 26 := by omega
  have k4 : Keep j H H4 := kp2.trans (kp3.trans kp4)
  refine ⟨(by show 0 ≤ sizeLine; decide), fun p hp => ?_⟩
  have hpj := hj4.ne hp
  have hpH : H p = none := new_back k4 hpj hp
  refine ⟨_, rfl, _, rfl, by omega, by omega, ?_⟩
  rw [Int.toNat_natCast]
  refine for_range (lo := 0) (n := m) (fun i σ H' => ∃ x4 x9, σ = [some (.ref j), some (.int (m : Nat)), some (.str lettS), some (.int (st : Nat)), x4, some (.str (Tx stem)), some (.int (t : Nat)), some (.int (sh : Nat)), some (.ref p), x9] ∧ H' p = some (.lst (((List.range i).map (nmS st stem t sh)).map V.str)) ∧ Jar j H' (C + 9) ∧ Keep j H H') ⟨_, _, by rw [← eL]; rfl, upd_same, hj4.keep (same_new hp _), k4.trans (keep_new hp _)⟩ (fun i σ H' hi h => ?turn) (fun σ H' h => ?done)
  case done =>
    obtain ⟨x4, x9, rfl, e, jr, kp⟩ := h
    exact ⟨_, rfl, q p _ H' hpH hpj e (by rw [List.length_map, List.length_range]) (nms_nodup hm) (fun x hx => by
      obtain ⟨k, _, rfl⟩ := List.mem_map.mp hx
      exact nmC_ok lst6 hin hsh) jr kp⟩
  case turn =>
    obtain ⟨x4, x9, rfl, e, jr, kp⟩ := h
    have hi26 : i < 26 := by omega
    have e1 : ((sh : Int) + (0 + (i : Int))) % 26 = (((sh + i) % 26 : Nat) : Int) := by omega
    have hat1 : atI lettS.cps.toList (((sh : Int) + (0 + (i : Int))) % 26) = some (97 + (sh + i) % 26) := by
      rw [e1]
      exact atI_nat (xs := lettS.cps.toList) (letters_get (by omega))
    have e2 : (0 + (i : Int)).fdiv 26 = 0 := by
      rw [Int.zero_add, Int.fdiv_eq_ediv_of_nonneg _ (by decide)]; omega
    have hat2 : atI lettS.cps.toList (((sh : Int) + (0 + (i : Int)).fdiv 26) % 26) = some (97 + sh) := by
      rw [e2]
      have : ((sh : Int) + 0) % 26 = (sh : Nat) := by omega
      rw [this]
      exact atI_nat (xs := lettS.cps.toList) (letters_get hsh)
    refine ⟨_, rfl, _, rfl, _, rfl, _, _, rfl, rfl, _, _, rfl, rfl, (show (0 : Int) < 26 by decide), lettS, _, _, rfl, rfl, lsz, hat1, _, rfl, _, rfl, _, rfl, _, _, rfl, rfl, ⟨by decide, by decide⟩, _, _, rfl, rfl, _, _, rfl, rfl, (show (0 : Int) < 26 by decide), lettS, _, _, rfl, rfl, lsz, hat2, _, _, rfl, rfl, (by rw [sizeLine_eq]; show 1 + 1 ≤ _; decide), ?_⟩
    have ex : (⟨#[97 + (sh + i) % 26]⟩ : Str) ++ ⟨#[97 + sh]⟩ = Tx [97 + (sh + i) % 26, 97 + sh] := tx_app [97 + (sh + i) % 26] [97 + sh]
    rw [ex]
    refine' aux_rest3 (α := Str) (C0 := fun y => y = if st = 2 then Tx [97 + (sh + i) % 26] else Tx [97 + (sh + i) % 26, 97 + sh]) (fun hR => ?main2) ?rest2
    case main2 =>
      by_cases h2 : st = 2
      · refine ⟨_, rfl, rfl, _, rfl, ifT (show decide (V.int (st : Int) = V.int 2) = true by rw [h2]; rfl) ?_⟩
        refine ⟨_, rfl, _, _, rfl, rfl, _, rfl, ifT (show decide ((0 : Int) + (i : Int) < 26) = true from decide_eq_true (by omega)) ?_⟩
        refine ⟨_, rfl, Tx [97 + (sh + i) % 26, 97 + sh], _, _, rfl, rfl, (by rw [tx_len, sizeLine_eq]; show 2 ≤ _; decide), at_zero, ?_⟩
        generalize hy : (⟨#[97 + (sh + i) % 26]⟩ : Str) = y
        exact hR y (by rw [if_pos h2, ← hy])
      · refine ⟨_, rfl, rfl, _, rfl, ifF (show decide (V.int (st : Int) = V.int 2) = false from decide_eq_false (fun e => h2 (by have := V.int.inj e; omega))) ?_⟩
        refine ifF rfl ?_
        generalize hy : Tx [97 + (sh + i) % 26, 97 + sh] = y
        exact hR y (by rw [if_neg h2, ← hy])
    intro y hy
    obtain ⟨pr, rfl, lpr⟩ : ∃ pr : List Nat, y = Tx pr ∧ pr.length ≤ 2 := by
      by_cases h2 : st = 2
      · rw [if_pos h2] at hy; exact ⟨_, hy, by show 1 ≤ 2; decide⟩
      · rw [if_neg h2] at hy; exact ⟨_, hy, Nat.le_refl 2⟩
    have sl : (Tx stem).length ≤ sizeLine := by rw [tx_len, sizeLine_eq]; omega
    refine ⟨_, rfl, .inl ⟨rfl, _, SqL.of e⟩, _, rfl, _, rfl, _, rfl, _, rfl, _, rfl, sl, ?_⟩
    rw [tx_to]
    have l1 : (stem.take t).length ≤ 6 := by rw [List.length_take]; omega
    have l2 : (stem.drop t).length ≤ 6 := by rw [List.length_drop]; omega
    refine ⟨_, rfl, _, _, rfl, rfl, (by rw [tx_len, tx_len, sizeLine_eq]; omega), _, rfl, _, rfl, _, rfl, _, rfl, sl, ?_⟩
    rw [tx_from, tx_app]
    refine ⟨_, _, rfl, rfl, (by rw [tx_len, tx_len, List.length_append, sizeLine_eq]; omega), _, rfl, (by show 3 ≤ sizeLine; decide), fun d hd => ?_⟩
    rw [tx_app]
    have sd := same_new hd (.lst [.str (Tx pr), .str (Tx (stem.take t ++ pr ++ stem.drop t)), .str (Tx pr)])
    have hdp : d ≠ p := fun q => by rw [q, e] at hd; cases hd
    have hat : atI [V.str (Tx pr), .str (Tx (stem.take t ++ pr ++ stem.drop t)), .str (Tx pr)] (st : Int) = some (.str (nmS st stem t sh i)) := by
      have h3 : st = 0 ∨ st = 1 ∨ st = 2 := by omega
      have e3 : pr = if st = 2 then [97 + (sh + i) % 26] else [97 + (sh + i) % 26, 97 + sh] := tx_inj (by rw [hy]; split <;> rfl)
      unfold nmS nmC
      rcases h3 with rfl | rfl | rfl
      · rw [e3]; rfl
      · rw [e3]; rfl
      · rw [e3]; rfl
    refine ⟨_, rfl, d, _, _, _, rfl, rfl, SqL.of upd_same, hat, p, _, _, rfl, rfl, sd _ _ e, by rw [List.length_map, List.length_map, List.length_range, sizeLine_eq]; omega, ?_⟩
    refine ⟨_, _, rfl, ?_, (jr.keep sd).upd hpj, ?_⟩
    · rw [upd_same, List.range_succ, List.map_append, List.map_append]; rfl
    · intro b o hb ho
      rw [upd_ne (ne_of_none ho hpH)]
      exact sd _ _ (kp b o hb ho)
end
end Pa
set_option maxHeartbeats 4000000
namespace Pa
open PySem PySem.Spec PyProof.Rows L2 Ty
theorem aux_rest4 {X C0 : V → Hp → Prop} {M : Prop} (f : (∀ r H, C0 r H → X r H) → M) (r : ∀ r H, C0 r H → X r H) : M := f r
theorem paired_take {α β : Type} {P : α → β → Prop} : ∀ {l : List α} {m : List β} (n : Nat), Paired P l m → Paired P (l.take n) (m.take n)
  | _, _, 0, _ => .nil
  | _, _, _ + 1, .nil => .nil
  | _, _, n + 1, .cons h t => .cons h (paired_take n t)
theorem paired_drop {α β : Type} {P : α → β → Prop} : ∀ {l : List α} {m : List β} (n : Nat), Paired P l m → Paired P (l.drop n) (m.drop n)
  | _, _, 0, h => h
  | _, _, _ + 1, .nil => .nil
  | _, _, n + 1, .cons _ t => paired_drop n t
/-! ### kinds drawn -/
def gapK : Str × Pat × Bool := ("gap", .mo (.sg "\n "), true)
structure GKd (ss : List Str) (k : Str × Pat × Bool) : Prop where
  bare : bareP k.2.1 = false
  pw : PW k.2.1
  deep : deepP k.2.1 ≤ 4
  size : sizeP k.2.1 ≤ 9
  cnt : cntP k.2.1 ≤ 5
  nm : Nm k.1
  good : nameP k.1 = true
  wh : (k.1 ∈ ss ∧ k.2.2 = false) ∨ (k.1 = "gap" ∧ k.2.2 = true)
structure GKs (ss : List Str) (ks : Kds) : Prop where
  all : ∀ k, k ∈ ks → GKd ss k
  len : ks.length ≤ ss.length + 1
  has : ∀ x, x ∈ ss → x ∈ ks.map (·.1)
  nodup : (ks.map (·.1)).Nodup
theorem gap_nm : nameP "gap" = true ∧ ("gap" : Str).length = 3 ∧ (∀ c, c ∈ ("gap" : Str).cps.toList → c < 128) ∧ ("\n " : Str).length = 2 ∧ (∀ c, c ∈ ("\n " : Str).cps.toList → c < 128) := by decide +kernel
theorem k_low : ("k" : Str).length ≤ 3 ∧ ∀ c, c ∈ ("k" : Str).cps.toList → c < 128 := by decide +kernel
theorem gap_ok (ss : List Str) : GKd ss gapK := by
  obtain ⟨h1, h2, h3, h4, h5⟩ := gap_nm
  exact ⟨rfl, ⟨by show ("\n " : Str).length ≤ 3; rw [h4]; decide, h5⟩, by show 2 ≤ 4; decide, by show 2 ≤ 9; decide, by show 1 ≤ 5; decide, ⟨by show ("gap" : Str).length ≤ 9; rw [h2]; decide, h3⟩, h1, .inr ⟨rfl, rfl⟩⟩
def spKinds : Sp := fun vs H Q _ => ∃ (j s : Addr) (C : Nat) (ss : List Str), vs = [.ref j, .ref s] ∧ Jar j H C ∧ C ≤ 999990000 ∧ H s = some (.lst (ss.map V.str)) ∧ ss.length ≤ 100 ∧ ss.Nodup ∧ (∀ x, x ∈ ss → NmG x) ∧
  ∀ (p : Addr) (ks : Kds) (H' : Hp), H p = none → p ≠ j → KL H' p ks → GKs ss ks → Jar j H' (C + 42 * ss.length + 2) → Keep j H H' → Q (.ref p) H'
theorem scKds : FnScope ["purse", "some", "found", "one", "pattern"] ["purse", "some"] (defScope lKinds) := ⟨rfl, rfl, rfl, by decide +kernel, rfl, by decide +kernel, by decide +kernel⟩
section
variable {P : Program} {w : World} {K : PySem.W.Frag} {mg : Str → Option Value} {base : Heap} {f g g2 g3 : Addr} {fd gd gd2 gd3 : FuncData}
theorem ok_kinds (F : Fun K "_law_kinds" "_law_kinds" lKinds f fd)
    (G : FnOk P w K mg base CX0 1 g gd ["purse", "many"] spDrawn) (bG : Binds K gd ["purse", "many"] []) (kG : PySem.W.keepIn K (.ref g) = true) (mG : mg "_law_drawn" = some (.ref g))
    (GP : FnOk P w K mg base CX0 4 g2 gd2 ["purse", "deep"] (spPattern 3)) (bP : Binds K gd2 ["purse", "deep"] []) (kP : PySem.W.keepIn K (.ref g2) = true) (mP : mg "_law_pattern" = some (.ref g2))
    (GB : FnOk P w K mg base CX0 6 g3 gd3 ["pattern"] (spBare 5)) (bB : Binds K gd3 ["pattern"] []) (kB : PySem.W.keepIn K (.ref g3) = true) (mB : mg "_law_bare" = some (.ref g3)) (ml : mg "len" = none) :
    FnOk P w K mg base CX0 7 f fd ["purse", "some"] spKinds := by
  refine F.ok scKds (fun vs H Q E h => ?_) (fun cdv A outer s0 H vs Q E hr h => ?_)
  · obtain ⟨_, _, _, _, rfl, _⟩ := h
    rfl
  have G' := G.mono (show 1 ≤ 6 by decide)
  have GP' := GP.mono (show 4 ≤ 6 by decide)
  obtain ⟨j, s, C, ss, rfl, hj, hC, hs, hl, hnd, hnm, q⟩ := h
  refine ⟨_, pss_cons (ps_set (i := 2) scKds.nd rfl (.inl rfl) (pe_lst pa_nil))
    (pss_cons (ps_for PassesOwn.never rfl (pi_list (pv 1)) (pg_name (i := 3) scKds.nd rfl (Or.inl rfl))
      (pss_cons (ps_set (i := 4) scKds.nd rfl (.inl rfl) (pe_call GP' hr rfl mP kP bP .nil pass0 (pa_cons (pv 0) (pa_cons pe_int pa_nil))))
      (pss_cons (ps_if (pt_val (pe_call GB hr rfl mB kB bB .nil pass0 (pa_cons (pv 4) pa_nil))) (pss_one (ps_set (i := 4) scKds.nd rfl (.inl rfl) (pe_tup (pa_cons pe_str (pa_cons (pe_tup (pa_cons pe_str (pa_cons pe_str pa_nil))) (pa_cons (pv 4) pa_nil)))))) pss_nil)
      (pss_one (ps_expr (pe_bm PySem.F.plainAttrs_list PySem.F.slot_list_append PySem.F.type_list_append mt_append (pv 2) (pa_cons (pe_tup (pa_cons (pv 3) (pa_cons (pv 4) (pa_cons pe_bl pa_nil)))) pa_nil)))))))
    (pss_cons (ps_if (pt_cmpR op_eq (pe_call G' hr rfl mG kG bG .nil pass0 (pa_cons (pv 0) (pa_cons pe_int pa_nil))) pe_int (nomark _))
      (pss_one (ps_expr (pe_bm PySem.F.plainAttrs_list PySem.F.slot_list_insert PySem.F.type_list_insert mt_insert (pv 2) (pa_cons (pe_call G' hr rfl mG kG bG .nil pass0 (pa_cons (pv 0) (pa_cons (pe_op op_add (pe_callB call_len_seq rfl ml PySem.boot_len (pa_cons (pv 2) pa_nil)) pe_int) pa_nil)))
        (pa_cons (pe_tup (pa_cons pe_str (pa_cons (pe_tup (pa_cons pe_str (pa_cons (pe_tup (pa_cons pe_str (pa_cons pe_str pa_nil))) pa_nil))) (pa_cons pe_bl pa_nil)))) pa_nil))))) pss_nil)
    (pss_one (ps_ret (pv 2))))), ?_⟩
  refine ⟨(by show 0 ≤ sizeLine; decide), fun p hp => ?_⟩
  have s1 := same_new hp (.lst [])
  have hpj := hj.ne hp
  have lss : (ss.map V.str).length = ss.length := List.length_map _
  refine ⟨_, rfl, s, rfl, ⟨_, SqL.of (s1 _ _ hs)⟩, ?_⟩
  refine for_list (K := K) (xs := ss.map V.str) (fun i σ H' => ∃ x3 x4 acc ks, σ = [some (.ref j), some (.ref s), some (.ref p), x3, x4] ∧ H' p = some (.lst acc) ∧ Paired (KdV H') acc ks ∧ ks.map (·.1) = ss.take i ∧ (∀ k, k ∈ ks → GKd ss k) ∧ Jar j H' (C + 42 * i) ∧ Keep j H H') ⟨_, _, [], [], rfl, upd_same, .nil, rfl, (fun _ h => by cases h), hj.keep s1, .of_same s1⟩ (fun i σ H' _ h => by obtain ⟨_, _, _, _, _, _, _, _, _, jr, k⟩ := h; exact SqL.of (k _ _ (jar_ne hj hs (str_int ss)) hs)) (fun i v σ H' hv h => ?turn) (fun σ H' h => ?done)
  case turn =>
    obtain ⟨x3, x4, acc, ks, rfl, e1, pk, hk, hall, jr, kp⟩ := h
    rw [List.getElem?_map] at hv
    obtain ⟨x, hx, rfl⟩ : ∃ x, ss[i]? = some x ∧ V.str x = v := by
      cases e : ss[i]? with
      | none => rw [e] at hv; cases hv
      | some k => rw [e] at hv; exact ⟨k, rfl, Option.some.inj hv⟩
    have hi : i < ss.length := (List.getElem?_eq_some_iff.mp hx).1
    have hxm : x ∈ ss := List.mem_of_getElem? hx
    have gx := hnm x hxm
    have n2 : nd 2 = 42 := rfl
    refine ⟨_, rfl, j, C + 42 * i, 2, rfl, by decide, jr, by rw [n2]; omega, fun v1 p1 H1 rp1 pw1 d1 z1 c1 jr1 kp1 => ?_⟩
    have z1 : sizeP p1 ≤ 7 := z1
    have c1 : cntP p1 ≤ 4 := c1
    have jr1 : Jar j H1 (C + 42 * (i + 1)) := by
      have : C + 42 * i + nd 2 = C + 42 * (i + 1) := by rw [n2]; omega
      rw [← this]; exact jr1
    have ep1 := kp1 _ _ hpj e1
    have pk1 : Paired (KdV H1) acc ks := paired_imp (fun _ _ r => r.tk (Tk.of_keep jr kp1)) pk
    refine ⟨_, rfl, v1, p1, rfl, rp1, by omega, fun H2 s2 => ⟨_, rfl, ?_⟩⟩
    have lacc : acc.length ≤ 100 := by
      have e := Paired.length pk
      have e2 := congrArg List.length hk
      rw [List.length_map, List.length_take] at e2
      omega
    refine' aux_rest4 (C0 := fun u H3 => ∃ q : Pat, RP H3 q u ∧ GKd ss (x, q, false) ∧ Same H2 H3) (fun hR => ?main) ?rest
    case main =>
      rcases Bool.eq_false_or_eq_true (bareP p1) with hb | hb
      case inr =>
        refine ifF hb ?_
        have hh : ∃ q : Pat, RP H2 q v1 ∧ GKd ss (x, q, false) ∧ Same H2 H2 := ⟨p1, rp1.tk (Tk.of_same s2), ⟨hb, pw1, Nat.le_trans d1 (by decide), Nat.le_trans z1 (by decide), Nat.le_trans c1 (by decide), gx.2.2, gx.1, .inl ⟨hxm, rfl⟩⟩, same_refl⟩
        generalize hv : v1 = v2
        generalize hH : H2 = H3
        exact hR v2 H3 (by rw [← hv, ← hH]; exact hh)
      case inl =>
        refine ifT hb ?_
        refine ⟨(by show 2 ≤ sizeLine; decide), fun t1 ht1 => ⟨_, rfl, (by show 3 ≤ sizeLine; decide), fun t2 ht2 => ?_⟩⟩
        have u1 := same_new ht1 (.tup [.str "signs", .str "k"])
        have u2 := same_new ht2 (.tup [.str "then", .ref t1, v1])
        refine hR (.ref t2) _ ⟨.th (.sg "k") p1, ⟨t2, .ref t1, v1, rfl, upd_same, ⟨t1, rfl, u2 _ _ upd_same⟩, rp1.tk (Tk.of_same (s2.trans (u1.trans u2)))⟩, ⟨rfl, ⟨k_low, pw1⟩, ?_, ?_, ?_, gx.2.2, gx.1, .inl ⟨hxm, rfl⟩⟩, u1.trans u2⟩
        · show max 1 (deepP p1) + 1 ≤ 4; omega
        · show 1 + sizeP p1 + 1 ≤ 9; omega
        · show 1 + cntP p1 ≤ 5; omega
    rintro u H3 ⟨pt, rpt, gpt, s3⟩
    have s13 : Same H1 H3 := s2.trans s3
    refine ⟨_, rfl, .inl ⟨rfl, _, SqL.of (s13 _ _ ep1)⟩, _, rfl, _, rfl, (by show 3 ≤ sizeLine; decide), fun t ht => ?_⟩
    have u4 := same_new ht (.tup [.str x, u, .bl false])
    have tp : t ≠ p := fun e => by rw [e, s13 _ _ ep1] at ht; cases ht
    have ep4 := u4 _ _ (s13 _ _ ep1)
    refine ⟨p, _, _, rfl, rfl, ep4, by rw [sizeLine_eq]; omega, ?_⟩
    have htk : ss.take (i + 1) = ss.take i ++ [x] := by rw [List.take_add_one, hx]; rfl
    have t5 := Tk.lst (o := .lst (acc ++ [.ref t])) ep4
    have t15 := ((Tk.of_same s13).trans (Tk.of_same u4)).trans t5
    refine ⟨_, _, acc ++ [.ref t], ks ++ [(x, pt, false)], rfl, upd_same, ?_, by rw [List.map_append, hk, htk]; rfl, ?_, ?_, ?_⟩
    · exact paired_snoc (paired_imp (fun _ _ r => r.tk t15) pk1) ⟨t, u, rfl, by rw [upd_ne tp]; exact upd_same, rpt.tk ((Tk.of_same u4).trans t5)⟩
    · intro k hk
      rcases List.mem_append.mp hk with h | h
      · exact hall k h
      · rw [List.mem_singleton.mp h]; exact gpt
    · exact ((jr1.keep s13).keep u4).upd hpj
    · exact Keep.upd (kp.trans (kp1.trans (.of_same (s13.trans u4)))) hp
  case done =>
    obtain ⟨x3, x4, acc, ks, rfl, e1, pk, hk, hall, jr, kp⟩ := h
    rw [lss, List.take_length] at hk
    rw [lss] at jr
    have lks : ks.length = ss.length := by rw [← hk, List.length_map]
    have lacc : acc.length = ss.length := (Paired.length pk).trans lks
    have g0 : GKs ss ks := ⟨hall, by omega, fun x hx => by rw [hk]; exact hx, by rw [hk]; exact hnd⟩
    refine ⟨_, rfl, j, C + 42 * ss.length, 2, rfl, jr, by omega, by decide, by decide, fun r H1 r0 r1 jr1 kp1 => ?_⟩
    have ep1 := kp1 _ _ hpj e1
    have pk1 : Paired (KdV H1) acc ks := paired_imp (fun _ _ r => r.tk (Tk.of_keep jr kp1)) pk
    refine ⟨rfl, _, rfl, ?_⟩
    refine ite2 (fun c => ?_) (fun c => ?_)
    · refine ⟨_, rfl, .inl ⟨rfl, _, SqL.of ep1⟩, _, rfl, _, rfl, p, _, rfl, .inl (SqL.of ep1), _, _, rfl, rfl, j, C + 42 * ss.length + 1, _, rfl, jr1, by omega, by omega, by omega, fun r2 H2 r20 r21 jr2 kp2 => ?_⟩
      refine ⟨(by show 2 ≤ sizeLine; decide), fun t1 ht1 => ⟨(by show 2 ≤ sizeLine; decide), fun t2 ht2 => ⟨(by show 3 ≤ sizeLine; decide), fun t3 ht3 => ?_⟩⟩⟩
      have u1 := same_new ht1 (.tup [.str "signs", .str "\n "])
      have u2 := same_new ht2 (.tup [.str "more", .ref t1])
      have u3 := same_new ht3 (.tup [.str "gap", .ref t2, .bl true])
      have sA := (u1.trans u2).trans u3
      have ep2 := kp2 _ _ hpj ep1
      have ep3 := sA _ _ ep2
      have pk2 : Paired (KdV H2) acc ks := paired_imp (fun _ _ r => r.tk (Tk.of_keep jr1 kp2)) pk1
      refine ⟨p, _, _, _, rfl, rfl, ep3, by rw [sizeLine_eq]; omega, r20, by omega, ?_⟩
      have tz := Tk.lst (o := .lst (acc.take r2.toNat ++ [.ref t3] ++ acc.drop r2.toNat)) ep3
      have tA := (Tk.of_same sA).trans tz
      have e3 : RP _ (gapK.2.1) (.ref t2) := ⟨t2, .ref t1, rfl, tz _ _ (u3 _ _ upd_same), t1, rfl, tz _ _ (u3 _ _ (u2 _ _ upd_same))⟩
      have e4 := tz _ _ (upd_same (H := upd (upd H2 t1 (.tup [.str "signs", .str "\n "])) t2 (.tup [.str "more", .ref t1])) (a := t3) (o := .tup [.str "gap", .ref t2, .bl true]))
      refine ⟨_, rfl, q p (ks.take r2.toNat ++ [gapK] ++ ks.drop r2.toNat) _ hp hpj ⟨_, upd_same, ?_⟩ ⟨?_, ?_, ?_, ?_⟩ ((jr2.keep sA).upd hpj) (Keep.upd (kp.trans (kp1.trans (kp2.trans (.of_same sA)))) hp)⟩
      · exact paired_app (paired_snoc (paired_take _ (paired_imp (fun _ _ r => r.tk tA) pk2)) ⟨t3, .ref t2, rfl, e4, e3⟩) (paired_drop _ (paired_imp (fun _ _ r => r.tk tA) pk2))
      · intro k hk
        rcases List.mem_append.mp hk with h | h
        · rcases List.mem_append.mp h with h | h
          · exact hall k (List.mem_of_mem_take h)
          · rw [List.mem_singleton.mp h]; exact gap_ok ss
        · exact hall k (List.mem_of_mem_drop h)
      · rw [List.length_append, List.length_append, List.length_take, List.length_drop]
        show min _ _ + 1 + _ ≤ _
        omega
      · intro x hx
        have := g0.has x hx
        obtain ⟨k, hk1, hk2⟩ := List.mem_map.mp this
        refine List.mem_map.mpr ⟨k, ?_, hk2⟩
        rw [← List.take_append_drop r2.toNat ks] at hk1
        rcases List.mem_append.mp hk1 with h | h
        · exact List.mem_append_left _ (List.mem_append_left _ h)
        · exact List.mem_append_right _ h
      · have hng : ("gap" : Str) ∉ ss := fun m => by
          have h1 := (hnm _ m).2.1
          rw [gap_nm.2.1] at h1
          omega
        rw [List.map_append, List.map_append, List.map_take, List.map_drop, hk]
        show (ss.take r2.toNat ++ [("gap" : Str)] ++ ss.drop r2.toNat).Nodup
        have hp1 : List.Perm (ss.take r2.toNat ++ [("gap" : Str)] ++ ss.drop r2.toNat) (("gap" : Str) :: ss) := by
          rw [List.append_assoc]
          have h := List.perm_middle (l₁ := ss.take r2.toNat) (a := ("gap" : Str)) (l₂ := ss.drop r2.toNat)
          rw [List.take_append_drop] at h
          exact h
        exact hp1.nodup_iff.mpr (List.nodup_cons.mpr ⟨hng, hnd⟩)
    · exact ⟨_, rfl, q p ks H1 hp hpj ⟨acc, ep1, pk1⟩ g0 (jr1.mono (by omega)) (kp.trans kp1)⟩
end
end Pa
set_option maxHeartbeats 4000000
namespace Pa
open PySem PySem.Spec PyProof.Rows L2 Ty
/-! ### alternatives drawn -/
structure GAs (ls os las : List Str) (as : List (Str × List Str)) : Prop where
  one : 1 ≤ as.length
  few : as.length ≤ 3
  lab : as.map (·.1) = ls.take as.length
  row : ∀ a, a ∈ as → a.2.length ≤ 3 ∧ ∀ x, x ∈ a.2 → x ∈ os ++ las
def spAlts : Sp := fun vs H Q _ => ∃ (j lb ow la : Addr) (C : Nat) (so : Bool) (ls os las : List Str), vs = [.ref j, .bl so, .ref lb, .ref ow, .ref la] ∧ Jar j H C ∧ C ≤ 999990000 ∧ H lb = some (.lst (ls.map V.str)) ∧ 3 ≤ ls.length ∧ ls.length ≤ 100 ∧
  H ow = some (.lst (os.map V.str)) ∧ os.length ≤ 100 ∧ H la = some (.lst (las.map V.str)) ∧ las.length ≤ 100 ∧ las ≠ [] ∧ ow ≠ lb ∧ la ≠ lb ∧
  ∀ (p : Addr) (as : List (Str × List Str)) (H' : Hp), H p = none → AL H' p as → GAs ls os las as → H' lb = some (.lst ((ls.drop as.length).map V.str)) → Jar j H' (C + 20) → KX [j, lb] H H' → Q (.ref p) H'
theorem scAlts : FnScope ["purse", "solid", "labels", "own", "later", "found", "k", "some", "row", "j"] ["purse", "solid", "labels", "own", "later"] (defScope lAlts) := ⟨rfl, rfl, rfl, by decide +kernel, rfl, by decide +kernel, by decide +kernel⟩
theorem seq_zero {α : Type} {x : α} {xs : List α} : seqIndex? 0 (x :: xs).length = some 0 := by
  unfold seqIndex?
  rw [List.length_cons]
  simp
theorem KX.of_keep {j : Addr} {X : List Addr} {H H' : Hp} (k : Keep j H H') (m : j ∈ X) : KX X H H' := fun c o n e => k c o (fun q => n (by rw [q]; exact m)) e
section
variable {P : Program} {w : World} {K : PySem.W.Frag} {mg : Str → Option Value} {base : Heap} {f g : Addr} {fd gd : FuncData}
theorem ok_alts (F : Fun K "_law_alternatives" "_law_alternatives" lAlts f fd)
    (G : FnOk P w K mg base CX0 1 g gd ["purse", "many"] spDrawn) (bG : Binds K gd ["purse", "many"] []) (kG : PySem.W.keepIn K (.ref g) = true) (mG : mg "_law_drawn" = some (.ref g)) (ml : mg "len" = none) (mr : mg "range" = none) (mt : mg "tuple" = none) :
    FnOk P w K mg base CX0 2 f fd ["purse", "solid", "labels", "own", "later"] spAlts := by
  refine F.ok scAlts (fun vs H Q E h => ?_) (fun cdv A outer s0 H vs Q E hr h => ?_)
  · obtain ⟨_, _, _, _, _, _, _, _, _, rfl, _⟩ := h
    rfl
  obtain ⟨j, lb, ow, la, C, so, ls, os, las, rfl, hj, hC, hlb, l3, l100, how, lo, hla, ll, lne, n1, n2, q⟩ := h
  refine ⟨_, pss_cons (ps_set (i := 5) scAlts.nd rfl (.inl rfl) (pe_lst pa_nil))
    (pss_cons (ps_for PassesOwn.never rfl (pi_range1 rfl mr (pa_cons (pe_op op_add pe_int (pe_call G hr rfl mG kG bG .nil pass0 (pa_cons (pv 0) (pa_cons pe_int pa_nil)))) pa_nil)) (pg_name (i := 6) scAlts.nd rfl (Or.inl rfl))
      (pss_cons (ps_set (i := 7) scAlts.nd rfl (.inr rfl) (pe_op op_cat (pv 3) (pv 4)))
      (pss_cons (ps_if (PW.pt (pw_and (pt_cmpR op_eq (pv 6) pe_int (nomark _)) (pw_and1 (pt_val (pv 1))))) (pss_one (ps_set (i := 7) scAlts.nd rfl (.inr rfl) (pv 4))) pss_nil)
      (pss_cons (ps_setLc (i := 8) (own := [("j", 9)]) (g := gName 9) (tt := tYes) rfl scAlts.nd rfl rfl (sw_true rfl rfl rfl (by decide +kernel)) (pi_range1 rfl mr (pa_cons (pe_ix ix_list (pe_lst (pa_cons pe_int (pa_cons pe_int (pa_cons pe_int (pa_cons pe_int (pa_cons pe_int pa_nil)))))) (pe_call G hr rfl mG kG bG .nil pass0 (pa_cons (pv 0) (pa_cons pe_int pa_nil))) (fun _ _ => rfl)) pa_nil)) (blkOk_by (N := ["purse", "solid", "labels", "own", "later", "found", "k", "some", "row", "j"]) (sc := defScope lAlts) (by decide +kernel)) (fun _ _ _ _ _ => pg_name (i := 9) scAlts.nd rfl (Or.inl rfl)) (fun _ _ _ _ _ => pts_nil)
          (fun _ _ _ _ _ => pe_ix (show IxR _ (rIxL K) from ix_list) (pv 7) (pe_call G hr rfl mG kG bG .nil pass0 (pa_cons (pv 0) (pa_cons (pe_callB (show CallR _ _ (fun xs H Q => ∃ p ys, xs = [V.ref p] ∧ (SqL K H p ys ∨ SqT K H p ys) ∧ Q (V.int (ys.length : Nat)) H) from call_len_seq) rfl ml PySem.boot_len (pa_cons (pv 7) pa_nil)) pa_nil))) (fun _ _ => rfl)))
      (pss_one (ps_expr (pe_bm PySem.F.plainAttrs_list PySem.F.slot_list_append PySem.F.type_list_append mt_append (pv 5) (pa_cons
        (pe_tup (pa_cons (pe_bm PySem.F.plainAttrs_list PySem.F.slot_list_pop PySem.F.type_list_pop mt_popAt (pv 2) (pa_cons pe_int pa_nil)) (pa_cons (pe_callTy call_tuple_of rfl mt (by decide +kernel) (pa_cons (pv 8) pa_nil)) pa_nil))) pa_nil))))))))
    (pss_one (ps_ret (pv 5)))), ?_⟩
  refine ⟨(by show 0 ≤ sizeLine; decide), fun p hp => ?_⟩
  have s1 := same_new hp (.lst [])
  have hpj := hj.ne hp
  have lbj : lb ≠ j := jar_ne hj hlb (str_int ls)
  have owj : ow ≠ j := jar_ne hj how (str_int os)
  have laj : la ≠ j := jar_ne hj hla (str_int las)
  have plb : p ≠ lb := fun e => by rw [e, hlb] at hp; cases hp
  refine ⟨_, rfl, j, C, 3, rfl, hj.keep s1, by omega, by decide, by decide, fun r H1 r0 r1 hj1 kp1 => ?_⟩
  have kx1 : KX [j, lb] H H1 := (KX.of s1).trans (KX.of_keep kp1 (by simp))
  have ep1 := kp1 _ _ hpj (show (upd H p (.lst [])) p = some (.lst []) from upd_same)
  have elb1 := kp1 _ _ lbj (s1 _ _ hlb)
  refine ⟨_, _, rfl, rfl, _, rfl, by omega, by omega, ?_⟩
  have owX : ow ∉ [j, lb] := by simp [owj, n1]
  have laX : la ∉ [j, lb] := by simp [laj, n2]
  refine for_range (lo := 0) (n := (1 + r).toNat) (fun i σ H' => ∃ x6 x7 x8 x9 acc as, σ = [some (.ref j), some (.bl so), some (.ref lb), some (.ref ow), some (.ref la), some (.ref p), x6, x7, x8, x9] ∧ H' p = some (.lst acc) ∧ Paired (AltV H') acc as ∧ as.length = i ∧ as.map (·.1) = ls.take i ∧ (∀ a, a ∈ as → a.2.length ≤ 3 ∧ ∀ x, x ∈ a.2 → x ∈ os ++ las) ∧
      H' lb = some (.lst ((ls.drop i).map V.str)) ∧ Jar j H' (C + 1 + 5 * i) ∧ KX [j, lb] H H') ⟨_, _, _, _, [], [], rfl, ep1, .nil, rfl, rfl, (fun _ h => by cases h), elb1, hj1, kx1⟩ (fun i σ H' hi h => ?turn) (fun σ H' h => ?done)
  case done =>
    obtain ⟨x6, x7, x8, x9, acc, as, rfl, e1, pa, la1, hl, hrow, elb, jr, kx⟩ := h
    have la1 : as.length = (1 + r).toNat := la1
    exact ⟨_, rfl, q p as H' hp ⟨acc, e1, pa⟩ ⟨by omega, by omega, by rw [hl, la1], hrow⟩ (by rw [la1]; exact elb) (jr.mono (by omega)) kx⟩
  case turn =>
    obtain ⟨x6, x7, x8, x9, acc, as, rfl, e1, pa, la1, hl, hrow, elb, jr, kx⟩ := h
    have hi3 : i < 3 := by omega
    have eow := kx _ _ owX how
    have ela := kx _ _ laX hla
    refine ⟨_, rfl, _, rfl, ow, la, _, _, rfl, rfl, eow, ela, by rw [List.length_map, List.length_map, sizeLine_eq]; omega, fun c hc => ?_⟩
    have sc := same_new hc (.lst (os.map V.str ++ las.map V.str))
    have ec : (upd H' c (.lst (os.map V.str ++ las.map V.str))) c = some (.lst ((os ++ las).map V.str)) := by rw [List.map_append]; exact upd_same
    refine' aux_rest4 (C0 := fun u H3 => ∃ (s : Addr) (ss : List Str), u = V.ref s ∧ H3 s = some (HO.lst (ss.map V.str)) ∧ ss ≠ [] ∧ ss.length ≤ 200 ∧ s ≠ j ∧ s ≠ lb ∧ (∀ x : Str, x ∈ ss → x ∈ os ++ las) ∧ Same H' H3) (fun hR => ?main) ?rest
    case main =>
      have jr2 := jr.keep sc
      have hA : ∃ (s : Addr) (ss : List Str), V.ref c = V.ref s ∧ (upd H' c (.lst (os.map V.str ++ las.map V.str))) s = some (HO.lst (ss.map V.str)) ∧ ss ≠ [] ∧ ss.length ≤ 200 ∧ s ≠ j ∧ s ≠ lb ∧ (∀ x : Str, x ∈ ss → x ∈ os ++ las) ∧ Same H' (upd H' c (.lst (os.map V.str ++ las.map V.str))) := by
        refine ⟨c, os ++ las, rfl, ec, fun e => ?_, ?_, ?_, fun e => ?_, fun x hx => hx, sc⟩
        · exact lne (List.append_eq_nil_iff.mp e).2
        · rw [List.length_append]; omega
        · exact jar_ne jr2 ec (str_int _)
        · rw [e, elb] at hc; cases hc
      have hB : ∃ (s : Addr) (ss : List Str), V.ref la = V.ref s ∧ (upd H' c (.lst (os.map V.str ++ las.map V.str))) s = some (HO.lst (ss.map V.str)) ∧ ss ≠ [] ∧ ss.length ≤ 200 ∧ s ≠ j ∧ s ≠ lb ∧ (∀ x : Str, x ∈ ss → x ∈ os ++ las) ∧ Same H' (upd H' c (.lst (os.map V.str ++ las.map V.str))) := by
        refine ⟨la, las, rfl, sc _ _ ela, lne, ?_, laj, n2, fun x hx => List.mem_append_right _ hx, sc⟩
        omega
      refine ⟨_, rfl, rfl, _, rfl, ?_⟩
      rcases Bool.eq_false_or_eq_true (decide (V.int (0 + (i : Int)) = V.int 0)) with hc1 | hc1
      case inr =>
        refine ifF hc1 (ifF rfl ?_)
        generalize hv : V.ref c = v2
        generalize hH : (upd H' c (.lst (os.map V.str ++ las.map V.str))) = H3
        exact hR v2 H3 (by rw [← hv, ← hH]; exact hA)
      case inl =>
        refine ifT hc1 ⟨_, rfl, so, rfl, ?_⟩
        rcases Bool.eq_false_or_eq_true so with hs | hs
        case inr =>
          refine ifF hs ?_
          generalize hv : V.ref c = v2
          generalize hH : (upd H' c (.lst (os.map V.str ++ las.map V.str))) = H3
          exact hR v2 H3 (by rw [← hv, ← hH]; exact hA)
        case inl =>
          refine ifT hs ⟨_, rfl, ?_⟩
          exact hR (.ref la) _ hB
    rintro u H3 ⟨s, ss, rfl, es, sne, s200, sj, slb, hin, s3⟩
    have jr3 := jr.keep s3
    refine ⟨(by show 5 ≤ sizeLine; decide), fun d hd => ?_⟩
    have s4 := same_new hd (.lst [.int 0, .int 1, .int 2, .int 3, .int 2])
    refine ⟨_, rfl, j, C + 1 + 5 * i, 5, rfl, jr3.keep s4, by omega, by decide, by decide, fun r2 H5 r20 r21 jr5 kp5 => ?_⟩
    have hdj := jr3.ne hd
    have ed5 := kp5 _ _ hdj (show (upd H3 d (.lst [.int 0, .int 1, .int 2, .int 3, .int 2])) d = some _ from upd_same)
    obtain ⟨n, hat, hn3⟩ : ∃ n : Nat, atI [V.int 0, .int 1, .int 2, .int 3, .int 2] r2 = some (.int (n : Int)) ∧ n ≤ 3 := by
      have : r2 = 0 ∨ r2 = 1 ∨ r2 = 2 ∨ r2 = 3 ∨ r2 = 4 := by omega
      rcases this with rfl | rfl | rfl | rfl | rfl
      · exact ⟨0, rfl, by decide⟩
      · exact ⟨1, rfl, by decide⟩
      · exact ⟨2, rfl, by decide⟩
      · exact ⟨3, rfl, by decide⟩
      · exact ⟨2, rfl, by decide⟩
    refine ⟨d, _, _, _, rfl, rfl, SqL.of ed5, hat, _, rfl, by omega, by omega, fun D hD => ?_⟩
    have hDj := jr5.ne hD
    have k35 : Keep j H3 H5 := (Keep.of_same s4).trans kp5
    have es5 := k35 _ _ sj es
    have lD : lb ≠ D := fun e => by rw [← e, k35 _ _ lbj (s3 _ _ elb)] at hD; cases hD
    rw [Int.toNat_natCast]
    refine lc_range (lo := 0) (n := n) (fun i2 H' => ∃ ys : List Str, H' D = some (.lst (ys.map V.str)) ∧ ys.length = i2 ∧ (∀ x, x ∈ ys → x ∈ os ++ las) ∧ Jar j H' (C + 2 + 5 * i + i2) ∧ Keep j H5 H') ⟨[], upd_same, rfl, (fun _ h => by cases h), (jr5.keep (same_new hD _)).mono (by omega), keep_new hD _⟩ (fun i2 H' hi2 p2 => ?turn2) (fun H6 p2 => ?done2)
    case turn2 =>
      obtain ⟨ys, hys, hyl, hyin, hj', kp'⟩ := p2
      refine ⟨rfl, ?_⟩
      simp only [tYes, ↓reduceIte]
      have es' := kp' _ _ sj es5
      have s0 : 0 < ss.length := by
        cases ss with
        | nil => exact absurd rfl sne
        | cons _ _ => simp
      refine ⟨_, rfl, _, rfl, _, rfl, s, _, rfl, .inl (SqL.of es'), j, C + 2 + 5 * i + i2, _, rfl, hj', by omega, by rw [List.length_map]; omega, by rw [List.length_map]; omega, fun r3 H7 r30 r31 hj7 kp7 => ?_⟩
      rw [List.length_map] at r31
      obtain ⟨v, hv1, _⟩ := at_in (l := ss.map V.str) r30 (by rw [List.length_map]; exact r31)
      obtain ⟨x, hx, rfl⟩ := str_at hv1
      refine ⟨s, _, _, _, rfl, rfl, SqL.of (kp7 _ _ sj es'), hv1, _, kp7 _ _ hDj hys, by rw [List.length_map, sizeLine_eq]; omega, ys ++ [x], ?_, ?_, ?_, (hj7.upd hDj).mono (by omega), ?_⟩
      · rw [upd_same, List.map_append]; rfl
      · rw [List.length_append, hyl]; rfl
      · intro z hz
        rcases List.mem_append.mp hz with h | h
        · exact hyin z h
        · rw [List.mem_singleton.mp h]; exact hin x hx
      · intro b o hb ho
        rw [upd_ne (ne_of_none ho hD)]
        exact kp7 b o hb (kp' b o hb ho)
    obtain ⟨ys, hys, hyl, hyin, hj6, kp6⟩ := p2
    have k36 : Keep j H3 H6 := k35.trans kp6
    have elb6 := k36 _ _ lbj (s3 _ _ elb)
    have pj : p ≠ j := hpj
    have e16 := k36 _ _ pj (s3 _ _ e1)
    have pD : p ≠ D := fun e => by rw [← e, k35 _ _ pj (s3 _ _ e1)] at hD; cases hD
    have hil : i < ls.length := by omega
    have hdr : ls.drop i = ls[i] :: ls.drop (i + 1) := List.drop_eq_getElem_cons hil
    rw [hdr, List.map_cons] at elb6
    refine ⟨_, rfl, .inl ⟨rfl, _, SqL.of e16⟩, _, rfl, .inl ⟨rfl, _, SqL.of elb6⟩, lb, _, _, 0, _, rfl, rfl, elb6, by decide, by decide, seq_zero, rfl, ?_⟩
    have ez : (V.str ls[i] :: (ls.drop (i + 1)).map V.str).eraseIdx 0 = (ls.drop (i + 1)).map V.str := rfl
    rw [ez]
    have elb7 : (upd H6 lb (.lst ((ls.drop (i + 1)).map V.str))) lb = some (.lst ((ls.drop (i + 1)).map V.str)) := upd_same
    have k67 : ∀ {c o}, c ≠ lb → H6 c = some o → (upd H6 lb (.lst ((ls.drop (i + 1)).map V.str))) c = some o := fun n e => by rw [upd_ne n]; exact e
    have hys7 := k67 (Ne.symm lD) hys
    have e17 := k67 plb e16
    have jr7 : Jar j (upd H6 lb (.lst ((ls.drop (i + 1)).map V.str))) (C + 2 + 5 * i + n) := hj6.upd lbj
    have t7 : Tk H6 (upd H6 lb (.lst ((ls.drop (i + 1)).map V.str))) := Tk.lst elb6
    generalize (upd H6 lb (.lst ((ls.drop (i + 1)).map V.str))) = H7 at elb7 k67 hys7 e17 jr7 t7
    refine ⟨_, rfl, D, _, rfl, .inl ⟨SqL.of hys7, fun t1 ht1 => ⟨by show 2 ≤ sizeLine; decide, fun t2 ht2 => ?_⟩⟩⟩
    have u1 := same_new ht1 (.tup (ys.map V.str))
    have u2 := same_new ht2 (.tup [.str ls[i], .ref t1])
    have u12 := u1.trans u2
    have e18 := u12 _ _ e17
    refine ⟨p, _, _, rfl, rfl, e18, by
      have := Paired.length pa
      rw [sizeLine_eq]; omega, ?_⟩
    have t8 := Tk.lst (o := .lst (acc ++ [.ref t2])) e18
    have tA : Tk H7 _ := (Tk.of_same u12).trans t8
    have tB : Tk H' _ := (((Tk.of_same s3).trans (Tk.of_keep jr3 k36)).trans t7).trans tA
    refine ⟨_, _, _, _, acc ++ [.ref t2], as ++ [(ls[i], ys)], rfl, upd_same, ?_, by rw [List.length_append, la1]; rfl, ?_, ?_, ?_, ?_, ?_⟩
    · refine paired_snoc (paired_imp (fun _ _ r => r.tk tB) pa) ⟨t2, t1, rfl, t8 _ _ upd_same, t8 _ _ (u2 _ _ upd_same)⟩
    · rw [List.map_append, hl, List.take_add_one, List.getElem?_eq_getElem hil]; rfl
    · intro a ha
      rcases List.mem_append.mp ha with h | h
      · exact hrow a h
      · rw [List.mem_singleton.mp h]; exact ⟨by show ys.length ≤ 3; omega, hyin⟩
    · rw [upd_ne (Ne.symm plb)]; exact u12 _ _ elb7
    · exact ((jr7.keep u12).upd hpj).mono (by omega)
    · refine KX.new (kx.trans ((KX.of s3).trans ((KX.of_keep k36 (by simp)).trans ?_))) hp
      intro c o nc e
      exact u12 _ _ (k67 (fun q => nc (by rw [q]; simp)) e)
end
end Pa
set_option maxHeartbeats 4000000
namespace Pa
open PySem PySem.Spec PyProof.Rows L2 Ty
/-! ### a world drawn -/
structure GW (ks : Kds) (rs : Rls) : Prop where
  wds : ∃ ws : List Str, GKs ws ks ∧ 1 ≤ ws.length ∧ ws.length ≤ 3 ∧ (ws ++ rs.map (·.1)).Nodup ∧ (∀ x, x ∈ ws → NmG x) ∧ ∀ r, r ∈ rs → ∀ a, a ∈ r.2 → ∀ x, x ∈ a.2 → x ∈ ws ++ rs.map (·.1)
  one : 1 ≤ rs.length
  few : rs.length ≤ 4
  heads : ∀ r, r ∈ rs → NmG r.1 ∧ 1 ≤ r.2.length ∧ r.2.length ≤ 3 ∧ ∀ a, a ∈ r.2 → NmG a.1 ∧ a.2.length ≤ 3
  labels : ((altsOf rs).map (·.1)).Nodup
def spWorld : Sp := fun vs H Q _ => ∃ (j : Addr) (C : Nat), vs = [.ref j] ∧ Jar j H C ∧ C ≤ 999900000 ∧
  ∀ (p a b : Addr) (ks : Kds) (rs : Rls) (at' : Nat) (H' : Hp), H p = none → H' p = some (.lst [.ref a, .ref b, .int (at' : Nat)]) → KL H' a ks → RL H' b rs → GW ks rs → at' < rs.length → Jar j H' (C + 300) → Keep j H H' → Q (.ref p) H'
theorem scWorld : FnScope ["purse", "some", "labels", "solid", "words", "heads", "rules", "at"] ["purse"] (defScope lWorld) := ⟨rfl, rfl, rfl, by decide +kernel, rfl, by decide +kernel, by decide +kernel⟩
theorem cut_mid {xs : List V} {a b : Nat} (h : b ≤ xs.length) : cutV xs (some (a : Int)) (some (b : Int)) = (xs.take b).drop a := by
  unfold cutV
  rw [HT.sIx_nat, HT.sIx_nat, Nat.min_eq_left h]
  by_cases hab : a ≤ xs.length
  · rw [Nat.min_eq_left hab, List.drop_take]
  · rw [Nat.min_eq_right (by omega), show b - xs.length = 0 by omega, List.take_zero, List.drop_eq_nil_of_le (by rw [List.length_take]; omega)]
theorem take_strs {l : List Str} {n : Nat} : (l.map V.str).take n = (l.take n).map V.str := by rw [List.map_take]
theorem drop_strs {l : List Str} {n : Nat} : (l.map V.str).drop n = (l.drop n).map V.str := by rw [List.map_drop]
section
variable {P : Program} {w : World} {K : PySem.W.Frag} {mg : Str → Option Value} {base : Heap} {f g g2 g3 g4 : Addr} {fd gd gd2 gd3 gd4 : FuncData}
theorem ok_world (F : Fun K "_law_world" "_law_world" lWorld f fd)
    (G : FnOk P w K mg base CX0 1 g gd ["purse", "many"] spDrawn) (bG : Binds K gd ["purse", "many"] []) (kG : PySem.W.keepIn K (.ref g) = true) (mG : mg "_law_drawn" = some (.ref g))
    (GN : FnOk P w K mg base CX0 2 g2 gd2 ["purse", "many"] spNamed) (bN : Binds K gd2 ["purse", "many"] []) (kN : PySem.W.keepIn K (.ref g2) = true) (mN : mg "_law_named" = some (.ref g2))
    (GA : FnOk P w K mg base CX0 2 g3 gd3 ["purse", "solid", "labels", "own", "later"] spAlts) (bA : Binds K gd3 ["purse", "solid", "labels", "own", "later"] []) (kA : PySem.W.keepIn K (.ref g3) = true) (mA : mg "_law_alternatives" = some (.ref g3))
    (GK : FnOk P w K mg base CX0 7 g4 gd4 ["purse", "some"] spKinds) (bK : Binds K gd4 ["purse", "some"] []) (kK : PySem.W.keepIn K (.ref g4) = true) (mK : mg "_law_kinds" = some (.ref g4))
    (ml : mg "len" = none) (mr : mg "range" = none) (mi : mg "int" = none) :
    FnOk P w K mg base CX0 8 f fd ["purse"] spWorld := by
  refine F.ok scWorld (fun vs H Q E h => ?_) (fun cdv A outer s0 H vs Q E hr h => ?_)
  · obtain ⟨_, _, rfl, _⟩ := h
    rfl
  have G' := G.mono (show 1 ≤ 7 by decide)
  have GN' := GN.mono (show 2 ≤ 7 by decide)
  have GA' := GA.mono (show 2 ≤ 7 by decide)
  obtain ⟨j, C, rfl, hj, hC, q⟩ := h
  refine ⟨_, pss_cons (ps_set (i := 1) scWorld.nd rfl (.inl rfl) (pe_call GN' hr rfl mN kN bN .nil pass0 (pa_cons (pv 0) (pa_cons pe_int pa_nil))))
    (pss_cons (ps_set (i := 2) scWorld.nd rfl (.inl rfl) (pe_call GN' hr rfl mN kN bN .nil pass0 (pa_cons (pv 0) (pa_cons pe_int pa_nil))))
    (pss_cons (ps_set (i := 3) scWorld.nd rfl (.inl rfl) (pe_cmpR op_gt (pe_call G' hr rfl mG kG bG .nil pass0 (pa_cons (pv 0) (pa_cons pe_int pa_nil))) pe_int (nomark _)))
    (pss_cons (ps_set (i := 4) scWorld.nd rfl (.inl rfl) (pe_slice sl_list (pv 1) po_none (po_some (pe_op op_add pe_int (pe_call G' hr rfl mG kG bG .nil pass0 (pa_cons (pv 0) (pa_cons pe_int pa_nil)))))))
    (pss_cons (ps_set (i := 5) scWorld.nd rfl (.inl rfl) (pe_slice sl_list (pv 1) (po_some pe_int) (po_some (pe_op op_add pe_int (pe_call G' hr rfl mG kG bG .nil pass0 (pa_cons (pv 0) (pa_cons pe_int pa_nil)))))))
    (pss_cons (ps_set (i := 6) scWorld.nd rfl (.inl rfl) (pe_lst pa_nil))
    (pss_cons (ps_for PassesOwn.never rfl (pi_range1 rfl mr (pa_cons (pe_callB call_len_seq rfl ml PySem.boot_len (pa_cons (pv 5) pa_nil)) pa_nil)) (pg_name (i := 7) scWorld.nd rfl (Or.inl rfl))
      (pss_one (ps_expr (pe_bm PySem.F.plainAttrs_list PySem.F.slot_list_append PySem.F.type_list_append mt_append (pv 6) (pa_cons
        (pe_tup (pa_cons (pe_ix ix_list (pv 5) (pv 7) (fun _ _ => rfl)) (pa_cons (pe_call GA' hr rfl mA kA bA .nil pass0 (pa_cons (pv 0) (pa_cons (pv 3) (pa_cons (pv 2) (pa_cons (pv 5) (pa_cons (pe_op op_cat (pv 4) (pe_slice sl_list (pv 5) (po_some (pe_op op_add (pv 7) pe_int)) po_none)) pa_nil)))))) pa_nil))) pa_nil)))))
    (pss_one (ps_ret (pe_lst (pa_cons (pe_call GK hr rfl mK kK bK .nil pass0 (pa_cons (pv 0) (pa_cons (pv 4) pa_nil))) (pa_cons (pv 6) (pa_cons
      (pe_op op_mul (pe_call G' hr rfl mG kG bG .nil pass0 (pa_cons (pv 0) (pa_cons (pe_callB call_len_seq rfl ml PySem.boot_len (pa_cons (pv 5) pa_nil)) pa_nil)))
        (pe_callTy call_int1 rfl mi (by decide +kernel) (pa_cons (pe_cmpR op_eq (pe_call G' hr rfl mG kG bG .nil pass0 (pa_cons (pv 0) (pa_cons pe_int pa_nil))) pe_int (nomark _)) pa_nil))) pa_nil)))))))))))), ?_⟩
  refine ⟨_, rfl, j, C, 7, rfl, by decide, hj, by omega, fun ps ns H1 nps psj eps lns dns gns hj1 kp1 => ?_⟩
  refine ⟨_, rfl, j, C + 9, 12, rfl, by decide, hj1, by omega, fun pl nl H2 npl plj epl lnl dnl gnl hj2 kp2 => ?_⟩
  refine ⟨_, rfl, j, C + 18, 4, rfl, hj2, by omega, by decide, by decide, fun r1 H3 r10 r11 hj3 kp3 => ?_⟩
  have eps3 := kp3 _ _ psj (kp2 _ _ psj eps)
  have epl3 := kp3 _ _ plj epl
  refine ⟨_, _, rfl, rfl, _, rfl, _, rfl, j, C + 19, 3, rfl, hj3, by omega, by decide, by decide, fun r2 H4 r20 r21 hj4 kp4 => ?_⟩
  obtain ⟨u2, rfl⟩ : ∃ n : Nat, r2 = (n : Int) := ⟨r2.toNat, by omega⟩
  have eps4 := kp4 _ _ psj eps3
  refine ⟨_, _, rfl, rfl, _, rfl, ps, _, rfl, SqL.of eps4, fun pw hpw => ?_⟩
  have ew : cutV (ns.map V.str) none (some (1 + (u2 : Int))) = (ns.take (1 + u2)).map V.str := by
    rw [show (1 : Int) + (u2 : Int) = ((1 + u2 : Nat) : Int) by omega, cut_to, take_strs]
  rw [ew]
  obtain ⟨ws, hws⟩ : ∃ ws, ws = ns.take (1 + u2) := ⟨_, rfl⟩
  rw [← hws]
  have sw := same_new hpw (.lst (ws.map V.str))
  have lws : ws.length = 1 + u2 := by rw [hws, List.length_take]; omega
  refine ⟨_, rfl, _, rfl, _, rfl, j, C + 20, 4, rfl, hj4.keep sw, by omega, by decide, by decide, fun r3 H5 r30 r31 hj5 kp5 => ?_⟩
  obtain ⟨u3, rfl⟩ : ∃ n : Nat, r3 = (n : Int) := ⟨r3.toNat, by omega⟩
  have pwj := hj4.ne hpw
  have epw5 := kp5 _ _ pwj (show (upd H4 pw (.lst (ws.map V.str))) pw = some _ from upd_same)
  have eps5 := kp5 _ _ psj (sw _ _ eps4)
  refine ⟨_, _, rfl, rfl, _, rfl, ps, _, rfl, SqL.of eps5, fun ph hph => ?_⟩
  have ehd : cutV (ns.map V.str) (some 3) (some (4 + (u3 : Int))) = ((ns.drop 3).take (1 + u3)).map V.str := by
    rw [show (4 : Int) + (u3 : Int) = ((4 + u3 : Nat) : Int) by omega]
    refine (cut_mid (a := 3) (by rw [List.length_map]; omega)).trans ?_
    rw [take_strs, drop_strs, List.drop_take, show 4 + u3 - 3 = 1 + u3 by omega]
  rw [ehd]
  obtain ⟨hds, hhds⟩ : ∃ ws, ws = (ns.drop 3).take (1 + u3) := ⟨_, rfl⟩
  rw [← hhds]
  have lhd : hds.length = 1 + u3 := by rw [hhds, List.length_take, List.length_drop]; omega
  have sh := same_new hph (.lst (hds.map V.str))
  have nodup : (ws ++ hds).Nodup := by
    have h1 : List.Sublist ws (ns.take 3) := by
      have : ws = (ns.take 3).take (1 + u2) := by rw [hws, List.take_take, Nat.min_eq_left (by omega)]
      rw [this]; exact List.take_sublist _ _
    have h2 : List.Sublist hds (ns.drop 3) := by rw [hhds]; exact List.take_sublist _ _
    have h3 := h1.append h2
    rw [List.take_append_drop] at h3
    exact h3.nodup dns
  have gws : ∀ x, x ∈ ws → NmG x := fun x hx => gns x (by rw [hws] at hx; exact List.mem_of_mem_take hx)
  have ghd : ∀ x, x ∈ hds → NmG x := fun x hx => gns x (by rw [hhds] at hx; exact List.mem_of_mem_drop (List.mem_of_mem_take hx))
  have epl5 : H5 pl = some (.lst (nl.map V.str)) := kp5 _ _ plj (sw _ _ (kp4 _ _ plj epl3))
  have phj := hj5.ne hph
  have plph : pl ≠ ph := fun e => by rw [← e, epl5] at hph; cases hph
  have plpw : pl ≠ pw := fun e => by rw [← e, kp4 _ _ plj epl3] at hpw; cases hpw
  have k5 : Keep j H H5 := kp1.trans (kp2.trans (kp3.trans (kp4.trans ((Keep.of_same sw).trans kp5))))
  have hj6 := hj5.keep sh
  have epw6 := sh _ _ epw5
  have epl6 := sh _ _ epl5
  have eph6 : (upd H5 ph (.lst (hds.map V.str))) ph = some (.lst (hds.map V.str)) := upd_same
  have k6 : Keep j H (upd H5 ph (.lst (hds.map V.str))) := k5.trans (.of_same sh)
  have nplH : H pl = none := new_back kp1 plj npl
  generalize upd H5 ph (.lst (hds.map V.str)) = H6 at hj6 epw6 epl6 eph6 k6
  refine ⟨(by show 0 ≤ sizeLine; decide), fun pr hpr => ?_⟩
  have prj := hj6.ne hpr
  have prpl : pr ≠ pl := fun e => by rw [e, epl6] at hpr; cases hpr
  have s7 := same_new hpr (.lst [])
  have nprH : H pr = none := new_back k6 prj hpr
  refine ⟨_, rfl, ph, _, rfl, .inl (SqL.of (s7 _ _ eph6)), _, rfl, by rw [List.length_map]; omega, by rw [List.length_map]; omega, ?_⟩
  rw [List.length_map, Int.toNat_natCast]
  have pwX : pw ∉ [j, pl] := by simp [pwj, Ne.symm plpw]
  have phX : ph ∉ [j, pl] := by simp [phj, Ne.symm plph]
  refine for_range (lo := 0) (n := hds.length) (fun i σ H' => ∃ x7 acc rs, σ = [some (.ref j), some (.ref ps), some (.ref pl), some (.bl (decide (r1 > 0))), some (.ref pw), some (.ref ph), some (.ref pr), x7] ∧ H' pr = some (.lst acc) ∧ Paired (RlV (fun b => b ≠ pr ∧ b ≠ pl ∧ b ≠ j) H') acc rs ∧ rs.map (·.1) = hds.take i ∧ (altsOf rs).map (·.1) = nl.take (altsOf rs).length ∧ (altsOf rs).length ≤ 3 * i ∧
      H' pl = some (.lst ((nl.drop (altsOf rs).length).map V.str)) ∧ (∀ r, r ∈ rs → 1 ≤ r.2.length ∧ r.2.length ≤ 3 ∧ ∀ a, a ∈ r.2 → a.2.length ≤ 3 ∧ ∀ x, x ∈ a.2 → x ∈ ws ++ hds) ∧ Jar j H' (C + 21 + 20 * i) ∧ KX [j, pl] H6 H')
    ⟨_, [], [], rfl, upd_same, .nil, rfl, rfl, Nat.zero_le _, s7 _ _ epl6, (fun _ h => by cases h), hj6.keep s7, KX.of s7⟩ (fun i σ H' hi h => ?turn) (fun σ H' h => ?done)
  case turn =>
    obtain ⟨x7, acc, rs, rfl, e1, pa, hm, ha, hal, epl7, hrow, jr, kx⟩ := h
    have lrs : rs.length = i := by
      have := congrArg List.length hm
      rw [List.length_map, List.length_take] at this; omega
    have eph7 := kx _ _ phX eph6
    have epw7 := kx _ _ pwX epw6
    have hd1 : hds[i]? = some hds[i] := List.getElem?_eq_getElem hi
    have hat : atI (hds.map V.str) (0 + (i : Int)) = some (.str hds[i]) := by
      rw [Int.zero_add]
      exact atI_nat (by rw [List.getElem?_map, hd1]; rfl)
    refine ⟨_, rfl, .inl ⟨rfl, _, SqL.of e1⟩, _, rfl, _, rfl, ph, _, _, _, rfl, rfl, SqL.of eph7, hat, ?_⟩
    refine ⟨_, rfl, _, rfl, _, rfl, _, rfl, _, rfl, _, rfl, _, rfl, _, _, rfl, rfl, _, rfl, ph, _, rfl, SqL.of eph7, fun d hd => ?_⟩
    have ecut : cutV (hds.map V.str) (some (0 + (i : Int) + 1)) none = (hds.drop (i + 1)).map V.str := by
      rw [show (0 : Int) + (i : Int) + 1 = ((i + 1 : Nat) : Int) by omega, cut_from, drop_strs]
    rw [ecut]
    have sd := same_new hd (.lst ((hds.drop (i + 1)).map V.str))
    refine ⟨pw, d, _, _, rfl, rfl, sd _ _ epw7, upd_same, by rw [List.length_map, List.length_map, List.length_drop, sizeLine_eq]; omega, fun e he => ?_⟩
    have se := same_new he (.lst (ws.map V.str ++ (hds.drop (i + 1)).map V.str))
    have ee : (upd (upd H' d (.lst ((hds.drop (i + 1)).map V.str))) e (.lst (ws.map V.str ++ (hds.drop (i + 1)).map V.str))) e = some (.lst ((ws ++ hds.drop (i + 1)).map V.str)) := by rw [List.map_append]; exact upd_same
    have sde := sd.trans se
    have hi4 : i ≤ 3 := by omega
    have epl8 := sde _ _ epl7
    have eph8 := sde _ _ eph7
    have e18 := sde _ _ e1
    have jr8 := jr.keep sde
    have eel : e ≠ pl := fun q => by rw [q, sd _ _ epl7] at he; cases he
    generalize (upd (upd H' d (.lst ((hds.drop (i + 1)).map V.str))) e (.lst (ws.map V.str ++ (hds.drop (i + 1)).map V.str))) = H8 at ee sde epl8 eph8 e18 jr8
    refine ⟨j, pl, ph, e, C + 21 + 20 * i, _, nl.drop (altsOf rs).length, hds, ws ++ hds.drop (i + 1), rfl, jr8, by omega, epl8, by rw [List.length_drop]; omega, by rw [List.length_drop]; omega, eph8, by omega, ee, by rw [List.length_append, List.length_drop]; omega, ?_, Ne.symm plph, eel, fun p as H9 np hAL hGA epl9 jr9 kx9 => ?_⟩
    · intro q
      have := congrArg List.length (List.append_eq_nil_iff.mp q).1
      rw [lws, List.length_nil] at this
      omega
    have prX : pr ∉ [j, pl] := by simp [prj, prpl]
    have e19 := kx9 _ _ prX e18
    refine ⟨(by show 2 ≤ sizeLine; decide), fun t ht => ?_⟩
    have st := same_new ht (.tup [.str hds[i], .ref p])
    have e1A := st _ _ e19
    have tp : t ≠ pr := fun q => by rw [q, e19] at ht; cases ht
    have lacc : acc.length = rs.length := Paired.length pa
    refine ⟨pr, _, _, rfl, rfl, e1A, by rw [sizeLine_eq]; omega, ?_⟩
    have ppr : p ≠ pr := fun q => by rw [q, e18] at np; cases np
    have ppl : p ≠ pl := fun q => by rw [q, epl8] at np; cases np
    have pj : p ≠ j := jr8.ne np
    obtain ⟨xs, hxs, pxs⟩ := hAL
    have htk : hds.take (i + 1) = hds.take i ++ [hds[i]] := by rw [List.take_add_one, hd1]; rfl
    have eal : altsOf (rs ++ [(hds[i], as)]) = altsOf rs ++ as := by show List.flatMap _ _ = _; rw [List.flatMap_append]; simp
    have tkX : ∀ {Ha Hb : Hp}, KX [j, pl] Ha Hb → Ha j ≠ none → (∃ l, Ha pl = some (.lst l)) → (∃ l, Ha j = some (.lst l)) → Tk Ha Hb := fun {Ha Hb} k _ hl hlj c ys ec => k c _ (by
      simp only [List.mem_cons, List.not_mem_nil, or_false]
      rintro (q | q)
      · obtain ⟨l, hl⟩ := hlj; rw [q, hl] at ec; cases ec
      · obtain ⟨l, hl⟩ := hl; rw [q, hl] at ec; cases ec) ec
    have jl : ∃ l, H8 j = some (.lst l) := by obtain ⟨x, y, z, h, _⟩ := jr8; exact ⟨_, h⟩
    have t89 : Tk H8 H9 := tkX kx9 jr8.some ⟨_, epl8⟩ jl
    have t9 := (Tk.of_same st).trans (Tk.lst (o := .lst (acc ++ [.ref t])) e1A)
    have tA := ((Tk.of_same sde).trans t89).trans t9
    have lst9 : ∀ {b : Addr} {ys : List V}, b ≠ pr ∧ b ≠ pl ∧ b ≠ j → H' b = some (.lst ys) → (upd (upd H9 t (.tup [.str hds[i], .ref p])) pr (.lst (acc ++ [.ref t]))) b = some (.lst ys) := fun {b ys} n e => by
      rw [upd_ne n.1]
      exact st _ _ (kx9 _ _ (by simp [n.2.1, n.2.2]) (sde _ _ e))
    refine ⟨_, acc ++ [.ref t], rs ++ [(hds[i], as)], rfl, upd_same, ?_, by rw [List.map_append, hm, htk]; rfl, ?_, ?_, ?_, ?_, (((jr9.keep st).upd prj).mono (by omega)), ?_⟩
    · refine paired_snoc (paired_imp (fun _ _ r => r.tk tA fun b ys n e => lst9 n e) pa) ⟨t, p, xs, rfl, by rw [upd_ne tp]; exact upd_same, by rw [upd_ne ppr]; exact st _ _ hxs, ⟨ppr, ppl, pj⟩, paired_imp (fun _ _ r => r.tk t9) pxs⟩
    · rw [eal, List.map_append, ha, hGA.lab, List.length_append, List.take_add]
    · have := hGA.few
      rw [eal, List.length_append]; omega
    · rw [upd_ne (Ne.symm prpl), eal, List.length_append, ← List.drop_drop]; exact st _ _ epl9
    · intro r hr
      rcases List.mem_append.mp hr with h | h
      · exact hrow r h
      · rw [List.mem_singleton.mp h]
        refine ⟨hGA.one, hGA.few, fun a ha => ⟨(hGA.row a ha).1, fun x hx => ?_⟩⟩
        rcases List.mem_append.mp ((hGA.row a ha).2 x hx) with h | h
        · exact List.mem_append_right _ h
        · rcases List.mem_append.mp h with h | h
          · exact List.mem_append_left _ h
          · exact List.mem_append_right _ (List.mem_of_mem_drop h)
    · exact KX.new (kx.trans ((KX.of sde).trans (kx9.trans (KX.of st)))) hpr
  case done =>
    obtain ⟨x7, acc, rs, rfl, e1, pa, hm, ha, hal, epl7, hrow, jr, kx⟩ := h
    rw [List.take_length] at hm
    have lrs : rs.length = hds.length := by rw [← hm, List.length_map]
    have epw7 := kx _ _ pwX epw6
    have eph7 := kx _ _ phX eph6
    have kA : Keep j H H' := fun c o n e => kx c o (by
      simp only [List.mem_cons, List.not_mem_nil, or_false]
      rintro (q | q)
      · exact n q
      · rw [q, nplH] at e; cases e) (k6 c o n e)
    refine ⟨_, rfl, _, rfl, j, pw, C + 21 + 20 * hds.length, ws, rfl, jr, by omega, epw7, by omega, (List.nodup_append.mp nodup).1, gws, fun pk ks H8 npk pkj hKL hGK jr8 kp8 => ?_⟩
    have eph8 := kp8 _ _ phj eph7
    refine ⟨_, rfl, _, rfl, _, rfl, ph, _, rfl, .inl (SqL.of eph8), j, C + 21 + 20 * hds.length + 42 * ws.length + 2, _, rfl, jr8, by omega, by rw [List.length_map]; omega, by rw [List.length_map]; omega, fun r4 H9 r40 r41 jr9 kp9 => ?_⟩
    rw [List.length_map] at r41
    refine ⟨_, rfl, j, C + 21 + 20 * hds.length + 42 * ws.length + 3, 2, rfl, jr9, by omega, by decide, by decide, fun r5 H10 r50 r51 jr10 kp10 => ?_⟩
    refine ⟨rfl, .inr ⟨_, rfl, ?_⟩⟩
    obtain ⟨at', hat'⟩ : ∃ a : Nat, r4 * (if decide (V.int r5 = V.int 0) = true then 1 else 0) = (a : Int) ∧ a < hds.length := by
      by_cases c : decide (V.int r5 = V.int 0) = true
      · rw [if_pos c]; exact ⟨r4.toNat, by omega, by omega⟩
      · rw [if_neg c]; exact ⟨0, by omega, by omega⟩
    refine ⟨_, _, rfl, rfl, .inl ⟨by omega, by omega⟩, (by show 3 ≤ sizeLine; decide), fun p hp => ?_⟩
    show Q (.ref p) (upd H10 p (.lst [.ref pk, .ref pr, .int (r4 * (if decide (V.int r5 = V.int 0) = true then 1 else 0))]))
    rw [hat'.1]
    have sp := same_new hp (.lst [.ref pk, .ref pr, .int (at' : Nat)])
    have hRL : RL H' pr rs := ⟨acc, e1, paired_imp (fun _ _ ⟨a, b, xs, e, h1, h2, _, h4⟩ => ⟨a, b, xs, e, h1, h2, trivial, h4⟩) pa⟩
    have kB := kA.trans (kp8.trans (kp9.trans kp10))
    have hpH : H p = none := by
      by_cases e : p = j
      · obtain ⟨x, y, z, h, _⟩ := jr10; rw [e, h] at hp; cases hp
      · exact new_back kB e hp
    refine q p pk pr ks rs at' _ hpH upd_same (((hKL.keep jr8 kp9).keep jr9 kp10).same sp) ((((hRL.keep jr kp8).keep jr8 kp9).keep jr9 kp10).same sp) ⟨⟨ws, hGK, by omega, by omega, by rw [hm]; exact nodup, gws, fun r hr a ha x hx => by rw [hm]; exact ((hrow r hr).2.2 a ha).2 x hx⟩, by omega, by omega, fun r hr => ⟨ghd _ (by rw [← hm]; exact List.mem_map.mpr ⟨r, hr, rfl⟩), (hrow r hr).1, (hrow r hr).2.1, fun a ha2 => ⟨?_, ((hrow r hr).2.2 a ha2).1⟩⟩, ?_⟩ (by omega) ((jr10.keep sp).mono (by omega)) (kB.trans (.of_same sp))
    · refine gnl _ (List.mem_of_mem_take (i := (altsOf rs).length) ?_)
      rw [← ha]
      exact List.mem_map.mpr ⟨a, List.mem_flatMap.mpr ⟨r, hr, ha2⟩, rfl⟩
    · rw [ha]
      exact (List.take_sublist _ _).nodup dnl
end
end Pa
set_option maxHeartbeats 2000000
/-! own rule: for a, b in enumerate(a tuple) -/
namespace PySem
open Sem (wp)
open AutoSeq1 (wpAny_loadPart')
theorem meets_enumerate_newTu (l : Addr) (items : Array Value) (n : Nat) (dct : Option Addr) (sl : Array (Option Value)) :
    Meets (Builtin.«enumerate.__new__» ⟨[.type "enumerate", .ref l], []⟩) (fun _ R s => s.heap.get? l = some { cls := .type "tuple", dict := dct, data := .seq items n, slots := sl } ∧
      R (.ok (.ret (.ref (s.heap.push { cls := .type "tuple_iterator", data := .fields #[.ref l, .int 0 0] }).objs.size)))
        { s with heap := (s.heap.push { cls := .type "tuple_iterator", data := .fields #[.ref l, .int 0 0] }).push { cls := .type "enumerate", data := .fields #[.none, .bool false, .ref s.heap.objs.size, rawInt 0, .none, .none] } }) :=
  .of_wp fun prog w A R s h => by
    obtain ⟨hp, g, d, tk, os⟩ := s; obtain ⟨hl, h⟩ := h
    have hsub := sub_enumerate
    have hL : Heap.IsTuple (Shared.heap ⟨hp, g, d, tk, os⟩) l items := ⟨_, hl, rfl, n, rfl⟩
    wp_walk using wpAny_loadPart' hl
    refine wpAny_stack_any fun st => wpAny_pure ?_
    split
    · rename_i c _ _ _ _ _
      cases (c == Value.type "enumerate")
      · wp_walk using wpAny_loadPart' hl, wpAny_pyIter_tuple hL
        exact ⟨_, rfl, h⟩
      · wp_walk using wpAny_loadPart' hl, wpAny_pyIter_tuple hL
        exact ⟨_, rfl, h⟩
    · wp_walk using wpAny_loadPart' hl, wpAny_pyIter_tuple hL
      exact ⟨_, rfl, h⟩
end PySem
namespace Se
open PySem PySem.Spec PyProof.Rows L2 Ty
theorem call_enumerate_tup {prog : Program} {w : World} {A : Around} {E : Value → Shared → Prop} {s : Shared} {l : Addr} {items : Array Value} {Q : Value → Shared → Prop} (hL : s.heap.IsTuple l items)
    (h : ∀ h', IsEnum h' (s.heap.objs.size + 1) s.heap.objs.size 0 .none → h'.IsTupleIter s.heap.objs.size l 0 → h'.objs.size = s.heap.objs.size + 2 →
      (∀ b o, s.heap.get? b = some o → h'.get? b = some o) → Q (.ref (s.heap.objs.size + 1)) { s with heap := h' }) :
    wpAny (model prog w) A (call (.type "enumerate") [.ref l]) Q E s := by
  obtain ⟨⟨c, dct, dt, sl⟩, hl, hc, n, hd⟩ := hL
  replace hc : c = .type "tuple" := hc
  replace hd : dt = .seq items n := hd
  subst hc hd
  refine callType_new F.called_enumerate (by decide) (F.typeCall_enumerate_1 _) (F.newCall_enumerate_1 _) (fun obj => F.args_object_init_2 obj _) F.entry_enumerate_new
    (meets_enumerate_newTu l items n dct sl) ⟨hl, ?_⟩
  have hz : (s.heap.push { cls := .type "tuple_iterator", data := .fields #[.ref l, .int 0 0] }).objs.size = s.heap.objs.size + 1 := Heap.size_push ..
  show _ ∧ _
  rw [hz]
  have he : IsEnum ((s.heap.push { cls := .type "tuple_iterator", data := .fields #[.ref l, .int 0 0] }).push
      { cls := .type "enumerate", data := .fields #[.none, .bool false, .ref s.heap.objs.size, rawInt 0, .none, .none] }) (s.heap.objs.size + 1) s.heap.objs.size 0 .none := by
    have := Heap.get?_push_size (s.heap.push { cls := .type "tuple_iterator", data := .fields #[.ref l, .int 0 0] })
      (o := { cls := .type "enumerate", data := .fields #[.none, .bool false, .ref s.heap.objs.size, rawInt 0, .none, .none] }) rfl
    rw [hz] at this; exact this
  refine ⟨⟨_, he, rfl⟩, h _ he ⟨_, Heap.get?_push_of_some _ (Heap.get?_push_size _ rfl), rfl, rfl⟩ (by rw [Heap.size_push, hz]) fun b o x => Heap.get?_push_of_some _ (Heap.get?_push_of_some _ x)⟩
/-- the tuple at a as it stands at each turn, each item in a new pair -/
def ItET (K : PySem.W.Frag) (a : Addr) : It :=
  ⟨fun i H => ∃ (xs : List V) (x : V), SqT K H a xs ∧ xs[i]? = some x, fun i H v H' => ∃ T x, v = .ref T ∧ H T = none ∧ H' = upd H T (.tup [.int (i : Nat), x]) ∧ ∀ xs, SqT K H a xs → xs[i]? = some x, fun i H => ∃ xs : List V, SqT K H a xs ∧ xs.length = i⟩
theorem turn_enumT {P : Program} {w : World} {K : PySem.W.Frag} {elts : List Expr} {kk : Nat} {tpos : Pos} (a e it : Addr) :
    Turn P w K (.Tuple elts kk tpos) (ItET K a) [e, it] e (fun i h => (∃ old, IsEnum h e it ((i : Nat) : Int) old) ∧ h.IsTupleIter it a i ∧ e ≠ it) where
  mem := by simp
  obj := fun i h st b hb => by
    obtain ⟨⟨old, he⟩, ⟨o, ho, hc, hd⟩, _⟩ := st
    have e' : b = e ∨ b = it := by simpa using hb
    rcases e' with z | z
    · rw [z]; exact ⟨_, he, fun v q => nomatch q⟩
    · rw [z]; exact ⟨o, ho, fun v q => by rw [hd] at q; cases q⟩
  keep := fun i h h' st k => let ⟨⟨old, he⟩, hi, hne⟩ := st; ⟨⟨old, k e (by simp) _ he⟩, hi.at fun o q => k it (by simp) o q, hne⟩
  item := by
    intro X hP hw hK hc i pins s σ H E I hf st hg
    subst hP hw hK
    obtain ⟨⟨old, he⟩, hit, hne⟩ := st
    obtain ⟨xs, x, hq, hx⟩ := hg
    obtain ⟨its, rv, p, hz⟩ := I.tuple hq
    obtain ⟨u, hu, ru⟩ := rv.get hx
    have hp : s.heap.IsTuple a its.toArray := p
    have hel : e < s.heap.objs.size := Heap.lt_size he
    have hil : it < s.heap.objs.size := by obtain ⟨_, q, _⟩ := hit; exact Heap.lt_size q
    have hai : a ≠ it := fun z => by
      obtain ⟨o, ho, hc1, _⟩ := hp
      obtain ⟨o2, ho2, hc2, _⟩ := hit
      rw [z, ho2] at ho
      cases ho
      rw [hc2] at hc1
      injection hc1 with h
      exact absurd h (by decide)
    have hea : e ≠ a := fun z => by
      obtain ⟨o, ho, hc1, _⟩ := hp
      have he2 := he
      rw [z] at he2
      unfold IsEnum at he2
      rw [ho] at he2
      cases he2
      injection hc1 with h
      exact absurd h (by decide)
    have hi : i < its.length := by
      have := rv.length
      have h2 := (List.getElem?_eq_some_iff.mp hx).1
      omega
    refine wpAny_pyNext_enum_itemD (Draws.tuple (A := X.A.in1) (I.ok.hd hc) it a hai its.toArray) he ⟨hit, hp⟩ (by simpa using hi) hne (by simp [hne, hea]) fun y h' tk hy ho hit' hT hsz hk => ?_
    obtain rfl : y = u := by
      have h1 : its.toArray[i]? = some y := hy
      have h2 : its.toArray[i]? = some u := by simpa using hu
      rw [h1] at h2
      exact Option.some.inj h2
    refine ⟨_, rfl, wpAny_letOwnedTupleGo_enum (s := { s with heap := h', toks := tk + 1 }) ho fun h'' he' sb => ?_⟩
    have hT2 : h''.get? s.heap.objs.size = some { cls := .type "tuple", data := .seq #[.int i tk, y] } := (sb.2 _ (Nat.ne_of_gt hel)).trans hT
    have new : ObjOk X.prog X.w (upd H s.heap.objs.size (.tup [.int (i : Nat), x])) h'' s.heap.objs.size (.tup [.int (i : Nat), x]) :=
      ⟨by show 2 ≤ sizeLine; decide, [.int i tk, y], .cons ⟨_, rfl⟩ (.cons ru .nil), ⟨_, hT2, rfl, _, rfl⟩⟩
    have I1 : Inv X pins σ (upd H s.heap.objs.size (.tup [.int (i : Nat), x])) { s with heap := h'', toks := tk + 1 } :=
      I.turnedNew (ch := [e, it]) (fun b ob hb q => (sb.2 b (fun z => hb (by simp [z]))).trans (hk b ob (fun z => hb (by simp [z])) (fun z => hb (by simp [z])) q)) hf (Nat.le_refl _) new
    refine ⟨.ref s.heap.objs.size, _, I1, rfl, ⟨_, x, rfl, I.hok.fresh (Nat.le_refl _), rfl, fun ys hy => by rw [I.tuple_inj hy hq]; exact hx⟩, ⟨⟨y, ?_⟩, hit'.1.at fun o q => (sb.2 it (Ne.symm hne)).trans q, hne⟩, fun b hb => ?_⟩
    · have e1 : ((i + 1 : Nat) : Int) = (i : Int) + 1 := by omega
      rw [e1]; exact he'
    · have hb' : b < s.heap.objs.size := by
        have e' : b = e ∨ b = it := by simpa using hb
        rcases e' with z | z
        · rw [z]; exact hel
        · rw [z]; exact hil
      rw [upd_ne (Nat.ne_of_lt hb')]
      exact (hf b hb).1
  done := by
    intro X hP hw hK hc i pins s σ H E I hf st hg
    subst hP hw hK
    obtain ⟨⟨old, he⟩, hit, hne⟩ := st
    obtain ⟨xs, hq, hx⟩ := hg
    obtain ⟨its, rv, p, hz⟩ := I.tuple hq
    obtain ⟨f0, f1, f2, f3, f4, f5⟩ := hf it (by simp)
    have hl := rv.length
    have hp : s.heap.IsTuple a its.toArray := p
    have hai : a ≠ it := fun z => by
      obtain ⟨o, ho, hc1, _⟩ := hp
      obtain ⟨o2, ho2, hc2, _⟩ := hit
      rw [z, ho2] at ho
      cases ho
      rw [hc2] at hc1
      injection hc1 with h
      exact absurd h (by decide)
    have hn : its.toArray.size = i := by rw [List.size_toArray]; omega
    refine wpAny_pyNext_enum_endD (Draws.tuple (A := X.A.in1) (I.ok.hd hc) it a hai its.toArray) he (by rw [hn]; exact ⟨hit, hp⟩) fun h' eb => ⟨rfl, I.turned (t' := s.toks) (fun b o hb q => eb b o hb q) f0 f1 f3 f4 f5⟩
  self := fun A i s Q E st h => let ⟨⟨_, he⟩, _⟩ := st; wpAny_pyIter_enum he h
def iEnumT (K : PySem.W.Frag) (ta : TA) : TI := fun σ H R => ta σ H fun vs H1 => ∃ a xs, vs = [.ref a] ∧ SqT K H1 a xs ∧ R (ItET K a) H1
theorem pi_enumT {X : Cx} {e : Expr} {ta : TA} {p pos tpos : Pos} {elts : List Expr} {kk : Nat} (hg : Gl X "enumerate") (hm : X.mg "enumerate" = none) (ha : PA X [e] ta) (hs : starEach [e] X.env = [(false, eval e X.env)] := by rfl) :
    PI X (.Tuple elts kk tpos) (.Call (.Name "enumerate" p) [e] [] pos) (iEnumT X.K ta) := by
  refine ⟨fun pins s σ H R I h => ?_⟩
  refine Call_ (ld_blt I hg hm boot_enumerate (PyProof.Rows.callWith_type1 (thn (ha.run pos pins s σ H _ I h) fun us s1 ⟨vs, H1, I1, r1, q1⟩ => ?_) hs rfl))
  obtain ⟨a, xs, ex, hq, q⟩ := q1
  subst ex
  cases r1 with
  | cons r rr =>
    cases rr
    cases r
    obtain ⟨its, rv, p', hz⟩ := I1.tuple hq
    refine call_enumerate_tup (show s1.heap.IsTuple a its.toArray from p') fun h' he hit hsz hk => wpAny_pyIter_enum he ?_
    have I2 : Inv X pins σ H1 { s1 with heap := h' } := I1.kept (t' := s1.toks) hk
    refine ⟨s1.heap.objs.size + 1, [s1.heap.objs.size + 1, s1.heap.objs.size], _, _, H1, rfl, I2, turn_enumT a (s1.heap.objs.size + 1) s1.heap.objs.size, ⟨⟨.none, he⟩, hit, Nat.succ_ne_self _⟩, fun b hb => ?_, q⟩
    have e' : b = s1.heap.objs.size + 1 ∨ b = s1.heap.objs.size := by simpa using hb
    have hle : s1.heap.objs.size ≤ b := by
      rcases e' with z | z
      · rw [z]; exact Nat.le_add_right _ _
      · rw [z]; exact Nat.le_refl _
    exact I1.fpOk hle (I1.hok.fresh hle)
theorem walk_enumT {K : PySem.W.Frag} {a : Addr} {xs : List V} : Walk (ItET K a) xs.length (fun H => SqT K H a xs) (YPair (fun i => some (.int (i : Nat))) (fun i => xs[i]?)) := by
  refine ⟨fun i H hi q => ⟨xs, xs[i], q, by simp [hi]⟩, fun H q => ⟨xs, q, rfl⟩, fun i H v H' hi q y => ?_⟩
  obtain ⟨T, x, h1, h2, h3, h4⟩ := y
  exact ⟨T, .int (i : Nat), x, h1, h2, h3, rfl, h4 xs q⟩
end Se
set_option maxHeartbeats 4000000
namespace Pa
open PySem PySem.Spec PyProof.Rows L2 Ty Se
/-! ### dicts of lists of pairs -/
theorem merge_app : ∀ (kvs acc : List (Key × V)), ((acc ++ kvs).map (·.1)).Nodup → mergeK acc kvs = acc ++ kvs
  | [], acc, _ => by rw [List.append_nil]; rfl
  | kv :: kvs, acc, h => by
    have hn : valV acc kv.1 = none := by
      cases e : valV acc kv.1 with
      | none => rfl
      | some v =>
        have m := valV_in e
        rw [List.map_append, List.map_cons] at h
        exact absurd rfl ((List.nodup_append.mp h).2.2 _ m _ List.mem_cons_self)
    show mergeK (putK acc kv.1 kv.2) kvs = _
    rw [putK_new _ hn, merge_app kvs _ (by rw [List.append_assoc]; exact h), List.append_assoc]
    rfl
theorem merge_nodup {kvs : List (Key × V)} (h : (kvs.map (·.1)).Nodup) : mergeK [] kvs = kvs := merge_app kvs [] h
def DRl (H : Hp) (kv : Key × V) (r : Str × List (Str × List Str)) : Prop := kv.1 = Sum.inr r.1 ∧ ∃ b, kv.2 = .ref b ∧ AL H b r.2
theorem rl_pairs {K : PySem.W.Frag} {H : Hp} : ∀ {rb : List V} {rs : Rls}, Paired (RlV anyB H) rb rs → ∃ (ps : List Addr) (kvs : List (Key × V)), rb = ps.map V.ref ∧ Paired (fun p kv => SqT K H p [kV kv.1, kv.2]) ps kvs ∧ Paired (DRl H) kvs rs
  | _, _, .nil => ⟨[], [], rfl, .nil, .nil⟩
  | _, _, .cons (b := r) h t => by
    obtain ⟨ps, kvs, e, h1, h2⟩ := rl_pairs (K := K) t
    obtain ⟨a, b, xs, rfl, g1, g2, _, g4⟩ := h
    exact ⟨a :: ps, (Sum.inr r.1, .ref b) :: kvs, by rw [e]; rfl, .cons (SqT.of g1) h1, .cons ⟨rfl, b, rfl, xs, g2, g4⟩ h2⟩
theorem al_pairs {K : PySem.W.Frag} {H : Hp} : ∀ {xs : List V} {as : List (Str × List Str)}, Paired (AltV H) xs as → ∃ (ps : List Addr) (kvs : List (Key × V)), xs = ps.map V.ref ∧ Paired (fun p kv => SqT K H p [kV kv.1, kv.2]) ps kvs ∧ Paired (SpE H) kvs as
  | _, _, .nil => ⟨[], [], rfl, .nil, .nil⟩
  | _, _, .cons (b := r) h t => by
    obtain ⟨ps, kvs, e, h1, h2⟩ := al_pairs (K := K) t
    obtain ⟨a, b, rfl, g1, g2⟩ := h
    exact ⟨a :: ps, (Sum.inr r.1, .ref b) :: kvs, by rw [e]; rfl, .cons (SqT.of g1) h1, .cons ⟨rfl, b, rfl, g2⟩ h2⟩
theorem drl_keys {H : Hp} : ∀ {kvs : List (Key × V)} {rs : Rls}, Paired (DRl H) kvs rs → kvs.map (·.1) = (rs.map (·.1)).map Sum.inr
  | _, _, .nil => rfl
  | _, _, .cons h t => by rw [List.map_cons, List.map_cons, List.map_cons, drl_keys t, h.1]
theorem spe_keys {H : Hp} : ∀ {kvs : List (Key × V)} {as : List (Str × List Str)}, Paired (SpE H) kvs as → kvs.map (·.1) = (as.map (·.1)).map Sum.inr
  | _, _, .nil => rfl
  | _, _, .cons h t => by rw [List.map_cons, List.map_cons, List.map_cons, spe_keys t, h.1]
theorem inr_nodup {l : List Str} (h : l.Nodup) : (l.map (Sum.inr : Str → Key)).Nodup := List.Pairwise.map _ (fun a b n e => n (Sum.inr.inj e)) h
theorem drl_get {H : Hp} (s : Str) : ∀ {kvs : List (Key × V)} {rs : Rls}, Paired (DRl H) kvs rs → (∃ b, valV kvs (Sum.inr s : Key) = some (.ref b) ∧ AL H b ((rs.lookup s).getD []) ∧ s ∈ rs.map (·.1)) ∨ (valV kvs (Sum.inr s : Key) = none ∧ rs.lookup s = none)
  | _, _, .nil => .inr ⟨rfl, rfl⟩
  | kv :: _, (n, as) :: _, .cons h t => by
    obtain ⟨e1, b, e2, hb⟩ := h
    by_cases e : n = s
    · subst e
      refine .inl ⟨b, by rw [valV_pos e1, e2], ?_, List.mem_cons_self⟩
      rw [List.lookup_cons]
      simpa using hb
    · have : (s == n) = false := beq_eq_false_iff_ne.mpr (Ne.symm e)
      rw [valV_neg (fun q => e (Sum.inr.inj (e1.symm.trans q))), List.lookup_cons, this]
      rcases drl_get s t with ⟨b, h1, h2, h3⟩ | h
      · exact .inl ⟨b, h1, h2, List.mem_cons_of_mem _ h3⟩
      · exact .inr h
theorem lookup_mem {β : Type} {s : Str} {b : β} : ∀ {rs : List (Str × β)}, rs.lookup s = some b → (s, b) ∈ rs
  | (n, c) :: rs, h => by
    rw [List.lookup_cons] at h
    by_cases q : s = n
    · rw [q] at h ⊢; simp at h; rw [h]; exact List.mem_cons_self
    · rw [beq_eq_false_iff_ne.mpr q] at h
      exact List.mem_cons_of_mem _ (lookup_mem h)
/-! ### all bars that may be -/
def EdgB (b : Str × Int × Str) : Prop := Nm b.1 ∧ Nm b.2.2 ∧ 1 ≤ b.2.1 ∧ b.2.1 ≤ 9
structure EdB (rs : Rls) : Prop where
  nodup : (rs.map (·.1)).Nodup
  rl : rs.length ≤ 100
  al : (altsOf rs).length ≤ 1000
  row : ∀ a, a ∈ altsOf rs → Nm a.1 ∧ a.2.length ≤ 9
  few : ∀ r, r ∈ rs → r.2.length ≤ 10
def spEdges : Sp := fun vs H Q _ => ∃ (b : Addr) (rs : Rls), vs = [.ref b] ∧ RL H b rs ∧ EdB rs ∧
  ∀ (p : Addr) (bs : Brs) (H' : Hp), H p = none → BL H' p bs → bs.length ≤ 100000 → (∀ x, x ∈ bs → EdgB x) → Same H H' → Q (.ref p) H'
theorem scEdges : FnScope ["rules", "found", "head", "label", "row", "at", "sign", "other", "signs"] ["rules"] (defScope lEdges) := ⟨rfl, rfl, rfl, by decide +kernel, rfl, by decide +kernel, by decide +kernel⟩
section
variable {P : Program} {w : World} {K : PySem.W.Frag} {mg : Str → Option Value} {base : Heap} {f g g2 : Addr} {fd gd gd2 : FuncData}
theorem ok_edges (F : Fun K "_law_edges" "_law_edges" lEdges f fd)
    (GA : FnOk P w K mg base CX0 1 g gd ["rules"] spAll) (bA : Binds K gd ["rules"] []) (kA : PySem.W.keepIn K (.ref g) = true) (mA : mg "_law_all" = some (.ref g)) (me : mg "enumerate" = none) (md : mg "dict" = none) :
    FnOk P w K mg base CX0 2 f fd ["rules"] spEdges := by
  refine F.ok scEdges (fun vs H Q E h => ?_) (fun cdv A outer s0 H vs Q E hr h => ?_)
  · obtain ⟨_, _, rfl, _⟩ := h
    rfl
  have hu1 := hu_of hr
  obtain ⟨b, rs, rfl, ⟨rb, hb, pr⟩, B, q⟩ := h
  refine ⟨_, pss_cons (ps_set (i := 1) scEdges.nd rfl (.inl rfl) (pe_lst pa_nil))
    (pss_cons (ps_for PassesOwn.never rfl (pi_list (pe_call GA hr rfl mA kA bA .nil pass0 (pa_cons (pv 0) pa_nil))) (pg_tup rfl (pgs_cons (pg_name (i := 2) scEdges.nd rfl (Or.inl rfl)) (pgs_cons (pg_name (i := 3) scEdges.nd rfl (Or.inr rfl)) (pgs_cons (pg_name (i := 4) scEdges.nd rfl (Or.inl rfl)) pgs_nil))))
      (pss_one (ps_for PassesOwn.never rfl (pi_enumT rfl me (pa_cons (pv 4) pa_nil)) (pg_tup rfl (pgs_cons (pg_name (i := 5) scEdges.nd rfl (Or.inr rfl)) (pgs_cons (pg_name (i := 6) scEdges.nd rfl (Or.inl rfl)) pgs_nil)))
        (pss_one (ps_expr (pe_bm PySem.F.plainAttrs_list PySem.F.slot_list_extend PySem.F.type_list_extend mt_extend (pv 1) (pa_cons
          (pe_lc (own := [("other", 7), ("signs", 8)]) (g := gTup K 2 (gCons (gName 7) (gCons (gName 8) gNil))) (tt := tYes) rfl scEdges.nd (pi_list (pe_dget2 hu1 (pe_callTy (call_dictP rfl) rfl md (by decide +kernel) (pa_cons (pv 0) pa_nil)) (pv 6) (pe_lst pa_nil) ⟨rfl, rfl, rfl, rfl⟩)) (blkOk_by (N := ["rules", "found", "head", "label", "row", "at", "sign", "other", "signs"]) (sc := defScope lEdges) (by decide +kernel)) (fun _ _ _ _ _ => pg_tup rfl (pgs_cons (pg_name (i := 7) scEdges.nd rfl (Or.inl rfl)) (pgs_cons (pg_name (i := 8) scEdges.nd rfl (Or.inl rfl)) pgs_nil))) (fun _ _ _ _ _ => pts_nil)
            (fun _ _ _ _ _ => pe_tup (pa_cons (pv 3) (pa_cons (pe_op op_add (pv 5) pe_int) (pa_cons (pv 7) pa_nil))))) pa_nil)))))))
    (pss_one (ps_ret (pv 1)))), ?_⟩
  refine ⟨(by show 0 ≤ sizeLine; decide), fun p hp => ?_⟩
  have s1 := same_new hp (.lst [])
  have e0 : (upd H p (.lst [])) p = some (.lst []) := upd_same
  generalize upd H p (.lst []) = H0 at s1 e0
  refine ⟨_, rfl, b, rs, rfl, ⟨rb, s1 _ _ hb, paired_imp (fun _ _ r => r.same s1) pr⟩, by have := B.al; omega, fun pa xs H1 npa epa pxs s2 => ⟨pa, rfl, ⟨_, SqL.of epa⟩, ?_⟩⟩
  have lxs : xs.length = (allOf rs).length := Paired.length pxs
  have lal := all_len rs
  have ppa : p ≠ pa := fun e => by rw [e, npa] at e0; cases e0
  refine for_list (K := K) (xs := xs) (fun i σ H' => ∃ x2 x3 x4 x5 x6 x7 x8 acc bs, σ = [some (.ref b), some (.ref p), x2, x3, x4, x5, x6, x7, x8] ∧ H' p = some (.lst acc) ∧ Paired (BrV H') acc bs ∧ bs.length ≤ i * 100 ∧ (∀ x, x ∈ bs → EdgB x) ∧ (∀ c o, c ≠ p → H1 c = some o → H' c = some o))
    ⟨_, _, _, _, _, _, _, [], [], rfl, s2 _ _ e0, .nil, Nat.le_refl _, (fun _ h => by cases h), fun c o _ e => e⟩ (fun i σ H' _ h => by obtain ⟨_, _, _, _, _, _, _, _, _, _, _, _, _, _, k⟩ := h; exact SqL.of (k _ _ (Ne.symm ppa) epa)) (fun i v σ H' hv h => ?turn) (fun σ H' h => ?done)
  case done =>
    obtain ⟨x2, x3, x4, x5, x6, x7, x8, acc, bs, rfl, e1, pb, lb, hE, k⟩ := h
    refine ⟨_, rfl, q p bs H' hp ⟨acc, e1, pb⟩ ?_ hE fun c o e => ?_⟩
    · have := B.al
      rw [lxs, lal] at lb
      omega
    · have : c ≠ p := ne_of_none e hp
      exact k c o this (s2 _ _ (s1 _ _ e))
  case turn =>
    obtain ⟨x2, x3, x4, x5, x6, x7, x8, acc, bs, rfl, e1, pb, lb, hE, k⟩ := h
    obtain ⟨⟨n, lbl, row⟩, hai, ⟨ra, rb2, rfl, g1, g2⟩⟩ := paired_get pxs i v hv
    have hi : i < (allOf rs).length := (List.getElem?_eq_some_iff.mp hai).1
    have ham := List.mem_of_getElem? hai
    obtain ⟨r0, hr0, ha0⟩ := List.mem_flatMap.mp ham
    obtain ⟨a0, ha0m, ha0e⟩ := List.mem_map.mp ha0
    have hB0 := B.row a0 (List.mem_flatMap.mpr ⟨r0, hr0, ha0m⟩)
    have ea : a0 = (lbl, row) := by
      have h1 := (Prod.mk.inj ha0e).2
      exact h1
    rw [ea] at hB0
    have hnl : Nm lbl := hB0.1
    have hrow9 : row.length ≤ 9 := hB0.2
    have up : ∀ {c ys}, H1 c = some (.tup ys) → H' c = some (.tup ys) := fun {c ys} e => k _ _ (fun z => by rw [z, s2 _ _ e0] at e; cases e) e
    have rbp : rb2 ≠ p := fun z => by rw [z, s2 _ _ e0] at g2; cases g2
    refine ⟨ra, _, rfl, SqT.of (up g1), rfl, _, _, rfl, _, _, rfl, _, _, rfl, rfl, ?_⟩
    refine ⟨_, rfl, rb2, _, rfl, SqT.of (up g2), ?_⟩
    refine for_it (walk_enumT (K := K) (a := rb2) (xs := row.map V.str)) (fun t σ H' => ∃ x5 x6 x7 x8 acc bs, σ = [some (.ref b), some (.ref p), some (.str n), some (.str lbl), some (.ref rb2), x5, x6, x7, x8] ∧ H' p = some (.lst acc) ∧ Paired (BrV H') acc bs ∧ bs.length ≤ i * 100 + t * 10 ∧ (∀ x, x ∈ bs → EdgB x) ∧ (∀ c o, c ≠ p → H1 c = some o → H' c = some o))
      ⟨_, _, _, _, acc, bs, rfl, e1, pb, by omega, hE, k⟩ (fun t σ H' _ h => by obtain ⟨_, _, _, _, _, _, _, _, _, _, _, k⟩ := h; exact SqT.of (k _ _ rbp g2)) (fun t v σ H2 H3 ht h z => ?turn2) (fun σ H' h => ?done2)
    case done2 =>
      obtain ⟨x5, x6, x7, x8, acc, bs, rfl, e1, pb, lb, hE, k⟩ := h
      rw [List.length_map] at lb
      exact ⟨_, _, _, _, _, _, _, acc, bs, rfl, e1, pb, by omega, hE, k⟩
    case turn2 =>
      obtain ⟨x5, x6, x7, x8, acc, bs, rfl, e1, pb, lb, hE, k⟩ := h
      obtain ⟨T, y1, y2, rfl, hT, rfl, hy1, hy2⟩ := z
      cases hy1
      replace hy2 : (row.map V.str)[t]? = some y2 := hy2
      rw [List.getElem?_map] at hy2
      obtain ⟨sg, hsg, rfl⟩ : ∃ x, row[t]? = some x ∧ V.str x = y2 := by
        cases e : row[t]? with
        | none => rw [e] at hy2; cases hy2
        | some k => rw [e] at hy2; exact ⟨k, rfl, Option.some.inj hy2⟩
      have htr : t < row.length := (List.getElem?_eq_some_iff.mp hsg).1
      have sT := same_new hT (.tup [.int (t : Nat), .str sg])
      have eT : (upd H2 T (.tup [.int (t : Nat), .str sg])) T = some (.tup [.int (t : Nat), .str sg]) := upd_same
      generalize upd H2 T (.tup [.int (t : Nat), .str sg]) = H3 at sT eT
      refine ⟨T, _, rfl, SqT.of eT, rfl, _, _, rfl, _, _, rfl, rfl, ?_⟩
      have k3 : ∀ c o, c ≠ p → H1 c = some o → H3 c = some o := fun c o n e => sT _ _ (k c o n e)
      have bp : b ≠ p := fun z => by rw [z, hp] at hb; cases hb
      have upH : ∀ {c o}, H c = some o → H3 c = some o := fun {c o} e => k3 _ _ (ne_of_none e hp) (s2 _ _ (s1 _ _ e))
      have hb3 := upH hb
      have pr3 : Paired (RlV anyB H3) rb rs := paired_imp (fun _ _ r => r.tk (fun c ys e => upH e) fun b ys _ e => upH e) pr
      obtain ⟨ps, kvs, rfl, hps, hkv⟩ := rl_pairs (K := K) pr3
      have hmn : mergeK [] kvs = kvs := merge_nodup (by rw [drl_keys hkv]; exact inr_nodup B.nodup)
      refine ⟨_, rfl, .inl ⟨rfl, _, SqL.of (sT _ _ e1)⟩, _, rfl, b, ps, kvs, rfl, SqL.of hb3, hps, fun d hd => ?_⟩
      rw [hmn]
      have sd := same_new hd (.dK kvs)
      refine ⟨d, rfl, .inl ⟨_, .inl upd_same⟩, _, rfl, (by show 0 ≤ sizeLine; decide), fun em hem => ?_⟩
      have sm := same_new hem (.lst [])
      have sdm := sd.trans sm
      have hem0 : (upd (upd H3 d (.dK kvs)) em (.lst [])) em = some (.lst []) := upd_same
      have hdm : (upd (upd H3 d (.dK kvs)) em (.lst [])) d = some (.dK kvs) := sm _ _ upd_same
      generalize upd (upd H3 d (.dK kvs)) em (.lst []) = H4 at sm sdm hem0 hdm
      obtain ⟨as, las, la, lA, hla, hAL, hin⟩ : ∃ (as : List (Str × List Str)) (la : Addr) (_ : True) (_ : True), (valV kvs (Sum.inr sg : Key)).getD (.ref em) = .ref la ∧ AL H4 la as ∧ (as.length ≤ 10 ∧ ∀ x, x ∈ as → Nm x.1) := by
        rcases drl_get sg hkv with ⟨bb, h1, h2, h3⟩ | ⟨h1, h2⟩
        · refine ⟨_, bb, trivial, trivial, by rw [h1]; rfl, h2.same sdm, ?_⟩
          cases e : rs.lookup sg with
          | none => exact ⟨Nat.zero_le _, fun x hx => by cases hx⟩
          | some as =>
            have hm := lookup_mem e
            exact ⟨B.few _ hm, fun x hx => (B.row x (List.mem_flatMap.mpr ⟨_, hm, hx⟩)).1⟩
        · exact ⟨[], em, trivial, trivial, by rw [h1]; rfl, ⟨[], hem0, .nil⟩, Nat.zero_le _, fun x hx => by cases hx⟩
      obtain ⟨ys, hys, pys⟩ := hAL
      refine ⟨_, DGet.k (k := Sum.inr sg) hdm, ?_⟩
      rw [hla]
      refine ⟨las, rfl, ⟨_, SqL.of hys⟩, fun D hD => ?_⟩
      have lys : ys.length = as.length := Paired.length pys
      have ep4 := sdm _ _ (sT _ _ e1)
      refine lc_list (K := K) (xs := ys) (LcR H4 D (fun H v (a : Str × List Str) => BrV H v (lbl, (t : Int) + 1, a.1)) as) (.start hD) (fun i2 H' _ h => by obtain ⟨_, _, _, _, s⟩ := h; exact SqL.of (s _ _ hys)) (fun i2 v H' hv h => ?turn3) (fun H5 h => ?done3)
      case turn3 =>
        obtain ⟨acc2, f1, f2, f3, f4⟩ := h
        obtain ⟨⟨oth, sgs⟩, hy, ⟨ra2, rb3, rfl, w1, w2⟩⟩ := paired_get pys i2 v hv
        have hi2 : i2 < as.length := (List.getElem?_eq_some_iff.mp hy).1
        refine ⟨ra2, _, rfl, SqT.of (f4 _ _ w1), rfl, _, _, rfl, _, _, rfl, rfl, rfl, ?_⟩
        simp only [tYes, ↓reduceIte]
        refine ⟨_, rfl, _, rfl, _, _, rfl, rfl, _, rfl, (by show 3 ≤ sizeLine; decide), fun t2 ht2 => ?_⟩
        have u := same_new ht2 (.tup [.str lbl, .int ((t : Int) + 1), .str oth])
        refine ⟨acc2, u _ _ f1, by rw [sizeLine_eq, f2]; have := hin.1; omega, ?_⟩
        exact LcR.step (fun tk r => r.tk tk) f1 f2 f3 f4 u hD hy ⟨t2, rfl, upd_same⟩
      obtain ⟨acc2, f1, f3, f4⟩ := h.done lys
      have la2 : acc2.length = as.length := Paired.length f3
      have lacc : acc.length = bs.length := Paired.length pb
      refine ⟨p, D, acc, acc2, rfl, rfl, f4 _ _ ep4, f1, by have := hin.1; have h1 := B.al; rw [sizeLine_eq]; omega, ?_⟩
      have tk5 := Tk.lst (o := .lst (acc ++ acc2)) (f4 _ _ ep4)
      have tkA := ((Tk.of_same sT).trans (Tk.of_same sdm)).trans ((Tk.of_same f4).trans tk5)
      refine ⟨_, _, _, _, acc ++ acc2, bs ++ as.map (fun a => (lbl, (t : Int) + 1, a.1)), rfl, upd_same, ?_, ?_, ?_, fun c o n e => ?_⟩
      · refine paired_app (paired_imp (fun _ _ r => r.tk tkA) pb) ?_
        have : ∀ {u : List V} {v : List (Str × List Str)}, Paired (fun v (a : Str × List Str) => BrV H5 v (lbl, (t : Int) + 1, a.1)) u v → Paired (BrV (upd H5 p (.lst (acc ++ acc2)))) u (v.map fun a => (lbl, (t : Int) + 1, a.1)) := fun {u v} pp => by
          induction pp with
          | nil => exact .nil
          | cons h _ ih => exact .cons (h.tk tk5) ih
        exact this f3
      · have := hin.1
        rw [List.length_append, List.length_map]; omega
      · intro x hx
        rcases List.mem_append.mp hx with h | h
        · exact hE x h
        · obtain ⟨a, ha, rfl⟩ := List.mem_map.mp h
          exact ⟨hnl, hin.2 a ha, by show (1 : Int) ≤ (t : Int) + 1; omega, by show (t : Int) + 1 ≤ 9; omega⟩
      · rw [upd_ne n]
        exact f4 _ _ (sdm _ _ (k3 c o n e))
end
end Pa
set_option maxHeartbeats 4000000
namespace Pa
open PySem PySem.Spec PyProof.Rows L2 Ty Se
theorem nm_ok {x : Str} (h : Nm x) : PyData.strOk x = true := by
  show x.cps.all (· < 0x110000) = true
  rw [← Array.all_toList, List.all_eq_true]
  intro c hc
  have := h.2 c hc
  exact decide_eq_true (by omega)
theorem DpAll.of {K : PySem.W.Frag} {H : Hp} {α : Type} {R : V → α → Prop} {f : α → PyData} (h : ∀ v x, R v x → Dp K H v (f x)) : ∀ {vs : List V} {xs : List α}, Paired R vs xs → DpAll K H vs (xs.map f)
  | _, _, .nil => .nil
  | _, _, .cons r t => .cons (h _ _ r) (DpAll.of h t)
theorem BrV.dp {K : PySem.W.Frag} {H : Hp} {v : V} {b : Str × Int × Str} (h : BrV H v b) : Dp K H v (brD b) := by
  obtain ⟨a, rfl, h1⟩ := h
  exact .tup (SqT.of h1) (.cons (.str _) (.cons (.int _) (.cons (.str _) .nil)))
theorem lay_all {l : List PyData} (h : ∀ d, d ∈ l → d.canLay0 = true) : PyData.canLayAll0 l = true := by
  induction l with
  | nil => rfl
  | cons d l ih =>
    show (d.canLay0 && PyData.canLayAll0 l) = true
    rw [h d List.mem_cons_self, ih fun e he => h e (List.mem_cons_of_mem _ he)]; rfl
theorem depth_all {l : List PyData} {n : Nat} (h : ∀ d, d ∈ l → d.depth ≤ n) : PyData.depthAll l ≤ n := by
  induction l with
  | nil => exact Nat.zero_le _
  | cons d l ih =>
    show max d.depth (PyData.depthAll l) ≤ n
    exact Nat.max_le.mpr ⟨h d List.mem_cons_self, ih fun e he => h e (List.mem_cons_of_mem _ he)⟩
theorem br_lay {b : Str × Int × Str} (h1 : Nm b.1) (h2 : Nm b.2.2) : (brD b).canLay0 = true ∧ (brD b).depth ≤ 1 := by
  refine ⟨?_, by show 1 ≤ 1; decide⟩
  show (PyData.strOk b.1 && (true && (PyData.strOk b.2.2 && true))) = true
  rw [nm_ok h1, nm_ok h2]; rfl
theorem shaped_of {d : PyData} (h1 : d.canLay0 = true) (h2 : d.depth ≤ 64) : SeqAt.shaped d = true := by
  show (d.canLay0 && decide (d.depth ≤ 64)) = true
  rw [h1, decide_eq_true h2]; rfl
theorem brs_shaped {bs : Brs} (h : ∀ x, x ∈ bs → Nm x.1 ∧ Nm x.2.2) : SeqAt.shaped (.list (bs.map brD)) = true := by
  refine shaped_of (lay_all fun d hd => ?_) ?_
  · obtain ⟨x, hx, rfl⟩ := List.mem_map.mp hd
    exact (br_lay (h x hx).1 (h x hx).2).1
  · show PyData.depthAll _ + 1 ≤ 64
    have := depth_all (l := bs.map brD) (n := 1) fun d hd => by
      obtain ⟨x, hx, rfl⟩ := List.mem_map.mp hd
      exact (br_lay (h x hx).1 (h x hx).2).2
    omega
/-! ### bars drawn -/
def spBars : Sp := fun vs H Q _ => ∃ (j b : Addr) (C m : Nat) (rs : Rls), vs = [.ref j, .ref b, .int (m : Nat)] ∧ Jar j H C ∧ C ≤ 999990000 ∧ m ≤ 100 ∧ RL H b rs ∧ EdB rs ∧
  ∀ (p : Addr) (bs : Brs) (H' : Hp), H p = none → BL H' p bs → bs.length ≤ m → (∀ x, x ∈ bs → EdgB x) → Jar j H' (C + 1 + m) → Keep j H H' → Q (.ref p) H'
theorem scBrs : FnScope ["purse", "rules", "most", "found", "some", "k", "one"] ["purse", "rules", "most"] (defScope lBars) := ⟨rfl, rfl, rfl, by decide +kernel, rfl, by decide +kernel, by decide +kernel⟩
section
variable {P : Program} {w : World} {K : PySem.W.Frag} {mg : Str → Option Value} {base : Heap} {f g g2 : Addr} {fd gd gd2 : FuncData}
theorem ok_bars (F : Fun K "_law_bars" "_law_bars" lBars f fd)
    (G : FnOk P w K mg base CX0 1 g gd ["purse", "many"] spDrawn) (bG : Binds K gd ["purse", "many"] []) (kG : PySem.W.keepIn K (.ref g) = true) (mG : mg "_law_drawn" = some (.ref g))
    (GE : FnOk P w K mg base CX0 2 g2 gd2 ["rules"] spEdges) (bE : Binds K gd2 ["rules"] []) (kE : PySem.W.keepIn K (.ref g2) = true) (mE : mg "_law_edges" = some (.ref g2))
    (mr : mg "range" = none) (mi : mg "int" = none) (ml : mg "len" = none) :
    FnOk P w K mg base CX0 3 f fd ["purse", "rules", "most"] spBars := by
  refine F.ok scBrs (fun vs H Q E h => ?_) (fun cdv A outer s0 H vs Q E hr h => ?_)
  · obtain ⟨_, _, _, _, _, rfl, _⟩ := h
    rfl
  have hu := hr.units
  have hu65 : (A.deeper (envOfC "_law_bars" (defScope lBars) s0.heap.objs.size f cdv)).units + 65 < cLine := by have := hr.un; omega
  have G' := G.mono (show 1 ≤ 2 by decide)
  obtain ⟨j, b, C, m, rs, rfl, hj, hC, hm, hRL, B, q⟩ := h
  refine ⟨_, pss_cons (ps_set (i := 3) scBrs.nd rfl (.inl rfl) (pe_lst pa_nil))
    (pss_cons (ps_set (i := 4) scBrs.nd rfl (.inl rfl) (pe_call GE hr rfl mE kE bE .nil pass0 (pa_cons (pv 1) pa_nil)))
    (pss_cons (ps_for PassesOwn.never rfl (pi_range1 rfl mr (pa_cons (pe_op op_mul (pe_call G' hr rfl mG kG bG .nil pass0 (pa_cons (pv 0) (pa_cons (pe_op op_add (pv 2) pe_int) pa_nil))) (pe_callTy call_int1 rfl mi (by decide +kernel) (pa_cons (pe_cmpR (op_neL0 hu) (pv 4) (pe_lst pa_nil) (nomark _)) pa_nil))) pa_nil)) (pg_name (i := 5) scBrs.nd rfl (Or.inl rfl))
      (pss_cons (ps_set (i := 6) scBrs.nd rfl (.inl rfl) (pe_ix ix_list (pv 4) (pe_call G' hr rfl mG kG bG .nil pass0 (pa_cons (pv 0) (pa_cons (pe_callB call_len_seq rfl ml PySem.boot_len (pa_cons (pv 4) pa_nil)) pa_nil))) (fun _ _ => rfl)))
      (pss_one (ps_if (pt_cmpR (op_notInD hu65) (pv 6) (pv 3) rfl) (pss_one (ps_expr (pe_bm PySem.F.plainAttrs_list PySem.F.slot_list_append PySem.F.type_list_append mt_append (pv 3) (pa_cons (pv 6) pa_nil)))) pss_nil))))
    (pss_one (ps_ret (pv 3))))), ?_⟩
  refine ⟨(by show 0 ≤ sizeLine; decide), fun p hp => ?_⟩
  have s1 := same_new hp (.lst [])
  have e0 : (upd H p (.lst [])) p = some (.lst []) := upd_same
  have hpj := hj.ne hp
  generalize upd H p (.lst []) = H0 at s1 e0
  refine ⟨_, rfl, b, rs, rfl, hRL.same s1, B, fun pe es H1 npe hBL les hE s2 => ?_⟩
  obtain ⟨xs, epe, pes⟩ := hBL
  have s12 : Same H H1 := s1.trans s2
  have ppe : p ≠ pe := fun e => by rw [e, npe] at e0; cases e0
  have lxs : xs.length = es.length := Paired.length pes
  have pej : pe ≠ j := jar_ne (hj.keep s12) epe (ref_int (fun _ _ r => r.ref) pes)
  refine ⟨_, rfl, _, rfl, _, _, rfl, rfl, j, C, _, rfl, hj.keep s12, by omega, by omega, by omega, fun r H2 r0 r1 jr2 kp2 => ?_⟩
  have epe2 := kp2 _ _ pej epe
  refine ⟨_, rfl, (by show 0 ≤ sizeLine; decide), fun p2 hp2 => ⟨pe, p2, xs, rfl, rfl, same_new hp2 _ _ _ epe2, upd_same, .inr ⟨_, rfl, ?_⟩⟩⟩
  have s3 := same_new hp2 (.lst [])
  have epe3 := s3 _ _ epe2
  have ep3 := s3 _ _ (kp2 _ _ hpj (s2 _ _ e0))
  have jr3 := jr2.keep s3
  have k3 : Keep j H (upd H2 p2 (.lst [])) := (Keep.of_same s12).trans (kp2.trans (.of_same s3))
  have pes3 : Paired (BrV (upd H2 p2 (.lst []))) xs es := paired_imp (fun _ _ r => r.tk ((Tk.of_keep (hj.keep s12) kp2).trans (Tk.of_same s3))) pes
  generalize upd H2 p2 (.lst []) = H3 at epe3 ep3 jr3 k3 pes3
  obtain ⟨n, hn, hn4⟩ : ∃ n : Nat, r * (if (if true = true then !xs.isEmpty else xs.isEmpty) = true then 1 else 0) = (n : Int) ∧ (n ≤ m ∧ (0 < n → xs ≠ [])) := by
    cases xs with
    | nil => exact ⟨0, by show r * 0 = _; omega, Nat.zero_le _, fun h => by omega⟩
    | cons x xs => exact ⟨r.toNat, by show r * 1 = _; omega, by omega, fun _ => by simp⟩
  refine ⟨_, _, rfl, rfl, .inl ⟨by omega, by omega⟩, n, by rw [← hn], by omega, by omega, ?_⟩
  rw [Int.toNat_natCast]
  refine for_range (lo := 0) (n := n) (fun i σ H' => ∃ x5 x6 acc bs, σ = [some (.ref j), some (.ref b), some (.int (m : Nat)), some (.ref p), some (.ref pe), x5, x6] ∧ H' p = some (.lst acc) ∧ Paired (BrV H') acc bs ∧ bs.length ≤ i ∧ (∀ x, x ∈ bs → x ∈ es) ∧ H' pe = some (.lst xs) ∧ Paired (BrV H') xs es ∧ Jar j H' (C + 1 + i) ∧ Keep j H H')
    ⟨_, _, [], [], rfl, ep3, .nil, Nat.le_refl _, (fun _ h => by cases h), epe3, pes3, jr3, k3⟩ (fun i σ H' hi h => ?turn) (fun σ H' h => ?done)
  case done =>
    obtain ⟨x5, x6, acc, bs, rfl, e1, pb, lb, hin, _, _, jr, kp⟩ := h
    exact ⟨_, rfl, q p bs H' hp ⟨acc, e1, pb⟩ (by omega) (fun x hx => hE x (hin x hx)) (jr.mono (by omega)) kp⟩
  case turn =>
    obtain ⟨x5, x6, acc, bs, rfl, e1, pb, lb, hin, epe4, pes4, jr, kp⟩ := h
    have hx0 : 0 < xs.length := by
      cases xs with
      | nil => exact absurd rfl (hn4.2 (by omega))
      | cons x xs => simp
    refine ⟨_, rfl, _, rfl, _, rfl, pe, _, rfl, .inl (SqL.of epe4), j, C + 1 + i, _, rfl, jr, by omega, by omega, by omega, fun r2 H4 r20 r21 jr4 kp4 => ?_⟩
    have epe5 := kp4 _ _ pej epe4
    have e14 := kp4 _ _ hpj e1
    have pb4 : Paired (BrV H4) acc bs := paired_imp (fun _ _ r => r.tk (Tk.of_keep jr kp4)) pb
    have pes5 : Paired (BrV H4) xs es := paired_imp (fun _ _ r => r.tk (Tk.of_keep jr kp4)) pes4
    obtain ⟨v, hv1, hv2⟩ := at_in (l := xs) r20 r21
    obtain ⟨e, he, hbr⟩ := paired_get pes5 _ v hv2
    have hem := List.mem_of_getElem? he
    have hEe := hE e hem
    have lacc : acc.length = bs.length := Paired.length pb4
    refine ⟨pe, _, _, _, rfl, rfl, SqL.of epe5, hv1, _, rfl, _, rfl, brD e, bs.map brD, hbr.dp, .lst (SqL.of e14) (DpAll.of (fun _ _ r => r.dp) pb4), shaped_of (br_lay hEe.1 hEe.2.1).1 (Nat.le_trans (br_lay hEe.1 hEe.2.1).2 (by decide)), brs_shaped (fun x hx => ⟨(hE x (hin x hx)).1, (hE x (hin x hx)).2.1⟩), _, rfl, ?_⟩
    refine ite2 (fun c => ?_) (fun c => ?_)
    · refine ⟨_, rfl, .inl ⟨rfl, _, SqL.of e14⟩, _, rfl, p, _, _, rfl, rfl, e14, by rw [sizeLine_eq]; omega, ?_⟩
      have tk5 := Tk.lst (o := .lst (acc ++ [v])) e14
      have ppe' : pe ≠ p := Ne.symm ppe
      refine ⟨_, _, acc ++ [v], bs ++ [e], rfl, upd_same, paired_snoc (paired_imp (fun _ _ r => r.tk tk5) pb4) (hbr.tk tk5), by rw [List.length_append]; show bs.length + 1 ≤ _; omega, fun x hx => ?_, by rw [upd_ne ppe']; exact epe5, paired_imp (fun _ _ r => r.tk tk5) pes5, (jr4.upd hpj).mono (by omega), Keep.upd (kp.trans kp4) hp⟩
      rcases List.mem_append.mp hx with h | h
      · exact hin x h
      · rw [List.mem_singleton.mp h]; exact hem
    · exact ⟨_, _, acc, bs, rfl, e14, pb4, by omega, hin, epe5, pes5, jr4.mono (by omega), kp.trans kp4⟩
end
end Pa
set_option maxHeartbeats 4000000
namespace Pa
open PySem PySem.Spec PyProof.Rows L2 Ty Se
/-! ### kinds put otherwise -/
def kN : Nat → Nat
  | 0 => 4
  | n + 1 => 8 * kN n
def sN : Nat → Nat
  | 0 => 9
  | n + 1 => 9 * sN n + 8
def dN : Nat → Nat
  | 0 => 4
  | n + 1 => dN n + 4
def kW : Nat → Nat
  | 0 => 4400
  | n + 1 => 9 * kW n + 400
structure KBd1 (n : Nat) (k : Str × Pat × Bool) : Prop where
  nm : Nm k.1
  pw : PW k.2.1
  size : sizeP k.2.1 ≤ sN n
  deep : deepP k.2.1 ≤ dN n
structure KBd (n : Nat) (ks : Kds) : Prop where
  len : ks.length ≤ kN n
  all : ∀ k, k ∈ ks → KBd1 n k
  wt : wds (ks.map kdD) ≤ kW n
theorem KBd1.succ {n : Nat} {k : Str × Pat × Bool} (h : KBd1 n k) : KBd1 (n + 1) k :=
  ⟨h.nm, h.pw, by have := h.size; show _ ≤ 9 * sN n + 8; omega, by have := h.deep; show _ ≤ dN n + 4; omega⟩
theorem wds_rep (l : List PyData) : ∀ k : Nat, wds (List.replicate k l).flatten = k * wds l
  | 0 => by simp [wds]
  | k + 1 => by rw [List.replicate_succ, List.flatten_cons, wds_app, wds_rep l k, Nat.succ_mul]; omega
theorem len_rep {α : Type} (l : List α) : ∀ k : Nat, (List.replicate k l).flatten.length = k * l.length
  | 0 => by simp
  | k + 1 => by rw [List.replicate_succ, List.flatten_cons, List.length_append, len_rep l k, Nat.succ_mul]; omega
theorem mem_rep {α : Type} {l : List α} {x : α} : ∀ {k : Nat}, x ∈ (List.replicate k l).flatten → x ∈ l
  | 0, h => by simp at h
  | k + 1, h => by
    rw [List.replicate_succ, List.flatten_cons] at h
    rcases List.mem_append.mp h with h | h
    · exact h
    · exact mem_rep h
theorem map_rep {α β : Type} (f : α → β) (l : List α) : ∀ k : Nat, ((List.replicate k l).flatten).map f = (List.replicate k (l.map f)).flatten
  | 0 => rfl
  | k + 1 => by rw [List.replicate_succ, List.flatten_cons, List.map_append, map_rep f l k, List.replicate_succ, List.flatten_cons]
theorem paired_rep {α β : Type} {P : α → β → Prop} {l : List α} {m : List β} (h : Paired P l m) : ∀ k : Nat, Paired P (List.replicate k l).flatten (List.replicate k m).flatten
  | 0 => .nil
  | k + 1 => by rw [List.replicate_succ, List.replicate_succ, List.flatten_cons, List.flatten_cons]; exact paired_app h (paired_rep h k)
theorem KBd.nil {n : Nat} : KBd n [] := ⟨Nat.zero_le _, fun _ h => (by cases h), Nat.zero_le _⟩
theorem KBd.two {n : Nat} {ks : Kds} (h : KBd n ks) : KBd (n + 1) (ks ++ ks) := by
  have h1 := h.len
  have h2 := h.wt
  refine ⟨by rw [List.length_append]; show _ ≤ 8 * kN n; omega, fun k hk => (h.all k ((List.mem_append.mp hk).elim id id)).succ, ?_⟩
  rw [List.map_append, wds_app]
  show _ ≤ 9 * kW n + 400
  omega
theorem KBd.rep {n : Nat} {ks : Kds} (h : KBd n ks) : KBd (n + 1) (List.replicate 8 ks).flatten := by
  have h1 := h.len
  have h2 := h.wt
  refine ⟨by rw [len_rep]; show _ ≤ 8 * kN n; omega, fun k hk => (h.all k (mem_rep hk)).succ, ?_⟩
  rw [map_rep, wds_rep]
  show _ ≤ 9 * kW n + 400
  omega
theorem split_at {α : Type} {l : List α} {i : Nat} {x : α} (h : l[i]? = some x) : l = l.take i ++ [x] ++ l.drop (i + 1) := by
  have hi := (List.getElem?_eq_some_iff.mp h).1
  have e := List.take_append_drop i l
  rw [List.drop_eq_getElem_cons hi] at e
  have hx : l[i] = x := by rw [List.getElem?_eq_getElem hi] at h; exact Option.some.inj h
  rw [hx] at e
  rw [List.append_assoc]
  exact e.symm
theorem len_put {α : Type} {l : List α} {i : Nat} {x : α} (y : α) (h : l[i]? = some x) : (l.take i ++ [y] ++ l.drop (i + 1)).length = l.length := by
  have hi := (List.getElem?_eq_some_iff.mp h).1
  rw [List.length_append, List.length_append, List.length_take, List.length_drop]
  show min i l.length + 1 + _ = _
  omega
theorem mem_put {α : Type} {l : List α} {i : Nat} {y z : α} (h : z ∈ l.take i ++ [y] ++ l.drop (i + 1)) : z ∈ l ∨ z = y := by
  rcases List.mem_append.mp h with h | h
  · rcases List.mem_append.mp h with h | h
    · exact .inl (List.mem_of_mem_take h)
    · exact .inr (List.mem_singleton.mp h)
  · exact .inl (List.mem_of_mem_drop h)
theorem wds_put {α : Type} {f : α → PyData} {l : List α} {i : Nat} {x : α} (y : α) (h : l[i]? = some x) : wds ((l.take i ++ [y] ++ l.drop (i + 1)).map f) + wd (f x) = wds (l.map f) + wd (f y) := by
  have e := split_at h
  have e2 : wds (l.map f) = wds ((l.take i ++ [x] ++ l.drop (i + 1)).map f) := by rw [← e]
  rw [e2, List.map_append, List.map_append, List.map_append, List.map_append, wds_app, wds_app, wds_app, wds_app]
  show wds _ + (wd (f y) + 0) + _ + wd (f x) = wds _ + (wd (f x) + 0) + _ + wd (f y)
  omega
theorem str_wd {x : Str} (h : Nm x) : wd (.str x) ≤ 94 := by have := h.1; show 10 * x.length + 4 ≤ 94; omega
theorem KBd.put {n i : Nat} {ks : Kds} {k k' : Str × Pat × Bool} (h : KBd n ks) (hk : ks[i]? = some k) (h' : KBd1 (n + 1) k') (hw : wd (patD k'.2.1) ≤ 9 * wd (patD k.2.1) + 292) : KBd (n + 1) (ks.take i ++ [k'] ++ ks.drop (i + 1)) := by
  have h1 := h.len
  have h2 := h.wt
  refine ⟨by rw [len_put _ hk]; show _ ≤ 8 * kN n; omega, fun z hz => ?_, ?_⟩
  · rcases mem_put hz with m | e
    · exact (h.all z m).succ
    · rw [e]; exact h'
  · have e := wds_put (f := kdD) k' hk
    have e1 : wd (kdD k) = wd (.str k.1) + (wd (patD k.2.1) + (7 + 0)) + 5 := rfl
    have e2 : wd (kdD k') = wd (.str k'.1) + (wd (patD k'.2.1) + (7 + 0)) + 5 := rfl
    have e3 := str_wd h'.nm
    have e4 : wd (kdD k) ≤ wds (ks.map kdD) := by
      have := split_at hk
      rw [this, List.map_append, List.map_append, wds_app, wds_app]
      show _ ≤ wds _ + (wd (kdD k) + 0) + _
      omega
    show _ ≤ 9 * kW n + 400
    omega
theorem auxH {X C0 : Hp → Prop} {M : Prop} (f : (∀ H, C0 H → X H) → M) (r : ∀ H, C0 H → X H) : M := f r
theorem sN_one : ∀ n, 1 ≤ sN n
  | 0 => by decide
  | n + 1 => by unfold sN; omega
theorem aux_rest6 {X C0 : Str → V → Option V → Hp → Prop} {M : Prop} (f : (∀ x u o H, C0 x u o H → X x u o H) → M) (r : ∀ x u o H, C0 x u o H → X x u o H) : M := f r
structure WB0 (W : Wor) : Prop where
  kl : W.ks.length ≤ 100000
  rl : W.rs.length ≤ 100000
  al : (altsOf W.rs).length ≤ 60000
  tot : W.ks.length + W.rs.length + (altsOf W.rs).length ≤ 100000
  nms : ∀ x, x ∈ namesOf W → Nm x
def spKBent : Sp := fun vs H Q _ => ∃ (j : Addr) (v : V) (C n : Nat) (W : Wor), vs = [.ref j, v] ∧ Jar j H C ∧ C ≤ 999990000 ∧ WV H v W ∧ WB0 W ∧ KBd n W.ks ∧ n ≤ 1 ∧
  ∀ (p : Addr) (ks : Kds) (H' : Hp), KL H' p ks → KBd (n + 1) ks → Jar j H' (C + 5) → Keep j H H' → Q (.ref p) H'
theorem scKBent : FnScope ["purse", "world", "kinds", "way", "at", "one", "pattern", "skipped", "other"] ["purse", "world"] (defScope lKBent) := ⟨rfl, rfl, rfl, by decide +kernel, rfl, by decide +kernel, by decide +kernel⟩
section
variable {P : Program} {w : World} {K : PySem.W.Frag} {mg : Str → Option Value} {base : Heap} {f g g2 g3 : Addr} {fd gd gd2 gd3 : FuncData}
theorem ok_kbent (F : Fun K "_law_kinds_bent" "_law_kinds_bent" lKBent f fd)
    (G : FnOk P w K mg base CX0 1 g gd ["purse", "many"] spDrawn) (bG : Binds K gd ["purse", "many"] []) (kG : PySem.W.keepIn K (.ref g) = true) (mG : mg "_law_drawn" = some (.ref g))
    (GS : FnOk P w K mg base CX0 2 g2 gd2 ["purse", "some"] spStrange) (bS : Binds K gd2 ["purse", "some"] []) (kS : PySem.W.keepIn K (.ref g2) = true) (mS : mg "_law_strange" = some (.ref g2))
    (GN : FnOk P w K mg base CX0 2 g3 gd3 ["world"] spNames) (bN : Binds K gd3 ["world"] []) (kN' : PySem.W.keepIn K (.ref g3) = true) (mN : mg "_law_all_names" = some (.ref g3))
    (ml : mg "len" = none) (mm : mg "max" = none) :
    FnOk P w K mg base CX0 3 f fd ["purse", "world"] spKBent := by
  refine F.ok scKBent (fun vs H Q E h => ?_) (fun cdv A outer s0 H vs Q E hr h => ?_)
  · obtain ⟨_, _, _, _, _, rfl, _⟩ := h
    rfl
  have hu := hr.units
  have G' := G.mono (show 1 ≤ 2 by decide)
  obtain ⟨j, v, C, n, W, rfl, hj, hC, hWV, hW0, hKB, hn, q⟩ := h
  refine ⟨_, pss_cons (ps_set (i := 2) scKBent.nd rfl (.inl rfl) (pe_ix ix_list (pv 1) pe_int (fun _ _ => rfl)))
    (pss_cons (ps_set (i := 3) scKBent.nd rfl (.inl rfl) (pe_call G' hr rfl mG kG bG .nil pass0 (pa_cons (pv 0) (pa_cons pe_int pa_nil))))
    (pss_cons (ps_set (i := 4) scKBent.nd rfl (.inl rfl) (pe_call G' hr rfl mG kG bG .nil pass0 (pa_cons (pv 0) (pa_cons (pe_callB (call_max2 rfl) rfl mm (by decide +kernel) (pa_cons pe_int (pa_cons (pe_callB call_len_seq rfl ml PySem.boot_len (pa_cons (pv 2) pa_nil)) pa_nil))) pa_nil))))
    (pss_cons (ps_if (PW.pt (pw_or (pt_cmpR op_eq (pv 3) pe_int (nomark _)) (pw_or1 (pt_cmpR (op_eqL0 hu) (pv 2) (pe_lst pa_nil) (nomark _)))))
      (pss_one (ps_ret (pe_ix ix_list (pe_lst (pa_cons (pe_lst pa_nil) (pa_cons (pe_op op_cat (pv 2) (pv 2)) (pa_cons (pe_op op_rep (pv 2) pe_int) pa_nil)))) (pe_call G' hr rfl mG kG bG .nil pass0 (pa_cons (pv 0) (pa_cons pe_int pa_nil))) (fun _ _ => rfl)))) pss_nil)
    (pss_cons (ps_asg (pe_ix ix_list (pv 2) (pv 4) (fun _ _ => rfl)) (pg_tup rfl (pgs_cons (pg_name (i := 5) scKBent.nd rfl (Or.inl rfl)) (pgs_cons (pg_name (i := 6) scKBent.nd rfl (Or.inl rfl)) (pgs_cons (pg_name (i := 7) scKBent.nd rfl (Or.inl rfl)) pgs_nil)))))
    (pss_cons (ps_if (pt_cmpR op_lt (pv 3) pe_int (nomark _)) (pss_one (ps_set (i := 5) scKBent.nd rfl (.inl rfl) (pe_call GS hr rfl mS kS bS .nil pass0 (pa_cons (pv 0) (pa_cons (pe_call GN hr rfl mN kN' bN .nil pass0 (pa_cons (pv 1) pa_nil)) pa_nil))))) pss_nil)
    (pss_cons (ps_if (pt_cmpR op_eq (pv 3) pe_int (nomark _))
      (pss_cons (ps_set (i := 8) scKBent.nd rfl (.inl rfl) (pe_tup (pa_cons pe_str (pa_cons (pv 6) (pa_cons (pe_tup (pa_cons pe_str pa_nil)) pa_nil)))))
      (pss_one (ps_set (i := 6) scKBent.nd rfl (.inl rfl) (pe_ix ix_list (pe_lst (pa_cons (pe_tup (pa_cons pe_str pa_nil)) (pa_cons (pe_tup (pa_cons pe_str (pa_cons (pv 6) pa_nil))) (pa_cons (pv 8) (pa_cons (pe_tup (pa_cons pe_str (pa_cons (pv 6) pa_nil))) pa_nil))))) (pe_call G' hr rfl mG kG bG .nil pass0 (pa_cons (pv 0) (pa_cons pe_int pa_nil))) (fun _ _ => rfl))))) pss_nil)
    (pss_cons (ps_if (pt_cmpR op_eq (pv 3) pe_int (nomark _)) (pss_one (ps_set (i := 6) scKBent.nd rfl (.inl rfl) (pe_tup (pa_cons pe_str (pa_cons (pv 6) (pa_cons (pe_op op_catT (pe_tup (pa_cons pe_str pa_nil)) (pe_op op_repT (pe_tup (pa_cons (pe_op op_catT (pe_tup (pa_cons pe_str pa_nil)) (pe_op op_repT (pe_tup (pa_cons (pe_op op_catT (pe_tup (pa_cons pe_str pa_nil)) (pe_op op_repT (pe_tup (pa_cons (pv 6) pa_nil)) pe_int)) pa_nil)) pe_int)) pa_nil)) pe_int)) pa_nil)))))) pss_nil)
    (pss_one (ps_ret (pe_op op_cat (pe_op op_cat (pe_slice sl_list (pv 2) po_none (po_some (pv 4))) (pe_lst (pa_cons (pe_tup (pa_cons (pv 5) (pa_cons (pv 6) (pa_cons (pv 7) pa_nil)))) pa_nil))) (pe_slice sl_list (pv 2) (po_some (pe_op op_add (pv 4) pe_int)) po_none))))))))))), ?_⟩
  have hWV0 := hWV
  obtain ⟨ww, a, b, c, ka, rb, cb, rfl, hw, ha, pa, hb, pb, hc, pc⟩ := hWV
  have lka : ka.length = W.ks.length := Paired.length pa
  have wj : ww ≠ j := jar_ne hj hw (by simp)
  have aj : a ≠ j := jar_ne hj ha (ref_int (fun _ _ r => r.ref) pa)
  have kN1 : kN n ≤ 32 := by
    have : n = 0 ∨ n = 1 := by omega
    rcases this with rfl | rfl <;> decide
  have lk := hKB.len
  refine ⟨_, rfl, ww, _, _, _, rfl, rfl, SqL.of hw, at_zero, ?_⟩
  refine ⟨_, rfl, j, C, 5, rfl, hj, by omega, by decide, by decide, fun r H1 r0 r5 hj1 kp1 => ?_⟩
  have ha1 := kp1 _ _ aj ha
  refine ⟨_, rfl, _, rfl, a, _, rfl, .inl (SqL.of ha1), _, _, rfl, ?_⟩
  obtain ⟨m, hm⟩ : ∃ m : Int, m = (if ((ka.length : Nat) : Int) > 1 then ((ka.length : Nat) : Int) else 1) := ⟨_, rfl⟩
  rw [← hm]
  have hm1 : 1 ≤ m ∧ m ≤ 32 ∧ ((ka.length : Nat) : Int) ≤ m ∧ (0 < ka.length → m = (ka.length : Nat)) := by
    rw [hm]; split <;> omega
  refine ⟨j, C + 1, m, rfl, hj1, by omega, by omega, by omega, fun t H2 t0 t1 hj2 kp2 => ?_⟩
  have ha2 := kp2 _ _ aj ha1
  have k2 : Keep j H H2 := kp1.trans kp2
  have pa2 : Paired (KdV H2) ka W.ks := paired_imp (fun _ _ r => r.tk (Tk.of_keep hj k2)) pa
  have WV2 : WV H2 (.ref ww) W := hWV0.keep hj k2
  clear kp1 kp2 hj1 ha1
  refine' auxH (C0 := fun Hb => Same H2 Hb) (fun hR1 => ?m1) ?body1
  case m1 =>
    refine' auxH (C0 := fun Hb => Same H2 Hb ∧ r ≠ 0 ∧ ka ≠ []) (fun hR2 => ?m2) ?rest
    case m2 =>
      rcases Bool.eq_false_or_eq_true (decide (V.int r = V.int 0)) with h0 | h0
      case inl =>
        refine ⟨_, rfl, rfl, _, rfl, ifT h0 (ifT rfl ?_)⟩
        have hh : Same H2 H2 := same_refl
        generalize hH : H2 = H3
        exact hR1 H3 (by rw [← hH]; exact hh)
      case inr =>
        have hr0 : r ≠ 0 := fun e => of_decide_eq_false h0 (by rw [e])
        refine ⟨_, rfl, rfl, _, rfl, ifF h0 ?_⟩
        refine ⟨_, rfl, (by show 0 ≤ sizeLine; decide), fun p1 hp1 => ?_⟩
        have s1 := same_new hp1 (.lst [])
        refine ⟨a, p1, ka, rfl, rfl, s1 _ _ ha2, upd_same, _, rfl, ?_⟩
        by_cases hk : ka = []
        · have hv : (if false = true then !ka.isEmpty else ka.isEmpty) = true := by rw [hk]; rfl
          exact ifT hv (hR1 _ s1)
        · have hv : (if false = true then !ka.isEmpty else ka.isEmpty) = false := by
            cases ka with
            | nil => exact absurd rfl hk
            | cons _ _ => rfl
          refine ifF hv ?_
          have hh : Same H2 (upd H2 p1 (.lst [])) ∧ r ≠ 0 ∧ ka ≠ [] := ⟨s1, hr0, hk⟩
          generalize hH : (upd H2 p1 (.lst [])) = H3
          exact hR2 H3 (by rw [← hH]; exact hh)
    rintro Hb ⟨sb, hr0, hka⟩
    have hab := sb _ _ ha2
    have kb : Keep j H Hb := k2.trans (.of_same sb)
    have hjb := hj2.keep sb
    have pab : Paired (KdV Hb) ka W.ks := paired_imp (fun _ _ r => r.tk (Tk.of_same sb)) pa2
    have hk0 : 0 < ka.length := by
      cases ka with
      | nil => exact absurd rfl hka
      | cons _ _ => simp
    have htl : t < (ka.length : Nat) := by have := hm1.2.2.2 hk0; omega
    obtain ⟨i, rfl⟩ : ∃ i : Nat, t = (i : Int) := ⟨t.toNat, by omega⟩
    obtain ⟨v, hv1, hv2⟩ := at_in (l := ka) t0 htl
    rw [Int.toNat_natCast] at hv2
    obtain ⟨⟨nm0, pt, sk⟩, hki, ⟨ra, u, rfl, h1, h2⟩⟩ := paired_get pab i v hv2
    have hk1 := hKB.all _ (List.mem_of_getElem? hki)
    have hnm0 : Nm nm0 := hk1.nm
    have hpw : PW pt := hk1.pw
    have hsz : sizeP pt ≤ sN n := hk1.size
    have hdp : deepP pt ≤ dN n := hk1.deep
    have h2 : RP Hb pt u := h2
    refine ⟨_, rfl, _, rfl, a, _, _, _, rfl, rfl, SqL.of hab, hv1, ra, _, rfl, SqT.of h1, rfl, _, _, rfl, _, _, rfl, _, _, rfl, rfl, ?_⟩
    refine' aux_rest6 (C0 := fun x u' o H' => ∃ p' : Pat, RP H' p' u' ∧ KBd1 (n + 1) (x, p', sk) ∧ wd (patD p') ≤ 9 * wd (patD pt) + 292 ∧ Jar j H' (C + 4) ∧ Keep j Hb H') (fun hR3 => ?m3) ?rest3
    case m3 =>
      have hr5 : r = 3 ∨ r = 4 ∨ r < 3 := by omega
      have lt_t : r < 3 → decide (r < (3 : Int)) = true := fun h => decide_eq_true h
      have lt_f : ¬ r < 3 → decide (r < (3 : Int)) = false := fun h => decide_eq_false h
      have e3t : r = 3 → decide (V.int r = V.int 3) = true := fun h => decide_eq_true (by rw [h])
      have e3f : r ≠ 3 → decide (V.int r = V.int 3) = false := fun h => decide_eq_false (fun e => h (V.int.inj e))
      have e4t : r = 4 → decide (V.int r = V.int 4) = true := fun h => decide_eq_true (by rw [h])
      have e4f : r ≠ 4 → decide (V.int r = V.int 4) = false := fun h => decide_eq_false (fun e => h (V.int.inj e))
      rcases hr5 with hr3 | hr3 | hr3
      case inl =>
        refine ⟨_, rfl, _, _, rfl, rfl, _, rfl, ifF (lt_f (by omega)) ?_⟩
        refine ⟨_, rfl, rfl, _, rfl, ifT (e3t hr3) ?_⟩
        refine ⟨_, rfl, (by show 1 ≤ sizeLine; decide), fun t1 ht1 => ⟨(by show 3 ≤ sizeLine; decide), fun t2 ht2 => ?_⟩⟩
        have s1 := same_new ht1 (.tup [.str "empty"])
        have s2 := same_new ht2 (.tup [.str "or", u, .ref t1])
        have e2 : (upd (upd Hb t1 (.tup [.str "empty"])) t2 (.tup [.str "or", u, .ref t1])) t2 = some (.tup [.str "or", u, .ref t1]) := upd_same
        have e1 : (upd (upd Hb t1 (.tup [.str "empty"])) t2 (.tup [.str "or", u, .ref t1])) t1 = some (.tup [.str "empty"]) := s2 _ _ upd_same
        have sA := s1.trans s2
        generalize (upd (upd Hb t1 (.tup [.str "empty"])) t2 (.tup [.str "or", u, .ref t1])) = H3 at e2 e1 sA
        refine ⟨(by show 1 ≤ sizeLine; decide), fun t3 ht3 => ⟨_, rfl, (by show 2 ≤ sizeLine; decide), fun t4 ht4 => ⟨_, rfl, _, rfl, (by show 2 ≤ sizeLine; decide), fun t5 ht5 => ⟨(by show 4 ≤ sizeLine; decide), fun t6 ht6 => ?_⟩⟩⟩⟩
        have s3 := same_new ht3 (.tup [.str "empty"])
        have s4 := same_new ht4 (.tup [.str "maybe", u])
        have s5 := same_new ht5 (.tup [.str "again", u])
        have s6 := same_new ht6 (.lst [.ref t3, .ref t4, .ref t2, .ref t5])
        have e3 : (upd (upd (upd (upd H3 t3 (.tup [.str "empty"])) t4 (.tup [.str "maybe", u])) t5 (.tup [.str "again", u])) t6 (.lst [.ref t3, .ref t4, .ref t2, .ref t5])) t3 = some (.tup [.str "empty"]) := s6 _ _ (s5 _ _ (s4 _ _ upd_same))
        have e4 : (upd (upd (upd (upd H3 t3 (.tup [.str "empty"])) t4 (.tup [.str "maybe", u])) t5 (.tup [.str "again", u])) t6 (.lst [.ref t3, .ref t4, .ref t2, .ref t5])) t4 = some (.tup [.str "maybe", u]) := s6 _ _ (s5 _ _ upd_same)
        have e5 : (upd (upd (upd (upd H3 t3 (.tup [.str "empty"])) t4 (.tup [.str "maybe", u])) t5 (.tup [.str "again", u])) t6 (.lst [.ref t3, .ref t4, .ref t2, .ref t5])) t5 = some (.tup [.str "again", u]) := s6 _ _ upd_same
        have e6 : (upd (upd (upd (upd H3 t3 (.tup [.str "empty"])) t4 (.tup [.str "maybe", u])) t5 (.tup [.str "again", u])) t6 (.lst [.ref t3, .ref t4, .ref t2, .ref t5])) t6 = some (.lst [.ref t3, .ref t4, .ref t2, .ref t5]) := upd_same
        have sB := s3.trans (s4.trans (s5.trans s6))
        have sC := sA.trans sB
        have e1' := sB _ _ e1
        have e2' := sB _ _ e2
        generalize (upd (upd (upd (upd H3 t3 (.tup [.str "empty"])) t4 (.tup [.str "maybe", u])) t5 (.tup [.str "again", u])) t6 (.lst [.ref t3, .ref t4, .ref t2, .ref t5])) = H4 at e3 e4 e5 e6 sC e1' e2'
        have hj4 := hjb.keep sC
        refine ⟨_, rfl, j, C + 2, 4, rfl, hj4, by omega, by decide, by decide, fun r4 H5 r40 r41 hj5 kp5 => ?_⟩
        have tk5 := Tk.of_keep hj4 kp5
        have e6' := kp5 _ _ (jar_ne hj4 e6 (by simp)) e6
        have h2' : RP H5 pt u := (h2.tk (Tk.of_same sC)).tk tk5
        have eE : ("empty" : Str).length = 5 := by decide +kernel
        have eM : ("maybe" : Str).length = 5 := by decide +kernel
        have eA : ("again" : Str).length = 5 := by decide +kernel
        have eO : ("or" : Str).length = 2 := by decide +kernel
        have h1s := sN_one n
        obtain ⟨u', p', hat, hrp, hpw', hs', hd', hw'⟩ : ∃ (u' : V) (p' : Pat), atI [V.ref t3, .ref t4, .ref t2, .ref t5] r4 = some u' ∧ RP H5 p' u' ∧ PW p' ∧ sizeP p' ≤ 9 * sN n + 8 ∧ deepP p' ≤ dN n + 4 ∧ wd (patD p') ≤ 9 * wd (patD pt) + 292 := by
          have : r4 = 0 ∨ r4 = 1 ∨ r4 = 2 ∨ r4 = 3 := by omega
          rcases this with rfl | rfl | rfl | rfl
          · refine ⟨_, .em, rfl, ⟨t3, rfl, tk5 _ _ e3⟩, trivial, (by show 1 ≤ _; omega), (by show 1 ≤ _; omega), ?_⟩
            simp only [patD, wd, wds, eE]; omega
          · refine ⟨_, .mb pt, rfl, ⟨t4, u, rfl, tk5 _ _ e4, h2'⟩, hpw, (by show sizeP pt + 1 ≤ _; omega), (by show deepP pt + 1 ≤ _; omega), ?_⟩
            simp only [patD, wd, wds, eM]; omega
          · refine ⟨_, .oo pt .em, rfl, ⟨t2, u, .ref t1, rfl, tk5 _ _ e2', h2', t1, rfl, tk5 _ _ e1'⟩, ⟨hpw, trivial⟩, (by show sizeP pt + 1 + 1 ≤ _; omega), (by show max (deepP pt) 1 + 1 ≤ _; omega), ?_⟩
            simp only [patD, wd, wds, eO, eE]; omega
          · refine ⟨_, .ag pt, rfl, ⟨t5, u, rfl, tk5 _ _ e5, h2'⟩, hpw, (by show sizeP pt + 1 ≤ _; omega), (by show deepP pt + 1 ≤ _; omega), ?_⟩
            simp only [patD, wd, wds, eA]; omega
        refine ⟨t6, _, _, _, rfl, rfl, SqL.of e6', hat, ?_⟩
        refine ⟨_, rfl, rfl, _, rfl, ifF (e4f (by omega)) ?_⟩
        have hh : ∃ p' : Pat, RP H5 p' u' ∧ KBd1 (n + 1) (nm0, p', sk) ∧ wd (patD p') ≤ 9 * wd (patD pt) + 292 ∧ Jar j H5 (C + 4) ∧ Keep j Hb H5 := ⟨p', hrp, ⟨hnm0, hpw', hs', hd'⟩, hw', hj5.mono (by omega), (Keep.of_same sC).trans kp5⟩
        generalize hx : nm0 = x2
        generalize ho : some (V.ref t2) = o2
        exact hR3 x2 u' o2 H5 (by rw [← hx]; exact hh)
      case inr.inl =>
        refine ⟨_, rfl, _, _, rfl, rfl, _, rfl, ifF (lt_f (by omega)) ?_⟩
        refine ⟨_, rfl, rfl, _, rfl, ifF (e3f (by omega)) ?_⟩
        refine ⟨_, rfl, rfl, _, rfl, ifT (e4t hr3) ?_⟩
        refine ⟨_, rfl, (by show 1 ≤ sizeLine; decide), fun t1 ht1 => ⟨(by show 1 ≤ sizeLine; decide), fun t2 ht2 => ⟨(by show 1 ≤ sizeLine; decide), fun t3 ht3 => ⟨_, rfl, (by show 1 ≤ sizeLine; decide), fun t4 ht4 => ?_⟩⟩⟩⟩
        have s1 := same_new ht1 (.tup [.str "or"])
        have s2 := same_new ht2 (.tup [.str "then"])
        have s3 := same_new ht3 (.tup [.str "or"])
        have s4 := same_new ht4 (.tup [u])
        have sA := s1.trans (s2.trans (s3.trans s4))
        have e1 := (s2.trans (s3.trans s4)) _ _ (upd_same (a := t1))
        have e2 := (s3.trans s4) _ _ (upd_same (a := t2))
        have e3 := s4 _ _ (upd_same (a := t3))
        have e4 : (upd (upd (upd (upd Hb t1 (.tup [.str "or"])) t2 (.tup [.str "then"])) t3 (.tup [.str "or"])) t4 (.tup [u])) t4 = some (.tup [u]) := upd_same
        generalize (upd (upd (upd (upd Hb t1 (.tup [.str "or"])) t2 (.tup [.str "then"])) t3 (.tup [.str "or"])) t4 (.tup [u])) = H3 at sA e1 e2 e3 e4
        refine ⟨t4, 2, [u], rfl, rfl, SqT.of e4, by simp, by decide, by decide, by show 1 ≤ 1000; decide, fun t5 ht5 => ?_⟩
        have f5 : (List.replicate (2 : Int).toNat [u]).flatten = [u, u] := rfl
        rw [f5] at *
        have st5 := same_new ht5 (.tup [u, u])
        have e5 : (upd H3 t5 (.tup [u, u])) t5 = some (.tup [u, u]) := upd_same
        replace e1 := st5 _ _ e1
        replace e2 := st5 _ _ e2
        replace e3 := st5 _ _ e3
        replace e4 := st5 _ _ e4
        replace sA := sA.trans st5
        generalize upd H3 t5 (.tup [u, u]) = G5 at st5 e5 sA e1 e2 e3 e4
        refine ⟨t3, t5, _, _, rfl, rfl, SqT.of e3, SqT.of e5, by simp, (by show 1 + 2 ≤ sizeLine; decide), fun h => absurd h (by simp), fun _ t6 ht6 => ?_⟩
        have st6 := same_new ht6 (.tup ([.str "or"] ++ [u, u]))
        have e6 : (upd G5 t6 (.tup ([.str "or"] ++ [u, u]))) t6 = some (.tup ([.str "or"] ++ [u, u])) := upd_same
        replace e1 := st6 _ _ e1
        replace e2 := st6 _ _ e2
        replace e3 := st6 _ _ e3
        replace e4 := st6 _ _ e4
        replace e5 := st6 _ _ e5
        replace sA := sA.trans st6
        generalize upd G5 t6 (.tup ([.str "or"] ++ [u, u])) = G6 at st6 e6 sA e1 e2 e3 e4 e5
        refine ⟨(by show 1 ≤ sizeLine; decide), fun t7 ht7 => ?_⟩
        have st7 := same_new ht7 (.tup [.ref t6])
        have e7 : (upd G6 t7 (.tup [.ref t6])) t7 = some (.tup [.ref t6]) := upd_same
        replace e1 := st7 _ _ e1
        replace e2 := st7 _ _ e2
        replace e3 := st7 _ _ e3
        replace e4 := st7 _ _ e4
        replace e5 := st7 _ _ e5
        replace e6 := st7 _ _ e6
        replace sA := sA.trans st7
        generalize upd G6 t7 (.tup [.ref t6]) = G7 at st7 e7 sA e1 e2 e3 e4 e5 e6
        refine ⟨t7, 2, [.ref t6], rfl, rfl, SqT.of e7, by simp, by decide, by decide, by show 1 ≤ 1000; decide, fun t8 ht8 => ?_⟩
        have f8 : (List.replicate (2 : Int).toNat [V.ref t6]).flatten = [.ref t6, .ref t6] := rfl
        rw [f8] at *
        have st8 := same_new ht8 (.tup [.ref t6, .ref t6])
        have e8 : (upd G7 t8 (.tup [.ref t6, .ref t6])) t8 = some (.tup [.ref t6, .ref t6]) := upd_same
        replace e1 := st8 _ _ e1
        replace e2 := st8 _ _ e2
        replace e3 := st8 _ _ e3
        replace e4 := st8 _ _ e4
        replace e5 := st8 _ _ e5
        replace e6 := st8 _ _ e6
        replace e7 := st8 _ _ e7
        replace sA := sA.trans st8
        generalize upd G7 t8 (.tup [.ref t6, .ref t6]) = G8 at st8 e8 sA e1 e2 e3 e4 e5 e6 e7
        refine ⟨t2, t8, _, _, rfl, rfl, SqT.of e2, SqT.of e8, by simp, (by show 1 + 2 ≤ sizeLine; decide), fun h => absurd h (by simp), fun _ t9 ht9 => ?_⟩
        have st9 := same_new ht9 (.tup ([.str "then"] ++ [.ref t6, .ref t6]))
        have e9 : (upd G8 t9 (.tup ([.str "then"] ++ [.ref t6, .ref t6]))) t9 = some (.tup ([.str "then"] ++ [.ref t6, .ref t6])) := upd_same
        replace e1 := st9 _ _ e1
        replace e2 := st9 _ _ e2
        replace e3 := st9 _ _ e3
        replace e4 := st9 _ _ e4
        replace e5 := st9 _ _ e5
        replace e6 := st9 _ _ e6
        replace e7 := st9 _ _ e7
        replace e8 := st9 _ _ e8
        replace sA := sA.trans st9
        generalize upd G8 t9 (.tup ([.str "then"] ++ [.ref t6, .ref t6])) = G9 at st9 e9 sA e1 e2 e3 e4 e5 e6 e7 e8
        refine ⟨(by show 1 ≤ sizeLine; decide), fun t10 ht10 => ?_⟩
        have st10 := same_new ht10 (.tup [.ref t9])
        have e10 : (upd G9 t10 (.tup [.ref t9])) t10 = some (.tup [.ref t9]) := upd_same
        replace e1 := st10 _ _ e1
        replace e2 := st10 _ _ e2
        replace e3 := st10 _ _ e3
        replace e4 := st10 _ _ e4
        replace e5 := st10 _ _ e5
        replace e6 := st10 _ _ e6
        replace e7 := st10 _ _ e7
        replace e8 := st10 _ _ e8
        replace e9 := st10 _ _ e9
        replace sA := sA.trans st10
        generalize upd G9 t10 (.tup [.ref t9]) = G10 at st10 e10 sA e1 e2 e3 e4 e5 e6 e7 e8 e9
        refine ⟨t10, 2, [.ref t9], rfl, rfl, SqT.of e10, by simp, by decide, by decide, by show 1 ≤ 1000; decide, fun t11 ht11 => ?_⟩
        have f11 : (List.replicate (2 : Int).toNat [V.ref t9]).flatten = [.ref t9, .ref t9] := rfl
        rw [f11] at *
        have st11 := same_new ht11 (.tup [.ref t9, .ref t9])
        have e11 : (upd G10 t11 (.tup [.ref t9, .ref t9])) t11 = some (.tup [.ref t9, .ref t9]) := upd_same
        replace e1 := st11 _ _ e1
        replace e2 := st11 _ _ e2
        replace e3 := st11 _ _ e3
        replace e4 := st11 _ _ e4
        replace e5 := st11 _ _ e5
        replace e6 := st11 _ _ e6
        replace e7 := st11 _ _ e7
        replace e8 := st11 _ _ e8
        replace e9 := st11 _ _ e9
        replace e10 := st11 _ _ e10
        replace sA := sA.trans st11
        generalize upd G10 t11 (.tup [.ref t9, .ref t9]) = G11 at st11 e11 sA e1 e2 e3 e4 e5 e6 e7 e8 e9 e10
        refine ⟨t1, t11, _, _, rfl, rfl, SqT.of e1, SqT.of e11, by simp, (by show 1 + 2 ≤ sizeLine; decide), fun h => absurd h (by simp), fun _ t12 ht12 => ?_⟩
        have st12 := same_new ht12 (.tup ([.str "or"] ++ [.ref t9, .ref t9]))
        have e12 : (upd G11 t12 (.tup ([.str "or"] ++ [.ref t9, .ref t9]))) t12 = some (.tup ([.str "or"] ++ [.ref t9, .ref t9])) := upd_same
        replace e1 := st12 _ _ e1
        replace e2 := st12 _ _ e2
        replace e3 := st12 _ _ e3
        replace e4 := st12 _ _ e4
        replace e5 := st12 _ _ e5
        replace e6 := st12 _ _ e6
        replace e7 := st12 _ _ e7
        replace e8 := st12 _ _ e8
        replace e9 := st12 _ _ e9
        replace e10 := st12 _ _ e10
        replace e11 := st12 _ _ e11
        replace sA := sA.trans st12
        generalize upd G11 t12 (.tup ([.str "or"] ++ [.ref t9, .ref t9])) = G12 at st12 e12 sA e1 e2 e3 e4 e5 e6 e7 e8 e9 e10 e11
        refine ⟨(by show 3 ≤ sizeLine; decide), fun t13 ht13 => ?_⟩
        have st13 := same_new ht13 (.tup [.str "then", u, .ref t12])
        have e13 : (upd G12 t13 (.tup [.str "then", u, .ref t12])) t13 = some (.tup [.str "then", u, .ref t12]) := upd_same
        replace e1 := st13 _ _ e1
        replace e2 := st13 _ _ e2
        replace e3 := st13 _ _ e3
        replace e4 := st13 _ _ e4
        replace e5 := st13 _ _ e5
        replace e6 := st13 _ _ e6
        replace e7 := st13 _ _ e7
        replace e8 := st13 _ _ e8
        replace e9 := st13 _ _ e9
        replace e10 := st13 _ _ e10
        replace e11 := st13 _ _ e11
        replace e12 := st13 _ _ e12
        replace sA := sA.trans st13
        generalize upd G12 t13 (.tup [.str "then", u, .ref t12]) = G13 at st13 e13 sA e1 e2 e3 e4 e5 e6 e7 e8 e9 e10 e11 e12
        have h2' : RP G13 pt u := h2.tk (Tk.of_same sA)
        have p6 : RP G13 (.oo pt pt) (.ref t6) := ⟨t6, u, u, rfl, e6, h2', h2'⟩
        have p9 : RP G13 (.th (.oo pt pt) (.oo pt pt)) (.ref t9) := ⟨t9, _, _, rfl, e9, p6, p6⟩
        have p12 : RP G13 (.oo (.th (.oo pt pt) (.oo pt pt)) (.th (.oo pt pt) (.oo pt pt))) (.ref t12) := ⟨t12, _, _, rfl, e12, p9, p9⟩
        have p13 : RP G13 (.th pt (.oo (.th (.oo pt pt) (.oo pt pt)) (.th (.oo pt pt) (.oo pt pt)))) (.ref t13) := ⟨t13, _, _, rfl, e13, h2', p12⟩
        have eT : ("then" : Str).length = 4 := by decide +kernel
        have eO : ("or" : Str).length = 2 := by decide +kernel
        refine hR3 nm0 (.ref t13) none G13 ⟨_, p13, ⟨hnm0, ⟨hpw, ⟨⟨hpw, hpw⟩, hpw, hpw⟩, ⟨hpw, hpw⟩, hpw, hpw⟩, ?_, ?_⟩, ?_, (hjb.keep sA).mono (by omega), .of_same sA⟩
        · simp only [sizeP]; show _ ≤ 9 * sN n + 8; omega
        · simp only [deepP]; show _ ≤ dN n + 4; omega
        · simp only [patD, wd, wds, eT, eO]; omega
      case inr.inr =>
        refine ⟨_, rfl, _, _, rfl, rfl, _, rfl, ifT (lt_t hr3) ?_⟩
        have WVb : WV Hb (.ref ww) W := WV2.same sb
        refine ⟨_, rfl, _, rfl, _, W, rfl, WVb, hW0.kl, hW0.rl, by have := hW0.al; omega, fun pn H3 hpn epn s3 => ?_⟩
        refine ⟨j, pn, C + 2, namesOf W, rfl, hjb.keep s3, by omega, epn, ?_, hW0.nms, fun x H4 hx jr4 kp4 => ?_⟩
        · have := hW0.tot
          have h1 := all_len W.rs
          unfold namesOf
          rw [List.length_append, List.length_append, List.length_map, List.length_map, List.length_map, h1]
          exact this
        refine ⟨_, rfl, rfl, _, rfl, ifF (e3f (by omega)) ?_⟩
        refine ⟨_, rfl, rfl, _, rfl, ifF (e4f (by omega)) ?_⟩
        exact hR3 x u none H4 ⟨pt, (h2.tk (Tk.of_same s3)).tk (Tk.of_keep (hjb.keep s3) kp4), ⟨hx, hpw, hk1.succ.size, hk1.succ.deep⟩, by omega, jr4.mono (by omega), (Keep.of_same s3).trans kp4⟩
    rintro x u' o H3 ⟨p', hrp, hk', hw', jr3, kp3⟩
    have ha3 := kp3 _ _ aj hab
    have pa3 : Paired (KdV H3) ka W.ks := paired_imp (fun _ _ r => r.tk (Tk.of_keep hjb kp3)) pab
    refine ⟨_, rfl, _, rfl, _, rfl, a, _, rfl, SqL.of ha3, fun c1 hc1 => ?_⟩
    rw [cut_to]
    refine ⟨_, rfl, _, rfl, _, rfl, (by show 3 ≤ sizeLine; decide), fun t1 ht1 => ⟨(by show 1 ≤ sizeLine; decide), fun c2 hc2 => ?_⟩⟩
    have s1 := same_new hc1 (.lst (ka.take i))
    have s2 := same_new ht1 (.tup [.str x, u', .bl sk])
    have s3 := same_new hc2 (.lst [.ref t1])
    have f1 : (upd (upd (upd H3 c1 (.lst (ka.take i))) t1 (.tup [.str x, u', .bl sk])) c2 (.lst [.ref t1])) c1 = some (.lst (ka.take i)) := s3 _ _ (s2 _ _ upd_same)
    have f2 : (upd (upd (upd H3 c1 (.lst (ka.take i))) t1 (.tup [.str x, u', .bl sk])) c2 (.lst [.ref t1])) t1 = some (.tup [.str x, u', .bl sk]) := s3 _ _ upd_same
    have f3 : (upd (upd (upd H3 c1 (.lst (ka.take i))) t1 (.tup [.str x, u', .bl sk])) c2 (.lst [.ref t1])) c2 = some (.lst [.ref t1]) := upd_same
    have sA := s1.trans (s2.trans s3)
    generalize (upd (upd (upd H3 c1 (.lst (ka.take i))) t1 (.tup [.str x, u', .bl sk])) c2 (.lst [.ref t1])) = H4 at f1 f2 f3 sA
    have lka' : ka.length ≤ 32 := by omega
    refine ⟨c1, c2, _, _, rfl, rfl, f1, f3, by rw [List.length_take, sizeLine_eq]; show _ + 1 ≤ _; omega, fun c3 hc3 => ?_⟩
    have s4 := same_new hc3 (.lst (ka.take i ++ [.ref t1]))
    have f4 : (upd H4 c3 (.lst (ka.take i ++ [.ref t1]))) c3 = some (.lst (ka.take i ++ [.ref t1])) := upd_same
    have sB := sA.trans s4
    have f2' := s4 _ _ f2
    generalize upd H4 c3 (.lst (ka.take i ++ [.ref t1])) = H5 at f4 sB f2'
    refine ⟨_, rfl, _, rfl, _, _, rfl, rfl, _, rfl, a, _, rfl, SqL.of (sB _ _ ha3), fun c4 hc4 => ?_⟩
    have ecut : cutV ka (some ((i : Int) + 1)) none = ka.drop (i + 1) := by
      rw [show (i : Int) + 1 = ((i + 1 : Nat) : Int) by omega, cut_from]
    rw [ecut]
    have s5 := same_new hc4 (.lst (ka.drop (i + 1)))
    refine ⟨c3, c4, _, _, rfl, rfl, s5 _ _ f4, upd_same, by rw [List.length_append, List.length_take, List.length_drop, sizeLine_eq]; show _ + 1 + _ ≤ _; omega, fun c5 hc5 => ?_⟩
    have s6 := same_new hc5 (.lst (ka.take i ++ [.ref t1] ++ ka.drop (i + 1)))
    have sC := sB.trans (s5.trans s6)
    have f2'' := s6 _ _ (s5 _ _ f2')
    have pa5 : Paired (KdV _) ka W.ks := paired_imp (fun _ _ r => r.tk (Tk.of_same sC)) pa3
    refine q c5 (W.ks.take i ++ [(x, p', sk)] ++ W.ks.drop (i + 1)) _ ⟨_, upd_same, ?_⟩ (hKB.put hki hk' hw') ((jr3.keep sC).mono (by omega)) (kb.trans (kp3.trans (.of_same sC)))
    exact paired_app (paired_snoc (paired_take _ pa5) ⟨t1, u', rfl, f2'', hrp.tk (Tk.of_same sC)⟩) (paired_drop _ pa5)
  intro Hb sb
  have hab := sb _ _ ha2
  have pab : Paired (KdV Hb) ka W.ks := paired_imp (fun _ _ r => r.tk (Tk.of_same sb)) pa2
  have kb : Keep j H Hb := k2.trans (.of_same sb)
  have hjb := hj2.keep sb
  have lka' : ka.length ≤ 32 := by omega
  refine ⟨(by show 0 ≤ sizeLine; decide), fun l1 hl1 => ?_⟩
  have s1 := same_new hl1 (.lst [])
  refine ⟨_, rfl, _, rfl, a, a, _, _, rfl, rfl, s1 _ _ hab, s1 _ _ hab, by rw [sizeLine_eq]; omega, fun l2 hl2 => ?_⟩
  have s2 := same_new hl2 (.lst (ka ++ ka))
  have e1 : (upd (upd Hb l1 (.lst [])) l2 (.lst (ka ++ ka))) l1 = some (.lst []) := s2 _ _ upd_same
  have e2 : (upd (upd Hb l1 (.lst [])) l2 (.lst (ka ++ ka))) l2 = some (.lst (ka ++ ka)) := upd_same
  have s12 := s1.trans s2
  generalize (upd (upd Hb l1 (.lst [])) l2 (.lst (ka ++ ka))) = H3 at e1 e2 s12
  refine ⟨_, rfl, a, 8, _, rfl, rfl, s12 _ _ hab, by decide, by decide, by rw [sizeLine_eq]; show ka.length * 8 ≤ _; omega, fun l3 hl3 => ⟨(by show 3 ≤ sizeLine; decide), fun l4 hl4 => ?_⟩⟩
  have s3 := same_new hl3 (.lst (List.replicate (8 : Int).toNat ka).flatten)
  have s4 := same_new hl4 (.lst [.ref l1, .ref l2, .ref l3])
  have sA := s12.trans (s3.trans s4)
  have e1' : (upd (upd H3 l3 (.lst (List.replicate (8 : Int).toNat ka).flatten)) l4 (.lst [.ref l1, .ref l2, .ref l3])) l1 = some (.lst []) := (s3.trans s4) _ _ e1
  have e2' : (upd (upd H3 l3 (.lst (List.replicate (8 : Int).toNat ka).flatten)) l4 (.lst [.ref l1, .ref l2, .ref l3])) l2 = some (.lst (ka ++ ka)) := (s3.trans s4) _ _ e2
  have e3' : (upd (upd H3 l3 (.lst (List.replicate (8 : Int).toNat ka).flatten)) l4 (.lst [.ref l1, .ref l2, .ref l3])) l3 = some (.lst (List.replicate 8 ka).flatten) := s4 _ _ upd_same
  have e4' : (upd (upd H3 l3 (.lst (List.replicate (8 : Int).toNat ka).flatten)) l4 (.lst [.ref l1, .ref l2, .ref l3])) l4 = some (.lst [.ref l1, .ref l2, .ref l3]) := upd_same
  generalize (upd (upd H3 l3 (.lst (List.replicate (8 : Int).toNat ka).flatten)) l4 (.lst [.ref l1, .ref l2, .ref l3])) = H4 at sA e1' e2' e3' e4'
  have hj4 := hjb.keep sA
  refine ⟨_, rfl, j, C + 2, 3, rfl, hj4, by omega, by decide, by decide, fun r3 H5 r30 r31 hj5 kp5 => ?_⟩
  have e4'' := kp5 _ _ (jar_ne hj4 e4' (by simp)) e4'
  have pa4 : Paired (KdV H4) ka W.ks := paired_imp (fun _ _ r => r.tk (Tk.of_same sA)) pab
  have kz : Keep j H H5 := kb.trans ((Keep.of_same sA).trans kp5)
  have : r3 = 0 ∨ r3 = 1 ∨ r3 = 2 := by omega
  rcases this with rfl | rfl | rfl
  · exact ⟨l4, _, _, _, rfl, rfl, SqL.of e4'', rfl, q l1 [] H5 (KL.keep hj4 kp5 ⟨[], e1', .nil⟩) KBd.nil (hj5.mono (by omega)) kz⟩
  · exact ⟨l4, _, _, _, rfl, rfl, SqL.of e4'', rfl, q l2 _ H5 (KL.keep hj4 kp5 ⟨_, e2', paired_app pa4 pa4⟩) hKB.two (hj5.mono (by omega)) kz⟩
  · exact ⟨l4, _, _, _, rfl, rfl, SqL.of e4'', rfl, q l3 _ H5 (KL.keep hj4 kp5 ⟨_, e3', paired_rep pa4 8⟩) hKB.rep (hj5.mono (by omega)) kz⟩
end
end Pa
set_option maxHeartbeats 4000000
/-! own rules: text * int, () * int, slices and sums of tuples by what the result holds -/
namespace L2
open PySem PySem.Spec PyProof.Rows
theorem tuple_mul0 (l : Addr) (n : Nat) (dd : Option Addr) (sl : Array (Option Value)) (x : Int) (u : Tok) (c0 : (decide (x < -(2 ^ 63)) || decide (x ≥ 2 ^ 63)) = false) :
    Meets (Builtin.«tuple.__mul__» ⟨[.ref l, .int x u], []⟩) (fun _ R s => s.heap.get? l = some { cls := .type "tuple", dict := dd, data := .seq #[] n, slots := sl } ∧
      R (.ok (.ret (Value.ref l))) s) :=
  .of_wp fun prog w A R s h => by
    obtain ⟨hp, g, d, tk, os⟩ := s
    obtain ⟨hl, h⟩ := h
    have f1 := AutoSeq1.idx_int
    wp_walk using wpAny_loadPart' hl
    repeat (first
      | (refine wpAny_ite_false (decide_eq_false (by rw [c0]; exact Bool.false_ne_true)) ?_; wp_walk using wpAny_loadPart' hl)
      | (refine wpAny_ite_true (decide_eq_true rfl) ?_; wp_walk using wpAny_loadPart' hl))
    exact ⟨_, rfl, h⟩
end L2
namespace Se
open PySem PySem.Spec PyProof.Rows L2 Ty
section
variable {X : Cx}
/-- a tuple that holds xs: one that stood, or a new one -/
def Got (H : Hp) (xs : List V) (Q : VK) (as : List Addr) : Prop := ∀ p H', Same H H' → H' p = some (.tup xs) → (∀ j, H j ≠ none → j ∉ as → p ≠ j) → Q (.ref p) H'
theorem Got.old {H : Hp} {xs : List V} {Q : VK} {as : List Addr} {a : Addr} (g : Got H xs Q as) (ha : H a = some (.tup xs)) (m : a ∈ as) : Q (.ref a) H :=
  g a H (fun _ _ e => e) ha fun j _ n e => n (e ▸ m)
theorem Got.new {H : Hp} {xs : List V} {Q : VK} {as : List Addr} (g : Got H xs Q as) {p : Addr} (hp : H p = none) : Q (.ref p) (upd H p (.tup xs)) :=
  g p _ (same_new hp _) upd_same fun j hj _ e => hj (by rw [← e]; exact hp)
theorem cut_whole {xs : List V} {lo hi : Option Int} (h : HT.sIx xs.length 0 lo = 0 ∧ HT.sIx xs.length xs.length hi = xs.length) : cutV xs lo hi = xs := by
  unfold cutV
  rw [h.1, h.2]
  show List.take xs.length xs = xs
  exact List.take_length
def rSlG : V → Option Int → Option Int → Hp → VK → Prop := fun x lo hi H Q => ∃ a xs, x = .ref a ∧ H a = some (.tup xs) ∧ Got H (cutV xs lo hi) Q [a]
theorem sl_got : SlR X rSlG := by
  intro pins s σ H x v vl vu lo hi sl Q I rx hs pl pu h
  obtain ⟨a, xs, rfl, ha, g⟩ := h
  exact sl_tupA pins s σ H _ v vl vu lo hi sl Q I rx hs pl pu ⟨a, xs, rfl, SqT.of ha, fun w => g.old (by rw [cut_whole w]; exact ha) (by simp), fun _ p hp => g.new hp⟩
def rCatG : R2 := fun x y H Q => ∃ a b xs ys, x = .ref a ∧ y = .ref b ∧ H a = some (.tup xs) ∧ H b = some (.tup ys) ∧ xs.length + ys.length ≤ sizeLine ∧ Got H (xs ++ ys) Q [a, b]
theorem op_catG : OpR X (binaryOp .Add) rCatG := by
  intro pins s σ H x y v u Q I rx ry h
  obtain ⟨a, b, xs, ys, rfl, rfl, ha, hb, hz, g⟩ := h
  refine op_catA pins s σ H _ _ v u Q I rx ry ⟨a, b, xs, ys, rfl, rfl, SqT.of ha, SqT.of hb, hz, fun e => ?_, fun _ e => ?_, fun _ _ p hp => g.new hp⟩
  · subst e
    exact g.old hb (by simp)
  · subst e
    rw [List.append_nil] at g
    exact g.old ha (by simp)
/-- a tuple some times, empty or not -/
def rRepG : R2 := fun x y H Q => ∃ l k xs, x = .ref l ∧ y = .int k ∧ H l = some (.tup xs) ∧ 2 ≤ k ∧ k ≤ 1000 ∧ xs.length ≤ 1000 ∧ Got H (List.replicate k.toNat xs).flatten Q [l]
theorem op_repG : OpR X (binaryOp .Mult) rRepG := by
  intro pins s σ H x y v u Q I rx ry h
  obtain ⟨l, k, xs, rfl, rfl, hl, h1, h2, hz, g⟩ := h
  by_cases hne : xs = []
  · subst hne
    have e0 : (List.replicate k.toNat ([] : List V)).flatten = [] := by
      generalize k.toNat = m
      induction m with
      | zero => rfl
      | succ m ih => rw [List.replicate_succ, List.flatten_cons, ih]; rfl
    rw [e0] at g
    cases rx
    obtain ⟨t, rfl⟩ := ry
    obtain ⟨its, r, ⟨⟨cls, dd, data, sl⟩, ho, hc, n, hd⟩, hs⟩ := I.tuple (SqT.of hl)
    simp only at hc hd
    subst hc hd
    cases r
    have c0 : (decide (k < -(2 ^ 63)) || decide (k ≥ 2 ^ 63)) = false := by
      rw [decide_eq_false (by omega), decide_eq_false (by omega)] <;> rfl
    refine wpAny_binaryOp_repeat_ref (T := "tuple") (U := "int") (by decide) ⟨_, ho, rfl⟩ (fun s' => typeIs_int s' k t) noFill_tuple_mul F.fills_int_mul F.slot_int_rmul repeat_tuple F.slot_int_index.lookup
      (call_meets F.slot_int_rmul (typeIs_int s k t) F.entry_int_rmul (F.args_int_rmul_2 _ _) (int_rmul_tuple k t l #[] n dd sl)
        ⟨ho, rfl, ⟨_, ho, rfl⟩, call_meets F.slot_tuple_mul ⟨_, ho, rfl⟩ F.entry_tuple_mul (F.args_tuple_mul_2 _ _) (tuple_mul0 l n dd sl k t c0) ⟨ho, ?_⟩⟩)
    exact ⟨.ref l, H, I, rfl, g.old hl (by simp)⟩
  · exact op_repT pins s σ H _ _ v u Q I rx ry ⟨l, k, xs, rfl, rfl, SqT.of hl, hne, h1, h2, hz, fun p hp => g.new hp⟩
/-- a text some times -/
def repS (z : Str) (n : Nat) : Str := if n = 0 then Str.empty else if n = 1 ∨ z.length = 0 then z else ⟨(List.replicate n z.cps).foldl (· ++ ·) #[]⟩
def rMulS : R2 := fun x y H Q => ∃ (z : Str) (n : Nat), x = .str z ∧ y = .int (n : Nat) ∧ n ≤ 1000 ∧ z.length ≤ 1000 ∧ Q (.str (repS z n)) H
theorem fold_size (z : Array Nat) : ∀ (n : Nat) (a : Array Nat), ((List.replicate n z).foldl (· ++ ·) a).size = a.size + n * z.size
  | 0, a => by simp
  | n + 1, a => by
    rw [List.replicate_succ, List.foldl_cons, fold_size z n, Array.size_append, Nat.succ_mul]; omega
theorem fold_mem (z : Array Nat) : ∀ (n : Nat) (a : Array Nat) (c : Nat), c ∈ ((List.replicate n z).foldl (· ++ ·) a).toList → c ∈ a.toList ∨ c ∈ z.toList
  | 0, a, c, h => .inl h
  | n + 1, a, c, h => by
    rw [List.replicate_succ, List.foldl_cons] at h
    rcases fold_mem z n _ c h with h | h
    · rw [Array.toList_append] at h
      exact List.mem_append.mp h
    · exact .inr h
theorem repS_len (z : Str) (n : Nat) : (repS z n).length ≤ n * z.length := by
  unfold repS
  split
  · exact Nat.zero_le _
  · split
    · rename_i h0 h
      rcases h with h | h
      · rw [h]; omega
      · omega
    · show ((List.replicate n z.cps).foldl (· ++ ·) #[]).size ≤ _
      rw [fold_size]
      show 0 + n * z.length ≤ _
      omega
theorem repS_mem {z : Str} {n : Nat} {c : Nat} (h : c ∈ (repS z n).cps.toList) : c ∈ z.cps.toList := by
  unfold repS at h
  split at h
  · cases h
  · split at h
    · exact h
    · rcases fold_mem z.cps n #[] c h with h | h
      · cases h
      · exact h
theorem op_mulS : OpR X (binaryOp .Mult) rMulS := by
  intro pins s σ H x y v u Q I rx ry h
  obtain ⟨z, n, rfl, rfl, h1, h2, q⟩ := h
  obtain ⟨t, rfl⟩ := rx
  obtain ⟨t2, rfl⟩ := ry
  have hm : z.length * n ≤ 1000000 := Nat.mul_le_mul h2 h1
  refine PySem.P.mul_str (by rw [decide_eq_false (by omega), decide_eq_false (by omega)]; rfl) (fun hn _ => ?_) (fun hn _ => ?_) ?_
  · have h3 : (9007199254740991 : Int) ≤ (2 ^ 63 - 1) / (n : Int) := by
      refine Int.le_ediv_of_mul_le (by omega) ?_
      omega
    omega
  · rw [Int.toNat_natCast]
    unfold Builtin.Str.tooLong
    exact decide_eq_false (by rw [sizeLine_eq]; omega)
  · unfold repS at q
    by_cases h0 : n = 0
    · rw [if_pos h0] at q
      rw [if_pos (by omega)]
      exact ⟨by decide, .str _, H, I.tok _, ⟨_, rfl⟩, q⟩
    · rw [if_neg h0] at q
      rw [if_neg (by omega)]
      by_cases hc : ((n : Int) == 1 || z.length == 0) = true
      · rw [if_pos hc]
        rw [if_pos (by
          rcases Bool.or_eq_true_iff.mp hc with h | h
          · exact .inl (by have := eq_of_beq h; omega)
          · exact .inr (eq_of_beq h))] at q
        exact ⟨.str _, H, I, ⟨_, rfl⟩, q⟩
      · rw [if_neg hc]
        rw [if_neg (fun h => hc (Bool.or_eq_true_iff.mpr (by
          rcases h with h | h
          · exact .inl (beq_iff_eq.mpr (by omega))
          · exact .inr (beq_iff_eq.mpr h))))] at q
        refine ⟨?_, .str _, H, I.tok _, ⟨_, rfl⟩, ?_⟩
        · show ((List.replicate _ z.cps).foldl (· ++ ·) #[]).size ≤ _
          rw [fold_size, Int.toNat_natCast, sizeLine_eq]
          show 0 + n * z.length ≤ _
          rw [Nat.mul_comm]; omega
        · rw [Int.toNat_natCast]; exact q
end
end Se
set_option maxHeartbeats 4000000
namespace Pa
open PySem PySem.Spec PyProof.Rows L2 Ty Se
/-! ### rules put otherwise -/
def rN : Nat → Nat
  | 0 => 4
  | n + 1 => 41 * rN n
def rW : Nat → Nat
  | 0 => 5100
  | n + 1 => 41 * rW n + 2000
theorem rN_four : ∀ n, 4 ≤ rN n
  | 0 => by decide
  | n + 1 => by have := rN_four n; unfold rN; omega
structure ABd (n : Nat) (a : Str × List Str) : Prop where
  nm : Nm a.1
  few : a.2.length ≤ 7 + n
  syms : ∀ x, x ∈ a.2 → Nm x
structure RBd1 (n : Nat) (r : Str × List (Str × List Str)) : Prop where
  nm : Nm r.1
  few : r.2.length ≤ 3
  alts : ∀ a, a ∈ r.2 → ABd n a
structure RBd (n : Nat) (rs : Rls) : Prop where
  len : rs.length ≤ rN n
  all : ∀ r, r ∈ rs → RBd1 n r
  wt : wds (rs.map rlD) ≤ rW n
theorem ABd.succ {n : Nat} {a : Str × List Str} (h : ABd n a) : ABd (n + 1) a := ⟨h.nm, by have := h.few; omega, h.syms⟩
theorem RBd1.succ {n : Nat} {r : Str × List (Str × List Str)} (h : RBd1 n r) : RBd1 (n + 1) r := ⟨h.nm, h.few, fun a ha => (h.alts a ha).succ⟩
theorem RBd.rep {n k : Nat} {rs : Rls} (h : RBd n rs) (hk : k ≤ 41) : RBd (n + 1) (List.replicate k rs).flatten := by
  have h1 := h.len
  have h2 := h.wt
  have m1 : k * rs.length ≤ 41 * rN n := Nat.mul_le_mul hk h1
  have m2 : k * wds (rs.map rlD) ≤ 41 * rW n := Nat.mul_le_mul hk h2
  refine ⟨by rw [len_rep]; exact m1, fun r hr => (h.all r (mem_rep hr)).succ, ?_⟩
  rw [map_rep, wds_rep]
  show _ ≤ 41 * rW n + 2000
  omega
theorem rl_wd (r : Str × List (Str × List Str)) : wd (rlD r) = wd (.str r.1) + (wds (r.2.map altD) + 5 + 0) + 5 := rfl
theorem RBd.more {n : Nat} {rs : Rls} {r0 : Str × List (Str × List Str)} (h : RBd n rs) (h0 : r0 ∈ rs) (g : Nat → Str) (hg : ∀ k, k < 9 → Nm (g k)) : RBd (n + 1) (rs ++ (List.range 9).map fun k => (g k, r0.2)) := by
  have h1 := h.len
  have h2 := h.wt
  have h4 := rN_four n
  have r0b := h.all _ h0
  refine ⟨by rw [List.length_append, List.length_map, List.length_range]; show _ ≤ 41 * rN n; omega, fun r hr => ?_, ?_⟩
  · rcases List.mem_append.mp hr with m | m
    · exact (h.all r m).succ
    · obtain ⟨k, hk, rfl⟩ := List.mem_map.mp m
      exact ⟨hg k (List.mem_range.mp hk), r0b.succ.few, r0b.succ.alts⟩
  · have e0 : wd (rlD r0) ≤ wds (rs.map rlD) := by
      obtain ⟨i, hi⟩ := List.getElem?_of_mem h0
      have := split_at hi
      rw [this, List.map_append, List.map_append, wds_app, wds_app]
      show _ ≤ wds _ + (wd (rlD r0) + 0) + _
      omega
    have e1 := rl_wd r0
    have e2 : wds (((List.range 9).map fun k => (g k, r0.2)).map rlD) ≤ (94 + rW n) * 9 := by
      have := wds_le (f := rlD) (k := 94 + rW n) ((List.range 9).map fun k => (g k, r0.2)) (fun x hx => by
        obtain ⟨k, hk, rfl⟩ := List.mem_map.mp hx
        have e3 := rl_wd (g k, r0.2)
        have e4 := str_wd (hg k (List.mem_range.mp hk))
        rw [e3]
        show wd (.str (g k)) + (wds (r0.2.map altD) + 5 + 0) + 5 ≤ _
        omega)
      rw [List.length_map, List.length_range] at this
      exact this
    rw [List.map_append, wds_app]
    show _ ≤ 41 * rW n + 2000
    omega
theorem RBd.put {n i : Nat} {rs : Rls} {r r' : Str × List (Str × List Str)} (h : RBd n rs) (hr : rs[i]? = some r) (h' : RBd1 (n + 1) r') (hw : wds (r'.2.map altD) ≤ wds (r.2.map altD) + 1500) : RBd (n + 1) (rs.take i ++ [r'] ++ rs.drop (i + 1)) := by
  have h1 := h.len
  have h2 := h.wt
  refine ⟨by rw [len_put _ hr]; show _ ≤ 41 * rN n; omega, fun z hz => ?_, ?_⟩
  · rcases mem_put hz with m | e
    · exact (h.all z m).succ
    · rw [e]; exact h'
  · have e := wds_put (f := rlD) r' hr
    have e1 := rl_wd r
    have e2 := rl_wd r'
    have e3 := str_wd h'.nm
    show _ ≤ 41 * rW n + 2000
    omega
theorem strs_wd {l : List Str} (h : ∀ x, x ∈ l → Nm x) : wds (l.map PyData.str) ≤ 94 * l.length := wds_le l fun x hx => str_wd (h x hx)
theorem alt_wd {n : Nat} {a : Str × List Str} (h : ABd n a) (hn : n ≤ 2) : wd (altD a) ≤ 1000 := by
  have e : wd (altD a) = wd (.str a.1) + (wds (a.2.map PyData.str) + 5 + 0) + 5 := rfl
  have h1 := str_wd h.nm
  have h2 := strs_wd h.syms
  have h3 := h.few
  have : 94 * a.2.length ≤ 94 * 9 := Nat.mul_le_mul_left _ (by omega)
  omega
/-- one alternative put otherwise -/
theorem alts_put {n i : Nat} {as : List (Str × List Str)} {a' : Str × List Str} (hn : n + 1 ≤ 2) (hi : i < max 1 as.length) (few : as.length ≤ 3) (all : ∀ a, a ∈ as → ABd n a) (h' : ABd (n + 1) a') :
    (as.take i ++ [a'] ++ as.drop (i + 1)).length ≤ 3 ∧ (∀ a, a ∈ as.take i ++ [a'] ++ as.drop (i + 1) → ABd (n + 1) a) ∧ wds ((as.take i ++ [a'] ++ as.drop (i + 1)).map altD) ≤ wds (as.map altD) + 1500 := by
  have hw := alt_wd h' hn
  refine ⟨?_, fun a ha => ?_, ?_⟩
  · rw [List.length_append, List.length_append, List.length_take, List.length_drop]
    show min i as.length + 1 + _ ≤ 3
    omega
  · rcases mem_put ha with m | e
    · exact (all a m).succ
    · rw [e]; exact h'
  · have t1 : wds ((as.take i).map altD) + wds ((as.drop i).map altD) = wds (as.map altD) := by rw [← wds_app, ← List.map_append, List.take_append_drop]
    have t2 : wds ((as.drop (i + 1)).map altD) ≤ wds ((as.drop i).map altD) := by
      cases e : as.drop i with
      | nil =>
        have : as.drop (i + 1) = [] := by rw [← List.drop_drop, e]; rfl
        rw [this]; exact Nat.le_refl _
      | cons x l =>
        have : as.drop (i + 1) = l := by rw [← List.drop_drop, e]; rfl
        rw [this, List.map_cons]
        show _ ≤ wd _ + wds _
        omega
    rw [List.map_append, List.map_append, wds_app, wds_app]
    show wds _ + (wd (altD a') + 0) + _ ≤ _
    omega
theorem a_nm : Nm "a" := by
  have : ("a" : Str).length ≤ 9 ∧ ∀ c, c ∈ ("a" : Str).cps.toList → c < 128 := by decide +kernel
  exact this
theorem gap_Nm : Nm "gap" := by
  have : ("gap" : Str).length ≤ 9 ∧ ∀ c, c ∈ ("gap" : Str).cps.toList → c < 128 := by decide +kernel
  exact this
theorem aux_rest7 {X C0 : Str → Str → V → Option V → Hp → Prop} {M : Prop} (f : (∀ x y u o H, C0 x y u o H → X x y u o H) → M) (r : ∀ x y u o H, C0 x y u o H → X x y u o H) : M := f r
def spRBent : Sp := fun vs H Q _ => ∃ (j : Addr) (v : V) (C n : Nat) (W : Wor), vs = [.ref j, v] ∧ Jar j H C ∧ C ≤ 999990000 ∧ WV H v W ∧ WB0 W ∧ RBd n W.rs ∧ n ≤ 1 ∧
  ∀ (p : Addr) (rs : Rls) (H' : Hp), RL H' p rs → RBd (n + 1) rs → Jar j H' (C + 10) → Keep j H H' → Q (.ref p) H'
abbrev nRB : List Str := ["purse", "world", "rules", "way", "at", "many", "head", "some", "spot", "label", "row", "place", "sign", "k"]
theorem scRBent : FnScope nRB ["purse", "world"] (defScope lRBent) := ⟨rfl, rfl, rfl, by decide +kernel, rfl, by decide +kernel, by decide +kernel⟩
section
variable {P : Program} {w : World} {K : PySem.W.Frag} {mg : Str → Option Value} {base : Heap} {f g g2 g3 : Addr} {fd gd gd2 gd3 : FuncData}
theorem ok_rbent (F : Fun K "_law_rules_bent" "_law_rules_bent" lRBent f fd)
    (G : FnOk P w K mg base CX0 1 g gd ["purse", "many"] spDrawn) (bG : Binds K gd ["purse", "many"] []) (kG : PySem.W.keepIn K (.ref g) = true) (mG : mg "_law_drawn" = some (.ref g))
    (GS : FnOk P w K mg base CX0 2 g2 gd2 ["purse", "some"] spStrange) (bS : Binds K gd2 ["purse", "some"] []) (kS : PySem.W.keepIn K (.ref g2) = true) (mS : mg "_law_strange" = some (.ref g2))
    (GN : FnOk P w K mg base CX0 2 g3 gd3 ["world"] spNames) (bN : Binds K gd3 ["world"] []) (kN' : PySem.W.keepIn K (.ref g3) = true) (mN : mg "_law_all_names" = some (.ref g3))
    (ml : mg "len" = none) (mm : mg "max" = none) (mr : mg "range" = none) :
    FnOk P w K mg base CX0 3 f fd ["purse", "world"] spRBent := by
  refine F.ok scRBent (fun vs H Q E h => ?_) (fun cdv A outer s0 H vs Q E hr h => ?_)
  · obtain ⟨_, _, _, _, _, rfl, _⟩ := h
    rfl
  have hu := hr.units
  have G' := G.mono (show 1 ≤ 2 by decide)
  obtain ⟨j, v, C, n, W, rfl, hj, hC, hWV, hW0, hRB, hn, q⟩ := h
  refine ⟨_, pss_cons (ps_set (i := 2) scRBent.nd rfl (.inr rfl) (pe_ix ix_list (pv 1) pe_int (fun _ _ => rfl)))
    (pss_cons (ps_set (i := 3) scRBent.nd rfl (.inl rfl) (pe_call G' hr rfl mG kG bG .nil pass0 (pa_cons (pv 0) (pa_cons pe_int pa_nil))))
    (pss_cons (ps_set (i := 4) scRBent.nd rfl (.inl rfl) (pe_call G' hr rfl mG kG bG .nil pass0 (pa_cons (pv 0) (pa_cons (pe_callB (call_max2 rfl) rfl mm (by decide +kernel) (pa_cons pe_int (pa_cons (pe_callB call_len_seq rfl ml PySem.boot_len (pa_cons (pv 2) pa_nil)) pa_nil))) pa_nil))))
    (pss_cons (ps_if (PW.pt (pw_or (pt_cmpR op_eq (pv 3) pe_int (nomark _)) (pw_or1 (pt_cmpR (op_eqL0 hu) (pv 2) (pe_lst pa_nil) (nomark _)))))
      (pss_cons (ps_set (i := 5) scRBent.nd rfl (.inl rfl) (pe_ix ix_list (pe_lst (pa_cons pe_int (pa_cons pe_int (pa_cons pe_int (pa_cons pe_int pa_nil))))) (pe_call G' hr rfl mG kG bG .nil pass0 (pa_cons (pv 0) (pa_cons pe_int pa_nil))) (fun _ _ => rfl)))
      (pss_cons (ps_if (PW.pt (pw_or (pt_cmpR op_ne (pv 5) pe_int (nomark _)) (pw_or1 (pt_cmpR (op_eqL0 hu) (pv 2) (pe_lst pa_nil) (nomark _))))) (pss_one (ps_ret (pe_op op_rep (pv 2) (pv 5)))) pss_nil)
      (pss_one (ps_ret (pe_op op_cat (pv 2) (pe_lc (own := [("k", 13)]) (g := gName 13) (tt := tYes) rfl scRBent.nd (pi_range1 rfl mr (pa_cons (pv 5) pa_nil)) (blkOk_by (N := nRB) (sc := defScope lRBent) (by decide +kernel)) (fun _ _ _ _ _ => pg_name (i := 13) scRBent.nd rfl (Or.inl rfl)) (fun _ _ _ _ _ => pts_nil)
          (fun _ _ _ _ _ => pe_tup (pa_cons (pe_op op_add_str pe_str (pe_op op_mulS (pe_slice sl_str (pe_ix (show IxR _ (rIxT K) from ix_tup) (pe_ix (show IxR _ (rIxL K) from ix_list) (pv 2) pe_int (fun _ _ => rfl)) pe_int (fun _ _ => rfl)) po_none (po_some pe_int)) (pv 13))) (pa_cons (pe_ix (show IxR _ (rIxT K) from ix_tup) (pe_ix (show IxR _ (rIxL K) from ix_list) (pv 2) pe_int (fun _ _ => rfl)) pe_int (fun _ _ => rfl)) pa_nil)))))))))
      pss_nil)
    (pss_cons (ps_asg (pe_ix ix_list (pv 2) (pv 4) (fun _ _ => rfl)) (pg_tup rfl (pgs_cons (pg_name (i := 6) scRBent.nd rfl (Or.inl rfl)) (pgs_cons (pg_name (i := 7) scRBent.nd rfl (Or.inl rfl)) pgs_nil))))
    (pss_cons (ps_set (i := 8) scRBent.nd rfl (.inl rfl) (pe_call G' hr rfl mG kG bG .nil pass0 (pa_cons (pv 0) (pa_cons (pe_callB (call_max2 rfl) rfl mm (by decide +kernel) (pa_cons pe_int (pa_cons (pe_callB call_len_seq rfl ml PySem.boot_len (pa_cons (pv 7) pa_nil)) pa_nil))) pa_nil))))
    (pss_cons (ps_asg (pe_ix ix_list (pe_op op_cat (pv 7) (pe_lst (pa_cons (pe_tup (pa_cons pe_str (pa_cons (pe_tup pa_nil) pa_nil))) pa_nil))) (pv 8) (fun _ _ => rfl)) (pg_tup rfl (pgs_cons (pg_name (i := 9) scRBent.nd rfl (Or.inl rfl)) (pgs_cons (pg_name (i := 10) scRBent.nd rfl (Or.inl rfl)) pgs_nil))))
    (pss_cons (ps_set (i := 11) scRBent.nd rfl (.inl rfl) (pe_call G' hr rfl mG kG bG .nil pass0 (pa_cons (pv 0) (pa_cons (pe_op op_add (pe_callB call_len_seq rfl ml PySem.boot_len (pa_cons (pv 10) pa_nil)) pe_int) pa_nil))))
    (pss_cons (ps_if (pt_cmpR op_eq (pv 3) pe_int (nomark _)) (pss_one (ps_set (i := 6) scRBent.nd rfl (.inl rfl) (pe_call GS hr rfl mS kS bS .nil pass0 (pa_cons (pv 0) (pa_cons (pe_call GN hr rfl mN kN' bN .nil pass0 (pa_cons (pv 1) pa_nil)) pa_nil))))) pss_nil)
    (pss_cons (ps_if (pt_cmpR op_eq (pv 3) pe_int (nomark _)) (pss_one (ps_ret (pe_op op_cat (pe_op op_cat (pe_slice sl_list (pv 2) po_none (po_some (pv 4))) (pe_lst (pa_cons (pe_tup (pa_cons (pv 6) (pa_cons (pe_lst pa_nil) pa_nil))) pa_nil))) (pe_slice sl_list (pv 2) (po_some (pe_op op_add (pv 4) pe_int)) po_none)))) pss_nil)
    (pss_cons (ps_if (PW.pt (pw_or (pt_cmpR op_eq (pv 3) pe_int (nomark _)) (pw_or1 (pt_cmpR op_eq (pv 3) pe_int (nomark _))))) (pss_one (ps_set (i := 9) scRBent.nd rfl (.inl rfl) (pe_call GS hr rfl mS kS bS .nil pass0 (pa_cons (pv 0) (pa_cons (pe_call GN hr rfl mN kN' bN .nil pass0 (pa_cons (pv 1) pa_nil)) pa_nil))))) pss_nil)
    (pss_cons (ps_if (pt_cmpR op_eq (pv 3) pe_int (nomark _)) (pss_one (ps_set (i := 10) scRBent.nd rfl (.inl rfl) (pe_slice sl_got (pe_op op_catG (pe_op op_repG (pv 10) pe_int) (pe_op op_repG (pe_tup (pa_cons (pv 6) pa_nil)) pe_int)) po_none (po_some (pe_op op_add pe_int (pe_call G' hr rfl mG kG bG .nil pass0 (pa_cons (pv 0) (pa_cons pe_int pa_nil)))))))) pss_nil)
    (pss_cons (ps_if (pt_cmpR op_gt (pv 3) pe_int (nomark _))
      (pss_cons (ps_set (i := 12) scRBent.nd rfl (.inl rfl) (pe_ix ix_list (pe_lst (pa_cons (pe_call GS hr rfl mS kS bS .nil pass0 (pa_cons (pv 0) (pa_cons (pe_call GN hr rfl mN kN' bN .nil pass0 (pa_cons (pv 1) pa_nil)) pa_nil))) (pa_cons pe_str pa_nil))) (pe_op op_sub (pv 3) pe_int) (fun _ _ => rfl)))
      (pss_one (ps_set (i := 10) scRBent.nd rfl (.inl rfl) (pe_op op_catG (pe_op op_catG (pe_slice sl_got (pv 10) po_none (po_some (pv 11))) (pe_tup (pa_cons (pv 12) pa_nil))) (pe_slice sl_got (pv 10) (po_some (pe_op op_add (pv 11) pe_int)) po_none))))) pss_nil)
    (pss_one (ps_ret (pe_op op_cat (pe_op op_cat (pe_slice sl_list (pv 2) po_none (po_some (pv 4))) (pe_lst (pa_cons (pe_tup (pa_cons (pv 6) (pa_cons (pe_op op_cat (pe_op op_cat (pe_slice sl_list (pv 7) po_none (po_some (pv 8))) (pe_lst (pa_cons (pe_tup (pa_cons (pv 9) (pa_cons (pv 10) pa_nil))) pa_nil))) (pe_slice sl_list (pv 7) (po_some (pe_op op_add (pv 8) pe_int)) po_none)) pa_nil))) pa_nil))) (pe_slice sl_list (pv 2) (po_some (pe_op op_add (pv 4) pe_int)) po_none)))))))))))))))), ?_⟩
  have hWV0 := hWV
  obtain ⟨ww, a, b, c, ka, rb, cb, rfl, hw, ha, pa, hb, pb, hc, pc⟩ := hWV
  have lrb : rb.length = W.rs.length := Paired.length pb
  have wj : ww ≠ j := jar_ne hj hw (by simp)
  have bj : b ≠ j := jar_ne hj hb (ref_int (fun _ _ r => r.ref) pb)
  have rN1 : rN n ≤ 164 := by
    have : n = 0 ∨ n = 1 := by omega
    rcases this with rfl | rfl <;> decide
  have lk := hRB.len
  refine ⟨_, rfl, ww, _, _, _, rfl, rfl, SqL.of hw, at_one, ?_⟩
  refine ⟨_, rfl, j, C, 8, rfl, hj, by omega, by decide, by decide, fun r H1 r0 r8 hj1 kp1 => ?_⟩
  have hb1 := kp1 _ _ bj hb
  refine ⟨_, rfl, _, rfl, b, _, rfl, .inl (SqL.of hb1), _, _, rfl, ?_⟩
  obtain ⟨m, hm⟩ : ∃ m : Int, m = (if ((rb.length : Nat) : Int) > 1 then ((rb.length : Nat) : Int) else 1) := ⟨_, rfl⟩
  rw [← hm]
  have hm1 : 1 ≤ m ∧ m ≤ 164 ∧ ((rb.length : Nat) : Int) ≤ m ∧ (0 < rb.length → m = (rb.length : Nat)) := by
    rw [hm]; split <;> omega
  refine ⟨j, C + 1, m, rfl, hj1, by omega, by omega, by omega, fun t H2 t0 t1 hj2 kp2 => ?_⟩
  have hb2 := kp2 _ _ bj hb1
  have k2 : Keep j H H2 := kp1.trans kp2
  have RL2 : RL H2 b W.rs := RL.keep hj k2 ⟨rb, hb, pb⟩
  have pb2 : Paired (RlV anyB H2) rb W.rs := paired_imp (fun _ _ r => r.keep hj k2) pb
  have WV2 : WV H2 (.ref ww) W := hWV0.keep hj k2
  clear kp1 kp2 hj1 hb1
  refine' auxH (C0 := fun Hb => Same H2 Hb) (fun hR1 => ?m1) ?body1
  case m1 =>
    refine' auxH (C0 := fun Hb => Same H2 Hb ∧ r ≠ 0 ∧ rb ≠ []) (fun hR2 => ?m2) ?rest
    case m2 =>
      rcases Bool.eq_false_or_eq_true (decide (V.int r = V.int 0)) with h0 | h0
      case inl =>
        refine ⟨_, rfl, rfl, _, rfl, ifT h0 (ifT rfl ?_)⟩
        have hh : Same H2 H2 := same_refl
        generalize hH : H2 = H3
        exact hR1 H3 (by rw [← hH]; exact hh)
      case inr =>
        have hr0 : r ≠ 0 := fun e => of_decide_eq_false h0 (by rw [e])
        refine ⟨_, rfl, rfl, _, rfl, ifF h0 ?_⟩
        refine ⟨_, rfl, (by show 0 ≤ sizeLine; decide), fun p1 hp1 => ?_⟩
        have s1 := same_new hp1 (.lst [])
        refine ⟨b, p1, rb, rfl, rfl, s1 _ _ hb2, upd_same, _, rfl, ?_⟩
        by_cases hk : rb = []
        · have hv : (if false = true then !rb.isEmpty else rb.isEmpty) = true := by rw [hk]; rfl
          exact ifT hv (hR1 _ s1)
        · have hv : (if false = true then !rb.isEmpty else rb.isEmpty) = false := by
            cases rb with
            | nil => exact absurd rfl hk
            | cons _ _ => rfl
          refine ifF hv ?_
          have hh : Same H2 (upd H2 p1 (.lst [])) ∧ r ≠ 0 ∧ rb ≠ [] := ⟨s1, hr0, hk⟩
          generalize hH : (upd H2 p1 (.lst [])) = H3
          exact hR2 H3 (by rw [← hH]; exact hh)
    rintro Hb ⟨sb, hr0, hrb⟩
    have hbb := sb _ _ hb2
    have kb : Keep j H Hb := k2.trans (.of_same sb)
    have hjb := hj2.keep sb
    have pbb : Paired (RlV anyB Hb) rb W.rs := paired_imp (fun _ _ r => r.same sb) pb2
    have WVb : WV Hb (.ref ww) W := WV2.same sb
    have hk0 : 0 < rb.length := by
      cases rb with
      | nil => exact absurd rfl hrb
      | cons _ _ => simp
    have htl : t < (rb.length : Nat) := by have := hm1.2.2.2 hk0; omega
    obtain ⟨i, rfl⟩ : ∃ i : Nat, t = (i : Int) := ⟨t.toNat, by omega⟩
    obtain ⟨v, hv1, hv2⟩ := at_in (l := rb) t0 htl
    rw [Int.toNat_natCast] at hv2
    obtain ⟨⟨hd0, as0⟩, hri, hrl⟩ := paired_get pbb i v hv2
    obtain ⟨ra, ab, xs, rfl, h1, hab, _, pxs⟩ := hrl
    have hrb1 := hRB.all _ (List.mem_of_getElem? hri)
    have hhd0 : Nm hd0 := hrb1.nm
    have has3 : as0.length ≤ 3 := hrb1.few
    have hasb : ∀ a, a ∈ as0 → ABd n a := hrb1.alts
    have lxs : xs.length = as0.length := Paired.length pxs
    have h1 : Hb ra = some (.tup [.str hd0, .ref ab]) := h1
    have pxs : Paired (AltV Hb) xs as0 := pxs
    have abj : ab ≠ j := jar_ne hjb hab (ref_int (fun _ _ r => r.ref) pxs)
    refine ⟨_, rfl, _, rfl, b, _, _, _, rfl, rfl, SqL.of hbb, hv1, ra, _, rfl, SqT.of h1, rfl, _, _, rfl, _, _, rfl, rfl, ?_⟩
    refine ⟨_, rfl, _, rfl, ab, _, rfl, .inl (SqL.of hab), _, _, rfl, ?_⟩
    obtain ⟨m2, hm2⟩ : ∃ m : Int, m = (if ((xs.length : Nat) : Int) > 1 then ((xs.length : Nat) : Int) else 1) := ⟨_, rfl⟩
    rw [← hm2]
    have hm3 : 1 ≤ m2 ∧ m2 ≤ 3 ∧ (m2 = (max 1 as0.length : Nat)) := by
      rw [hm2]; split <;> omega
    refine ⟨j, C + 2, m2, rfl, hjb, by omega, by omega, by omega, fun sp H3 sp0 sp1 hj3 kp3 => ?_⟩
    obtain ⟨sp, rfl⟩ : ∃ i : Nat, sp = (i : Int) := ⟨sp.toNat, by omega⟩
    have hsp : sp < max 1 as0.length := by omega
    have hab3 := kp3 _ _ abj hab
    have pxs3 : Paired (AltV H3) xs as0 := paired_imp (fun _ _ r => r.tk (Tk.of_keep hjb kp3)) pxs
    refine ⟨_, rfl, (by show 0 ≤ sizeLine; decide), fun t1 ht1 => ⟨(by show 2 ≤ sizeLine; decide), fun t2 ht2 => ⟨(by show 1 ≤ sizeLine; decide), fun l1 hl1 => ?_⟩⟩⟩
    have s1 := same_new ht1 (.tup [])
    have s2 := same_new ht2 (.tup [.str "a", .ref t1])
    have s3 := same_new hl1 (.lst [.ref t2])
    have f1 : (upd (upd (upd H3 t1 (.tup [])) t2 (.tup [.str "a", .ref t1])) l1 (.lst [.ref t2])) t1 = some (.tup []) := s3 _ _ (s2 _ _ upd_same)
    have f2 : (upd (upd (upd H3 t1 (.tup [])) t2 (.tup [.str "a", .ref t1])) l1 (.lst [.ref t2])) t2 = some (.tup [.str "a", .ref t1]) := s3 _ _ upd_same
    have f3 : (upd (upd (upd H3 t1 (.tup [])) t2 (.tup [.str "a", .ref t1])) l1 (.lst [.ref t2])) l1 = some (.lst [.ref t2]) := upd_same
    have sA := s1.trans (s2.trans s3)
    generalize (upd (upd (upd H3 t1 (.tup [])) t2 (.tup [.str "a", .ref t1])) l1 (.lst [.ref t2])) = G1 at f1 f2 f3 sA
    refine ⟨ab, l1, _, _, rfl, rfl, sA _ _ hab3, f3, by rw [sizeLine_eq]; show _ + 1 ≤ _; omega, fun c1 hc1 => ?_⟩
    have s4 := same_new hc1 (.lst (xs ++ [.ref t2]))
    have f4 : (upd G1 c1 (.lst (xs ++ [.ref t2]))) c1 = some (.lst (xs ++ [.ref t2])) := upd_same
    have sB := sA.trans s4
    have f2' := s4 _ _ f2
    have f1' := s4 _ _ f1
    generalize upd G1 c1 (.lst (xs ++ [.ref t2])) = G2 at f4 sB f1' f2'
    have pxA : Paired (AltV G2) (xs ++ [.ref t2]) (as0 ++ [(("a" : Str), ([] : List Str))]) := paired_snoc (paired_imp (fun _ _ r => r.tk (Tk.of_same sB)) pxs3) ⟨t2, t1, rfl, f2', f1'⟩
    obtain ⟨v2, hv21, hv22⟩ := at_in (l := xs ++ [V.ref t2]) sp0 (by rw [List.length_append]; show (sp : Int) < ((xs.length + 1 : Nat) : Int); omega)
    rw [Int.toNat_natCast] at hv22
    obtain ⟨⟨lb0, row0⟩, hai, ra2, rwa, rfl, g1, g2⟩ := paired_get pxA sp v2 hv22
    have hAB : ABd n (lb0, row0) := by
      rcases List.mem_append.mp (List.mem_of_getElem? hai) with h | h
      · exact hasb _ h
      · rw [List.mem_singleton.mp h]
        exact ⟨a_nm, Nat.zero_le _, fun x hx => by cases hx⟩
    have hlb0 : Nm lb0 := hAB.nm
    have hrow7 : row0.length ≤ 7 + n := hAB.few
    have hrown : ∀ x, x ∈ row0 → Nm x := hAB.syms
    have g1 : G2 ra2 = some (.tup [.str lb0, .ref rwa]) := g1
    have g2 : G2 rwa = some (.tup (row0.map V.str)) := g2
    refine ⟨_, rfl, c1, _, _, _, rfl, rfl, SqL.of f4, hv21, ra2, _, rfl, SqT.of g1, rfl, _, _, rfl, _, _, rfl, rfl, ?_⟩
    have hjG := hj3.keep sB
    refine ⟨_, rfl, _, rfl, rwa, _, rfl, .inr (SqT.of g2), _, _, rfl, rfl, j, C + 3, _, rfl, hjG, by omega, by rw [List.length_map]; omega, by rw [List.length_map]; omega, fun pl H5 pl0 pl1 jr5 kp5 => ?_⟩
    rw [List.length_map] at pl1
    obtain ⟨pl, rfl⟩ : ∃ i : Nat, pl = (i : Int) := ⟨pl.toNat, by omega⟩
    have k35 : Keep j Hb H5 := kp3.trans ((Keep.of_same sB).trans kp5)
    have hb5 := k35 _ _ bj hbb
    have pb5 : Paired (RlV anyB H5) rb W.rs := paired_imp (fun _ _ r => r.keep hjb k35) pbb
    have hab5 := k35 _ _ abj hab
    have pxs5 : Paired (AltV H5) xs as0 := paired_imp (fun _ _ r => r.tk (Tk.of_keep hjb k35)) pxs
    have hrw5 : H5 rwa = some (.tup (row0.map V.str)) := Tk.of_keep hjG kp5 _ _ g2
    have WV5 : WV H5 (.ref ww) W := WVb.keep hjb k35
    have k5 : Keep j H H5 := kb.trans k35
    have lrb' : rb.length ≤ 164 := by omega
    clear kp5 kp3 hai g1 g2 hjG pxA f4 f1' f2' sB hv21 hv22 hab3 pxs3 f1 f2 f3 sA s1 s2 s3 s4 k35 hab pxs h1 WVb pbb hbb kb
    have ecut : cutV rb (some ((i : Int) + 1)) none = rb.drop (i + 1) := by
      rw [show (i : Int) + 1 = ((i + 1 : Nat) : Int) by omega, cut_from]
    refine' aux_rest7 (C0 := fun hd lb u o H' => ∃ (rw' : Addr) (row' : List Str), u = V.ref rw' ∧ H' rw' = some (HO.tup (row'.map V.str)) ∧ ABd (n + 1) (lb, row') ∧ Nm hd ∧ Jar j H' (C + 6) ∧ Keep j H5 H') (fun hR3 => ?m3) ?rest3
    case m3 =>
      have e_t : ∀ z : Int, r = z → decide (V.int r = V.int z) = true := fun z h => decide_eq_true (by rw [h])
      have e_f : ∀ z : Int, r ≠ z → decide (V.int r = V.int z) = false := fun z h => decide_eq_false (fun e => h (V.int.inj e))
      have nmsl : (namesOf W).length ≤ 100000 := by
        have := hW0.tot
        have h1 := all_len W.rs
        unfold namesOf
        rw [List.length_append, List.length_append, List.length_map, List.length_map, List.length_map, h1]
        exact this
      have hr5 : (r = 6 ∨ r = 7) ∨ r = 1 ∨ r = 2 ∨ (r = 3 ∨ r = 4) ∨ r = 5 := by omega
      rcases hr5 with h | h | h | h | h
      case inl =>
        refine ⟨_, rfl, rfl, _, rfl, ifF (e_f 1 (by omega)) ?_⟩
        refine ⟨_, rfl, rfl, _, rfl, ifF (e_f 2 (by omega)) ?_⟩
        refine ⟨_, rfl, rfl, _, rfl, ifF (e_f 3 (by omega)) ⟨_, rfl, rfl, _, rfl, ifF (e_f 4 (by omega)) ?_⟩⟩
        refine ⟨_, rfl, rfl, _, rfl, ifF (e_f 5 (by omega)) ?_⟩
        refine ⟨_, rfl, _, _, rfl, rfl, _, rfl, ifT (show decide (r > (5 : Int)) = true from decide_eq_true (by omega)) ?_⟩
        refine ⟨_, rfl, _, rfl, _, W, rfl, WV5, hW0.kl, hW0.rl, by have := hW0.al; omega, fun pn G1 hpn epn s1 => ?_⟩
        refine ⟨j, pn, C + 4, namesOf W, rfl, jr5.keep s1, by omega, epn, nmsl, hW0.nms, fun x G2 hx jr6 kp6 => ?_⟩
        refine ⟨(by show 2 ≤ sizeLine; decide), fun l hl => ?_⟩
        have s2 := same_new hl (.lst [.str x, .str "gap"])
        have el : (upd G2 l (.lst [.str x, .str "gap"])) l = some (.lst [.str x, .str "gap"]) := upd_same
        have kc : Keep j H5 (upd G2 l (.lst [.str x, .str "gap"])) := (Keep.of_same s1).trans (kp6.trans (.of_same s2))
        have jr7 := jr6.keep s2
        have hrw6 : (upd G2 l (.lst [.str x, .str "gap"])) rwa = some (.tup (row0.map V.str)) := Tk.of_keep jr5 kc _ _ hrw5
        generalize upd G2 l (.lst [.str x, .str "gap"]) = G3 at el kc jr7 hrw6
        obtain ⟨sg, hat, hsg⟩ : ∃ sg, atI [V.str x, .str "gap"] (r - 6) = some (.str sg) ∧ Nm sg := by
          rcases h with h | h
          · exact ⟨x, by rw [h]; rfl, hx⟩
          · exact ⟨"gap", by rw [h]; rfl, gap_Nm⟩
        refine ⟨_, rfl, _, _, rfl, rfl, l, _, _, _, rfl, rfl, SqL.of el, hat, ?_⟩
        refine ⟨_, rfl, _, rfl, _, rfl, rwa, _, rfl, hrw6, fun p1 G4 u1 d1 _ => ?_⟩
        rw [cut_to] at d1
        refine ⟨_, rfl, (by show 1 ≤ sizeLine; decide), fun t1 ht1 => ?_⟩
        have u2 := same_new ht1 (.tup [.str sg])
        have d2 : (upd G4 t1 (.tup [.str sg])) t1 = some (.tup [.str sg]) := upd_same
        have d1' := u2 _ _ d1
        have u12 := u1.trans u2
        generalize upd G4 t1 (.tup [.str sg]) = G5 at d1' d2 u12
        have lr : (row0.map V.str).length ≤ 8 := by rw [List.length_map]; omega
        refine ⟨p1, t1, _, _, rfl, rfl, d1', d2, by rw [sizeLine_eq, List.length_take]; show _ + 1 ≤ _; omega, fun p2 G6 u3 d3 _ => ?_⟩
        refine ⟨_, rfl, _, rfl, _, _, rfl, rfl, _, rfl, rwa, _, rfl, u3 _ _ (u12 _ _ hrw6), fun p3 G7 u4 d4 _ => ?_⟩
        have ecut : cutV (row0.map V.str) (some ((pl : Int) + 1)) none = (row0.drop (pl + 1)).map V.str := by
          rw [show (pl : Int) + 1 = ((pl + 1 : Nat) : Int) by omega, cut_from, drop_strs]
        rw [ecut] at d4
        refine ⟨p2, p3, _, _, rfl, rfl, u4 _ _ d3, d4, by rw [List.length_append, List.length_take, List.length_map (as := row0.drop _), List.length_drop, sizeLine_eq]; show _ + 1 + _ ≤ _; omega, fun p4 G8 u5 d5 _ => ?_⟩
        have uA := u12.trans (u3.trans (u4.trans u5))
        have hh : ∃ (rw' : Addr) (row' : List Str), V.ref p4 = V.ref rw' ∧ G8 rw' = some (HO.tup (row'.map V.str)) ∧ ABd (n + 1) (lb0, row') ∧ Nm hd0 ∧ Jar j G8 (C + 6) ∧ Keep j H5 G8 := by
          refine ⟨p4, row0.take pl ++ [sg] ++ row0.drop (pl + 1), rfl, ?_, ⟨hlb0, ?_, fun z hz => ?_⟩, hhd0, (jr7.keep uA).mono (by omega), kc.trans (.of_same uA)⟩
          · rw [d5, take_strs, List.map_append, List.map_append]; rfl
          · show (row0.take pl ++ [sg] ++ row0.drop (pl + 1)).length ≤ 7 + (n + 1)
            rw [List.length_append, List.length_append, List.length_take, List.length_drop]
            show _ + 1 + _ ≤ _
            omega
          · rcases mem_put hz with m | e
            · exact hrown z m
            · rw [e]; exact hsg
        generalize hx1 : hd0 = x1
        generalize hx2 : lb0 = x2
        generalize hx3 : V.ref p4 = x3
        generalize hx4 : some (V.str sg) = x4
        generalize hx5 : G8 = x5
        exact hR3 x1 x2 x3 x4 x5 (by rw [← hx1, ← hx2, ← hx3, ← hx5]; exact hh)
      case inr.inl =>
        refine ⟨_, rfl, rfl, _, rfl, ifT (e_t 1 h) ?_⟩
        refine ⟨_, rfl, _, rfl, _, W, rfl, WV5, hW0.kl, hW0.rl, by have := hW0.al; omega, fun pn G1 hpn epn s1 => ?_⟩
        refine ⟨j, pn, C + 4, namesOf W, rfl, jr5.keep s1, by omega, epn, nmsl, hW0.nms, fun x G2 hx jr6 kp6 => ?_⟩
        refine ⟨_, rfl, rfl, _, rfl, ifF (e_f 2 (by omega)) ?_⟩
        refine ⟨_, rfl, rfl, _, rfl, ifF (e_f 3 (by omega)) ⟨_, rfl, rfl, _, rfl, ifF (e_f 4 (by omega)) ?_⟩⟩
        refine ⟨_, rfl, rfl, _, rfl, ifF (e_f 5 (by omega)) ?_⟩
        refine ⟨_, rfl, _, _, rfl, rfl, _, rfl, ifF (show decide (r > (5 : Int)) = false from decide_eq_false (by omega)) ?_⟩
        have kc : Keep j H5 G2 := (Keep.of_same s1).trans kp6
        exact hR3 x lb0 (.ref rwa) none G2 ⟨rwa, row0, rfl, Tk.of_keep jr5 kc _ _ hrw5, hAB.succ, hx, jr6.mono (by omega), kc⟩
      case inr.inr.inl =>
        refine ⟨_, rfl, rfl, _, rfl, ifF (e_f 1 (by omega)) ?_⟩
        refine ⟨_, rfl, rfl, _, rfl, ifT (e_t 2 h) ?_⟩
        refine ⟨_, rfl, _, rfl, _, rfl, b, _, rfl, SqL.of hb5, fun c1 hc1 => ?_⟩
        rw [cut_to]
        have s1 := same_new hc1 (.lst (rb.take i))
        have f1 : (upd H5 c1 (.lst (rb.take i))) c1 = some (.lst (rb.take i)) := upd_same
        generalize upd H5 c1 (.lst (rb.take i)) = G1 at s1 f1
        refine ⟨_, rfl, (by show 0 ≤ sizeLine; decide), fun e1 he1 => ⟨(by show 2 ≤ sizeLine; decide), fun t1 ht1 => ⟨(by show 1 ≤ sizeLine; decide), fun c2 hc2 => ?_⟩⟩⟩
        have s2 := same_new he1 (.lst [])
        have s3 := same_new ht1 (.tup [.str hd0, .ref e1])
        have s4 := same_new hc2 (.lst [.ref t1])
        have f2 : (upd (upd (upd G1 e1 (.lst [])) t1 (.tup [.str hd0, .ref e1])) c2 (.lst [.ref t1])) e1 = some (.lst []) := s4 _ _ (s3 _ _ upd_same)
        have f3 : (upd (upd (upd G1 e1 (.lst [])) t1 (.tup [.str hd0, .ref e1])) c2 (.lst [.ref t1])) t1 = some (.tup [.str hd0, .ref e1]) := s4 _ _ upd_same
        have f4 : (upd (upd (upd G1 e1 (.lst [])) t1 (.tup [.str hd0, .ref e1])) c2 (.lst [.ref t1])) c2 = some (.lst [.ref t1]) := upd_same
        have sA := s2.trans (s3.trans s4)
        replace f1 := sA _ _ f1
        replace sA := s1.trans sA
        generalize (upd (upd (upd G1 e1 (.lst [])) t1 (.tup [.str hd0, .ref e1])) c2 (.lst [.ref t1])) = G2 at f1 f2 f3 f4 sA
        refine ⟨c1, c2, _, _, rfl, rfl, f1, f4, by rw [List.length_take, sizeLine_eq]; show _ + 1 ≤ _; omega, fun c3 hc3 => ?_⟩
        have s5 := same_new hc3 (.lst (rb.take i ++ [.ref t1]))
        have f5 : (upd G2 c3 (.lst (rb.take i ++ [.ref t1]))) c3 = some (.lst (rb.take i ++ [.ref t1])) := upd_same
        replace f2 := s5 _ _ f2
        replace f3 := s5 _ _ f3
        replace sA := sA.trans s5
        generalize upd G2 c3 (.lst (rb.take i ++ [.ref t1])) = G3 at f5 f2 f3 sA
        refine ⟨_, rfl, _, rfl, _, _, rfl, rfl, _, rfl, b, _, rfl, SqL.of (sA _ _ hb5), fun c4 hc4 => ?_⟩
        rw [ecut]
        have s6 := same_new hc4 (.lst (rb.drop (i + 1)))
        refine ⟨c3, c4, _, _, rfl, rfl, s6 _ _ f5, upd_same, by rw [List.length_append, List.length_take, List.length_drop, sizeLine_eq]; show _ + 1 + _ ≤ _; omega, fun c5 hc5 => ?_⟩
        have s7 := same_new hc5 (.lst (rb.take i ++ [.ref t1] ++ rb.drop (i + 1)))
        replace sA := sA.trans (s6.trans s7)
        have pbz : Paired (RlV anyB _) rb W.rs := paired_imp (fun _ _ r => r.same sA) pb5
        refine q c5 (W.rs.take i ++ [(hd0, [])] ++ W.rs.drop (i + 1)) _ ⟨_, upd_same, ?_⟩ (hRB.put hri ⟨hhd0, Nat.zero_le _, fun a ha => by cases ha⟩ (Nat.zero_le _)) ((jr5.keep sA).mono (by omega)) (k5.trans (.of_same sA))
        exact paired_app (paired_snoc (paired_take _ pbz) ⟨t1, e1, [], rfl, (s6.trans s7) _ _ f3, (s6.trans s7) _ _ f2, trivial, .nil⟩) (paired_drop _ pbz)
      case inr.inr.inr.inl =>
        refine ⟨_, rfl, rfl, _, rfl, ifF (e_f 1 (by omega)) ?_⟩
        refine ⟨_, rfl, rfl, _, rfl, ifF (e_f 2 (by omega)) ?_⟩
        rcases h with h | h
        · refine ⟨_, rfl, rfl, _, rfl, ifT (e_t 3 h) (ifT rfl ?_)⟩
          refine ⟨_, rfl, _, rfl, _, W, rfl, WV5, hW0.kl, hW0.rl, by have := hW0.al; omega, fun pn G1 hpn epn s1 => ?_⟩
          refine ⟨j, pn, C + 4, namesOf W, rfl, jr5.keep s1, by omega, epn, nmsl, hW0.nms, fun x G2 hx jr6 kp6 => ?_⟩
          refine ⟨_, rfl, rfl, _, rfl, ifF (e_f 5 (by omega)) ?_⟩
          refine ⟨_, rfl, _, _, rfl, rfl, _, rfl, ifF (show decide (r > (5 : Int)) = false from decide_eq_false (by omega)) ?_⟩
          have kc : Keep j H5 G2 := (Keep.of_same s1).trans kp6
          exact hR3 hd0 x (.ref rwa) none G2 ⟨rwa, row0, rfl, Tk.of_keep jr5 kc _ _ hrw5, ⟨hx, hAB.succ.few, hrown⟩, hhd0, jr6.mono (by omega), kc⟩
        · refine ⟨_, rfl, rfl, _, rfl, ifF (e_f 3 (by omega)) ⟨_, rfl, rfl, _, rfl, ifT (e_t 4 h) ?_⟩⟩
          refine ⟨_, rfl, _, rfl, _, W, rfl, WV5, hW0.kl, hW0.rl, by have := hW0.al; omega, fun pn G1 hpn epn s1 => ?_⟩
          refine ⟨j, pn, C + 4, namesOf W, rfl, jr5.keep s1, by omega, epn, nmsl, hW0.nms, fun x G2 hx jr6 kp6 => ?_⟩
          refine ⟨_, rfl, rfl, _, rfl, ifF (e_f 5 (by omega)) ?_⟩
          refine ⟨_, rfl, _, _, rfl, rfl, _, rfl, ifF (show decide (r > (5 : Int)) = false from decide_eq_false (by omega)) ?_⟩
          have kc : Keep j H5 G2 := (Keep.of_same s1).trans kp6
          exact hR3 hd0 x (.ref rwa) none G2 ⟨rwa, row0, rfl, Tk.of_keep jr5 kc _ _ hrw5, ⟨hx, hAB.succ.few, hrown⟩, hhd0, jr6.mono (by omega), kc⟩
      case inr.inr.inr.inr =>
        refine ⟨_, rfl, rfl, _, rfl, ifF (e_f 1 (by omega)) ?_⟩
        refine ⟨_, rfl, rfl, _, rfl, ifF (e_f 2 (by omega)) ?_⟩
        refine ⟨_, rfl, rfl, _, rfl, ifF (e_f 3 (by omega)) ⟨_, rfl, rfl, _, rfl, ifF (e_f 4 (by omega)) ?_⟩⟩
        refine ⟨_, rfl, rfl, _, rfl, ifT (e_t 5 h) ?_⟩
        have lr : (row0.map V.str).length ≤ 8 := by rw [List.length_map]; omega
        refine ⟨_, rfl, rwa, 7, _, rfl, rfl, hrw5, by decide, by decide, by omega, fun p1 G1 u1 d1 _ => ?_⟩
        refine ⟨_, rfl, (by show 1 ≤ sizeLine; decide), fun t1 ht1 => ?_⟩
        have u2 := same_new ht1 (.tup [.str hd0])
        have d2 : (upd G1 t1 (.tup [.str hd0])) t1 = some (.tup [.str hd0]) := upd_same
        replace d1 := u2 _ _ d1
        have uA := u1.trans u2
        generalize upd G1 t1 (.tup [.str hd0]) = G2 at d1 d2 uA
        refine ⟨t1, 7, _, rfl, rfl, d2, by decide, by decide, by show 1 ≤ 1000; decide, fun p2 G3 u3 d3 _ => ?_⟩
        replace d1 := u3 _ _ d1
        replace uA := uA.trans u3
        have l7 : (List.replicate (7 : Int).toNat (row0.map V.str)).flatten.length ≤ 56 := by
          rw [len_rep]
          show 7 * _ ≤ 56
          omega
        have l8 : (List.replicate (7 : Int).toNat [V.str hd0]).flatten.length = 7 := by rw [len_rep]; rfl
        refine ⟨p1, p2, _, _, rfl, rfl, d1, d3, by rw [l8, sizeLine_eq]; omega, fun p3 G4 u4 d4 _ => ?_⟩
        replace uA := uA.trans u4
        have jrA := jr5.keep uA
        refine ⟨_, rfl, j, C + 4, 2, rfl, jrA, by omega, by decide, by decide, fun r5 G5 r50 r51 jr6 kp6 => ?_⟩
        obtain ⟨r5, rfl⟩ : ∃ i : Nat, r5 = (i : Int) := ⟨r5.toNat, by omega⟩
        have d5 := Tk.of_keep jrA kp6 _ _ d4
        have emap : (List.replicate (7 : Int).toNat (row0.map V.str)).flatten ++ (List.replicate (7 : Int).toNat [V.str hd0]).flatten = ((List.replicate 7 row0).flatten ++ (List.replicate 7 [hd0]).flatten).map V.str := by
          rw [List.map_append, map_rep, map_rep]; rfl
        rw [emap] at d5
        refine ⟨_, _, rfl, rfl, _, rfl, p3, _, rfl, d5, fun p4 G6 u6 d6 _ => ?_⟩
        rw [show (6 : Int) + (r5 : Int) = ((6 + r5 : Nat) : Int) by omega, cut_to, take_strs] at d6
        refine ⟨_, rfl, _, _, rfl, rfl, _, rfl, ifF (show decide (r > (5 : Int)) = false from decide_eq_false (by omega)) ?_⟩
        have kc : Keep j H5 G6 := (Keep.of_same uA).trans (kp6.trans (.of_same u6))
        refine hR3 hd0 lb0 (.ref p4) none G6 ⟨p4, _, rfl, d6, ⟨hlb0, ?_, fun z hz => ?_⟩, hhd0, (jr6.keep u6).mono (by omega), kc⟩
        · show (List.take _ _).length ≤ 7 + (n + 1)
          rw [List.length_take]; omega
        · rcases List.mem_append.mp (List.mem_of_mem_take hz) with m | m
          · exact hrown z (mem_rep m)
          · rw [List.mem_singleton.mp (mem_rep m)]; exact hhd0
    rintro hd lb u o H6 ⟨rw', row', rfl, hrw6, hAB6, hhd6, jr6, kp6⟩
    have hb6 := kp6 _ _ bj hb5
    have hab6 := kp6 _ _ abj hab5
    have pb6 : Paired (RlV anyB H6) rb W.rs := paired_imp (fun _ _ r => r.keep jr5 kp6) pb5
    have pxs6 : Paired (AltV H6) xs as0 := paired_imp (fun _ _ r => r.tk (Tk.of_keep jr5 kp6)) pxs5
    have ecut2 : cutV xs (some ((sp : Int) + 1)) none = xs.drop (sp + 1) := by
      rw [show (sp : Int) + 1 = ((sp + 1 : Nat) : Int) by omega, cut_from]
    refine ⟨_, rfl, _, rfl, _, rfl, b, _, rfl, SqL.of hb6, fun c1 hc1 => ?_⟩
    rw [cut_to]
    have sc1 := same_new hc1 (.lst (rb.take i))
    have ec1 : (upd H6 c1 (.lst (rb.take i))) c1 = some (.lst (rb.take i)) := upd_same
    have sA := sc1
    generalize upd H6 c1 (.lst (rb.take i)) = Gc1 at ec1 sA 
    refine ⟨_, rfl, _, rfl, _, rfl, _, rfl, ab, _, rfl, SqL.of (sA _ _ hab6), fun d1 hd1 => ?_⟩
    rw [cut_to]
    have sd1 := same_new hd1 (.lst (xs.take sp))
    have ed1 : (upd Gc1 d1 (.lst (xs.take sp))) d1 = some (.lst (xs.take sp)) := upd_same
    replace ec1 := sd1 _ _ ec1
    replace sA := sA.trans sd1
    generalize upd Gc1 d1 (.lst (xs.take sp)) = Gd1 at ed1 sA ec1
    refine ⟨_, rfl, _, rfl, (by show 2 ≤ sizeLine; decide), fun t1 ht1 => ?_⟩
    have st1 := same_new ht1 (.tup [.str lb, .ref rw'])
    have et1 : (upd Gd1 t1 (.tup [.str lb, .ref rw'])) t1 = some (.tup [.str lb, .ref rw']) := upd_same
    replace ec1 := st1 _ _ ec1
    replace ed1 := st1 _ _ ed1
    replace sA := sA.trans st1
    generalize upd Gd1 t1 (.tup [.str lb, .ref rw']) = Gt1 at et1 sA ec1 ed1
    refine ⟨(by show 1 ≤ sizeLine; decide), fun d2 hd2 => ?_⟩
    have sd2 := same_new hd2 (.lst [.ref t1])
    have ed2 : (upd Gt1 d2 (.lst [.ref t1])) d2 = some (.lst [.ref t1]) := upd_same
    replace ec1 := sd2 _ _ ec1
    replace ed1 := sd2 _ _ ed1
    replace et1 := sd2 _ _ et1
    replace sA := sA.trans sd2
    generalize upd Gt1 d2 (.lst [.ref t1]) = Gd2 at ed2 sA ec1 ed1 et1
    refine ⟨d1, d2, _, _, rfl, rfl, ed1, ed2, by rw [List.length_take, sizeLine_eq]; show _ + 1 ≤ _; omega, fun d3 hd3 => ?_⟩
    have sd3 := same_new hd3 (.lst (xs.take sp ++ [.ref t1]))
    have ed3 : (upd Gd2 d3 (.lst (xs.take sp ++ [.ref t1]))) d3 = some (.lst (xs.take sp ++ [.ref t1])) := upd_same
    replace ec1 := sd3 _ _ ec1
    replace ed1 := sd3 _ _ ed1
    replace et1 := sd3 _ _ et1
    replace ed2 := sd3 _ _ ed2
    replace sA := sA.trans sd3
    generalize upd Gd2 d3 (.lst (xs.take sp ++ [.ref t1])) = Gd3 at ed3 sA ec1 ed1 et1 ed2
    refine ⟨_, rfl, _, rfl, _, _, rfl, rfl, _, rfl, ab, _, rfl, SqL.of (sA _ _ hab6), fun d4 hd4 => ?_⟩
    rw [ecut2]
    have sd4 := same_new hd4 (.lst (xs.drop (sp + 1)))
    have ed4 : (upd Gd3 d4 (.lst (xs.drop (sp + 1)))) d4 = some (.lst (xs.drop (sp + 1))) := upd_same
    replace ec1 := sd4 _ _ ec1
    replace ed1 := sd4 _ _ ed1
    replace et1 := sd4 _ _ et1
    replace ed2 := sd4 _ _ ed2
    replace ed3 := sd4 _ _ ed3
    replace sA := sA.trans sd4
    generalize upd Gd3 d4 (.lst (xs.drop (sp + 1))) = Gd4 at ed4 sA ec1 ed1 et1 ed2 ed3
    refine ⟨d3, d4, _, _, rfl, rfl, ed3, ed4, by rw [List.length_append, List.length_take, List.length_drop, sizeLine_eq]; show _ + 1 + _ ≤ _; omega, fun d5 hd5 => ?_⟩
    have sd5 := same_new hd5 (.lst (xs.take sp ++ [.ref t1] ++ xs.drop (sp + 1)))
    have ed5 : (upd Gd4 d5 (.lst (xs.take sp ++ [.ref t1] ++ xs.drop (sp + 1)))) d5 = some (.lst (xs.take sp ++ [.ref t1] ++ xs.drop (sp + 1))) := upd_same
    replace ec1 := sd5 _ _ ec1
    replace ed1 := sd5 _ _ ed1
    replace et1 := sd5 _ _ et1
    replace ed2 := sd5 _ _ ed2
    replace ed3 := sd5 _ _ ed3
    replace ed4 := sd5 _ _ ed4
    replace sA := sA.trans sd5
    generalize upd Gd4 d5 (.lst (xs.take sp ++ [.ref t1] ++ xs.drop (sp + 1))) = Gd5 at ed5 sA ec1 ed1 et1 ed2 ed3 ed4
    refine ⟨(by show 2 ≤ sizeLine; decide), fun t2 ht2 => ?_⟩
    have st2 := same_new ht2 (.tup [.str hd, .ref d5])
    have et2 : (upd Gd5 t2 (.tup [.str hd, .ref d5])) t2 = some (.tup [.str hd, .ref d5]) := upd_same
    replace ec1 := st2 _ _ ec1
    replace ed1 := st2 _ _ ed1
    replace et1 := st2 _ _ et1
    replace ed2 := st2 _ _ ed2
    replace ed3 := st2 _ _ ed3
    replace ed4 := st2 _ _ ed4
    replace ed5 := st2 _ _ ed5
    replace sA := sA.trans st2
    generalize upd Gd5 t2 (.tup [.str hd, .ref d5]) = Gt2 at et2 sA ec1 ed1 et1 ed2 ed3 ed4 ed5
    refine ⟨(by show 1 ≤ sizeLine; decide), fun c2 hc2 => ?_⟩
    have sc2 := same_new hc2 (.lst [.ref t2])
    have ec2 : (upd Gt2 c2 (.lst [.ref t2])) c2 = some (.lst [.ref t2]) := upd_same
    replace ec1 := sc2 _ _ ec1
    replace ed1 := sc2 _ _ ed1
    replace et1 := sc2 _ _ et1
    replace ed2 := sc2 _ _ ed2
    replace ed3 := sc2 _ _ ed3
    replace ed4 := sc2 _ _ ed4
    replace ed5 := sc2 _ _ ed5
    replace et2 := sc2 _ _ et2
    replace sA := sA.trans sc2
    generalize upd Gt2 c2 (.lst [.ref t2]) = Gc2 at ec2 sA ec1 ed1 et1 ed2 ed3 ed4 ed5 et2
    refine ⟨c1, c2, _, _, rfl, rfl, ec1, ec2, by rw [List.length_take, sizeLine_eq]; show _ + 1 ≤ _; omega, fun c3 hc3 => ?_⟩
    have sc3 := same_new hc3 (.lst (rb.take i ++ [.ref t2]))
    have ec3 : (upd Gc2 c3 (.lst (rb.take i ++ [.ref t2]))) c3 = some (.lst (rb.take i ++ [.ref t2])) := upd_same
    replace ec1 := sc3 _ _ ec1
    replace ed1 := sc3 _ _ ed1
    replace et1 := sc3 _ _ et1
    replace ed2 := sc3 _ _ ed2
    replace ed3 := sc3 _ _ ed3
    replace ed4 := sc3 _ _ ed4
    replace ed5 := sc3 _ _ ed5
    replace et2 := sc3 _ _ et2
    replace ec2 := sc3 _ _ ec2
    replace sA := sA.trans sc3
    generalize upd Gc2 c3 (.lst (rb.take i ++ [.ref t2])) = Gc3 at ec3 sA ec1 ed1 et1 ed2 ed3 ed4 ed5 et2 ec2
    refine ⟨_, rfl, _, rfl, _, _, rfl, rfl, _, rfl, b, _, rfl, SqL.of (sA _ _ hb6), fun c4 hc4 => ?_⟩
    rw [ecut]
    have sc4 := same_new hc4 (.lst (rb.drop (i + 1)))
    have ec4 : (upd Gc3 c4 (.lst (rb.drop (i + 1)))) c4 = some (.lst (rb.drop (i + 1))) := upd_same
    replace ec1 := sc4 _ _ ec1
    replace ed1 := sc4 _ _ ed1
    replace et1 := sc4 _ _ et1
    replace ed2 := sc4 _ _ ed2
    replace ed3 := sc4 _ _ ed3
    replace ed4 := sc4 _ _ ed4
    replace ed5 := sc4 _ _ ed5
    replace et2 := sc4 _ _ et2
    replace ec2 := sc4 _ _ ec2
    replace ec3 := sc4 _ _ ec3
    replace sA := sA.trans sc4
    generalize upd Gc3 c4 (.lst (rb.drop (i + 1))) = Gc4 at ec4 sA ec1 ed1 et1 ed2 ed3 ed4 ed5 et2 ec2 ec3
    refine ⟨c3, c4, _, _, rfl, rfl, ec3, ec4, by rw [List.length_append, List.length_take, List.length_drop, sizeLine_eq]; show _ + 1 + _ ≤ _; omega, fun c5 hc5 => ?_⟩
    have sc5 := same_new hc5 (.lst (rb.take i ++ [.ref t2] ++ rb.drop (i + 1)))
    have ec5 : (upd Gc4 c5 (.lst (rb.take i ++ [.ref t2] ++ rb.drop (i + 1)))) c5 = some (.lst (rb.take i ++ [.ref t2] ++ rb.drop (i + 1))) := upd_same
    replace ec1 := sc5 _ _ ec1
    replace ed1 := sc5 _ _ ed1
    replace et1 := sc5 _ _ et1
    replace ed2 := sc5 _ _ ed2
    replace ed3 := sc5 _ _ ed3
    replace ed4 := sc5 _ _ ed4
    replace ed5 := sc5 _ _ ed5
    replace et2 := sc5 _ _ et2
    replace ec2 := sc5 _ _ ec2
    replace ec3 := sc5 _ _ ec3
    replace ec4 := sc5 _ _ ec4
    replace sA := sA.trans sc5
    generalize upd Gc4 c5 (.lst (rb.take i ++ [.ref t2] ++ rb.drop (i + 1))) = Gc5 at ec5 sA ec1 ed1 et1 ed2 ed3 ed4 ed5 et2 ec2 ec3 ec4
    obtain ⟨a1, a2, a3⟩ := alts_put (n := n) (a' := (lb, row')) (by omega) hsp has3 hasb hAB6
    have pbz : Paired (RlV anyB Gc5) rb W.rs := paired_imp (fun _ _ r => r.same sA) pb6
    have pxz : Paired (AltV Gc5) xs as0 := paired_imp (fun _ _ r => r.tk (Tk.of_same sA)) pxs6
    have hrwz := sA _ _ hrw6
    refine q c5 (W.rs.take i ++ [(hd, as0.take sp ++ [(lb, row')] ++ as0.drop (sp + 1))] ++ W.rs.drop (i + 1)) _ ⟨_, ec5, ?_⟩ (hRB.put hri ⟨hhd6, a1, a2⟩ a3) ((jr6.keep sA).mono (by omega)) (k5.trans (kp6.trans (.of_same sA)))
    exact paired_app (paired_snoc (paired_take _ pbz) ⟨t2, d5, _, rfl, et2, ed5, trivial, paired_app (paired_snoc (paired_take _ pxz) ⟨t1, rw', rfl, et1, hrwz⟩) (paired_drop _ pxz)⟩) (paired_drop _ pbz)
  intro Hb sb
  have hbb := sb _ _ hb2
  have hjb := hj2.keep sb
  have kb : Keep j H Hb := k2.trans (.of_same sb)
  refine ⟨(by show 4 ≤ sizeLine; decide), fun l hl => ?_⟩
  have s1 := same_new hl (.lst [.int 0, .int 2, .int 41, .int 9])
  have el : (upd Hb l (.lst [.int 0, .int 2, .int 41, .int 9])) l = some (.lst [.int 0, .int 2, .int 41, .int 9]) := upd_same
  have lj := hjb.ne hl
  refine ⟨_, rfl, j, C + 2, 4, rfl, hjb.keep s1, by omega, by decide, by decide, fun r4 H3 r40 r41 hj3 kp3 => ?_⟩
  have el3 := kp3 _ _ lj el
  obtain ⟨mny, hat, hmny⟩ : ∃ mny : Nat, atI [V.int 0, .int 2, .int 41, .int 9] r4 = some (.int (mny : Int)) ∧ (mny = 0 ∨ mny = 2 ∨ mny = 41 ∨ mny = 9) := by
    have : r4 = 0 ∨ r4 = 1 ∨ r4 = 2 ∨ r4 = 3 := by omega
    rcases this with rfl | rfl | rfl | rfl
    · exact ⟨0, rfl, by simp⟩
    · exact ⟨2, rfl, by simp⟩
    · exact ⟨41, rfl, by simp⟩
    · exact ⟨9, rfl, by simp⟩
  refine ⟨l, _, _, _, rfl, rfl, SqL.of el3, hat, ?_⟩
  have k3 : Keep j H H3 := kb.trans ((Keep.of_same s1).trans kp3)
  have k23 : Keep j H2 H3 := (Keep.of_same sb).trans ((Keep.of_same s1).trans kp3)
  have hb3 := k23 _ _ bj hb2
  have pb3 : Paired (RlV anyB H3) rb W.rs := paired_imp (fun _ _ r => r.keep hj2 k23) pb2
  clear kp3 el3 lj s1 el hjb hbb
  refine' auxH (C0 := fun Hb => Same H3 Hb) (fun hR1 => ?m3) ?body2
  case m3 =>
    by_cases h9 : mny = 9
    case neg =>
      refine ⟨_, rfl, rfl, _, rfl, ifT (show (!decide (V.int (mny : Int) = V.int 9)) = true by rw [decide_eq_false (fun e => h9 (by have := V.int.inj e; omega))]; rfl) (ifT rfl ?_)⟩
      have hh : Same H3 H3 := same_refl
      generalize hH : H3 = H4
      exact hR1 H4 (by rw [← hH]; exact hh)
    refine ⟨_, rfl, rfl, _, rfl, ifF (show (!decide (V.int (mny : Int) = V.int 9)) = false by rw [decide_eq_true (by rw [h9]; rfl)]; rfl) ?_⟩
    refine ⟨_, rfl, (by show 0 ≤ sizeLine; decide), fun p1 hp1 => ?_⟩
    have s1 := same_new hp1 (.lst [])
    refine ⟨b, p1, rb, rfl, rfl, s1 _ _ hb3, upd_same, _, rfl, ?_⟩
    by_cases hk : rb = []
    · have hv : (if false = true then !rb.isEmpty else rb.isEmpty) = true := by rw [hk]; rfl
      exact ifT hv (hR1 _ s1)
    have hv : (if false = true then !rb.isEmpty else rb.isEmpty) = false := by
      cases rb with
      | nil => exact absurd rfl hk
      | cons _ _ => rfl
    refine ifF hv ?_
    have hb4 := s1 _ _ hb3
    have pb4 : Paired (RlV anyB (upd H3 p1 (.lst []))) rb W.rs := paired_imp (fun _ _ r => r.same s1) pb3
    have hj4 := hj3.keep s1
    have k4 := k3.trans (.of_same s1)
    generalize upd H3 p1 (.lst []) = H4 at hb4 pb4 hj4 k4
    refine ⟨_, rfl, _, rfl, _, rfl, by omega, by omega, fun D hD => ?_⟩
    rw [h9]
    have e00 : ∃ (v0 : V) (r0 : Str × List (Str × List Str)), rb[0]? = some v0 ∧ W.rs[0]? = some r0 ∧ RlV anyB H4 v0 r0 := by
      cases rb with
      | nil => exact absurd rfl hk
      | cons v0 rt =>
        obtain ⟨r0, h1, h2⟩ := paired_get pb4 0 v0 rfl
        exact ⟨v0, r0, rfl, h1, h2⟩
    obtain ⟨v0, ⟨n0, as0⟩, hv0, hr0, hrl⟩ := e00
    obtain ⟨ra, ab, xs, rfl, h1, h2, _, h4⟩ := hrl
    have h1 : H4 ra = some (.tup [.str n0, .ref ab]) := h1
    have r0m := List.mem_of_getElem? hr0
    have hnm0 : Nm n0 := (hRB.all _ r0m).nm
    have hat0 : atI rb 0 = some (.ref ra) := atI_nat (j := 0) hv0
    have hq : ("q" : Str).length = 1 ∧ ∀ c, c ∈ ("q" : Str).cps.toList → c < 128 := by decide +kernel
    obtain ⟨gk, hgk⟩ : ∃ g : Nat → Str, g = fun k => ("q" : Str) ++ repS (cutS n0 none (some 1)) k := ⟨_, rfl⟩
    have hcl : (cutS n0 none (some 1)).length ≤ 1 := by
      unfold cutS
      show (List.take _ _).toArray.size ≤ 1
      rw [List.size_toArray, List.length_take, show ((1 : Int)) = ((1 : Nat) : Int) from rfl, HT.sIx_nat]
      show min (min 1 n0.length - HT.sIx n0.length 0 none) _ ≤ 1
      omega
    have hgnm : ∀ k, k < 9 → Nm (gk k) := fun k hk9 => by
      rw [hgk]
      refine ⟨?_, fun c hc => ?_⟩
      · show (("q" : Str) ++ repS (cutS n0 none (some 1)) k).length ≤ 9
        rw [strLen_append, hq.1]
        have h5 := repS_len (cutS n0 none (some 1)) k
        have h6 : k * (cutS n0 none (some 1)).length ≤ k * 1 := Nat.mul_le_mul_left _ hcl
        omega
      · have hc : c ∈ (("q" : Str) ++ repS (cutS n0 none (some 1)) k).cps.toList := hc
        rw [Str.cps_append, Array.toList_append] at hc
        rcases List.mem_append.mp hc with h | h
        · exact hq.2 c h
        · have h7 := repS_mem h
          have h8 : c ∈ n0.cps.toList := by
            unfold cutS at h7
            exact List.mem_of_mem_drop (List.mem_of_mem_take h7)
          exact hnm0.2 c h8
    refine lc_range (lo := 0) (n := ((9 : Nat) : Int).toNat) (LcR H4 D (fun H v (k : Nat) => ∃ t, v = .ref t ∧ H t = some (.tup [.str (gk k), .ref ab])) (List.range 9)) (.start hD) (fun i H' hi h => ?turnc) (fun H5 h => ?donec)
    case turnc =>
      obtain ⟨acc, f1, f2, f3, f4⟩ := h
      have hi9 : i < 9 := hi
      refine ⟨rfl, ?_⟩
      simp only [tYes, ↓reduceIte]
      have hbq := f4 _ _ hb4
      have h1q := f4 _ _ h1
      refine ⟨_, rfl, b, _, _, _, rfl, rfl, SqL.of hbq, hat0, ra, _, _, _, rfl, rfl, SqT.of h1q, at_zero, _, rfl, n0, rfl, (by have := hnm0.1; rw [sizeLine_eq]; omega), _, rfl, _, i, rfl, by rw [Int.zero_add], by omega, by omega, _, _, rfl, rfl, ?_, ?_⟩
      · have := (hgnm i hi9).1
        rw [hgk] at this
        have this : (("q" : Str) ++ repS (cutS n0 none (some 1)) i).length ≤ 9 := this
        rw [strLen_append] at this
        rw [sizeLine_eq]; omega
      refine ⟨_, rfl, b, _, _, _, rfl, rfl, SqL.of hbq, hat0, ra, _, _, _, rfl, rfl, SqT.of h1q, at_one, (by show 2 ≤ sizeLine; decide), fun t2 ht2 => ?_⟩
      have eg : ("q" : Str) ++ repS (cutS n0 none (some 1)) i = gk i := by rw [hgk]
      rw [eg]
      have u := same_new ht2 (.tup [.str (gk i), .ref ab])
      refine ⟨acc, u _ _ f1, by rw [sizeLine_eq, f2]; omega, ?_⟩
      exact LcR.step (fun tk ⟨t, e, h⟩ => ⟨t, e, tk _ _ h⟩) f1 f2 f3 f4 u hD (List.getElem?_range hi9) ⟨t2, rfl, upd_same⟩
    obtain ⟨acc, f1, f3, f4⟩ := h.done (by rw [List.length_range]; rfl)
    have lacc : acc.length = 9 := by rw [Paired.length f3, List.length_range]
    have hb5 := f4 _ _ hb4
    refine ⟨b, D, _, _, rfl, rfl, hb5, f1, by rw [sizeLine_eq, lacc]; omega, fun p hp => ?_⟩
    have s6 := same_new hp (.lst (rb ++ acc))
    have s46 := f4.trans s6
    refine q p (W.rs ++ (List.range 9).map fun k => (gk k, as0)) _ ⟨_, upd_same, ?_⟩ (hRB.more r0m gk hgnm) (((hj4.keep s46)).mono (by omega)) (k4.trans (.of_same s46))
    refine paired_app (paired_imp (fun _ _ r => r.same s46) pb4) ?_
    have : ∀ {u : List V} {v : List Nat}, Paired (fun v (k : Nat) => ∃ t, v = V.ref t ∧ H5 t = some (.tup [.str (gk k), .ref ab])) u v → Paired (RlV anyB (upd H5 p (.lst (rb ++ acc)))) u (v.map fun k => (gk k, as0)) := fun {u v} pp => by
      induction pp with
      | nil => exact .nil
      | cons h _ ih =>
        obtain ⟨t, e, h⟩ := h
        exact .cons ⟨t, ab, xs, e, s6 _ _ h, s46 _ _ h2, trivial, paired_imp (fun _ _ r => r.tk (Tk.of_same s46)) h4⟩ ih
    exact this f3
  intro H4 s4
  have hb4 := s4 _ _ hb3
  have pb4 : Paired (RlV anyB H4) rb W.rs := paired_imp (fun _ _ r => r.same s4) pb3
  refine ⟨_, rfl, _, rfl, b, _, _, rfl, rfl, hb4, by omega, by omega, ?_, fun p hp => ?_⟩
  · rw [Int.toNat_natCast, sizeLine_eq]
    have : rb.length * mny ≤ 164 * 41 := Nat.mul_le_mul (by omega) (by omega)
    omega
  rw [Int.toNat_natCast]
  have s6 := same_new hp (.lst (List.replicate mny rb).flatten)
  exact q p (List.replicate mny W.rs).flatten _ ⟨_, upd_same, paired_rep (paired_imp (fun _ _ r => r.same s6) pb4) mny⟩ (hRB.rep (by omega)) (((hj3.keep s4).keep s6).mono (by omega)) (k3.trans (.of_same (s4.trans s6)))
end
end Pa
set_option maxHeartbeats 4000000
namespace Pa
open PySem PySem.Spec PyProof.Rows L2 Ty Se
/-! ### bars put otherwise, a world put otherwise -/
def bN : Nat → Nat
  | 0 => 4
  | n + 1 => 9 * bN n + 1
def BB1 (b : Str × Int × Str) : Prop := Nm b.1 ∧ Nm b.2.2 ∧ b.2.1.natAbs ≤ 9
structure BBd (n : Nat) (bs : Brs) : Prop where
  len : bs.length ≤ bN n
  all : ∀ b, b ∈ bs → BB1 b
structure WBn (n : Nat) (W : Wor) : Prop where
  k : KBd n W.ks
  r : RBd n W.rs
  b : BBd n W.bs
  s : Nm W.st
theorem alts_le {n : Nat} : ∀ {rs : Rls}, (∀ r, r ∈ rs → RBd1 n r) → (altsOf rs).length ≤ 3 * rs.length
  | [], _ => Nat.le_refl _
  | r :: rs, h => by
    have h1 := (h r List.mem_cons_self).few
    have h2 := alts_le fun x hx => h x (List.mem_cons_of_mem _ hx)
    show (r.2 ++ altsOf rs).length ≤ _
    rw [List.length_append, List.length_cons]; omega
theorem WBn.w0 {n : Nat} {W : Wor} (h : WBn n W) (hn : n ≤ 2) : WB0 W := by
  have h1 := h.k.len
  have h2 := h.r.len
  have h3 := alts_le h.r.all
  have hk : kN n ≤ 256 ∧ rN n ≤ 6724 := by
    have : n = 0 ∨ n = 1 ∨ n = 2 := by omega
    rcases this with rfl | rfl | rfl <;> decide
  refine ⟨by omega, by omega, by omega, by omega, fun x hx => ?_⟩
  unfold namesOf at hx
  rcases List.mem_append.mp hx with hx | hx
  · rcases List.mem_append.mp hx with hx | hx
    · obtain ⟨k, hk, rfl⟩ := List.mem_map.mp hx
      exact (h.k.all k hk).nm
    · obtain ⟨r, hr, rfl⟩ := List.mem_map.mp hx
      exact (h.r.all r hr).nm
  · obtain ⟨a, ha, rfl⟩ := List.mem_map.mp hx
    obtain ⟨r, hr, ha⟩ := List.mem_flatMap.mp ha
    obtain ⟨a', ha', rfl⟩ := List.mem_map.mp ha
    exact ((h.r.all r hr).alts a' ha').nm
theorem KBd.succ {n : Nat} {ks : Kds} (h : KBd n ks) : KBd (n + 1) ks := by
  have h1 := h.len
  have h2 := h.wt
  exact ⟨by show _ ≤ 8 * kN n; omega, fun k hk => (h.all k hk).succ, by show _ ≤ 9 * kW n + 400; omega⟩
theorem RBd.succ {n : Nat} {rs : Rls} (h : RBd n rs) : RBd (n + 1) rs := by
  have h1 := h.len
  have h2 := h.wt
  exact ⟨by show _ ≤ 41 * rN n; omega, fun r hr => (h.all r hr).succ, by show _ ≤ 41 * rW n + 2000; omega⟩
theorem BBd.succ {n : Nat} {bs : Brs} (h : BBd n bs) : BBd (n + 1) bs := by
  have h1 := h.len
  exact ⟨by show _ ≤ 9 * bN n + 1; omega, h.all⟩
def spBBent : Sp := fun vs H Q _ => ∃ (j : Addr) (v : V) (C n : Nat) (W : Wor), vs = [.ref j, v] ∧ Jar j H C ∧ C ≤ 999990000 ∧ WV H v W ∧ WB0 W ∧ BBd n W.bs ∧ n ≤ 1 ∧
  ∀ (p : Addr) (bs : Brs) (H' : Hp), BL H' p bs → BBd (n + 1) bs → Jar j H' (C + 10) → Keep j H H' → Q (.ref p) H'
abbrev nBB : List Str := ["purse", "world", "barred", "labels", "way", "one", "other", "at", "head", "label", "row"]
theorem scBBent : FnScope nBB ["purse", "world"] (defScope lBBent) := ⟨rfl, rfl, rfl, by decide +kernel, rfl, by decide +kernel, by decide +kernel⟩
theorem zzz_nm : Nm "zzz" := by
  have : ("zzz" : Str).length ≤ 9 ∧ ∀ c, c ∈ ("zzz" : Str).cps.toList → c < 128 := by decide +kernel
  exact this
section
variable {P : Program} {w : World} {K : PySem.W.Frag} {mg : Str → Option Value} {base : Heap} {f g g2 g3 g4 g5 : Addr} {fd gd gd2 gd3 gd4 gd5 : FuncData}
theorem ok_bbent (F : Fun K "_law_bars_bent" "_law_bars_bent" lBBent f fd)
    (G : FnOk P w K mg base CX0 1 g gd ["purse", "many"] spDrawn) (bG : Binds K gd ["purse", "many"] []) (kG : PySem.W.keepIn K (.ref g) = true) (mG : mg "_law_drawn" = some (.ref g))
    (GA : FnOk P w K mg base CX0 1 g2 gd2 ["rules"] spAll) (bA : Binds K gd2 ["rules"] []) (kA : PySem.W.keepIn K (.ref g2) = true) (mA : mg "_law_all" = some (.ref g2)) (ml : mg "len" = none) :
    FnOk P w K mg base CX0 2 f fd ["purse", "world"] spBBent := by
  refine F.ok scBBent (fun vs H Q E h => ?_) (fun cdv A outer s0 H vs Q E hr h => ?_)
  · obtain ⟨_, _, _, _, _, rfl, _⟩ := h
    rfl
  have hu := hr.units
  obtain ⟨j, v, C, n, W, rfl, hj, hC, hWV, hW0, hBB, hn, q⟩ := h
  refine ⟨_, pss_cons (ps_set (i := 2) scBBent.nd rfl (.inl rfl) (pe_ix ix_list (pv 1) pe_int (fun _ _ => rfl)))
    (pss_cons (ps_set (i := 3) scBBent.nd rfl (.inl rfl) (pe_op op_cat (pe_lc (own := [("head", 8), ("label", 9), ("row", 10)]) (g := gTup K 3 (gCons (gName 8) (gCons (gName 9) (gCons (gName 10) gNil)))) (tt := tYes) rfl scBBent.nd (pi_list (pe_call GA hr rfl mA kA bA .nil pass0 (pa_cons (pe_ix ix_list (pv 1) pe_int (fun _ _ => rfl)) pa_nil))) (blkOk_by (N := nBB) (sc := defScope lBBent) (by decide +kernel)) (fun _ _ _ _ _ => pg_tup rfl (pgs_cons (pg_name (i := 8) scBBent.nd rfl (Or.inl rfl)) (pgs_cons (pg_name (i := 9) scBBent.nd rfl (Or.inl rfl)) (pgs_cons (pg_name (i := 10) scBBent.nd rfl (Or.inl rfl)) pgs_nil)))) (fun _ _ _ _ _ => pts_nil) (fun _ _ _ _ _ => pv 9)) (pe_lst (pa_cons pe_str pa_nil))))
    (pss_cons (ps_set (i := 4) scBBent.nd rfl (.inl rfl) (pe_call G hr rfl mG kG bG .nil pass0 (pa_cons (pv 0) (pa_cons pe_int pa_nil))))
    (pss_cons (ps_if (PW.pt (pw_and (pt_cmpR op_eq (pv 4) pe_int (nomark _)) (pw_and1 (pt_cmpR (op_neL0 hu) (pv 2) (pe_lst pa_nil) (nomark _)))))
      (pss_one (ps_ret (pe_op op_cat (pv 2) (pe_lst (pa_cons (pe_ix ix_list (pv 2) (pe_call G hr rfl mG kG bG .nil pass0 (pa_cons (pv 0) (pa_cons (pe_callB call_len_seq rfl ml PySem.boot_len (pa_cons (pv 2) pa_nil)) pa_nil))) (fun _ _ => rfl)) pa_nil))))) pss_nil)
    (pss_cons (ps_if (PW.pt (pw_and (pt_cmpR op_eq (pv 4) pe_int (nomark _)) (pw_and1 (pt_cmpR (op_neL0 hu) (pv 2) (pe_lst pa_nil) (nomark _)))))
      (pss_one (ps_ret (pe_op op_rep (pv 2) pe_int))) pss_nil)
    (pss_cons (ps_par (i := 5) (j := 6) (by rfl) scBBent.nd rfl rfl (by decide) rfl rfl (pa_cons (pe_ix ix_list (pv 3) (pe_call G hr rfl mG kG bG .nil pass0 (pa_cons (pv 0) (pa_cons (pe_callB call_len_seq rfl ml PySem.boot_len (pa_cons (pv 3) pa_nil)) pa_nil))) (fun _ _ => rfl)) (pa_cons (pe_ix ix_list (pv 3) (pe_call G hr rfl mG kG bG .nil pass0 (pa_cons (pv 0) (pa_cons (pe_callB call_len_seq rfl ml PySem.boot_len (pa_cons (pv 3) pa_nil)) pa_nil))) (fun _ _ => rfl)) pa_nil)) (by rfl))
    (pss_cons (ps_set (i := 7) scBBent.nd rfl (.inl rfl) (pe_call G hr rfl mG kG bG .nil pass0 (pa_cons (pv 0) (pa_cons (pe_op op_add (pe_callB call_len_seq rfl ml PySem.boot_len (pa_cons (pv 2) pa_nil)) pe_int) pa_nil))))
    (pss_one (ps_ret (pe_op op_cat (pe_op op_cat (pe_slice sl_list (pv 2) po_none (po_some (pv 7))) (pe_lst (pa_cons (pe_tup (pa_cons (pv 5) (pa_cons (pe_op op_sub (pe_call G hr rfl mG kG bG .nil pass0 (pa_cons (pv 0) (pa_cons pe_int pa_nil))) pe_int) (pa_cons (pv 6) pa_nil)))) pa_nil))) (pe_slice sl_list (pv 2) (po_some (pv 7)) po_none)))))))))), ?_⟩
  have hWV0 := hWV
  obtain ⟨ww, a, b, c, ka, rb, cb, rfl, hw, ha, pa, hb, pb, hc, pc⟩ := hWV
  have lcb : cb.length = W.bs.length := Paired.length pc
  have wj : ww ≠ j := jar_ne hj hw (by simp)
  have cj : c ≠ j := jar_ne hj hc (ref_int (fun _ _ r => r.ref) pc)
  have bN1 : bN n ≤ 37 := by
    have : n = 0 ∨ n = 1 := by omega
    rcases this with rfl | rfl <;> decide
  have lk := hBB.len
  have lcb' : cb.length ≤ 37 := by omega
  have at3 : ∀ (x y z u : V), atI [x, y, z, u] 3 = some u := fun _ _ _ _ => rfl
  refine ⟨_, rfl, ww, _, _, _, rfl, rfl, SqL.of hw, at3 _ _ _ _, ?_⟩
  refine ⟨_, rfl, ww, _, _, _, rfl, rfl, SqL.of hw, at_one, b, W.rs, rfl, ⟨rb, hb, pb⟩, by have := hW0.al; omega, fun p1 xs H1 np1 e1 pa1 s1 => ⟨p1, rfl, ⟨_, SqL.of e1⟩, fun D hD => ?_⟩⟩
  have la1 : xs.length = (allOf W.rs).length := Paired.length pa1
  have lal := all_len W.rs
  have h60 := hW0.al
  refine lc_list (K := K) (xs := xs) (LcI H1 D (fun a : Str × Str × List Str => V.str a.2.1) (allOf W.rs)) (.start hD) (fun i H' _ h => SqL.of (h.2 _ _ e1)) (fun i v H' hv h => ?turn1) (fun H2 h => ?done1)
  case turn1 =>
    obtain ⟨⟨nn, lb, row⟩, hy, ⟨ra, rb2, rfl, g1, g2⟩⟩ := paired_get pa1 i v hv
    refine ⟨ra, _, rfl, SqT.of (h.2 _ _ g1), rfl, _, _, rfl, _, _, rfl, _, _, rfl, rfl, rfl, ?_⟩
    simp only [tYes, ↓reduceIte]
    exact ⟨_, rfl, _, h.1, by rw [sizeLine_eq]; have := h.len; omega, h.step hD hy⟩
  obtain ⟨eD, s2⟩ := h.done la1
  refine ⟨(by show 1 ≤ sizeLine; decide), fun l1 hl1 => ?_⟩
  have s3 := same_new hl1 (.lst [.str "zzz"])
  refine ⟨D, l1, _, _, rfl, rfl, s3 _ _ eD, upd_same, by rw [List.length_map, lal, sizeLine_eq]; show _ + 1 ≤ _; omega, fun pl hpl => ?_⟩
  have s4 := same_new hpl (.lst ((allOf W.rs).map (fun a : Str × Str × List Str => V.str a.2.1) ++ [.str "zzz"]))
  have el : (upd (upd H2 l1 (.lst [.str "zzz"])) pl (.lst ((allOf W.rs).map (fun a : Str × Str × List Str => V.str a.2.1) ++ [.str "zzz"]))) pl = some (.lst (((allOf W.rs).map (fun a : Str × Str × List Str => a.2.1) ++ [("zzz" : Str)]).map V.str)) := by
    rw [upd_same, List.map_append, List.map_map]; rfl
  have sA : Same H (upd (upd H2 l1 (.lst [.str "zzz"])) pl (.lst ((allOf W.rs).map (fun a : Str × Str × List Str => V.str a.2.1) ++ [.str "zzz"]))) := s1.trans (s2.trans (s3.trans s4))
  generalize upd (upd H2 l1 (.lst [.str "zzz"])) pl (.lst ((allOf W.rs).map (fun a : Str × Str × List Str => V.str a.2.1) ++ [.str "zzz"])) = H3 at el sA
  obtain ⟨lbs, hlbs⟩ : ∃ l, l = (allOf W.rs).map (fun a : Str × Str × List Str => a.2.1) ++ [("zzz" : Str)] := ⟨_, rfl⟩
  rw [← hlbs] at el
  have llb : lbs.length ≤ 60001 ∧ 1 ≤ lbs.length := by rw [hlbs, List.length_append, List.length_map, lal]; show _ + 1 ≤ 60001 ∧ 1 ≤ _ + 1; omega
  have hlbn : ∀ x, x ∈ lbs → Nm x := fun x hx => by
    rw [hlbs] at hx
    rcases List.mem_append.mp hx with h | h
    · exact hW0.nms x (List.mem_append_right _ h)
    · rw [List.mem_singleton.mp h]; exact zzz_nm
  have hj3 := hj.keep sA
  refine ⟨_, rfl, j, C, 3, rfl, hj3, by omega, by decide, by decide, fun r H4 r0 r3 hj4 kp4 => ?_⟩
  have k4 : Keep j H H4 := (Keep.of_same sA).trans kp4
  have hc4 := k4 _ _ cj hc
  have pc4 : Paired (BrV H4) cb W.bs := paired_imp (fun _ _ r => r.tk (Tk.of_keep hj k4)) pc
  have plj : pl ≠ j := jar_ne hj3 el (str_int _)
  have el4 := kp4 _ _ plj el
  have e_t : ∀ z : Int, r = z → decide (V.int r = V.int z) = true := fun z h => decide_eq_true (by rw [h])
  have e_f : ∀ z : Int, r ≠ z → decide (V.int r = V.int z) = false := fun z h => decide_eq_false (fun e => h (V.int.inj e))
  have hv1 : ∀ l : List V, l = [] → (if true = true then !l.isEmpty else l.isEmpty) = false := fun l h => by rw [h]; rfl
  have hv2 : ∀ l : List V, l ≠ [] → (if true = true then !l.isEmpty else l.isEmpty) = true := fun l h => by
    cases l with
    | nil => exact absurd rfl h
    | cons _ _ => rfl
  have hk1 : ∀ l : List V, l ≠ [] → 0 < l.length := fun l h => by
    cases l with
    | nil => exact absurd rfl h
    | cons _ _ => simp
  refine' auxH (C0 := fun Hb => Same H4 Hb) (fun hR => ?m1) ?rest
  case m1 =>
    have h3 : r = 2 ∨ r = 0 ∨ r = 1 := by omega
    rcases h3 with h | h | h
    · refine ⟨_, rfl, rfl, _, rfl, ifF (e_f 0 (by omega)) (ifF rfl ?_)⟩
      refine ⟨_, rfl, rfl, _, rfl, ifF (e_f 1 (by omega)) (ifF rfl ?_)⟩
      have hh : Same H4 H4 := same_refl
      generalize hH : H4 = H5
      exact hR H5 (by rw [← hH]; exact hh)
    · refine ⟨_, rfl, rfl, _, rfl, ifT (e_t 0 h) ?_⟩
      refine ⟨_, rfl, (by show 0 ≤ sizeLine; decide), fun p1 hp1 => ?_⟩
      have s5 := same_new hp1 (.lst [])
      refine ⟨c, p1, cb, rfl, rfl, s5 _ _ hc4, upd_same, _, rfl, ?_⟩
      by_cases hk : cb = []
      · refine ifF (hv1 _ hk) ?_
        refine ⟨_, rfl, rfl, _, rfl, ifF (e_f 1 (by omega)) (ifF rfl ?_)⟩
        exact hR _ s5
      refine ifT (hv2 _ hk) ?_
      have hk0 := hk1 _ hk
      have hc5 := s5 _ _ hc4
      have hj5 := hj4.keep s5
      refine ⟨_, rfl, _, rfl, _, rfl, _, rfl, c, _, rfl, .inl (SqL.of hc5), j, C + 1, _, rfl, hj5, by omega, by omega, by omega, fun d H6 d0 d1 hj6 kp6 => ?_⟩
      have hc6 := kp6 _ _ cj hc5
      have k6 : Keep j H4 H6 := (Keep.of_same s5).trans kp6
      have pc6 : Paired (BrV H6) cb W.bs := paired_imp (fun _ _ r => r.tk (Tk.of_keep hj4 k6)) pc4
      obtain ⟨v, hv, hv'⟩ := at_in (l := cb) d0 d1
      obtain ⟨e, he, hbr⟩ := paired_get pc6 _ v hv'
      refine ⟨c, _, _, _, rfl, rfl, SqL.of hc6, hv, (by show 1 ≤ sizeLine; decide), fun l2 hl2 => ?_⟩
      have s7 := same_new hl2 (.lst [v])
      refine ⟨c, l2, _, _, rfl, rfl, s7 _ _ hc6, upd_same, by rw [sizeLine_eq]; show _ + 1 ≤ _; omega, fun p hp => ?_⟩
      have s8 := same_new hp (.lst (cb ++ [v]))
      have s78 := s7.trans s8
      refine q p (W.bs ++ [e]) _ ⟨_, upd_same, paired_snoc (paired_imp (fun _ _ r => r.tk (Tk.of_same s78)) pc6) (hbr.tk (Tk.of_same s78))⟩ ⟨by rw [List.length_append]; show _ + 1 ≤ 9 * bN n + 1; omega, fun x hx => ?_⟩ ((hj6.keep s78).mono (by omega)) (k4.trans (k6.trans (.of_same s78)))
      rcases List.mem_append.mp hx with m | m
      · exact hBB.all x m
      · rw [List.mem_singleton.mp m]; exact hBB.all e (List.mem_of_getElem? he)
    · refine ⟨_, rfl, rfl, _, rfl, ifF (e_f 0 (by omega)) (ifF rfl ?_)⟩
      refine ⟨_, rfl, rfl, _, rfl, ifT (e_t 1 h) ?_⟩
      refine ⟨_, rfl, (by show 0 ≤ sizeLine; decide), fun p1 hp1 => ?_⟩
      have s5 := same_new hp1 (.lst [])
      refine ⟨c, p1, cb, rfl, rfl, s5 _ _ hc4, upd_same, _, rfl, ?_⟩
      by_cases hk : cb = []
      · exact ifF (hv1 _ hk) (hR _ s5)
      refine ifT (hv2 _ hk) ?_
      refine ⟨_, rfl, c, 9, _, rfl, rfl, s5 _ _ hc4, by decide, by decide, by rw [sizeLine_eq]; show cb.length * 9 ≤ _; omega, fun p hp => ?_⟩
      have s8 := same_new hp (.lst (List.replicate (9 : Int).toNat cb).flatten)
      have s58 := s5.trans s8
      refine q p (List.replicate 9 W.bs).flatten _ ⟨_, upd_same, paired_rep (paired_imp (fun _ _ r => r.tk (Tk.of_same s58)) pc4) 9⟩ ⟨by rw [len_rep]; show _ ≤ 9 * bN n + 1; omega, fun x hx => hBB.all x (mem_rep hx)⟩ ((hj4.keep s58).mono (by omega)) (k4.trans (.of_same s58))
  intro H5 s5
  have el5 := s5 _ _ el4
  have hj5 := hj4.keep s5
  refine ⟨_, rfl, _, rfl, _, rfl, pl, _, rfl, .inl (SqL.of el5), j, C + 1, _, rfl, hj5, by omega, by rw [List.length_map]; omega, by rw [List.length_map]; omega, fun d1 H6 d10 d11 hj6 kp6 => ?_⟩
  have el6 := kp6 _ _ plj el5
  obtain ⟨v1, hv11, _⟩ := at_in (l := lbs.map V.str) d10 d11
  obtain ⟨x1, hx1, rfl⟩ := str_at hv11
  refine ⟨pl, _, _, _, rfl, rfl, SqL.of el6, hv11, ?_⟩
  refine ⟨_, rfl, _, rfl, _, rfl, pl, _, rfl, .inl (SqL.of el6), j, C + 2, _, rfl, hj6, by omega, by rw [List.length_map]; omega, by rw [List.length_map]; omega, fun d2 H7 d20 d21 hj7 kp7 => ?_⟩
  have el7 := kp7 _ _ plj el6
  obtain ⟨v2, hv21, _⟩ := at_in (l := lbs.map V.str) d20 d21
  obtain ⟨x2, hx2, rfl⟩ := str_at hv21
  refine ⟨pl, _, _, _, rfl, rfl, SqL.of el7, hv21, ?_⟩
  have k47 : Keep j H4 H7 := (Keep.of_same s5).trans (kp6.trans kp7)
  have hc7 := k47 _ _ cj hc4
  refine ⟨_, _, rfl, _, rfl, _, rfl, c, _, rfl, .inl (SqL.of hc7), _, _, rfl, rfl, j, C + 3, _, rfl, hj7, by omega, by omega, by omega, fun t H8 t0 t1 hj8 kp8 => ?_⟩
  obtain ⟨t, rfl⟩ : ∃ i : Nat, t = (i : Int) := ⟨t.toNat, by omega⟩
  have hc8 := kp8 _ _ cj hc7
  refine ⟨_, rfl, _, rfl, _, rfl, c, _, rfl, SqL.of hc8, fun c1 hc1 => ?_⟩
  rw [cut_to]
  have s9 := same_new hc1 (.lst (cb.take t))
  have f1 : (upd H8 c1 (.lst (cb.take t))) c1 = some (.lst (cb.take t)) := upd_same
  have c1j := hj8.ne hc1
  refine ⟨_, rfl, _, rfl, j, C + 4, 8, rfl, hj8.keep s9, by omega, by decide, by decide, fun pl2 H9 pl0 pl1 hj9 kp9 => ?_⟩
  have f1' := kp9 _ _ c1j f1
  have hc9 := kp9 _ _ cj (s9 _ _ hc8)
  refine ⟨_, _, rfl, rfl, _, rfl, (by show 3 ≤ sizeLine; decide), fun t1' ht1 => ⟨(by show 1 ≤ sizeLine; decide), fun c2 hc2 => ?_⟩⟩
  have u1 := same_new ht1 (.tup [.str x1, .int (pl2 - 1), .str x2])
  have u2 := same_new hc2 (.lst [.ref t1'])
  have f2 : (upd (upd H9 t1' (.tup [.str x1, .int (pl2 - 1), .str x2])) c2 (.lst [.ref t1'])) t1' = some (.tup [.str x1, .int (pl2 - 1), .str x2]) := u2 _ _ upd_same
  have f3 : (upd (upd H9 t1' (.tup [.str x1, .int (pl2 - 1), .str x2])) c2 (.lst [.ref t1'])) c2 = some (.lst [.ref t1']) := upd_same
  have uA := u1.trans u2
  replace f1' := uA _ _ f1'
  replace hc9 := uA _ _ hc9
  generalize (upd (upd H9 t1' (.tup [.str x1, .int (pl2 - 1), .str x2])) c2 (.lst [.ref t1'])) = G1 at f1' f2 f3 uA hc9
  refine ⟨c1, c2, _, _, rfl, rfl, f1', f3, by rw [List.length_take, sizeLine_eq]; show _ + 1 ≤ _; omega, fun c3 hc3 => ?_⟩
  have u3 := same_new hc3 (.lst (cb.take t ++ [.ref t1']))
  have f4 : (upd G1 c3 (.lst (cb.take t ++ [.ref t1']))) c3 = some (.lst (cb.take t ++ [.ref t1'])) := upd_same
  refine ⟨_, rfl, _, rfl, _, rfl, c, _, rfl, SqL.of (u3 _ _ hc9), fun c4 hc4' => ?_⟩
  rw [cut_from]
  have u4 := same_new hc4' (.lst (cb.drop t))
  refine ⟨c3, c4, _, _, rfl, rfl, u4 _ _ f4, upd_same, by rw [List.length_append, List.length_take, List.length_drop, sizeLine_eq]; show _ + 1 + _ ≤ _; omega, fun c5 hc5 => ?_⟩
  have u5 := same_new hc5 (.lst (cb.take t ++ [.ref t1'] ++ cb.drop t))
  have uB := u3.trans (u4.trans u5)
  have uC := uA.trans uB
  have kz : Keep j H4 _ := k47.trans (kp8.trans ((Keep.of_same s9).trans (kp9.trans (.of_same uC))))
  have pcz : Paired (BrV _) cb W.bs := paired_imp (fun _ _ r => r.tk (Tk.of_keep hj4 kz)) pc4
  refine q c5 (W.bs.take t ++ [(x1, pl2 - 1, x2)] ++ W.bs.drop t) _ ⟨_, upd_same, paired_app (paired_snoc (paired_take _ pcz) ⟨t1', rfl, uB _ _ f2⟩) (paired_drop _ pcz)⟩ ⟨?_, fun x hx => ?_⟩ ((hj9.keep uC).mono (by omega)) (k4.trans kz)
  · rw [List.length_append, List.length_append, List.length_take, List.length_drop]
    show _ + 1 + _ ≤ 9 * bN n + 1
    omega
  · rcases List.mem_append.mp hx with m | m
    · rcases List.mem_append.mp m with m | m
      · exact hBB.all x (List.mem_of_mem_take m)
      · rw [List.mem_singleton.mp m]; exact ⟨hlbn x1 hx1, hlbn x2 hx2, by show (pl2 - 1).natAbs ≤ 9; omega⟩
    · exact hBB.all x (List.mem_of_mem_drop m)
end
end Pa
set_option maxHeartbeats 4000000
namespace Pa
open PySem PySem.Spec PyProof.Rows L2 Ty Se
/-! ### one thing of a world put otherwise -/
theorem ref_str {R : V → α → Prop} (h : ∀ v x, R v x → ∃ a, v = .ref a) {xs : List V} {ys : List α} (p : Paired R xs ys) : ∀ s, .str s ∉ xs := fun i m => by
  induction p with
  | nil => cases m
  | cons r _ ih =>
    rcases List.mem_cons.mp m with e | m
    · obtain ⟨a, q⟩ := h _ _ r
      rw [q] at e; cases e
    · exact ih m
section
variable {H : Hp} {p : Addr} {x y z : V} {s : Str} {o : HO}
theorem wl_ne {q : Addr} {xs : List V} (e : H p = some (.lst [x, y, .str s, z])) (eq : H q = some (.lst xs)) (h : ∀ s, .str s ∉ xs) : q ≠ p := by
  intro hq
  rw [hq, e] at eq
  exact h s (by rw [← HO.lst.inj (Option.some.inj eq)]; simp)
theorem KL.past {a : Addr} {ks : Kds} (e : H p = some (.lst [x, y, .str s, z])) (h : KL H a ks) : KL (upd H p o) a ks := by
  obtain ⟨xs, e1, pr⟩ := h
  exact ⟨xs, by rw [upd_ne (wl_ne e e1 (ref_str (fun _ _ r => r.ref) pr))]; exact e1, paired_imp (fun _ _ r => r.tk (Tk.lst e)) pr⟩
theorem BL.past {a : Addr} {bs : Brs} (e : H p = some (.lst [x, y, .str s, z])) (h : BL H a bs) : BL (upd H p o) a bs := by
  obtain ⟨xs, e1, pr⟩ := h
  exact ⟨xs, by rw [upd_ne (wl_ne e e1 (ref_str (fun _ _ r => r.ref) pr))]; exact e1, paired_imp (fun _ _ r => r.tk (Tk.lst e)) pr⟩
theorem RlV.past {v : V} {r : Str × List (Str × List Str)} (e : H p = some (.lst [x, y, .str s, z])) (h : RlV anyB H v r) : RlV anyB (upd H p o) v r := by
  obtain ⟨a, b, xs, ev, h1, h2, h3, h4⟩ := h
  exact ⟨a, b, xs, ev, Tk.lst e _ _ h1, by rw [upd_ne (wl_ne e h2 (ref_str (fun _ _ r => r.ref) h4))]; exact h2, h3, paired_imp (fun _ _ r => r.tk (Tk.lst e)) h4⟩
theorem RL.past {a : Addr} {rs : Rls} (e : H p = some (.lst [x, y, .str s, z])) (h : RL H a rs) : RL (upd H p o) a rs := by
  obtain ⟨xs, e1, pr⟩ := h
  exact ⟨xs, by rw [upd_ne (wl_ne e e1 (ref_str (fun _ _ r => r.ref) pr))]; exact e1, paired_imp (fun _ _ r => r.past e) pr⟩
end
theorem WV.make {H : Hp} {p a b c : Addr} {ks : Kds} {rs : Rls} {st : Str} {bs : Brs} (h : H p = some (.lst [.ref a, .ref b, .str st, .ref c])) (h1 : KL H a ks) (h2 : RL H b rs) (h3 : BL H c bs) : WV H (.ref p) ⟨ks, rs, st, bs⟩ := by
  obtain ⟨_, e1, p1⟩ := h1
  obtain ⟨_, e2, p2⟩ := h2
  obtain ⟨_, e3, p3⟩ := h3
  exact ⟨p, a, b, c, _, _, _, rfl, h, e1, p1, e2, p2, e3, p3⟩
theorem WV.parts {H : Hp} {v : V} {W : Wor} (h : WV H v W) : ∃ w a b c, v = .ref w ∧ H w = some (.lst [.ref a, .ref b, .str W.st, .ref c]) ∧ KL H a W.ks ∧ RL H b W.rs ∧ BL H c W.bs := by
  obtain ⟨w, a, b, c, _, _, _, e, h, e1, p1, e2, p2, e3, p3⟩ := h
  exact ⟨w, a, b, c, e, h, ⟨_, e1, p1⟩, ⟨_, e2, p2⟩, ⟨_, e3, p3⟩⟩
theorem WBn.succ {n : Nat} {W : Wor} (h : WBn n W) : WBn (n + 1) W := ⟨h.k.succ, h.r.succ, h.b.succ, h.s⟩
def spBent : Sp := fun vs H Q _ => ∃ (j : Addr) (v : V) (C n : Nat) (W : Wor), vs = [.ref j, v] ∧ Jar j H C ∧ C ≤ 999900000 ∧ WV H v W ∧ WBn n W ∧ n ≤ 1 ∧
  ∀ (v' : V) (W' : Wor) (H' : Hp), WV H' v' W' → WBn (n + 1) W' → Jar j H' (C + 20) → Keep j H H' → Q v' H'
abbrev nBe : List Str := ["purse", "world", "way", "found"]
theorem scBent : FnScope nBe ["purse", "world"] (defScope lBent) := ⟨rfl, rfl, rfl, by decide +kernel, rfl, by decide +kernel, by decide +kernel⟩
section
variable {P : Program} {w : World} {K : PySem.W.Frag} {mg : Str → Option Value} {base : Heap} {f g g2 g3 g4 g5 g6 : Addr} {fd gd gd2 gd3 gd4 gd5 gd6 : FuncData}
theorem ok_bent (F : Fun K "_law_bent" "_law_bent" lBent f fd)
    (G : FnOk P w K mg base CX0 1 g gd ["purse", "many"] spDrawn) (bG : Binds K gd ["purse", "many"] []) (kG : PySem.W.keepIn K (.ref g) = true) (mG : mg "_law_drawn" = some (.ref g))
    (GS : FnOk P w K mg base CX0 2 g2 gd2 ["purse", "some"] spStrange) (bS : Binds K gd2 ["purse", "some"] []) (kS : PySem.W.keepIn K (.ref g2) = true) (mS : mg "_law_strange" = some (.ref g2))
    (GN : FnOk P w K mg base CX0 2 g3 gd3 ["world"] spNames) (bN : Binds K gd3 ["world"] []) (kN' : PySem.W.keepIn K (.ref g3) = true) (mN : mg "_law_all_names" = some (.ref g3))
    (GK : FnOk P w K mg base CX0 3 g4 gd4 ["purse", "world"] spKBent) (bK : Binds K gd4 ["purse", "world"] []) (kK : PySem.W.keepIn K (.ref g4) = true) (mK : mg "_law_kinds_bent" = some (.ref g4))
    (GR : FnOk P w K mg base CX0 3 g5 gd5 ["purse", "world"] spRBent) (bR : Binds K gd5 ["purse", "world"] []) (kR : PySem.W.keepIn K (.ref g5) = true) (mR : mg "_law_rules_bent" = some (.ref g5))
    (GB : FnOk P w K mg base CX0 2 g6 gd6 ["purse", "world"] spBBent) (bB : Binds K gd6 ["purse", "world"] []) (kB : PySem.W.keepIn K (.ref g6) = true) (mB : mg "_law_bars_bent" = some (.ref g6))
    (ml : mg "list" = none) :
    FnOk P w K mg base CX0 4 f fd ["purse", "world"] spBent := by
  refine F.ok scBent (fun vs H Q E h => ?_) (fun cdv A outer s0 H vs Q E hr h => ?_)
  · obtain ⟨_, _, _, _, _, rfl, _⟩ := h
    rfl
  have G' := G.mono (show 1 ≤ 3 by decide)
  have GS' := GS.mono (show 2 ≤ 3 by decide)
  have GN' := GN.mono (show 2 ≤ 3 by decide)
  have GB' := GB.mono (show 2 ≤ 3 by decide)
  obtain ⟨j, v, C, n, W, rfl, hj, hC, hWV, hWB, hn, q⟩ := h
  refine ⟨_, pss_cons (ps_set (i := 2) scBent.nd rfl (.inl rfl) (pe_call G' hr rfl mG kG bG .nil pass0 (pa_cons (pv 0) (pa_cons pe_int pa_nil))))
    (pss_cons (ps_set (i := 3) scBent.nd rfl (.inl rfl) (pe_callTy call_list_of rfl ml (by decide +kernel) (pa_cons (pv 1) pa_nil)))
    (pss_cons (ps_if (pt_cmpR op_lt (pv 2) pe_int (nomark _))
      (pss_one (ps_asg (pe_call GK hr rfl mK kK bK .nil pass0 (pa_cons (pv 0) (pa_cons (pv 1) pa_nil))) (pg_sub (pv 3) pe_int set_list)))
      (pss_one (ps_if (pt_cmpR op_lt (pv 2) pe_int (nomark _))
        (pss_one (ps_asg (pe_call GR hr rfl mR kR bR .nil pass0 (pa_cons (pv 0) (pa_cons (pv 1) pa_nil))) (pg_sub (pv 3) pe_int set_list)))
        (pss_one (ps_if (pt_cmpR op_eq (pv 2) pe_int (nomark _))
          (pss_one (ps_asg (pe_call GS' hr rfl mS kS bS .nil pass0 (pa_cons (pv 0) (pa_cons (pe_call GN' hr rfl mN kN' bN .nil pass0 (pa_cons (pv 1) pa_nil)) pa_nil))) (pg_sub (pv 3) pe_int set_list)))
          (pss_one (ps_asg (pe_call GB' hr rfl mB kB bB .nil pass0 (pa_cons (pv 0) (pa_cons (pv 1) pa_nil))) (pg_sub (pv 3) pe_int set_list))))))))
    (pss_one (ps_ret (pv 3))))), ?_⟩
  have hW0 := hWB.w0 (by omega)
  refine ⟨_, rfl, j, C, 9, rfl, hj, by omega, by decide, by decide, fun r H1 r0 r9 hj1 kp1 => ?_⟩
  have WV1 := hWV.keep hj kp1
  obtain ⟨ww, a, b, c, rfl, hw, hK, hR, hB⟩ := WV1.parts
  refine ⟨_, rfl, ww, _, rfl, .inl (SqL.of hw), fun p hp => ?_⟩
  have s1 := same_new hp (.lst [.ref a, .ref b, .str W.st, .ref c])
  have hp1 : (upd H1 p (.lst [.ref a, .ref b, .str W.st, .ref c])) p = some (.lst [.ref a, .ref b, .str W.st, .ref c]) := upd_same
  generalize hH2 : upd H1 p (.lst [.ref a, .ref b, .str W.st, .ref c]) = H2 at s1 hp1
  have hj2 := hj1.keep s1
  have pj : p ≠ j := jar_ne hj2 hp1 (by simp)
  have WV2 := WV1.same s1
  have k2 : Keep j H H2 := kp1.trans (.of_same s1)
  have pnew : H p = none := new_back kp1 pj hp
  -- the end, alike for all ways
  have fin : ∀ (H3 : Hp) (o : HO) (D : Nat), Jar j H3 D → Keep j H2 H3 → Keep j H (upd H3 p o) ∧ Jar j (upd H3 p o) D := fun H3 o D hj3 k3 =>
    ⟨(k2.trans k3).upd pnew, hj3.upd (o := o) pj⟩
  have ix0 : ixN 4 0 = some 0 := rfl
  have ix1 : ixN 4 1 = some 1 := rfl
  have ix2 : ixN 4 2 = some 2 := rfl
  have ix3 : ixN 4 3 = some 3 := rfl
  refine ⟨_, rfl, _, _, rfl, rfl, _, rfl, ite2 (fun _ => ?_) (fun _ => ?_)⟩
  · refine ⟨_, rfl, _, rfl, j, .ref ww, C + 1, n, W, rfl, hj2, by omega, WV2, hW0, hWB.k, hn, fun p1 ks H3 hk3 hb3 hj3 kp3 => ?_⟩
    have hp3 := kp3 _ _ pj hp1
    obtain ⟨f1, f2⟩ := fin H3 (.lst [.ref p1, .ref b, .str W.st, .ref c]) _ hj3 kp3
    refine ⟨_, rfl, p, _, 0, 0, rfl, rfl, hp3, ix0, _, rfl, ?_⟩
    exact q _ ⟨ks, W.rs, W.st, W.bs⟩ _ (.make upd_same (hk3.past hp3) ((RL.keep hj2 kp3 (hR.same s1)).past hp3) ((BL.keep hj2 kp3 (hB.same s1)).past hp3)) ⟨hb3, hWB.r.succ, hWB.b.succ, hWB.s⟩ (f2.mono (by omega)) f1
  refine ⟨_, rfl, _, _, rfl, rfl, _, rfl, ite2 (fun _ => ?_) (fun _ => ?_)⟩
  · refine ⟨_, rfl, _, rfl, j, .ref ww, C + 1, n, W, rfl, hj2, by omega, WV2, hW0, hWB.r, hn, fun p1 rs H3 hr3 hb3 hj3 kp3 => ?_⟩
    have hp3 := kp3 _ _ pj hp1
    obtain ⟨f1, f2⟩ := fin H3 (.lst [.ref a, .ref p1, .str W.st, .ref c]) _ hj3 kp3
    refine ⟨_, rfl, p, _, 1, 1, rfl, rfl, hp3, ix1, _, rfl, ?_⟩
    exact q _ ⟨W.ks, rs, W.st, W.bs⟩ _ (.make upd_same ((KL.keep hj2 kp3 (hK.same s1)).past hp3) (hr3.past hp3) ((BL.keep hj2 kp3 (hB.same s1)).past hp3)) ⟨hWB.k.succ, hb3, hWB.b.succ, hWB.s⟩ (f2.mono (by omega)) f1
  refine ⟨_, rfl, rfl, _, rfl, ite2 (fun _ => ?_) (fun _ => ?_)⟩
  · refine ⟨_, rfl, _, rfl, .ref ww, W, rfl, WV2, hW0.kl, hW0.rl, by have := hW0.al; omega, fun l1 H3 nl1 el1 s3 => ?_⟩
    have hj3 := hj2.keep s3
    refine ⟨j, l1, C + 1, namesOf W, rfl, hj3, by omega, el1, ?_, hW0.nms, fun x H4 nx hj4 kp4 => ?_⟩
    · have := hW0.tot
      have := all_len W.rs
      unfold namesOf
      rw [List.length_append, List.length_append, List.length_map, List.length_map, List.length_map]
      omega
    have k4 : Keep j H2 H4 := (Keep.of_same s3).trans kp4
    have hp4 := k4 _ _ pj hp1
    obtain ⟨f1, f2⟩ := fin H4 (.lst [.ref a, .ref b, .str x, .ref c]) _ hj4 k4
    refine ⟨_, rfl, p, _, 2, 2, rfl, rfl, hp4, ix2, _, rfl, ?_⟩
    exact q _ ⟨W.ks, W.rs, x, W.bs⟩ _ (.make upd_same ((KL.keep hj2 k4 (hK.same s1)).past hp4) ((RL.keep hj2 k4 (hR.same s1)).past hp4) ((BL.keep hj2 k4 (hB.same s1)).past hp4)) ⟨hWB.k.succ, hWB.r.succ, hWB.b.succ, nx⟩ (f2.mono (by omega)) f1
  · refine ⟨_, rfl, _, rfl, j, .ref ww, C + 1, n, W, rfl, hj2, by omega, WV2, hW0, hWB.b, hn, fun p1 bs H3 hb3 hbb3 hj3 kp3 => ?_⟩
    have hp3 := kp3 _ _ pj hp1
    obtain ⟨f1, f2⟩ := fin H3 (.lst [.ref a, .ref b, .str W.st, .ref p1]) _ hj3 kp3
    refine ⟨_, rfl, p, _, 3, 3, rfl, rfl, hp3, ix3, _, rfl, ?_⟩
    exact q _ ⟨W.ks, W.rs, W.st, bs⟩ _ (.make upd_same ((KL.keep hj2 kp3 (hK.same s1)).past hp3) ((RL.keep hj2 kp3 (hR.same s1)).past hp3) (hb3.past hp3)) ⟨hWB.k.succ, hWB.r.succ, hbb3, hWB.s⟩ (f2.mono (by omega)) f1
end
end Pa
set_option maxHeartbeats 4000000
namespace Pa
open PySem PySem.Spec PyProof.Rows L2 Ty Se
/-! ### a world at the bound of a sort, or just beyond -/
def Sh (n : Nat) (x : Str) : Prop := x.length ≤ n ∧ ∀ c, c ∈ x.cps.toList → c < 128
theorem Sh.nm {n : Nat} {x : Str} (h : Sh n x) (hn : n ≤ 9) : Nm x := ⟨by have := h.1; omega, h.2⟩
theorem sh_add {n m : Nat} {x y : Str} (h : Sh n x) (h' : Sh m y) : Sh (n + m) (x ++ y) := by
  refine ⟨?_, fun c hc => ?_⟩
  · rw [strLen_append]; have := h.1; have := h'.1; omega
  · rw [Str.cps_append, Array.toList_append] at hc
    rcases List.mem_append.mp hc with m | m
    · exact h.2 c m
    · exact h'.2 c m
theorem sh_one {n i c : Nat} {x : Str} (h : Sh n x) (e : x.cps[i]? = some c) : Sh 1 ⟨#[c]⟩ := by
  refine ⟨Nat.le_refl 1, fun d hd => ?_⟩
  have : d = c := by simpa using hd
  rw [this]
  exact h.2 c (by rw [Array.mem_toList_iff]; exact Array.mem_of_getElem? e)
theorem sh_cut {n : Nat} {x : Str} (h : Sh n x) (lo hi : Option Int) : Sh n (cutS x lo hi) := by
  refine ⟨?_, fun c hc => ?_⟩
  · unfold cutS
    show (List.take _ _).toArray.size ≤ n
    rw [List.size_toArray, List.length_take, List.length_drop]
    have := h.1
    have e : x.cps.toList.length = x.length := Array.length_toList
    omega
  · unfold cutS at hc
    exact h.2 c (List.mem_of_mem_drop (List.mem_of_mem_take hc))
/-- an accumulated list of things alike -/
def LcA {β : Type} (H : Hp) (D : Addr) (R : Hp → V → β → Prop) (P : β → Prop) (n : Nat) (H' : Hp) : Prop := ∃ acc bs, H' D = some (.lst acc) ∧ acc.length = n ∧ Paired (R H') acc bs ∧ (∀ b, b ∈ bs → P b) ∧ Same H H'
theorem LcA.start {β : Type} {H : Hp} {D : Addr} {R : Hp → V → β → Prop} {P : β → Prop} (hD : H D = none) : LcA H D R P 0 (upd H D (.lst [])) := ⟨[], [], upd_same, rfl, .nil, (fun _ h => by cases h), same_new hD _⟩
theorem LcA.step {β : Type} {H H' H2 : Hp} {D : Addr} {R : Hp → V → β → Prop} {P : β → Prop} {i : Nat} {acc : List V} {bs : List β} {v : V} {y : β} (st : ∀ {H1 H2 v y}, Tk H1 H2 → (∀ c xs, c ≠ D → H1 c = some (.lst xs) → H2 c = some (.lst xs)) → R H1 v y → R H2 v y)
    (e : H' D = some (.lst acc)) (l : acc.length = i) (p : Paired (R H') acc bs) (hP : ∀ b, b ∈ bs → P b) (s : Same H H') (s2 : Same H' H2) (hD : H D = none) (r : R H2 v y) (py : P y) : LcA H D R P (i + 1) (upd H2 D (.lst (acc ++ [v]))) := by
  have t : Tk H2 (upd H2 D (.lst (acc ++ [v]))) := Tk.lst (s2 _ _ e)
  have t2 : ∀ c xs, c ≠ D → H2 c = some (.lst xs) → (upd H2 D (.lst (acc ++ [v]))) c = some (.lst xs) := fun c xs n e => by rw [upd_ne n]; exact e
  refine ⟨acc ++ [v], bs ++ [y], upd_same, by rw [List.length_append, l]; rfl, paired_snoc (paired_imp (fun _ _ r => st t t2 (st (Tk.of_same s2) (fun c xs _ e => s2 _ _ e) r)) p) (st t t2 r), fun b hb => ?_, same_upd (s.trans s2) hD⟩
  rcases List.mem_append.mp hb with m | m
  · exact hP b m
  · rw [List.mem_singleton.mp m]; exact py
def KA (k : Str × Pat × Bool) : Prop := Nm k.1 ∧ PW k.2.1 ∧ sizeP k.2.1 ≤ 20 ∧ deepP k.2.1 ≤ 8
def AA (a : Str × List Str) : Prop := Nm a.1 ∧ a.2.length ≤ 6 ∧ ∀ x, x ∈ a.2 → Nm x
def RA (r : Str × List (Str × List Str)) : Prop := Nm r.1 ∧ r.2.length ≤ 10 ∧ ∀ a, a ∈ r.2 → AA a
structure AB (W : Wor) : Prop where
  kl : W.ks.length ≤ 20
  k : ∀ k, k ∈ W.ks → KA k
  rl : W.rs.length ≤ 60
  r : ∀ r, r ∈ W.rs → RA r
  bl : W.bs.length ≤ 40
  b : ∀ b, b ∈ W.bs → BB1 b
  s : Nm W.st
theorem sh_abcd : Sh 15 "abcdefghijklmno" := by
  have : ("abcdefghijklmno" : Str).length ≤ 15 ∧ ∀ c, c ∈ ("abcdefghijklmno" : Str).cps.toList → c < 128 := by decide +kernel
  exact this
theorem abcd_len : ("abcdefghijklmno" : Str).length ≤ sizeLine := by decide +kernel
def twoP : Pat := .oo (.sg "a") (.sg "a")
def eightP : Pat := .oo (.oo twoP twoP) (.oo twoP twoP)
theorem sh_k : Sh 1 "k" := by
  have : ("k" : Str).length ≤ 1 ∧ ∀ c, c ∈ ("k" : Str).cps.toList → c < 128 := by decide +kernel
  exact this
theorem sgPW : PW (.sg "a") := by
  have : ("a" : Str).length ≤ 3 ∧ ∀ c, c ∈ ("a" : Str).cps.toList → c < 128 := by decide +kernel
  exact this
theorem egA : PW eightP ∧ sizeP eightP ≤ 20 ∧ deepP eightP ≤ 8 := ⟨⟨⟨⟨sgPW, sgPW⟩, ⟨sgPW, sgPW⟩⟩, ⟨⟨sgPW, sgPW⟩, ⟨sgPW, sgPW⟩⟩⟩, by decide, by decide⟩
theorem sh_abcde : Sh 5 "abcde" := by
  have : ("abcde" : Str).length ≤ 5 ∧ ∀ c, c ∈ ("abcde" : Str).cps.toList → c < 128 := by decide +kernel
  exact this
theorem sh_abcdef : Sh 6 "abcdef" := by
  have : ("abcdef" : Str).length ≤ 6 ∧ ∀ c, c ∈ ("abcdef" : Str).cps.toList → c < 128 := by decide +kernel
  exact this
theorem sh_ten : Sh 10 "abcdefghij" := by
  have : ("abcdefghij" : Str).length ≤ 10 ∧ ∀ c, c ∈ ("abcdefghij" : Str).cps.toList → c < 128 := by decide +kernel
  exact this
theorem sh_s : Sh 1 "s" := by
  have : ("s" : Str).length ≤ 1 ∧ ∀ c, c ∈ ("s" : Str).cps.toList → c < 128 := by decide +kernel
  exact this
theorem sh_x : Sh 1 "x" := by
  have : ("x" : Str).length ≤ 1 ∧ ∀ c, c ∈ ("x" : Str).cps.toList → c < 128 := by decide +kernel
  exact this
theorem sh_r : Sh 1 "r" := by
  have : ("r" : Str).length ≤ 1 ∧ ∀ c, c ∈ ("r" : Str).cps.toList → c < 128 := by decide +kernel
  exact this
theorem sh_ra : Sh 2 "ra" := by
  have : ("ra" : Str).length ≤ 2 ∧ ∀ c, c ∈ ("ra" : Str).cps.toList → c < 128 := by decide +kernel
  exact this
theorem sh_rz : Sh 2 "rz" := by
  have : ("rz" : Str).length ≤ 2 ∧ ∀ c, c ∈ ("rz" : Str).cps.toList → c < 128 := by decide +kernel
  exact this
theorem sh_zz : Sh 2 "zz" := by
  have : ("zz" : Str).length ≤ 2 ∧ ∀ c, c ∈ ("zz" : Str).cps.toList → c < 128 := by decide +kernel
  exact this
theorem aux2 {X C0 : Addr → Hp → Prop} {M : Prop} (f : (∀ p H, C0 p H → X p H) → M) (r : ∀ p H, C0 p H → X p H) : M := f r
theorem aa_row {a : Str × List Str} (h : AA a) : Nm a.1 ∧ a.2.length ≤ 9 := ⟨h.1, by have := h.2.1; omega⟩
theorem sgA : PW (.sg "a") ∧ sizeP (.sg "a") ≤ 20 ∧ deepP (.sg "a") ≤ 8 := ⟨sgPW, by decide, by decide⟩
def spAt : Sp := fun vs H Q _ => ∃ (j : Addr) (C : Nat), vs = [.ref j] ∧ Jar j H C ∧ C ≤ 999900000 ∧
  ∀ (v' : V) (W' : Wor) (H' : Hp), WV H' v' W' → AB W' → Jar j H' (C + 5) → Keep j H H' → Q v' H'
abbrev nAt : List Str := ["purse", "way", "more", "two", "eight", "kinds", "rules", "barred", "one", "other", "k"]
theorem scAt : FnScope nAt ["purse"] (defScope lBound) := ⟨rfl, rfl, rfl, by decide +kernel, rfl, by decide +kernel, by decide +kernel⟩
abbrev scOne : Scope := { kind := .function, names := [(".0", .local), ("one", .cell)], isGenerator := false, isCoroutine := false, more := [] }
section
variable {P : Program} {w : World} {K : PySem.W.Frag} {mg : Str → Option Value} {base : Heap} {f g g2 : Addr} {fd gd gd2 : FuncData}
theorem ok_atbound (F : Fun K "_law_at_bound" "_law_at_bound" lBound f fd)
    (G : FnOk P w K mg base CX0 1 g gd ["purse", "many"] spDrawn) (bG : Binds K gd ["purse", "many"] []) (kG : PySem.W.keepIn K (.ref g) = true) (mG : mg "_law_drawn" = some (.ref g))
    (GE : FnOk P w K mg base CX0 2 g2 gd2 ["rules"] spEdges) (bE : Binds K gd2 ["rules"] []) (kE : PySem.W.keepIn K (.ref g2) = true) (mE : mg "_law_edges" = some (.ref g2))
    (mr : mg "range" = none) (mi : mg "int" = none) :
    FnOk P w K mg base CX0 3 f fd ["purse"] spAt := by
  refine F.ok scAt (fun vs H Q E h => ?_) (fun cdv A outer s0 H vs Q E hr h => ?_)
  · obtain ⟨_, _, rfl, _⟩ := h
    rfl
  have G' := G.mono (show 1 ≤ 2 by decide)
  obtain ⟨j, C, rfl, hj, hC, q⟩ := h
  refine ⟨_, pss_cons (ps_set (i := 1) scAt.nd rfl (.inl rfl) (pe_call G' hr rfl mG kG bG .nil pass0 (pa_cons (pv 0) (pa_cons pe_int pa_nil))))
    (pss_cons (ps_set (i := 2) scAt.nd rfl (.inl rfl) (pe_call G' hr rfl mG kG bG .nil pass0 (pa_cons (pv 0) (pa_cons pe_int pa_nil))))
    (pss_cons (ps_set (i := 3) scAt.nd rfl (.inl rfl) (pe_tup (pa_cons pe_str (pa_cons (pe_tup (pa_cons pe_str (pa_cons pe_str pa_nil))) (pa_cons (pe_tup (pa_cons pe_str (pa_cons pe_str pa_nil))) pa_nil)))))
    (pss_cons (ps_set (i := 4) scAt.nd rfl (.inr rfl) (pe_tup (pa_cons pe_str (pa_cons (pe_tup (pa_cons pe_str (pa_cons (pv 3) (pa_cons (pv 3) pa_nil)))) (pa_cons (pe_tup (pa_cons pe_str (pa_cons (pv 3) (pa_cons (pv 3) pa_nil)))) pa_nil)))))
    (pss_cons (ps_setLc (i := 5) (own := [("one", 8)]) (g := gName 8) (tt := tYes) rfl scAt.nd rfl rfl (sw_true rfl rfl rfl (by decide +kernel)) (pi_str (pe_slice sl_str pe_str po_none (po_some (pe_ix ix_list (pe_lst (pa_cons (pe_op op_add pe_int (pv 2)) (pa_cons pe_int pa_nil))) (pe_callTy call_int1 rfl mi (by decide +kernel) (pa_cons (pe_cmpR op_gt (pv 1) pe_int (nomark _)) pa_nil)) (fun _ _ => rfl)))))
      (blkOk_by (N := nAt) (sc := defScope lBound) (by decide +kernel)) (fun _ _ _ _ _ => pg_name (i := 8) scAt.nd rfl (Or.inl rfl)) (fun _ _ _ _ _ => pts_nil)
      (fun _ _ _ _ _ => pe_tup (pa_cons (pe_op op_add_str pe_str (pv 8)) (pa_cons (pe_tup (pa_cons pe_str (pa_cons pe_str pa_nil))) (pa_cons pe_bl pa_nil)))))
    (pss_cons (ps_if (pt_cmpR op_eq (pv 1) pe_int (nomark _))
      (pss_one (ps_set (i := 5) scAt.nd rfl (.inl rfl) (pe_op op_cat (pe_slice sl_list (pv 5) po_none (po_some (pv 2)))
        (pe_lc (own := [("one", 8)]) (g := gName 8) (tt := tYes) rfl scAt.nd (pi_str pe_str) (blkOk_by (N := nAt) (sc := defScope lBound) (by decide +kernel)) (fun _ _ _ _ _ => pg_name (i := 8) scAt.nd rfl (Or.inl rfl)) (fun _ _ _ _ _ => pts_nil)
          (fun _ _ _ _ _ => pe_tup (pa_cons (pe_op op_add_str pe_str (pv 8)) (pa_cons (pv 4) (pa_cons pe_bl pa_nil)))))))) pss_nil)
    (pss_cons (ps_set (i := 6) scAt.nd rfl (.inl rfl) (pe_lst (pa_cons (pe_tup (pa_cons pe_str (pa_cons
        (pe_lc (own := [("one", 8)]) (g := gName 8) (tt := tYes) rfl scAt.nd (pi_str pe_str) (blkOk_by (N := nAt) (sc := defScope lBound) (by decide +kernel)) (fun _ _ _ _ _ => pg_name (i := 8) scAt.nd rfl (Or.inl rfl)) (fun _ _ _ _ _ => pts_nil)
          (fun _ _ _ _ _ => pe_tup (pa_cons (pe_op op_add_str pe_str (pv 8)) (pa_cons (pe_op op_repG (pe_tup (pa_cons pe_str pa_nil)) pe_int) pa_nil)))) pa_nil))) pa_nil)))
    (pss_cons (ps_set (i := 7) scAt.nd rfl (.inl rfl) (pe_slice sl_list (pe_call GE hr rfl mE kE bE .nil pass0 (pa_cons (pv 6) pa_nil)) po_none (po_some (pe_op op_mul (pe_op op_add pe_int (pv 2)) (pe_callTy call_int1 rfl mi (by decide +kernel) (pa_cons (pe_cmpR op_eq (pv 1) pe_int (nomark _)) pa_nil))))))
    (pss_cons (ps_if (pt_cmpR op_eq (pv 1) pe_int (nomark _))
      (pss_one (ps_setLc (i := 6) (own := [("k", 10)]) (g := gName 10) (tt := tYes) rfl scAt.nd rfl rfl (sw_true rfl rfl rfl (by decide +kernel)) (pi_range1 rfl mr (pa_cons (pe_op op_add pe_int (pv 2)) pa_nil)) (blkOk_by (N := nAt) (sc := defScope lBound) (by decide +kernel)) (fun _ _ _ _ _ => pg_name (i := 10) scAt.nd rfl (Or.inl rfl)) (fun _ _ _ _ _ => pts_nil)
          (fun _ _ _ _ _ => pe_tup (pa_cons (pe_op op_add_str (pe_op op_add_str pe_str (pe_ix ix_str pe_str (pe_op op_fdivN (pv 10) pe_int) (fun _ _ => rfl))) (pe_ix ix_str pe_str (pe_op op_mod (pv 10) pe_int) (fun _ _ => rfl)))
            (pa_cons (pe_lst (pa_cons (pe_tup (pa_cons (pe_op op_add_str (pe_op op_add_str pe_str (pe_ix ix_str pe_str (pe_op op_fdivN (pv 10) pe_int) (fun _ _ => rfl))) (pe_ix ix_str pe_str (pe_op op_mod (pv 10) pe_int) (fun _ _ => rfl))) (pa_cons (pe_tup pa_nil) pa_nil))) pa_nil)) pa_nil))))) pss_nil)
    (pss_cons (ps_if (pt_cmpR op_eq (pv 1) pe_int (nomark _))
      (pss_cons (ps_setLc (i := 6) (own := [("one", 8)]) (g := gName 8) (tt := tYes) rfl scAt.nd rfl rfl (sw_true rfl rfl rfl (by decide +kernel)) (pi_str pe_str) (blkOk_by (N := nAt) (sc := defScope lBound) (by decide +kernel)) (fun _ _ _ _ _ => pg_name (i := 8) scAt.nd rfl (Or.inr rfl)) (fun _ _ _ _ _ => pts_nil)
          (fun _ _ _ _ _ => pe_tup (pa_cons (pe_op op_add_str pe_str (pv 8)) (pa_cons
            (pe_lc (own := [("other", 9)]) (g := gName 9) (tt := tYes) rfl scAt.nd (pi_str pe_str) (blkOk_by (N := nAt) (sc := scOne) (by decide +kernel)) (fun _ _ _ _ _ => pg_name (i := 9) scAt.nd rfl (Or.inl rfl)) (fun _ _ _ _ _ => pts_nil)
              (fun _ _ _ _ _ => pe_tup (pa_cons (pe_op op_add_str (pv 8) (pv 9)) (pa_cons (pe_tup pa_nil) pa_nil)))) pa_nil))))
      (pss_one (ps_set (i := 6) scAt.nd rfl (.inl rfl) (pe_op op_cat (pv 6) (pe_op op_rep (pe_lst (pa_cons (pe_tup (pa_cons pe_str (pa_cons (pe_lst (pa_cons (pe_tup (pa_cons pe_str (pa_cons (pe_tup pa_nil) pa_nil))) pa_nil)) pa_nil))) pa_nil)) (pv 2)))))) pss_nil)
    (pss_one (ps_ret (pe_lst (pa_cons (pv 5) (pa_cons (pv 6) (pa_cons (pe_ix (show IxR _ (rIxT K) from ix_tup) (pe_ix (show IxR _ (rIxL K) from ix_list) (pv 6) pe_int (fun _ _ => rfl)) pe_int (fun _ _ => rfl)) (pa_cons (pv 7) pa_nil)))))))))))))))), ?_⟩
  refine ⟨_, rfl, j, C, 5, rfl, hj, by omega, by decide, by decide, fun r H1 r0 r5 hj1 kp1 => ?_⟩
  refine ⟨_, rfl, j, C + 1, 2, rfl, hj1, by omega, by decide, by decide, fun mi H2 m0 m2 hj2 kp2 => ?_⟩
  obtain ⟨m, rfl⟩ : ∃ i : Nat, mi = (i : Int) := ⟨mi.toNat, by omega⟩
  have k2 : Keep j H H2 := kp1.trans kp2
  refine ⟨(by show 2 ≤ sizeLine; decide), fun t1 ht1 => ?_⟩
  have v1 := same_new ht1 (.tup [.str "signs", .str "a"])
  have f1 : (upd H2 t1 (.tup [.str "signs", .str "a"])) t1 = some (.tup [.str "signs", .str "a"]) := upd_same
  generalize upd H2 t1 (.tup [.str "signs", .str "a"]) = B1 at v1 f1 ⊢
  refine ⟨(by show 2 ≤ sizeLine; decide), fun t2 ht2 => ?_⟩
  have v2 := same_new ht2 (.tup [.str "signs", .str "a"])
  have f2 : (upd B1 t2 (.tup [.str "signs", .str "a"])) t2 = some (.tup [.str "signs", .str "a"]) := upd_same
  generalize upd B1 t2 (.tup [.str "signs", .str "a"]) = B2 at v2 f2 ⊢
  refine ⟨(by show 3 ≤ sizeLine; decide), fun tw htw => ?_⟩
  have v3 := same_new htw (.tup [.str "or", .ref t1, .ref t2])
  have f3 : (upd B2 tw (.tup [.str "or", .ref t1, .ref t2])) tw = some (.tup [.str "or", .ref t1, .ref t2]) := upd_same
  generalize upd B2 tw (.tup [.str "or", .ref t1, .ref t2]) = B3 at v3 f3 ⊢
  refine ⟨_, rfl, _, rfl, (by show 3 ≤ sizeLine; decide), fun e1 he1 => ?_⟩
  have v4 := same_new he1 (.tup [.str "or", .ref tw, .ref tw])
  have f4 : (upd B3 e1 (.tup [.str "or", .ref tw, .ref tw])) e1 = some (.tup [.str "or", .ref tw, .ref tw]) := upd_same
  generalize upd B3 e1 (.tup [.str "or", .ref tw, .ref tw]) = B4 at v4 f4 ⊢
  refine ⟨_, rfl, _, rfl, (by show 3 ≤ sizeLine; decide), fun e2 he2 => ?_⟩
  have v5 := same_new he2 (.tup [.str "or", .ref tw, .ref tw])
  have f5 : (upd B4 e2 (.tup [.str "or", .ref tw, .ref tw])) e2 = some (.tup [.str "or", .ref tw, .ref tw]) := upd_same
  generalize upd B4 e2 (.tup [.str "or", .ref tw, .ref tw]) = B5 at v5 f5 ⊢
  refine ⟨(by show 3 ≤ sizeLine; decide), fun ei hei => ?_⟩
  have v6 := same_new hei (.tup [.str "or", .ref e1, .ref e2])
  have f6 : (upd B5 ei (.tup [.str "or", .ref e1, .ref e2])) ei = some (.tup [.str "or", .ref e1, .ref e2]) := upd_same
  generalize upd B5 ei (.tup [.str "or", .ref e1, .ref e2]) = B6 at v6 f6 ⊢
  have s3 : Same H2 B6 := v1.trans (v2.trans (v3.trans (v4.trans (v5.trans v6))))
  have hE : RP B6 eightP (.ref ei) := by
    have g3 := v6 _ _ (v5 _ _ (v4 _ _ f3))
    have hT : RP B6 twoP (.ref tw) := ⟨tw, _, _, rfl, g3, ⟨t1, rfl, v6 _ _ (v5 _ _ (v4 _ _ (v3 _ _ (v2 _ _ f1))))⟩, ⟨t2, rfl, v6 _ _ (v5 _ _ (v4 _ _ (v3 _ _ f2)))⟩⟩
    exact ⟨ei, _, _, rfl, f6, ⟨e1, _, _, rfl, v6 _ _ (v5 _ _ f4), hT, hT⟩, ⟨e2, _, _, rfl, v6 _ _ f5, hT, hT⟩⟩
  clear f1 f2 f3 f4 f5 f6 v1 v2 v3 v4 v5 v6
  obtain ⟨n15, hn15⟩ : ∃ n15 : Int, atI [V.int (14 + m), V.int 1] (if decide (r > 0) = true then 1 else 0) = some (.int n15) := by
    by_cases h : r > 0
    · exact ⟨1, by rw [if_pos (decide_eq_true h)]; rfl⟩
    · exact ⟨14 + m, by rw [if_neg (fun e => h (of_decide_eq_true e))]; rfl⟩
  refine ⟨_, rfl, _, _, rfl, rfl, (by show 2 ≤ sizeLine; decide), fun p1 hp1 => ?_⟩
  have v7 := same_new hp1 (.lst [.int (14 + m), .int 1])
  have f7 : (upd B6 p1 (.lst [.int (14 + m), .int 1])) p1 = some (.lst [.int (14 + m), .int 1]) := upd_same
  generalize upd B6 p1 (.lst [.int (14 + m), .int 1]) = B7 at v7 f7 ⊢
  refine ⟨_, rfl, _, _, rfl, rfl, .inr ⟨_, rfl, p1, _, _, _, rfl, rfl, SqL.of f7, hn15, _, rfl, _, rfl, abcd_len, _, rfl, fun D hD => ?_⟩⟩
  have s7 : Same H2 B7 := s3.trans v7
  have hE7 : RP B7 eightP (.ref ei) := hE.tk (Tk.of_same v7)
  refine lc_it walk_str (LcA B7 D KdV KA) (.start hD) (fun _ _ _ _ => trivial) (fun i y Hx Hy hi p z => ?turn1) (fun Hx p => ?done1)
  case turn1 =>
    obtain ⟨acc, bs, f1, f2, f3, f4, f5⟩ := p
    obtain ⟨rfl, c, hc, rfl⟩ := z
    have hs := sh_add sh_k (sh_one (sh_cut sh_abcd none (some n15)) hc)
    refine ⟨rfl, ?_⟩
    simp only [tYes, ↓reduceIte]
    refine ⟨_, rfl, _, _, rfl, rfl, (by show 1 + 1 ≤ sizeLine; decide), (by show 2 ≤ sizeLine; decide), fun a1 ha1 => ⟨(by show 3 ≤ sizeLine; decide), fun a2 ha2 => ?_⟩⟩
    have u1 := same_new ha1 (.tup [.str "signs", .str "a"])
    have u2 := same_new ha2 (.tup [.str ("k" ++ ⟨#[c]⟩), .ref a1, .bl false])
    refine ⟨acc, (u1.trans u2) _ _ f1, ?_, ?_⟩
    · have h1 := (sh_cut sh_abcd none (some n15)).1
      have h2 : i < (cutS "abcdefghijklmno" none (some n15)).length := hi
      rw [f2, sizeLine_eq]; omega
    exact LcA.step (fun t _ r => r.tk t) f1 f2 f3 f4 f5 (u1.trans u2) hD (y := ("k" ++ ⟨#[c]⟩, .sg "a", false)) ⟨a2, _, rfl, upd_same, a1, rfl, u2 _ _ upd_same⟩ ⟨hs.nm (by decide), sgA⟩
  obtain ⟨acc, bs, f1, f2, f3, f4, f5⟩ := p
  have h1 := (sh_cut sh_abcd none (some n15)).1
  have h2 : acc.length = (cutS "abcdefghijklmno" none (some n15)).length := f2
  have lbs := Paired.length f3
  have e_t : r = 1 → decide (V.int r = V.int 1) = true := fun h => decide_eq_true (by rw [h])
  have e_f : r ≠ 1 → decide (V.int r = V.int 1) = false := fun h => decide_eq_false (fun e => h (V.int.inj e))
  refine' aux2 (C0 := fun p Ha => Same H2 Ha ∧ RP Ha eightP (.ref ei) ∧ ∃ ks, KL Ha p ks ∧ ks.length ≤ 20 ∧ ∀ k, k ∈ ks → KA k) (fun hR => ?m1) ?rest1
  case m1 =>
    by_cases hr1 : r = 1
    · refine ⟨_, rfl, rfl, _, rfl, ifT (e_t hr1) ?_⟩
      refine ⟨_, rfl, _, rfl, _, rfl, D, _, rfl, SqL.of f1, fun c1 hc1 => ?_⟩
      rw [cut_to]
      have w1 := same_new hc1 (.lst (acc.take m))
      have g1 : (upd Hx c1 (.lst (acc.take m))) c1 = some (.lst (acc.take m)) := upd_same
      have f3' : Paired (KdV (upd Hx c1 (.lst (acc.take m)))) acc bs := paired_imp (fun _ _ r => r.tk (Tk.of_same w1)) f3
      have hE8 : RP (upd Hx c1 (.lst (acc.take m))) eightP (.ref ei) := hE7.tk (Tk.of_same (f5.trans w1))
      have s8 := s7.trans (f5.trans w1)
      generalize upd Hx c1 (.lst (acc.take m)) = B8 at w1 g1 f3' hE8 s8 ⊢
      refine ⟨_, rfl, fun D2 hD2 => ?_⟩
      refine lc_it walk_str (LcA B8 D2 KdV KA) (.start hD2) (fun _ _ _ _ => trivial) (fun i y Hx Hy hi p z => ?turn2) (fun Hx p => ?done2)
      case turn2 =>
        obtain ⟨acc, bs, f1, f2, f3, f4, f5⟩ := p
        obtain ⟨rfl, c, hc, rfl⟩ := z
        have hs := sh_add sh_s (sh_one sh_abcde hc)
        refine ⟨rfl, ?_⟩
        simp only [tYes, ↓reduceIte]
        refine ⟨_, rfl, _, _, rfl, rfl, (by show 1 + 1 ≤ sizeLine; decide), _, rfl, (by show 3 ≤ sizeLine; decide), fun a2 ha2 => ?_⟩
        have u2 := same_new ha2 (.tup [.str ("s" ++ ⟨#[c]⟩), .ref ei, .bl false])
        refine ⟨acc, u2 _ _ f1, ?_, ?_⟩
        · have h1 := sh_abcde.1
          have h2 : i < ("abcde" : Str).length := hi
          rw [f2, sizeLine_eq]; omega
        exact LcA.step (fun t _ r => r.tk t) f1 f2 f3 f4 f5 u2 hD2 (y := ("s" ++ ⟨#[c]⟩, eightP, false)) ⟨a2, _, rfl, upd_same, hE8.tk (Tk.of_same (f5.trans u2))⟩ ⟨hs.nm (by decide), egA⟩
      obtain ⟨acc2, bs2, g2, g3, g4, g5, g6⟩ := p
      have h3 := sh_abcde.1
      have h4 : acc2.length = ("abcde" : Str).length := g3
      have lbs2 := Paired.length g4
      refine ⟨c1, D2, _, _, rfl, rfl, g6 _ _ g1, g2, by rw [List.length_take, sizeLine_eq]; omega, fun p hp => ?_⟩
      have w2 := same_new hp (.lst (acc.take m ++ acc2))
      have hh : Same H2 (upd Hx p (.lst (acc.take m ++ acc2))) ∧ RP (upd Hx p (.lst (acc.take m ++ acc2))) eightP (.ref ei) ∧ ∃ ks, KL (upd Hx p (.lst (acc.take m ++ acc2))) p ks ∧ ks.length ≤ 20 ∧ ∀ k, k ∈ ks → KA k := by
        refine ⟨s8.trans (g6.trans w2), hE8.tk (Tk.of_same (g6.trans w2)), bs.take m ++ bs2, ⟨_, upd_same, paired_app (paired_take m (paired_imp (fun _ _ r => r.tk (Tk.of_same (g6.trans w2))) f3')) (paired_imp (fun _ _ r => r.tk (Tk.of_same w2)) g4)⟩, ?_, fun k hk => ?_⟩
        · rw [List.length_append, List.length_take]; omega
        · rcases List.mem_append.mp hk with m | m
          · exact f4 k (List.mem_of_mem_take m)
          · exact g5 k m
      generalize hH : upd Hx p (.lst (acc.take m ++ acc2)) = H3 at hh
      exact hR p H3 hh
    · refine ⟨_, rfl, rfl, _, rfl, ifF (e_f hr1) ?_⟩
      have hh : Same H2 Hx ∧ RP Hx eightP (.ref ei) ∧ ∃ ks, KL Hx D ks ∧ ks.length ≤ 20 ∧ ∀ k, k ∈ ks → KA k := ⟨s7.trans f5, hE7.tk (Tk.of_same f5), bs, ⟨acc, f1, f3⟩, by omega, f4⟩
      generalize hH : Hx = H3 at hh
      generalize hD2 : D = D2 at hh
      exact hR D2 H3 hh
  rintro pk B9 ⟨s9, hE9, ks, hKL, lks, hks⟩
  refine ⟨_, rfl, fun D3 hD3 => ?_⟩
  refine lc_it walk_str (LcA B9 D3 AltV AA) (.start hD3) (fun _ _ _ _ => trivial) (fun i y Hx Hy hi p z => ?turn3) (fun Hx p => ?done3)
  case turn3 =>
    obtain ⟨acc, bs, f1, f2, f3, f4, f5⟩ := p
    obtain ⟨rfl, c, hc, rfl⟩ := z
    have hs := sh_add sh_x (sh_one sh_abcdef hc)
    refine ⟨rfl, ?_⟩
    simp only [tYes, ↓reduceIte]
    refine ⟨_, rfl, _, _, rfl, rfl, (by show 1 + 1 ≤ sizeLine; decide), (by show 1 ≤ sizeLine; decide), fun t1 ht1 => ?_⟩
    have u1 := same_new ht1 (.tup [.str "ra"])
    refine ⟨t1, 6, _, rfl, rfl, upd_same, by decide, by decide, by decide, fun t2 Hz sz ez _ => ⟨(by show 2 ≤ sizeLine; decide), fun a2 ha2 => ?_⟩⟩
    have u2 := same_new ha2 (.tup [.str ("x" ++ ⟨#[c]⟩), .ref t2])
    have uu := u1.trans (sz.trans u2)
    refine ⟨acc, uu _ _ f1, ?_, ?_⟩
    · have h1 := sh_abcdef.1
      have h2 : i < ("abcdef" : Str).length := hi
      rw [f2, sizeLine_eq]; omega
    exact LcA.step (fun t _ r => r.tk t) f1 f2 f3 f4 f5 uu hD3 (y := ("x" ++ ⟨#[c]⟩, List.replicate 6 "ra")) ⟨a2, t2, rfl, upd_same, u2 _ _ ez⟩ ⟨hs.nm (by decide), (show 6 ≤ 6 from Nat.le_refl 6), fun x hx => by rw [List.eq_of_mem_replicate hx]; exact sh_ra.nm (by decide)⟩
  obtain ⟨ac3, as, f1, f2, f3, f4, f5⟩ := p
  have l6 := sh_abcdef.1
  have l7 : ac3.length = ("abcdef" : Str).length := f2
  have las := Paired.length f3
  refine ⟨(by show 2 ≤ sizeLine; decide), fun a3 ha3 => ⟨(by show 1 ≤ sizeLine; decide), fun pr hpr => ?_⟩⟩
  have w1 := same_new ha3 (.tup [.str "ra", .ref D3])
  have w2 := same_new hpr (.lst [.ref a3])
  have hRL : RL (upd (upd Hx a3 (.tup [.str "ra", .ref D3])) pr (.lst [.ref a3])) pr [("ra", as)] :=
    ⟨_, upd_same, .cons ⟨a3, D3, ac3, rfl, w2 _ _ upd_same, (w1.trans w2) _ _ f1, trivial, paired_imp (fun _ _ r => r.tk (Tk.of_same (w1.trans w2))) f3⟩ .nil⟩
  have s10 := f5.trans (w1.trans w2)
  generalize upd (upd Hx a3 (.tup [.str "ra", .ref D3])) pr (.lst [.ref a3]) = B10 at hRL s10 ⊢
  have hEd : EdB [("ra", as)] := ⟨by simp, (show 1 ≤ 100 by decide), by show ((("ra" : Str), as).2 ++ []).length ≤ 1000; rw [List.append_nil]; show as.length ≤ 1000; omega, fun a ha => by
    have ha : a ∈ as ++ [] := ha
    rw [List.append_nil] at ha
    exact aa_row (f4 a ha), fun r hr => by rw [List.mem_singleton.mp hr]; show as.length ≤ 10; omega⟩
  refine ⟨_, rfl, pr, _, rfl, hRL, hEd, fun pe bs B11 npe hBL lbs hE s11 => ?_⟩
  obtain ⟨cb, hcb, pcb⟩ := hBL
  have lcb := Paired.length pcb
  refine ⟨_, rfl, _, _, rfl, rfl, _, rfl, rfl, .inr ⟨_, rfl, _, _, rfl, rfl, ?_⟩⟩
  have hcm : CMul (30 + (m : Int)) (if decide (V.int r = V.int 4) = true then 1 else 0) := by
    split
    · exact .inl ⟨by omega, by omega⟩
    · exact .inl ⟨by omega, by omega⟩
  obtain ⟨t, ht, ht31⟩ : ∃ t : Nat, (30 + (m : Int)) * (if decide (V.int r = V.int 4) = true then 1 else 0) = (t : Int) ∧ t ≤ 31 := by
    split
    · exact ⟨30 + m, by omega, by omega⟩
    · exact ⟨0, by omega, by omega⟩
  refine ⟨hcm, _, rfl, pe, _, rfl, SqL.of hcb, fun pb hpb => ?_⟩
  rw [ht, cut_to]
  have w3 := same_new hpb (.lst (cb.take t))
  have hBL : BL (upd B11 pb (.lst (cb.take t))) pb (bs.take t) := ⟨_, upd_same, paired_take t (paired_imp (fun _ _ r => r.tk (Tk.of_same w3)) pcb)⟩
  have hbl : (bs.take t).length ≤ 40 := by rw [List.length_take]; omega
  have hbb : ∀ b, b ∈ bs.take t → BB1 b := fun b hb => by
    have h := hE b (List.mem_of_mem_take hb)
    exact ⟨h.1, h.2.1, by have := h.2.2; omega⟩
  have s12 := s11.trans w3
  have hRL12 := hRL.same s12
  generalize upd B11 pb (.lst (cb.take t)) = B12 at hBL s12 hRL12 ⊢
  have hr0 : Same B10 B12 ∧ RL B12 pr [("ra", as)] := ⟨s12, hRL12⟩
  have hra0 : ∀ x, x ∈ [(("ra" : Str), as)] → RA x := fun x hx => by
    rw [List.mem_singleton.mp hx]
    exact ⟨sh_ra.nm (by decide), by show as.length ≤ 10; omega, f4⟩
  have e2_t : r = 2 → decide (V.int r = V.int 2) = true := fun h => decide_eq_true (by rw [h])
  have e2_f : r ≠ 2 → decide (V.int r = V.int 2) = false := fun h => decide_eq_false (fun e => h (V.int.inj e))
  have e3_t : r = 3 → decide (V.int r = V.int 3) = true := fun h => decide_eq_true (by rw [h])
  have e3_f : r ≠ 3 → decide (V.int r = V.int 3) = false := fun h => decide_eq_false (fun e => h (V.int.inj e))
  refine' aux2 (C0 := fun p Ha => Same B10 Ha ∧ Same B12 Ha ∧ ∃ rs, RL Ha p rs ∧ rs.length ≤ 50 ∧ rs ≠ [] ∧ ∀ x, x ∈ rs → RA x) (fun hR => ?m2) ?rest2
  case m2 =>
    by_cases hr2 : r = 2
    · refine ⟨_, rfl, rfl, _, rfl, ifT (e2_t hr2) ?_⟩
      refine ⟨_, rfl, _, _, rfl, rfl, ((40 + m : Nat) : Int), by show [V.int (40 + (m : Int))] = _; rw [show (40 : Int) + (m : Int) = ((40 + m : Nat) : Int) by omega], by omega, by omega, fun D4 hD4 => ?_⟩
      rw [Int.toNat_natCast]
      refine lc_range (lo := 0) (n := 40 + m) (LcA B12 D4 (RlV (fun b => b ≠ D4)) RA) (.start hD4) (fun i Hy hi p => ?turn4) (fun Hy p => ?done4)
      case turn4 =>
        obtain ⟨acc, bs, f1, f2, f3, f4, f5⟩ := p
        obtain ⟨c1, hc1, hc1'⟩ := at_in (l := ("abcde" : Str).cps.toList) (i := ((0 : Int) + (i : Nat)).fdiv 10) (by rw [Int.fdiv_eq_ediv_of_nonneg _ (by decide)]; omega) (by rw [Int.fdiv_eq_ediv_of_nonneg _ (by decide), show ("abcde" : Str).cps.toList.length = 5 by decide +kernel]; omega)
        obtain ⟨c2, hc2, hc2'⟩ := at_in (l := ("abcdefghij" : Str).cps.toList) (i := ((0 : Int) + (i : Nat)) % 10) (by omega) (by rw [show ("abcdefghij" : Str).cps.toList.length = 10 by decide +kernel]; omega)
        have h1 := sh_one sh_abcde (by rw [← Array.getElem?_toList]; exact hc1')
        have h2 := sh_one sh_ten (by rw [← Array.getElem?_toList]; exact hc2')
        have hr := sh_add (sh_add sh_r h1) h2
        have hx := sh_add (sh_add sh_x h1) h2
        refine ⟨rfl, ?_⟩
        simp only [tYes, ↓reduceIte]
        refine ⟨_, rfl, _, _, rfl, rfl, ⟨by decide, by decide⟩, _, _, c1, rfl, rfl, by decide +kernel, hc1, _, _, rfl, rfl, (by show 1 + 1 ≤ sizeLine; decide), ?_⟩
        refine ⟨_, rfl, _, _, rfl, rfl, (show (0 : Int) < 10 by decide), _, _, c2, rfl, rfl, by decide +kernel, hc2, _, _, rfl, rfl, (by show 2 + 1 ≤ sizeLine; decide), ?_⟩
        refine ⟨_, rfl, _, _, rfl, rfl, ⟨by decide, by decide⟩, _, _, c1, rfl, rfl, by decide +kernel, hc1, _, _, rfl, rfl, (by show 1 + 1 ≤ sizeLine; decide), ?_⟩
        refine ⟨_, rfl, _, _, rfl, rfl, (show (0 : Int) < 10 by decide), _, _, c2, rfl, rfl, by decide +kernel, hc2, _, _, rfl, rfl, (by show 2 + 1 ≤ sizeLine; decide), ?_⟩
        refine ⟨(by show 0 ≤ sizeLine; decide), fun q1 hq1 => ⟨(by show 2 ≤ sizeLine; decide), fun q2 hq2 => ⟨(by show 1 ≤ sizeLine; decide), fun q3 hq3 => ⟨(by show 2 ≤ sizeLine; decide), fun q4 hq4 => ?_⟩⟩⟩⟩
        have u1 := same_new hq1 (.tup [])
        have u2 := same_new hq2 (.tup [.str ("x" ++ ⟨#[c1]⟩ ++ ⟨#[c2]⟩), .ref q1])
        have u3 := same_new hq3 (.lst [.ref q2])
        have u4 := same_new hq4 (.tup [.str ("r" ++ ⟨#[c1]⟩ ++ ⟨#[c2]⟩), .ref q3])
        have uu := u1.trans (u2.trans (u3.trans u4))
        have nD : q3 ≠ D4 := fun e => by
          have := (u1.trans u2) _ _ f1
          rw [e, this] at hq3; cases hq3
        refine ⟨acc, uu _ _ f1, by rw [f2, sizeLine_eq]; omega, ?_⟩
        refine LcA.step (fun t l r => r.tk t l) f1 f2 f3 f4 f5 uu hD4 (y := ("r" ++ ⟨#[c1]⟩ ++ ⟨#[c2]⟩, [("x" ++ ⟨#[c1]⟩ ++ ⟨#[c2]⟩, [])])) ⟨q4, q3, [.ref q2], rfl, upd_same, u4 _ _ upd_same, nD, .cons ⟨q2, q1, rfl, (u3.trans u4) _ _ upd_same, (u2.trans (u3.trans u4)) _ _ upd_same⟩ .nil⟩ ⟨hr.nm (by decide), (show 1 ≤ 10 by decide), fun a ha => ?_⟩
        rw [List.mem_singleton.mp ha]
        exact ⟨hx.nm (by decide), Nat.zero_le _, fun x hx => by cases hx⟩
      obtain ⟨acc, bs, f1, f2, f3, f4, f5⟩ := p
      have lbs := Paired.length f3
      have hh : Same B10 Hy ∧ Same B12 Hy ∧ ∃ rs, RL Hy D4 rs ∧ rs.length ≤ 50 ∧ rs ≠ [] ∧ ∀ x, x ∈ rs → RA x := ⟨s12.trans f5, f5, bs, ⟨acc, f1, paired_imp (fun _ _ ⟨a, b, xs, e, h1, h2, _, h4⟩ => ⟨a, b, xs, e, h1, h2, trivial, h4⟩) f3⟩, by omega, (fun e => by rw [e] at lbs; have e0 : ([] : Rls).length = 0 := rfl; omega), f4⟩
      exact hR D4 Hy hh
    · refine ⟨_, rfl, rfl, _, rfl, ifF (e2_f hr2) ?_⟩
      have hh : Same B10 B12 ∧ Same B12 B12 ∧ ∃ rs, RL B12 pr rs ∧ rs.length ≤ 50 ∧ rs ≠ [] ∧ ∀ x, x ∈ rs → RA x := ⟨s12, same_refl, [("ra", as)], hRL12, (show 1 ≤ 50 by decide), (fun e => by cases e), hra0⟩
      obtain ⟨H3, hH⟩ : ∃ H3, H3 = B12 := ⟨_, rfl⟩
      rw [← hH] at hh
      have hh : Same B10 H3 ∧ Same B12 H3 ∧ ∃ rs, RL H3 pr rs ∧ rs.length ≤ 50 ∧ rs ≠ [] ∧ ∀ x, x ∈ rs → RA x := ⟨hh.1, by rw [hH]; exact same_refl, hh.2.2⟩
      rw [← hH]
      generalize hD2 : pr = D2 at hh
      exact hR D2 H3 hh
  rintro p2 B13 ⟨s13, s13', rs, hRLs, lrs, nrs, hrs⟩
  refine' aux2 (C0 := fun p Ha => Same B10 Ha ∧ Same B12 Ha ∧ ∃ rs, RL Ha p rs ∧ rs.length ≤ 50 ∧ rs ≠ [] ∧ ∀ x, x ∈ rs → RA x) (fun hR => ?m3) ?rest3
  case m3 =>
    by_cases hr3 : r ≠ 3
    · refine ⟨_, rfl, rfl, _, rfl, ifF (e3_f hr3) ?_⟩
      have hh : Same B10 B13 ∧ Same B12 B13 ∧ ∃ rs, RL B13 p2 rs ∧ rs.length ≤ 50 ∧ rs ≠ [] ∧ ∀ x, x ∈ rs → RA x := ⟨s13, s13', rs, hRLs, lrs, nrs, hrs⟩
      generalize hH : B13 = H3 at hh
      generalize hD2 : p2 = D2 at hh
      exact hR D2 H3 hh
    · refine ⟨_, rfl, rfl, _, rfl, ifT (e3_t (Decidable.not_not.mp hr3)) ?_⟩
      refine ⟨_, rfl, fun D5 hD5 => ?_⟩
      refine lc_it walk_str (LcA B13 D5 (RlV (fun b => b ≠ D5)) RA) (.start hD5) (fun _ _ _ _ => trivial) (fun i y Hx Hy hi p z => ?turn5) (fun Hx p => ?done5)
      case turn5 =>
        obtain ⟨acc, bs, f1, f2, f3, f4, f5⟩ := p
        obtain ⟨rfl, c, hc, rfl⟩ := z
        have ho := sh_one sh_ten hc
        have hs := sh_add sh_r ho
        refine ⟨rfl, ?_⟩
        simp only [tYes, ↓reduceIte]
        refine ⟨_, rfl, _, _, rfl, rfl, (by show 1 + 1 ≤ sizeLine; decide), _, rfl, fun D6 hD6 => ?_⟩
        have nD : D6 ≠ D5 := fun e => by rw [e, f1] at hD6; cases hD6
        refine lc_it walk_str (LcA Hy D6 AltV AA) (.start hD6) (fun _ _ _ _ => trivial) (fun i2 y2 Hx2 Hy2 hi2 p z => ?turn6) (fun Hx2 p => ?done6)
        case turn6 =>
          obtain ⟨acc, bs, f1, f2, f3, f4, f5⟩ := p
          obtain ⟨rfl, c2, hc2, rfl⟩ := z
          have hs2 := sh_add ho (sh_one sh_ten hc2)
          refine ⟨rfl, ?_⟩
          simp only [tYes, ↓reduceIte]
          refine ⟨_, rfl, _, rfl, _, _, rfl, rfl, (by show 1 + 1 ≤ sizeLine; decide), (by show 0 ≤ sizeLine; decide), fun q1 hq1 => ⟨(by show 2 ≤ sizeLine; decide), fun q2 hq2 => ?_⟩⟩
          have u1 := same_new hq1 (.tup [])
          have u2 := same_new hq2 (.tup [.str (⟨#[c]⟩ ++ ⟨#[c2]⟩), .ref q1])
          refine ⟨acc, (u1.trans u2) _ _ f1, ?_, ?_⟩
          · have h1 := sh_ten.1
            have h2 : i2 < ("abcdefghij" : Str).length := hi2
            rw [f2, sizeLine_eq]; omega
          exact LcA.step (fun t _ r => r.tk t) f1 f2 f3 f4 f5 (u1.trans u2) hD6 (y := (⟨#[c]⟩ ++ ⟨#[c2]⟩, [])) ⟨q2, q1, rfl, upd_same, u2 _ _ upd_same⟩ ⟨hs2.nm (by decide), Nat.zero_le _, fun x hx => by cases hx⟩
        obtain ⟨ac6, as6, g1, g2, g3, g4, g5⟩ := p
        have l1 := sh_ten.1
        have l2 : ac6.length = ("abcdefghij" : Str).length := g2
        have l3 := Paired.length g3
        refine ⟨(by show 2 ≤ sizeLine; decide), fun q4 hq4 => ?_⟩
        have u4 := same_new hq4 (.tup [.str ("r" ++ ⟨#[c]⟩), .ref D6])
        have uu := g5.trans u4
        refine ⟨acc, uu _ _ f1, ?_, ?_⟩
        · have h2 : i < ("abcdefghij" : Str).length := hi
          rw [f2, sizeLine_eq]; omega
        exact LcA.step (fun t l r => r.tk t l) f1 f2 f3 f4 f5 uu hD5 (y := ("r" ++ ⟨#[c]⟩, as6)) ⟨q4, D6, ac6, rfl, upd_same, u4 _ _ g1, nD, paired_imp (fun _ _ r => r.tk (Tk.of_same u4)) g3⟩ ⟨hs.nm (by decide), (show as6.length ≤ 10 by omega), g4⟩
      obtain ⟨acc, bs, f1, f2, f3, f4, f5⟩ := p
      have l1 := sh_ten.1
      have l2 : acc.length = ("abcdefghij" : Str).length := f2
      have l3 := Paired.length f3
      have l4 : ("abcdefghij" : Str).length = 10 := by decide +kernel
      refine ⟨_, rfl, (by show 0 ≤ sizeLine; decide), fun q1 hq1 => ⟨(by show 2 ≤ sizeLine; decide), fun q2 hq2 => ⟨(by show 1 ≤ sizeLine; decide), fun q3 hq3 => ⟨(by show 2 ≤ sizeLine; decide), fun q4 hq4 => ⟨(by show 1 ≤ sizeLine; decide), fun q5 hq5 => ?_⟩⟩⟩⟩⟩
      have u1 := same_new hq1 (.tup [])
      have u2 := same_new hq2 (.tup [.str "zz", .ref q1])
      have u3 := same_new hq3 (.lst [.ref q2])
      have u4 := same_new hq4 (.tup [.str "rz", .ref q3])
      have u5 := same_new hq5 (.lst [.ref q4])
      have uu := u1.trans (u2.trans (u3.trans (u4.trans u5)))
      have hz : RlV anyB _ (.ref q4) ("rz", [("zz", [])]) := ⟨q4, q3, [.ref q2], rfl, u5 _ _ upd_same, (u4.trans u5) _ _ upd_same, trivial, .cons ⟨q2, q1, rfl, (u3.trans (u4.trans u5)) _ _ upd_same, (u2.trans (u3.trans (u4.trans u5))) _ _ upd_same⟩ .nil⟩
      have hf : Paired (RlV anyB Hx) acc bs := paired_imp (fun _ _ ⟨a, b, xs, e, h1, h2, _, h4⟩ => ⟨a, b, xs, e, h1, h2, trivial, h4⟩) f3
      refine ⟨_, rfl, q5, (m : Int), _, rfl, rfl, upd_same, by omega, by omega, ?_, fun q6 hq6 => ?_⟩
      · rw [Int.toNat_natCast, sizeLine_eq]
        show 1 * m ≤ _
        omega
      rw [Int.toNat_natCast]
      have u6 := same_new hq6 (.lst (List.replicate m [V.ref q4]).flatten)
      refine ⟨D5, q6, _, _, rfl, rfl, (uu.trans u6) _ _ f1, upd_same, ?_, fun p hp => ?_⟩
      · rw [len_rep, sizeLine_eq]
        show acc.length + m * 1 ≤ _
        omega
      have u7 := same_new hp (.lst (acc ++ (List.replicate m [V.ref q4]).flatten))
      have u67 := u6.trans u7
      have hh : Same B10 _ ∧ Same B12 _ ∧ ∃ rs, RL _ p rs ∧ rs.length ≤ 50 ∧ rs ≠ [] ∧ ∀ x, x ∈ rs → RA x := ⟨s13.trans (f5.trans (uu.trans u67)), s13'.trans (f5.trans (uu.trans u67)), bs ++ (List.replicate m [(("rz" : Str), [(("zz" : Str), ([] : List Str))])]).flatten,
        ⟨_, upd_same, paired_app (paired_imp (fun _ _ r => r.same (uu.trans u67)) hf) (paired_rep (.cons (hz.same u67) .nil) m)⟩, by rw [List.length_append, len_rep]; show _ + m * 1 ≤ 50; omega, (fun e => by
          have := congrArg List.length e
          rw [List.length_append] at this
          have e0 : ([] : Rls).length = 0 := rfl
          omega), fun x hx => by
          rcases List.mem_append.mp hx with h | h
          · exact f4 x h
          · rw [List.mem_singleton.mp (mem_rep h)]
            exact ⟨sh_rz.nm (by decide), (show 1 ≤ 10 by decide), fun a ha => by rw [List.mem_singleton.mp ha]; exact ⟨sh_zz.nm (by decide), Nat.zero_le _, fun x hx => by cases hx⟩⟩⟩
      generalize hH : upd _ p (.lst (acc ++ (List.replicate m [V.ref q4]).flatten)) = H3 at hh
      exact hR p H3 hh
  rintro p3 B14 ⟨s14, s14', rs2, hRL2, lrs2, nrs2, hrs2⟩
  obtain ⟨rb, hrb, prb⟩ := hRL2
  obtain ⟨v0, rt, e0⟩ : ∃ v0 rt, rb = v0 :: rt := by
    cases rb with
    | nil => cases prb; exact absurd rfl nrs2
    | cons v rt => exact ⟨v, rt, rfl⟩
  obtain ⟨⟨n0, as0⟩, hr0', hv0⟩ := paired_get prb 0 v0 (by rw [e0]; rfl)
  obtain ⟨a0, b0, xs0, rfl, h1, h2, _, h4⟩ := hv0
  have hn0 := (hrs2 _ (List.mem_of_getElem? hr0')).1
  refine ⟨_, rfl, _, rfl, _, rfl, p3, _, 0, _, rfl, rfl, SqL.of hrb, by rw [e0]; exact at_zero, a0, _, 0, _, rfl, rfl, SqT.of h1, at_zero, _, rfl, (by show 4 ≤ sizeLine; decide), fun pw hpw => ?_⟩
  have w5 := same_new hpw (.lst [.ref pk, .ref p3, .str n0, .ref pb])
  have sA : Same B9 B14 := s10.trans s14
  have sB := s9.trans (sA.trans w5)
  refine q (.ref pw) ⟨ks, rs2, n0, bs.take t⟩ _ (.make upd_same (hKL.same (sA.trans w5)) ⟨rb, w5 _ _ hrb, paired_imp (fun _ _ r => r.same w5) prb⟩ (hBL.same (s14'.trans w5))) ⟨lks, hks, by show rs2.length ≤ 60; omega, hrs2, hbl, hbb, hn0⟩ ((hj2.keep sB).mono (by omega)) (k2.trans (.of_same sB))
end
end Pa
set_option maxHeartbeats 4000000
namespace Pa
open PySem PySem.Spec PyProof.Rows L2 Ty Se
/-! ### what a world that is asked about keeps; too many -/
structure WF (W : Wor) : Prop where
  kl : W.ks.length ≤ 1000
  rl : W.rs.length ≤ 10000
  bl : W.bs.length ≤ 1000
  al : (altsOf W.rs).length ≤ 60000
  k : ∀ k, k ∈ W.ks → Nm k.1 ∧ PW k.2.1 ∧ sizeP k.2.1 ≤ 1000 ∧ deepP k.2.1 ≤ 14
  r : ∀ r, r ∈ W.rs → Nm r.1 ∧ r.2.length ≤ 100 ∧ ∀ a, a ∈ r.2 → Nm a.1 ∧ a.2.length ≤ 100 ∧ ∀ x, x ∈ a.2 → Nm x
  b : ∀ b, b ∈ W.bs → BB1 b
  s : Nm W.st
  wt : wds (W.ks.map kdD) + wds (W.rs.map rlD) ≤ 16000000
theorem altsN_len : ∀ rs : Rls, altsN rs = (altsOf rs).length
  | [] => rfl
  | r :: rs => by
    show _ + altsN rs = (r.2 ++ altsOf rs).length
    rw [List.length_append, altsN_len rs]
def spMany : Sp := fun vs H Q _ => ∃ (v : V) (W : Wor), vs = [v] ∧ WV H v W ∧ WF W ∧ ∀ H', Same H H' → Q (.bl (manyE W.ks W.rs W.bs)) H'
abbrev nMa : List Str := ["world", "kinds", "rules", "start", "barred", "labels", "signs", "head", "label", "row", "one", "pattern", "skipped"]
theorem scMany : FnScope nMa ["world"] (defScope lMany) := ⟨rfl, rfl, rfl, by decide +kernel, rfl, by decide +kernel, by decide +kernel⟩
section
variable {P : Program} {w : World} {K : PySem.W.Frag} {mg : Str → Option Value} {base : Heap} {f g g2 : Addr} {fd gd gd2 : FuncData}
theorem ok_many (F : Fun K "_law_too_many" "_law_too_many" lMany f fd)
    (G : FnOk P w K mg base CX0 1 g gd ["rules"] spAll) (bG : Binds K gd ["rules"] []) (kG : PySem.W.keepIn K (.ref g) = true) (mG : mg "_law_all" = some (.ref g))
    (GS : FnOk P w K mg base CX0 15 g2 gd2 ["pattern"] (spCnt 14)) (bS : Binds K gd2 ["pattern"] []) (kS : PySem.W.keepIn K (.ref g2) = true) (mS : mg "_law_signs" = some (.ref g2))
    (ml : mg "len" = none) (msu : mg "sum" = none) :
    FnOk P w K mg base CX0 16 f fd ["world"] spMany := by
  refine F.ok scMany (fun vs H Q E h => ?_) (fun cdv A outer s0 H vs Q E hr h => ?_)
  · obtain ⟨_, _, rfl, _⟩ := h
    rfl
  have hu := hr.units
  have G' := G.mono (show 1 ≤ 15 by decide)
  obtain ⟨v, ⟨ks, rs, st, bs⟩, rfl, ⟨ww, a, b, c, ka, rb, cb, rfl, hw, ha, pa, hb, pb, hc, pc⟩, hF, q⟩ := h
  refine ⟨_, pss_cons (ps_asg (pv 0) (pg_lst rfl (pgs_cons (pg_name (i := 1) scMany.nd rfl (Or.inl rfl)) (pgs_cons (pg_name (i := 2) scMany.nd rfl (Or.inl rfl)) (pgs_cons (pg_name (i := 3) scMany.nd rfl (Or.inl rfl)) (pgs_cons (pg_name (i := 4) scMany.nd rfl (Or.inl rfl)) pgs_nil))))))
    (pss_cons (ps_setLc (i := 5) (own := [("head", 7), ("label", 8), ("row", 9)]) (g := gTup K 3 (gCons (gName 7) (gCons (gName 8) (gCons (gName 9) gNil)))) (tt := tYes) rfl scMany.nd rfl rfl (sw_true rfl rfl rfl (by decide +kernel)) (pi_list (pe_call G' hr rfl mG kG bG .nil pass0 (pa_cons (pv 2) pa_nil))) (blkOk_by (N := nMa) (sc := defScope lMany) (by decide +kernel)) (fun _ _ _ _ _ => pg_tup rfl (pgs_cons (pg_name (i := 7) scMany.nd rfl (Or.inl rfl)) (pgs_cons (pg_name (i := 8) scMany.nd rfl (Or.inl rfl)) (pgs_cons (pg_name (i := 9) scMany.nd rfl (Or.inl rfl)) pgs_nil)))) (fun _ _ _ _ _ => pts_nil) (fun _ _ _ _ _ => pv 8))
    (pss_cons (ps_set (i := 6) scMany.nd rfl (.inl rfl) (pe_callB (cr_sum rfl) rfl msu (by decide +kernel) (pa_cons (pe_lc (own := [("one", 10), ("pattern", 11), ("skipped", 12)]) (g := gTup K 3 (gCons (gName 10) (gCons (gName 11) (gCons (gName 12) gNil)))) (tt := tYes) rfl scMany.nd (pi_list (pv 1)) (blkOk_by (N := nMa) (sc := defScope lMany) (by decide +kernel)) (fun _ _ _ _ _ => pg_tup rfl (pgs_cons (pg_name (i := 10) scMany.nd rfl (Or.inl rfl)) (pgs_cons (pg_name (i := 11) scMany.nd rfl (Or.inl rfl)) (pgs_cons (pg_name (i := 12) scMany.nd rfl (Or.inl rfl)) pgs_nil)))) (fun _ _ _ _ _ => pts_nil)
        (fun _ _ _ _ _ => pe_call GS hr rfl mS kS bS .nil pass0 (pa_cons (pv 11) pa_nil))) pa_nil)))
    (pss_cons (ps_if (PW.pt (pw_or (pt_cmpR (op_eqL0 hu) (pv 1) (pe_lst pa_nil) (nomark _)) (pw_or (pt_cmpR (op_eqL0 hu) (pv 2) (pe_lst pa_nil) (nomark _)) (pw_or (pt_cmpR op_gt (pe_callB call_len_seq rfl ml PySem.boot_len (pa_cons (pv 1) pa_nil)) pe_int (nomark _)) (pw_or (pt_cmpR op_gt (pv 6) pe_int (nomark _)) (pw_or1 (pt_cmpR op_gt (pe_callB call_len_seq rfl ml PySem.boot_len (pa_cons (pv 2) pa_nil)) pe_int (nomark _))))))))
      (pss_one (ps_ret pe_bl)) pss_nil)
    (pss_one (ps_ret (pe_or (pe_cmpR op_gt (pe_callB call_len_seq rfl ml PySem.boot_len (pa_cons (pv 5) pa_nil)) pe_int (nomark _)) (pe_one (pe_cmpR op_gt (pe_callB call_len_seq rfl ml PySem.boot_len (pa_cons (pv 4) pa_nil)) pe_int (nomark _))))))))), ?_⟩
  have lka : ka.length = ks.length := Paired.length pa
  have lrb : rb.length = rs.length := Paired.length pb
  have lcb : cb.length = bs.length := Paired.length pc
  have z3 : (altsOf rs).length ≤ 60000 := hF.al
  have z1 : ks.length ≤ 1000 := hF.kl
  refine ⟨_, rfl, ww, _, rfl, SqL.of hw, rfl, _, _, rfl, _, _, rfl, _, _, rfl, _, _, rfl, rfl, ?_⟩
  refine ⟨_, rfl, b, rs, rfl, ⟨rb, hb, pb⟩, by omega, fun p1 xs H1 np1 e1 pa1 s1 => ⟨p1, rfl, ⟨_, SqL.of e1⟩, fun D hD => ?_⟩⟩
  have la1 : xs.length = (allOf rs).length := Paired.length pa1
  have lal := all_len rs
  refine lc_list (K := K) (xs := xs) (LcI H1 D (fun a : Str × Str × List Str => V.str a.2.1) (allOf rs)) (.start hD) (fun i H' _ h => SqL.of (h.2 _ _ e1)) (fun i v H' hv h => ?turn1) (fun H2 h => ?done1)
  case turn1 =>
    obtain ⟨⟨n, lb, row⟩, hy, ⟨ra, rb2, rfl, g1, g2⟩⟩ := paired_get pa1 i v hv
    refine ⟨ra, _, rfl, SqT.of (h.2 _ _ g1), rfl, _, _, rfl, _, _, rfl, _, _, rfl, rfl, rfl, ?_⟩
    simp only [tYes, ↓reduceIte]
    exact ⟨_, rfl, _, h.1, by rw [sizeLine_eq]; have := h.len; omega, h.step hD hy⟩
  obtain ⟨eD, s2⟩ := h.done la1
  have s12 : Same H H2 := s1.trans s2
  refine ⟨_, rfl, a, rfl, ⟨_, SqL.of (s12 _ _ ha)⟩, fun D2 hD2 => ?_⟩
  refine lc_list (K := K) (xs := ka) (LcI H2 D2 (fun k : Str × Pat × Bool => V.int (cntI k.2.1)) ks) (.start hD2) (fun i H' _ h => SqL.of (h.2 _ _ (s12 _ _ ha))) (fun i v H' hv h => ?turn2) (fun H3 h3 => ?done2)
  case turn2 =>
    obtain ⟨k, hy, ⟨ra, u, rfl, g1, g2⟩⟩ := paired_get pa i v hv
    have hk := hF.k k (List.mem_of_getElem? hy)
    refine ⟨ra, _, rfl, SqT.of (h.2 _ _ (s12 _ _ g1)), rfl, _, _, rfl, _, _, rfl, _, _, rfl, rfl, rfl, ?_⟩
    simp only [tYes, ↓reduceIte]
    refine ⟨_, rfl, u, k.2.1, rfl, g2.tk (Tk.of_same (s12.trans h.2)), hk.2.2.2, fun H3 s3 => ⟨_, s3 _ _ h.1, by rw [sizeLine_eq]; have := h.len; omega, ?_⟩⟩
    have h' : LcI H2 D2 (fun k : Str × Pat × Bool => V.int (cntI k.2.1)) ks i H3 := ⟨s3 _ _ h.1, h.2.trans s3⟩
    exact h'.step hD2 hy
  obtain ⟨eD2, s3⟩ := h3.done lka
  have s13 : Same H H3 := s12.trans s3
  have eD3 : H3 D2 = some (.lst ((ks.map fun k => cntI k.2.1).map V.int)) := by rw [eD2, List.map_map]; rfl
  refine ⟨D2, _, rfl, SqL.of eD3, ?_⟩
  have hsum2 : ((ks.map fun k => cntI k.2.1)).sum = ((signsN ks : Nat) : Int) := sum_cast _ _
  rw [hsum2]
  have eD' := s3 _ _ eD
  have gt : ∀ n m : Nat, decide ((n : Int) > (m : Int)) = decide (m < n) := fun n m => by
    by_cases h : m < n
    · rw [decide_eq_true h, decide_eq_true (by omega)]
    · rw [decide_eq_false h, decide_eq_false (by omega)]
  have em : manyE ks rs bs = (decide (ks = []) || (decide (rs = []) || (decide (14 < ks.length) || (decide (40 < signsN ks) || (decide (40 < rs.length) || (decide (100 < (allOf rs).length) || decide (30 < bs.length))))))) := by
    unfold manyE
    rw [altsN_len, ← lal]
    simp only [Bool.or_assoc]
  have qq : ∀ H' (b : Bool), manyE ks rs bs = b → Same H H' → Q (.bl b) H' := fun H' b e s => by rw [← e]; exact q H' s
  refine ⟨_, rfl, (by show 0 ≤ sizeLine; decide), fun p1 hp1 => ?_⟩
  have w1 := same_new hp1 (.lst [])
  refine ⟨a, p1, ka, rfl, rfl, w1 _ _ (s13 _ _ ha), upd_same, _, rfl, ?_⟩
  have hke : (if false = true then !ka.isEmpty else ka.isEmpty) = decide (ks = []) := by
    rw [if_neg Bool.false_ne_true, Bool.eq_iff_iff, List.isEmpty_iff, decide_eq_true_eq, ← List.length_eq_zero_iff, ← List.length_eq_zero_iff, lka]
  rw [hke]
  have s14 := s13.trans w1
  by_cases k1 : ks = []
  · rw [decide_eq_true k1] at em ⊢
    exact iteT (iteT (qq _ _ (by rw [em]; rfl) s14))
  rw [decide_eq_false k1] at em ⊢
  refine iteF ?_
  generalize upd H3 p1 (.lst []) = H4 at w1 s14 ⊢
  have eD4 := w1 _ _ eD'
  refine ⟨_, rfl, (by show 0 ≤ sizeLine; decide), fun p2 hp2 => ?_⟩
  have w2 := same_new hp2 (.lst [])
  have s15 := s14.trans w2
  refine ⟨b, p2, rb, rfl, rfl, s15 _ _ hb, upd_same, _, rfl, ?_⟩
  have hre : (if false = true then !rb.isEmpty else rb.isEmpty) = decide (rs = []) := by
    rw [if_neg Bool.false_ne_true, Bool.eq_iff_iff, List.isEmpty_iff, decide_eq_true_eq, ← List.length_eq_zero_iff, ← List.length_eq_zero_iff, lrb]
  rw [hre]
  by_cases k2 : rs = []
  · rw [decide_eq_true k2] at em ⊢
    exact iteT (iteT (qq _ _ (by rw [em]; rfl) s15))
  rw [decide_eq_false k2] at em ⊢
  refine iteF ?_
  have eD5 := w2 _ _ eD4
  generalize upd H4 p2 (.lst []) = H5 at w2 s15 eD5 ⊢
  refine ⟨_, rfl, a, _, rfl, .inl (SqL.of (s15 _ _ ha)), _, _, rfl, rfl, _, rfl, ?_⟩
  rw [lka, show decide (((ks.length : Nat) : Int) > 14) = decide (14 < ks.length) from gt ks.length 14]
  by_cases k3 : 14 < ks.length
  · rw [decide_eq_true k3] at em ⊢
    exact iteT (iteT (qq _ _ (by rw [em]; rfl) s15))
  rw [decide_eq_false k3] at em ⊢
  refine iteF ?_
  refine ⟨_, rfl, _, _, rfl, rfl, _, rfl, ?_⟩
  rw [show decide (((signsN ks : Nat) : Int) > 40) = decide (40 < signsN ks) from gt _ 40]
  by_cases k4 : 40 < signsN ks
  · rw [decide_eq_true k4] at em ⊢
    exact iteT (iteT (qq _ _ (by rw [em]; rfl) s15))
  rw [decide_eq_false k4] at em ⊢
  refine iteF ?_
  refine ⟨_, rfl, b, _, rfl, .inl (SqL.of (s15 _ _ hb)), _, _, rfl, rfl, _, rfl, ?_⟩
  rw [lrb, show decide (((rs.length : Nat) : Int) > 40) = decide (40 < rs.length) from gt _ 40]
  by_cases k5 : 40 < rs.length
  · rw [decide_eq_true k5] at em ⊢
    exact iteT (qq _ _ (by rw [em]; rfl) s15)
  rw [decide_eq_false k5] at em ⊢
  refine iteF ?_
  refine ⟨_, rfl, D, _, rfl, .inl (SqL.of eD5), _, _, rfl, rfl, _, rfl, ?_⟩
  rw [List.length_map, show decide ((((allOf rs).length : Nat) : Int) > 100) = decide (100 < (allOf rs).length) from gt _ 100]
  by_cases k6 : 100 < (allOf rs).length
  · rw [decide_eq_true k6] at em ⊢
    exact iteT (qq _ _ (by rw [em]; rfl) s15)
  rw [decide_eq_false k6] at em ⊢
  refine iteF ?_
  refine ⟨_, rfl, c, _, rfl, .inl (SqL.of (s15 _ _ hc)), _, _, rfl, rfl, ?_⟩
  rw [lcb]
  show Q (.bl (decide (((bs.length : Nat) : Int) > 30))) H5
  rw [show decide (((bs.length : Nat) : Int) > 30) = decide (30 < bs.length) from gt _ 30]
  exact qq _ _ (by rw [em]; rfl) s15
end
end Pa
set_option maxHeartbeats 4000000
namespace Pa
open PySem PySem.Spec PyProof.Rows L2 Ty Se
/-! ### the law's own look at names: the first fault of kinds, of rules and their labels -/
def NoV (H : Hp) (v : V) : Option No → Prop
  | none => v = .non
  | some e => ∃ p, v = .ref p ∧ H p = some (.lst [.str e.1, oV e.2])
def nameDue (ks : Kds) (rs : Rls) : Option No := match kindE [] ks with
  | some e => some e
  | none => ruleE (ks.map (·.1)) [] rs
def spND : Sp := fun vs H Q _ => ∃ (a b : Addr) (W : Wor), vs = [.ref a, .ref b] ∧ KL H a W.ks ∧ RL H b W.rs ∧ WF W ∧ ∀ v H', NoV H' v (nameDue W.ks W.rs) → Same H H' → Q v H'
abbrev nND : List Str := ["kinds", "rules", "met", "one", "pattern", "skipped", "labels", "head", "some", "label", "row", "first"]
theorem scND : FnScope nND ["kinds", "rules"] (defScope lNameDue) := ⟨rfl, rfl, rfl, by decide +kernel, rfl, by decide +kernel, by decide +kernel⟩
section
variable {P : Program} {w : World} {K : PySem.W.Frag} {mg : Str → Option Value} {base : Heap} {f g g2 : Addr} {fd gd gd2 : FuncData}
theorem ok_namedue (F : Fun K "_law_name_due" "_law_name_due" lNameDue f fd)
    (GN : FnOk P w K mg base CX0 1 g gd ["text"] (spB fun x => !nameP x)) (bN : Binds K gd ["text"] []) (kN' : PySem.W.keepIn K (.ref g) = true) (mN : mg "_law_none" = some (.ref g))
    (GB : FnOk P w K mg base CX0 15 g2 gd2 ["pattern"] (spBare 14)) (bB : Binds K gd2 ["pattern"] []) (kB : PySem.W.keepIn K (.ref g2) = true) (mB : mg "_law_bare" = some (.ref g2))
    (ml : mg "len" = none) (mi : mg "int" = none) :
    FnOk P w K mg base CX0 16 f fd ["kinds", "rules"] spND := by
  refine F.ok scND (fun vs H Q E h => ?_) (fun cdv A outer s0 H vs Q E hr h => ?_)
  · obtain ⟨_, _, _, rfl, _⟩ := h
    rfl
  have hu := hr.units
  have GN' := GN.mono (show 1 ≤ 15 by decide)
  obtain ⟨a, b, ⟨ks, rs, st, bs⟩, rfl, ⟨ka, ha, pa⟩, ⟨rb, hb, pb⟩, hF, q⟩ := h
  refine ⟨_, pss_cons (ps_set (i := 2) scND.nd rfl (.inl rfl) (pe_lst pa_nil))
    (pss_cons (ps_for PassesOwn.never rfl (pi_list (pv 0)) (pg_tup rfl (pgs_cons (pg_name (i := 3) scND.nd rfl (Or.inl rfl)) (pgs_cons (pg_name (i := 4) scND.nd rfl (Or.inl rfl)) (pgs_cons (pg_name (i := 5) scND.nd rfl (Or.inl rfl)) pgs_nil))))
      (pss_cons (ps_if (PW.pt (pw_or (pt_val (pe_call GN' hr rfl mN kN' bN .nil pass0 (pa_cons (pv 3) pa_nil))) (pw_or (pt_cmpR op_in_seq (pv 3) (pv 2) rfl) (pw_or1 (pt_val (pe_call GB hr rfl mB kB bB .nil pass0 (pa_cons (pv 4) pa_nil)))))))
        (pss_one (ps_ret (pe_lst (pa_cons (pe_ifExp (PW.pt (pw_or (pt_val (pe_call GN' hr rfl mN kN' bN .nil pass0 (pa_cons (pv 3) pa_nil))) (pw_or1 (pt_cmpR op_in_seq (pv 3) (pv 2) rfl)))) (pe_ix ix_list (pe_lst (pa_cons pe_str (pa_cons pe_str pa_nil))) (pe_callTy call_int1 rfl mi (by decide +kernel) (pa_cons (pe_call GN' hr rfl mN kN' bN .nil pass0 (pa_cons (pv 3) pa_nil)) pa_nil)) (fun _ _ => rfl)) pe_str) (pa_cons (pv 3) pa_nil))))) pss_nil)
      (pss_one (ps_expr (pe_bm PySem.F.plainAttrs_list PySem.F.slot_list_append PySem.F.type_list_append mt_append (pv 2) (pa_cons (pv 3) pa_nil))))))
    (pss_cons (ps_set (i := 6) scND.nd rfl (.inl rfl) (pe_lst pa_nil))
    (pss_cons (ps_for PassesOwn.never rfl (pi_list (pv 1)) (pg_tup rfl (pgs_cons (pg_name (i := 7) scND.nd rfl (Or.inl rfl)) (pgs_cons (pg_name (i := 8) scND.nd rfl (Or.inl rfl)) pgs_nil)))
      (pss_cons (ps_if (PW.pt (pw_or (pt_val (pe_call GN' hr rfl mN kN' bN .nil pass0 (pa_cons (pv 7) pa_nil))) (pw_or (pt_cmpR op_in_seq (pv 7) (pv 2) rfl) (pw_or1 (pt_cmpR (op_eqL0 hu) (pv 8) (pe_lst pa_nil) (nomark _))))))
        (pss_one (ps_ret (pe_lst (pa_cons (pe_ifExp (PW.pt (pw_or (pt_val (pe_call GN' hr rfl mN kN' bN .nil pass0 (pa_cons (pv 7) pa_nil))) (pw_or1 (pt_cmpR op_in_seq (pv 7) (pv 2) rfl)))) (pe_ix ix_list (pe_lst (pa_cons pe_str (pa_cons pe_str pa_nil))) (pe_callTy call_int1 rfl mi (by decide +kernel) (pa_cons (pe_call GN' hr rfl mN kN' bN .nil pass0 (pa_cons (pv 7) pa_nil)) pa_nil)) (fun _ _ => rfl)) pe_str) (pa_cons (pv 7) pa_nil))))) pss_nil)
      (pss_cons (ps_expr (pe_bm PySem.F.plainAttrs_list PySem.F.slot_list_append PySem.F.type_list_append mt_append (pv 2) (pa_cons (pv 7) pa_nil)))
      (pss_one (ps_for PassesOwn.never rfl (pi_list (pv 8)) (pg_tup rfl (pgs_cons (pg_name (i := 9) scND.nd rfl (Or.inl rfl)) (pgs_cons (pg_name (i := 10) scND.nd rfl (Or.inl rfl)) pgs_nil)))
        (pss_cons (ps_if (PW.pt (pw_or (pt_val (pe_call GN' hr rfl mN kN' bN .nil pass0 (pa_cons (pv 9) pa_nil))) (pw_or (pt_cmpR op_in_seq (pv 9) (pv 6) rfl) (pw_or1 (pt_cmpR op_gt (pe_callB call_len_seq rfl ml PySem.boot_len (pa_cons (pv 10) pa_nil)) pe_int (nomark _))))))
          (pss_cons (ps_set (i := 11) scND.nd rfl (.inl rfl) (pe_ix ix_list (pe_lst (pa_cons pe_str (pa_cons pe_str pa_nil))) (pe_callTy call_int1 rfl mi (by decide +kernel) (pa_cons (pe_call GN' hr rfl mN kN' bN .nil pass0 (pa_cons (pv 9) pa_nil)) pa_nil)) (fun _ _ => rfl)))
          (pss_one (ps_ret (pe_lst (pa_cons (pe_ifExp (PW.pt (pw_or (pt_val (pe_call GN' hr rfl mN kN' bN .nil pass0 (pa_cons (pv 9) pa_nil))) (pw_or1 (pt_cmpR op_in_seq (pv 9) (pv 6) rfl)))) (pv 11) pe_str) (pa_cons (pv 9) pa_nil)))))) pss_nil)
        (pss_one (ps_expr (pe_bm PySem.F.plainAttrs_list PySem.F.slot_list_append PySem.F.type_list_append mt_append (pv 6) (pa_cons (pv 9) pa_nil))))))))))
    (pss_one (ps_ret pe_non))))), ?_⟩
  have q0 : nameDue ks rs = none → ∀ H', Same H H' → Q .non H' := fun e H' s => q .non H' (by show NoV H' .non (nameDue ks rs); rw [e]; rfl) s
  have q1 : ∀ e, nameDue ks rs = some e → ∀ p H', H' p = some (.lst [.str e.1, oV e.2]) → Same H H' → Q (.ref p) H' := fun e he p H' hp s => q (.ref p) H' (by show NoV H' (.ref p) (nameDue ks rs); rw [he]; exact ⟨p, rfl, hp⟩) s
  clear q
  have lka : ka.length = ks.length := Paired.length pa
  have lrb : rb.length = rs.length := Paired.length pb
  have zk : ks.length ≤ 1000 := hF.kl
  have zr : rs.length ≤ 10000 := hF.rl
  have za : (altsOf rs).length ≤ 60000 := hF.al
  refine ⟨(by show 0 ≤ sizeLine; decide), fun m hm => ?_⟩
  have s1 := same_new hm (.lst [])
  have em : (upd H m (.lst [])) m = some (.lst []) := upd_same
  generalize upd H m (.lst []) = H1 at s1 em ⊢
  refine ⟨_, rfl, a, rfl, ⟨_, SqL.of (s1 _ _ ha)⟩, ?_⟩
  refine for_list (K := K) (xs := ka) (fun i σ H' => ∃ x3 x4 x5, σ = [some (.ref a), some (.ref b), some (.ref m), x3, x4, x5, none, none, none, none, none, none] ∧ H' m = some (.lst (((ks.take i).map (·.1)).map V.str)) ∧ Same H H' ∧ kindE [] ks = kindE ((ks.take i).map (·.1)) (ks.drop i))
    ⟨_, _, _, rfl, em, s1, rfl⟩ (fun i σ H' _ h => by obtain ⟨_, _, _, _, _, k, _⟩ := h; exact SqL.of (k _ _ ha)) (fun i v σ H' hv h => ?turn) (fun σ H' h => ?rest)
  case turn =>
    obtain ⟨x3, x4, x5, rfl, e1, sS, ek⟩ := h
    obtain ⟨⟨n, p, sk⟩, hki, ⟨ra, u, rfl, h1, h2⟩⟩ := paired_get pa i v hv
    have hi : i < ks.length := (List.getElem?_eq_some_iff.mp hki).1
    have kok := hF.k _ (List.mem_of_getElem? hki)
    have hnl : n.length ≤ 16000000 := by have := kok.1.1; show n.length ≤ _; have h : n.length ≤ 9 := this; omega
    have hdrop : ks.drop i = (n, p, sk) :: ks.drop (i + 1) := by
      rw [List.drop_eq_getElem_cons hi]
      congr 1
      rw [List.getElem?_eq_getElem hi] at hki
      exact Option.some.inj hki
    have htk : ks.take (i + 1) = ks.take i ++ [(n, p, sk)] := by rw [List.take_add_one, hki]; rfl
    rw [hdrop] at ek
    have ea : kindE ((ks.take i).map (·.1)) ((n, p, sk) :: ks.drop (i + 1)) = if nameP n = false then some (("name" : Str), some n) else if n ∈ (ks.take i).map (·.1) then some (("twice" : Str), some n) else if bareP p = true then some (("empty" : Str), some n) else kindE ((ks.take i).map (·.1) ++ [n]) (ks.drop (i + 1)) := rfl
    rw [ea] at ek
    have nd : ∀ e, kindE [] ks = some e → nameDue ks rs = some e := fun e h => by unfold nameDue; rw [h]
    refine ⟨ra, _, rfl, SqT.of (sS _ _ h1), rfl, _, _, rfl, _, _, rfl, _, _, rfl, rfl, ?_⟩
    refine ⟨_, rfl, n, rfl, hnl, fun Ha sa => ⟨_, rfl, ?_⟩⟩
    have sA := sS.trans sa
    by_cases hn : nameP n = false
    · rw [if_pos hn] at ek
      have hv : (!nameP n) = true := by rw [hn]; rfl
      have hat : atI [V.str "twice", V.str "name"] (if (!nameP n) = true then 1 else 0) = some (.str "name") := by rw [if_pos hv]; rfl
      refine ifT hv (iteT ?_)
      refine ⟨_, rfl, n, rfl, hnl, fun Hb sb => ⟨_, rfl, ifT hv (iteT ?_)⟩⟩
      refine ⟨(by show 2 ≤ sizeLine; decide), fun r1 hr1 => ?_⟩
      have w1 := same_new hr1 (.lst [.str "twice", .str "name"])
      refine ⟨_, rfl, n, rfl, hnl, fun Hc sc => .inr ⟨_, rfl, r1, _, _, _, rfl, rfl, SqL.of (sc _ _ upd_same), hat, _, rfl, (by show 2 ≤ sizeLine; decide), fun r2 hr2 => ?_⟩⟩
      exact q1 _ (nd _ ek) r2 _ upd_same (sA.trans (sb.trans (w1.trans (sc.trans (same_new hr2 _)))))
    rw [if_neg hn] at ek
    have hv : (!nameP n) = false := by
      cases h : nameP n with
      | true => rfl
      | false => exact absurd h hn
    have hat : atI [V.str "twice", V.str "name"] (if (!nameP n) = true then 1 else 0) = some (.str "twice") := by rw [if_neg (by rw [hv]; decide)]; rfl
    refine ifF hv ?_
    refine ⟨_, rfl, _, rfl, m, _, rfl, .inl (SqL.of (sa _ _ e1)), rfl, all_flat _, _, rfl, ?_⟩
    rw [if_neg Bool.false_ne_true, inV_strs]
    by_cases hm1 : n ∈ (ks.take i).map (·.1)
    · rw [if_pos hm1] at ek
      refine ifT (decide_eq_true hm1) (iteT ?_)
      refine ⟨_, rfl, n, rfl, hnl, fun Hb sb => ⟨_, rfl, ifF hv ?_⟩⟩
      refine ⟨_, rfl, _, rfl, m, _, rfl, .inl (SqL.of (sb _ _ (sa _ _ e1))), rfl, all_flat _, _, rfl, ?_⟩
      rw [if_neg Bool.false_ne_true, inV_strs]
      refine ifT (decide_eq_true hm1) ?_
      refine ⟨(by show 2 ≤ sizeLine; decide), fun r1 hr1 => ?_⟩
      have w1 := same_new hr1 (.lst [.str "twice", .str "name"])
      refine ⟨_, rfl, n, rfl, hnl, fun Hc sc => .inr ⟨_, rfl, r1, _, _, _, rfl, rfl, SqL.of (sc _ _ upd_same), hat, _, rfl, (by show 2 ≤ sizeLine; decide), fun r2 hr2 => ?_⟩⟩
      exact q1 _ (nd _ ek) r2 _ upd_same (sA.trans (sb.trans (w1.trans (sc.trans (same_new hr2 _)))))
    rw [if_neg hm1] at ek
    refine ifF (decide_eq_false hm1) ?_
    refine ⟨_, rfl, u, p, rfl, h2.tk (Tk.of_same sA), kok.2.2.2, fun Hb sb => ⟨_, rfl, ?_⟩⟩
    have sB := sA.trans sb
    by_cases hbp : bareP p = true
    · rw [if_pos hbp] at ek
      refine ifT hbp ?_
      refine ⟨_, rfl, n, rfl, hnl, fun Hc sc => ⟨_, rfl, ifF hv ?_⟩⟩
      refine ⟨_, rfl, _, rfl, m, _, rfl, .inl (SqL.of (sc _ _ (sb _ _ (sa _ _ e1)))), rfl, all_flat _, _, rfl, ?_⟩
      rw [if_neg Bool.false_ne_true, inV_strs]
      refine ifF (decide_eq_false hm1) ?_
      refine ⟨_, rfl, (by show 2 ≤ sizeLine; decide), fun r2 hr2 => ?_⟩
      exact q1 _ (nd _ ek) r2 _ upd_same (sB.trans (sc.trans (same_new hr2 _)))
    rw [if_neg hbp] at ek
    refine ifF (by cases h : bareP p with
      | true => exact absurd h hbp
      | false => rfl) ?_
    have e1' := sb _ _ (sa _ _ e1)
    refine ⟨_, rfl, .inl ⟨rfl, _, SqL.of e1'⟩, _, rfl, m, _, _, rfl, rfl, e1', by rw [List.length_map, List.length_map, List.length_take, sizeLine_eq]; omega, ?_⟩
    refine ⟨_, _, _, rfl, ?_, same_upd sB hm, ?_⟩
    · rw [upd_same, htk, List.map_append, List.map_append]; rfl
    · rw [ek, htk, List.map_append]; rfl
  obtain ⟨x3, x4, x5, rfl, e1, sS, ek⟩ := h
  rw [lka, List.take_length] at e1
  rw [lka, List.take_length, List.drop_length] at ek
  have ek : kindE [] ks = none := ek
  have nd : nameDue ks rs = ruleE (ks.map (·.1)) [] rs := by unfold nameDue; rw [ek]
  refine ⟨(by show 0 ≤ sizeLine; decide), fun l hl => ?_⟩
  have s2 := same_new hl (.lst [])
  have el : (upd H' l (.lst [])) l = some (.lst []) := upd_same
  have e1' := s2 _ _ e1
  have lm : l ≠ m := fun e => by rw [e, e1] at hl; cases hl
  have hlH : H l = none := new_of sS hl
  generalize upd H' l (.lst []) = H2 at s2 el e1' ⊢
  refine ⟨_, rfl, b, rfl, ⟨_, SqL.of (s2 _ _ (sS _ _ hb))⟩, ?_⟩
  refine for_list (K := K) (xs := rb) (fun i σ H' => ∃ x3 x4 x5 x7 x8 x9 x10, σ = [some (.ref a), some (.ref b), some (.ref m), x3, x4, x5, some (.ref l), x7, x8, x9, x10, none] ∧ H' m = some (.lst ((ks.map (·.1) ++ (rs.take i).map (·.1)).map V.str)) ∧ H' l = some (.lst (((altsOf (rs.take i)).map (·.1)).map V.str)) ∧ Same H H' ∧ ruleE (ks.map (·.1)) [] rs = ruleE (ks.map (·.1) ++ (rs.take i).map (·.1)) ((altsOf (rs.take i)).map (·.1)) (rs.drop i))
    ⟨_, _, _, _, _, _, _, rfl, by rw [show rs.take 0 = [] from rfl, List.map_nil, List.append_nil]; exact e1', el, sS.trans s2, by rw [show rs.take 0 = [] from rfl, List.map_nil, List.append_nil]; rfl⟩ (fun i σ H' _ h => by obtain ⟨_, _, _, _, _, _, _, _, _, _, k, _⟩ := h; exact SqL.of (k _ _ hb)) (fun i v σ H' hv h => ?turn2) (fun σ H' h => ?rest2)
  case rest2 =>
    obtain ⟨x3, x4, x5, x7, x8, x9, x10, rfl, e1, e2, sS, er⟩ := h
    rw [lrb, List.drop_length] at er
    exact q0 (by rw [nd, er]; rfl) _ sS
  obtain ⟨x3, x4, x5, x7, x8, x9, x10, rfl, e1, e2, sS, er⟩ := h
  obtain ⟨⟨n, as⟩, hri, ⟨ra, ab, xs, rfl, h1, h2, _, h3⟩⟩ := paired_get pb i v hv
  have hi : i < rs.length := (List.getElem?_eq_some_iff.mp hri).1
  have rok := hF.r _ (List.mem_of_getElem? hri)
  have hnl : n.length ≤ 16000000 := by have h : n.length ≤ 9 := rok.1.1; omega
  have lxs : xs.length = as.length := Paired.length h3
  have hdrop : rs.drop i = (n, as) :: rs.drop (i + 1) := by
    rw [List.drop_eq_getElem_cons hi]
    congr 1
    rw [List.getElem?_eq_getElem hi] at hri
    exact Option.some.inj hri
  have htk : rs.take (i + 1) = rs.take i ++ [(n, as)] := by rw [List.take_add_one, hri]; rfl
  rw [hdrop] at er
  have ea : ruleE (ks.map (·.1) ++ (rs.take i).map (·.1)) ((altsOf (rs.take i)).map (·.1)) ((n, as) :: rs.drop (i + 1)) = if nameP n = false then some (("name" : Str), some n) else if n ∈ ks.map (·.1) ++ (rs.take i).map (·.1) then some (("twice" : Str), some n) else if as = [] then some (("bare" : Str), some n) else
    match altE ((altsOf (rs.take i)).map (·.1)) as with
    | some e => some e
    | none => ruleE (ks.map (·.1) ++ (rs.take i).map (·.1) ++ [n]) ((altsOf (rs.take i)).map (·.1) ++ as.map (·.1)) (rs.drop (i + 1)) := rfl
  rw [ea] at er
  have zal : (altsOf (rs.take i)).length + as.length ≤ 60000 := by
    have : (altsOf (rs.take (i + 1))).length ≤ (altsOf rs).length := by
      have e := List.take_append_drop (i + 1) rs
      have : altsOf rs = altsOf (rs.take (i + 1)) ++ altsOf (rs.drop (i + 1)) := by
        show _ = List.flatMap _ _ ++ List.flatMap _ _
        rw [← List.flatMap_append, e]
      rw [this, List.length_append]; omega
    rw [htk, show altsOf (rs.take i ++ [(n, as)]) = altsOf (rs.take i) ++ as by show List.flatMap _ _ = _; rw [List.flatMap_append]; simp, List.length_append] at this
    omega
  have nd' : ∀ e, ruleE (ks.map (·.1)) [] rs = some e → nameDue ks rs = some e := fun e h => by rw [nd, h]
  refine ⟨ra, _, rfl, SqT.of (sS _ _ h1), rfl, _, _, rfl, _, _, rfl, rfl, ?_⟩
  refine ⟨_, rfl, n, rfl, hnl, fun Ha sa => ⟨_, rfl, ?_⟩⟩
  have sA := sS.trans sa
  by_cases hn : nameP n = false
  · rw [if_pos hn] at er
    have hv : (!nameP n) = true := by rw [hn]; rfl
    have hat : atI [V.str "twice", V.str "name"] (if (!nameP n) = true then 1 else 0) = some (.str "name") := by rw [if_pos hv]; rfl
    refine ifT hv (iteT ?_)
    refine ⟨_, rfl, n, rfl, hnl, fun Hb sb => ⟨_, rfl, ifT hv (iteT ?_)⟩⟩
    refine ⟨(by show 2 ≤ sizeLine; decide), fun r1 hr1 => ?_⟩
    have w1 := same_new hr1 (.lst [.str "twice", .str "name"])
    refine ⟨_, rfl, n, rfl, hnl, fun Hc sc => .inr ⟨_, rfl, r1, _, _, _, rfl, rfl, SqL.of (sc _ _ upd_same), hat, _, rfl, (by show 2 ≤ sizeLine; decide), fun r2 hr2 => ?_⟩⟩
    exact q1 _ (nd' _ er) r2 _ upd_same (sA.trans (sb.trans (w1.trans (sc.trans (same_new hr2 _)))))
  rw [if_neg hn] at er
  have hv : (!nameP n) = false := by
    cases h : nameP n with
    | true => rfl
    | false => exact absurd h hn
  have hat : atI [V.str "twice", V.str "name"] (if (!nameP n) = true then 1 else 0) = some (.str "twice") := by rw [if_neg (by rw [hv]; decide)]; rfl
  refine ifF hv ?_
  refine ⟨_, rfl, _, rfl, m, _, rfl, .inl (SqL.of (sa _ _ e1)), rfl, all_flat _, _, rfl, ?_⟩
  rw [if_neg Bool.false_ne_true, inV_strs]
  by_cases hm1 : n ∈ ks.map (·.1) ++ (rs.take i).map (·.1)
  · rw [if_pos hm1] at er
    refine ifT (decide_eq_true hm1) (iteT ?_)
    refine ⟨_, rfl, n, rfl, hnl, fun Hb sb => ⟨_, rfl, ifF hv ?_⟩⟩
    refine ⟨_, rfl, _, rfl, m, _, rfl, .inl (SqL.of (sb _ _ (sa _ _ e1))), rfl, all_flat _, _, rfl, ?_⟩
    rw [if_neg Bool.false_ne_true, inV_strs]
    refine ifT (decide_eq_true hm1) ?_
    refine ⟨(by show 2 ≤ sizeLine; decide), fun r1 hr1 => ?_⟩
    have w1 := same_new hr1 (.lst [.str "twice", .str "name"])
    refine ⟨_, rfl, n, rfl, hnl, fun Hc sc => .inr ⟨_, rfl, r1, _, _, _, rfl, rfl, SqL.of (sc _ _ upd_same), hat, _, rfl, (by show 2 ≤ sizeLine; decide), fun r2 hr2 => ?_⟩⟩
    exact q1 _ (nd' _ er) r2 _ upd_same (sA.trans (sb.trans (w1.trans (sc.trans (same_new hr2 _)))))
  rw [if_neg hm1] at er
  refine ifF (decide_eq_false hm1) ?_
  refine ⟨_, rfl, (by show 0 ≤ sizeLine; decide), fun p0 hp0 => ⟨ab, p0, xs, rfl, rfl, same_new hp0 _ _ _ (sA _ _ h2), upd_same, _, rfl, ?_⟩⟩
  have w0 := same_new hp0 (.lst [])
  have sB := sA.trans w0
  have eB := w0 _ _ (sa _ _ e1)
  have elB := w0 _ _ (sa _ _ e2)
  generalize upd Ha p0 (.lst []) = Hb at w0 sB eB elB ⊢
  by_cases hne : as = []
  · rw [if_pos hne] at er
    have hemp : (if false = true then !xs.isEmpty else xs.isEmpty) = true := by
      rw [hne] at lxs
      rw [List.length_eq_zero_iff.mp lxs]; rfl
    refine ifT hemp ?_
    refine ⟨_, rfl, n, rfl, hnl, fun Hc sc => ⟨_, rfl, ifF hv ?_⟩⟩
    refine ⟨_, rfl, _, rfl, m, _, rfl, .inl (SqL.of (sc _ _ eB)), rfl, all_flat _, _, rfl, ?_⟩
    rw [if_neg Bool.false_ne_true, inV_strs]
    refine ifF (decide_eq_false hm1) ?_
    refine ⟨_, rfl, (by show 2 ≤ sizeLine; decide), fun r2 hr2 => ?_⟩
    exact q1 _ (nd' _ er) r2 _ upd_same (sB.trans (sc.trans (same_new hr2 _)))
  rw [if_neg hne] at er
  have hemp : (if false = true then !xs.isEmpty else xs.isEmpty) = false := by
    cases xs with
    | nil => exact absurd (List.length_eq_zero_iff.mp lxs.symm) hne
    | cons _ _ => rfl
  refine ifF hemp ?_
  refine ⟨_, rfl, .inl ⟨rfl, _, SqL.of eB⟩, _, rfl, m, _, _, rfl, rfl, eB, by rw [List.length_map, List.length_append, List.length_map, List.length_map, List.length_take, sizeLine_eq]; omega, ?_⟩
  have f1 : (upd Hb m (.lst ((ks.map (·.1) ++ (rs.take i).map (·.1)).map V.str ++ [.str n]))) m = some (.lst ((ks.map (·.1) ++ (rs.take (i + 1)).map (·.1)).map V.str)) := by
    rw [upd_same, htk, List.map_append (l₂ := [(n, as)]), ← List.append_assoc, List.map_append (l₂ := [(n, as)].map _)]; rfl
  have f2 : (upd Hb m (.lst ((ks.map (·.1) ++ (rs.take i).map (·.1)).map V.str ++ [.str n]))) l = some (.lst (((altsOf (rs.take i)).map (·.1)).map V.str)) := by rw [upd_ne lm]; exact elB
  have sC : Same H (upd Hb m (.lst ((ks.map (·.1) ++ (rs.take i).map (·.1)).map V.str ++ [.str n]))) := same_upd sB hm
  generalize upd Hb m (.lst ((ks.map (·.1) ++ (rs.take i).map (·.1)).map V.str ++ [.str n])) = Hc at f1 f2 sC ⊢
  refine ⟨_, rfl, ab, rfl, ⟨_, SqL.of (sC _ _ h2)⟩, ?_⟩
  refine for_list (K := K) (xs := xs) (fun t σ H' => ∃ x9 x10, σ = [some (.ref a), some (.ref b), some (.ref m), x3, x4, x5, some (.ref l), some (.str n), some (.ref ab), x9, x10, none] ∧ H' m = some (.lst ((ks.map (·.1) ++ (rs.take (i + 1)).map (·.1)).map V.str)) ∧ H' l = some (.lst (((altsOf (rs.take i) ++ as.take t).map (·.1)).map V.str)) ∧ Same H H' ∧ altE ((altsOf (rs.take i)).map (·.1)) as = altE ((altsOf (rs.take i) ++ as.take t).map (·.1)) (as.drop t))
    ⟨_, _, rfl, f1, by rw [List.take_zero, List.append_nil]; exact f2, sC, by rw [List.take_zero, List.append_nil]; rfl⟩ (fun t σ H' _ h => by obtain ⟨_, _, _, _, _, k, _⟩ := h; exact SqL.of (k _ _ h2)) (fun t v σ H' hv h => ?turn3) (fun σ H' h => ?rest3)
  case rest3 =>
    obtain ⟨x9, x10, rfl, e1, e2, sS, ea5⟩ := h
    rw [lxs, List.take_length] at e2
    rw [lxs, List.drop_length, show altE _ [] = none from rfl] at ea5
    rw [ea5] at er
    have eal : altsOf (rs.take (i + 1)) = altsOf (rs.take i) ++ as := by rw [htk]; show List.flatMap _ _ = _; rw [List.flatMap_append]; simp
    refine ⟨_, _, _, _, _, _, _, rfl, e1, by rw [eal]; exact e2, sS, ?_⟩
    rw [er, eal, htk, List.map_append, List.map_append, List.append_assoc]
    rfl
  obtain ⟨x9, x10, rfl, e1, e2, sS, ea5⟩ := h
  obtain ⟨⟨lb, row⟩, haj, ⟨ra2, rb2, rfl, g1, g2⟩⟩ := paired_get h3 t v hv
  have ht : t < as.length := (List.getElem?_eq_some_iff.mp haj).1
  have aok := rok.2.2 _ (List.mem_of_getElem? haj)
  have hnl : lb.length ≤ 16000000 := by have h : lb.length ≤ 9 := aok.1.1; omega
  have hd2 : as.drop t = (lb, row) :: as.drop (t + 1) := by
    rw [List.drop_eq_getElem_cons ht]
    congr 1
    rw [List.getElem?_eq_getElem ht] at haj
    exact Option.some.inj haj
  have ht2 : as.take (t + 1) = as.take t ++ [(lb, row)] := by rw [List.take_add_one, haj]; rfl
  rw [hd2] at ea5
  have ea6 : altE ((altsOf (rs.take i) ++ as.take t).map (·.1)) ((lb, row) :: as.drop (t + 1)) = if nameP lb = false then some (("label" : Str), some lb) else if lb ∈ (altsOf (rs.take i) ++ as.take t).map (·.1) then some (("again" : Str), some lb) else if 6 < row.length then some (("long" : Str), some lb) else altE ((altsOf (rs.take i) ++ as.take t).map (·.1) ++ [lb]) (as.drop (t + 1)) := rfl
  rw [ea6] at ea5
  have nd2 : ∀ e, altE ((altsOf (rs.take i)).map (·.1)) as = some e → nameDue ks rs = some e := fun e h => by
    rw [h] at er
    exact nd' _ er
  refine ⟨ra2, _, rfl, SqT.of (sS _ _ g1), rfl, _, _, rfl, _, _, rfl, rfl, ?_⟩
  refine ⟨_, rfl, lb, rfl, hnl, fun Ha sa => ⟨_, rfl, ?_⟩⟩
  have sA := sS.trans sa
  clear hn hv hat hm1
  by_cases hn : nameP lb = false
  · rw [if_pos hn] at ea5
    have hv : (!nameP lb) = true := by rw [hn]; rfl
    have hat : atI [V.str "again", V.str "label"] (if (!nameP lb) = true then 1 else 0) = some (.str "label") := by rw [if_pos hv]; rfl
    refine ifT hv (iteT ?_)
    refine ⟨(by show 2 ≤ sizeLine; decide), fun r1 hr1 => ?_⟩
    have w1 := same_new hr1 (.lst [.str "again", .str "label"])
    refine ⟨_, rfl, lb, rfl, hnl, fun Hc sc => .inr ⟨_, rfl, r1, _, _, _, rfl, rfl, SqL.of (sc _ _ upd_same), hat, ?_⟩⟩
    refine ⟨_, rfl, lb, rfl, hnl, fun Hd sd => ⟨_, rfl, ifT hv (iteT ?_)⟩⟩
    refine ⟨_, rfl, _, rfl, (by show 2 ≤ sizeLine; decide), fun r2 hr2 => ?_⟩
    exact q1 _ (nd2 _ ea5) r2 _ upd_same (sA.trans (w1.trans (sc.trans (sd.trans (same_new hr2 _)))))
  rw [if_neg hn] at ea5
  have hv : (!nameP lb) = false := by
    cases h : nameP lb with
    | true => rfl
    | false => exact absurd h hn
  have hat : atI [V.str "again", V.str "label"] (if (!nameP lb) = true then 1 else 0) = some (.str "again") := by rw [if_neg (by rw [hv]; decide)]; rfl
  refine ifF hv ?_
  have e2a := sa _ _ e2
  refine ⟨_, rfl, _, rfl, l, _, rfl, .inl (SqL.of e2a), rfl, all_flat _, _, rfl, ?_⟩
  rw [if_neg Bool.false_ne_true, inV_strs]
  by_cases hm1 : lb ∈ (altsOf (rs.take i) ++ as.take t).map (·.1)
  · rw [if_pos hm1] at ea5
    refine ifT (decide_eq_true hm1) (iteT ?_)
    refine ⟨(by show 2 ≤ sizeLine; decide), fun r1 hr1 => ?_⟩
    have w1 := same_new hr1 (.lst [.str "again", .str "label"])
    refine ⟨_, rfl, lb, rfl, hnl, fun Hc sc => .inr ⟨_, rfl, r1, _, _, _, rfl, rfl, SqL.of (sc _ _ upd_same), hat, ?_⟩⟩
    refine ⟨_, rfl, lb, rfl, hnl, fun Hd sd => ⟨_, rfl, ifF hv ?_⟩⟩
    have sz := w1.trans (sc.trans sd)
    refine ⟨_, rfl, _, rfl, l, _, rfl, .inl (SqL.of (sz _ _ e2a)), rfl, all_flat _, _, rfl, ?_⟩
    rw [if_neg Bool.false_ne_true, inV_strs]
    refine ifT (decide_eq_true hm1) ?_
    refine ⟨_, rfl, _, rfl, (by show 2 ≤ sizeLine; decide), fun r2 hr2 => ?_⟩
    exact q1 _ (nd2 _ ea5) r2 _ upd_same (sA.trans (sz.trans (same_new hr2 _)))
  rw [if_neg hm1] at ea5
  refine ifF (decide_eq_false hm1) ?_
  refine ⟨_, rfl, rb2, _, rfl, .inr (SqT.of (sA _ _ g2)), _, _, rfl, rfl, _, rfl, ?_⟩
  rw [List.length_map]
  by_cases h6 : 6 < row.length
  · rw [if_pos h6] at ea5
    refine ifT (decide_eq_true (show (6 : Int) < ((row.length : Nat) : Int) by omega)) ?_
    refine ⟨(by show 2 ≤ sizeLine; decide), fun r1 hr1 => ?_⟩
    have w1 := same_new hr1 (.lst [.str "again", .str "label"])
    refine ⟨_, rfl, lb, rfl, hnl, fun Hc sc => .inr ⟨_, rfl, r1, _, _, _, rfl, rfl, SqL.of (sc _ _ upd_same), hat, ?_⟩⟩
    refine ⟨_, rfl, lb, rfl, hnl, fun Hd sd => ⟨_, rfl, ifF hv ?_⟩⟩
    have sz := w1.trans (sc.trans sd)
    refine ⟨_, rfl, _, rfl, l, _, rfl, .inl (SqL.of (sz _ _ e2a)), rfl, all_flat _, _, rfl, ?_⟩
    rw [if_neg Bool.false_ne_true, inV_strs]
    refine ifF (decide_eq_false hm1) ?_
    refine ⟨_, rfl, (by show 2 ≤ sizeLine; decide), fun r2 hr2 => ?_⟩
    exact q1 _ (nd2 _ ea5) r2 _ upd_same (sA.trans (sz.trans (same_new hr2 _)))
  rw [if_neg h6] at ea5
  refine ifF (decide_eq_false (show ¬ (6 : Int) < ((row.length : Nat) : Int) by omega)) ?_
  refine ⟨_, rfl, .inl ⟨rfl, _, SqL.of e2a⟩, _, rfl, l, _, _, rfl, rfl, e2a, by rw [List.length_map, List.length_map, List.length_append, List.length_take, sizeLine_eq]; omega, ?_⟩
  refine ⟨_, _, rfl, by rw [upd_ne (Ne.symm lm)]; exact sa _ _ e1, ?_, same_upd sA hlH, ?_⟩
  · rw [upd_same, ht2, ← List.append_assoc, List.map_append (l₂ := [(lb, row)]), List.map_append (l₂ := [(lb, row)].map _)]; rfl
  · rw [ea5, ht2, ← List.append_assoc, List.map_append (l₂ := [(lb, row)])]; rfl
end
end Pa
set_option maxHeartbeats 4000000
namespace Pa
open PySem PySem.Spec PyProof.Rows L2 Ty Se
/-! ### plain: the law's order of faults and the program's -/
theorem any_skip (s : Str) : ∀ ks : Kds, ((ks.map fun k => PyData.tuple [.str k.1, .bool k.2.2]).any fun z => PyData.eqv z (.tuple [.str s, .bool true])) = decide (s ∈ (ks.filter fun k => k.2.2).map (·.1))
  | [] => rfl
  | (n, p, b) :: ks => by
    rw [List.map_cons, List.any_cons, any_skip s ks]
    cases b with
    | true =>
      rw [List.filter_cons, if_pos rfl, List.map_cons]
      by_cases h : n = s
      · subst h; simp [PyData.eqv, PyData.eqvAll]
      · have h' : ¬ s = n := fun e => h e.symm
        have b1 : (n == s) = false := beq_eq_false_iff_ne.mpr h
        simp [PyData.eqv, PyData.eqvAll, b1, h']
    | false =>
      rw [List.filter_cons, if_neg (by simp)]
      simp [PyData.eqv, PyData.eqvAll]
theorem any_bar (b : Str × Int × Str) : ∀ bs : Brs, ((bs.map brD).any fun z => PyData.eqv z (brD b)) = decide (b ∈ bs)
  | [] => rfl
  | (x, i, y) :: bs => by
    rw [List.map_cons, List.any_cons, any_bar b bs]
    obtain ⟨x', i', y'⟩ := b
    have : PyData.eqv (brD (x, i, y)) (brD (x', i', y')) = decide ((x', i', y') = (x, i, y)) := by
      simp only [brD, PyData.eqv, PyData.eqvAll]
      rw [Bool.eq_iff_iff]
      simp
      constructor
      · rintro ⟨h1, h2, h3⟩; exact ⟨h1.symm, h2.symm, h3.symm⟩
      · rintro ⟨h1, h2, h3⟩; exact ⟨h1.symm, h2.symm, h3.symm⟩
    rw [this]
    simp [List.mem_cons]
theorem alt_nodup : ∀ {as : List (Str × List Str)} {ls : List Str}, altE ls as = none → (as.map (·.1)).Nodup ∧ ∀ a, a ∈ as → a.1 ∉ ls
  | [], _, _ => ⟨.nil, fun a h => by cases h⟩
  | (l, row) :: as, ls, h => by
    have e : altE ls ((l, row) :: as) = if nameP l = false then some (("label" : Str), some l) else if l ∈ ls then some (("again" : Str), some l) else if 6 < row.length then some (("long" : Str), some l) else altE (ls ++ [l]) as := rfl
    rw [e] at h
    by_cases h1 : nameP l = false
    · rw [if_pos h1] at h; cases h
    rw [if_neg h1] at h
    by_cases h2 : l ∈ ls
    · rw [if_pos h2] at h; cases h
    rw [if_neg h2] at h
    by_cases h3 : 6 < row.length
    · rw [if_pos h3] at h; cases h
    rw [if_neg h3] at h
    obtain ⟨i1, i2⟩ := alt_nodup h
    refine ⟨List.nodup_cons.mpr ⟨fun m => ?_, i1⟩, fun k hk => ?_⟩
    · obtain ⟨k, hk, e⟩ := List.mem_map.mp m
      exact i2 k hk (by rw [e]; simp)
    · rcases List.mem_cons.mp hk with e | hk
      · rw [e]; exact h2
      · exact fun m => i2 k hk (List.mem_append_left _ m)
theorem rule_nodup : ∀ {rs : Rls} {met ls : List Str}, ruleE met ls rs = none → ((rs.map (·.1)).Nodup ∧ ∀ r, r ∈ rs → r.1 ∉ met) ∧ (((altsOf rs).map (·.1)).Nodup ∧ ∀ a, a ∈ altsOf rs → a.1 ∉ ls)
  | [], _, _, _ => ⟨⟨.nil, fun a h => by cases h⟩, .nil, fun a h => by cases h⟩
  | (n, as) :: rs, met, ls, h => by
    have e : ruleE met ls ((n, as) :: rs) = if nameP n = false then some (("name" : Str), some n) else if n ∈ met then some (("twice" : Str), some n) else if as = [] then some (("bare" : Str), some n) else
      match altE ls as with
      | some e => some e
      | none => ruleE (met ++ [n]) (ls ++ as.map (·.1)) rs := rfl
    rw [e] at h
    by_cases h1 : nameP n = false
    · rw [if_pos h1] at h; cases h
    rw [if_neg h1] at h
    by_cases h2 : n ∈ met
    · rw [if_pos h2] at h; cases h
    rw [if_neg h2] at h
    by_cases h3 : as = []
    · rw [if_pos h3] at h; cases h
    rw [if_neg h3] at h
    cases h4 : altE ls as with
    | some e => rw [h4] at h; cases h
    | none =>
      rw [h4] at h
      obtain ⟨⟨i1, i2⟩, i3, i4⟩ := rule_nodup h
      obtain ⟨a1, a2⟩ := alt_nodup h4
      have ea : altsOf ((n, as) :: rs) = as ++ altsOf rs := rfl
      refine ⟨⟨List.nodup_cons.mpr ⟨fun m => ?_, i1⟩, fun k hk => ?_⟩, ?_, fun a ha => ?_⟩
      · obtain ⟨k, hk, e⟩ := List.mem_map.mp m
        exact i2 k hk (by rw [e]; simp)
      · rcases List.mem_cons.mp hk with e | hk
        · rw [e]; exact h2
        · exact fun m => i2 k hk (List.mem_append_left _ m)
      · rw [ea, List.map_append]
        refine List.nodup_append.mpr ⟨a1, i3, fun x hx y hy e => ?_⟩
        obtain ⟨b, hb, rfl⟩ := List.mem_map.mp hy
        exact i4 b hb (List.mem_append_right _ (e ▸ hx))
      · rw [ea] at ha
        rcases List.mem_append.mp ha with ha | ha
        · exact a2 a ha
        · exact fun m => i4 a ha (List.mem_append_left _ m)
theorem mem_lookup {β : Type} {s : Str} {b : β} : ∀ {l : List (Str × β)}, (l.map (·.1)).Nodup → (s, b) ∈ l → l.lookup s = some b
  | [], _, h => by cases h
  | (n, c) :: l, hn, h => by
    rw [List.lookup_cons]
    obtain ⟨h1, h2⟩ := List.nodup_cons.mp hn
    rcases List.mem_cons.mp h with e | h
    · obtain ⟨e1, e2⟩ := Prod.mk.inj e
      subst e1; subst e2; simp
    · have : s ≠ n := fun e => h1 (by rw [← e]; exact List.mem_map.mpr ⟨_, h, rfl⟩)
      rw [beq_eq_false_iff_ne.mpr this]
      exact mem_lookup h2 h
/-- the home of a label is the rule under which it stands -/
theorem home_iff {rs : Rls} (h1 : (rs.map (·.1)).Nodup) (h2 : ((altsOf rs).map (·.1)).Nodup) (r0 other : Str) : homeP rs other = some r0 ↔ other ∈ ((rs.lookup r0).getD []).map (·.1) := by
  have hk : ((homesOf rs).map (·.1)).Nodup := by rw [homes_keys]; exact h2
  have eh : homeP rs other = (homesOf rs).lookup other := rfl
  rw [eh]
  constructor
  · intro h
    have m := lookup_mem h
    obtain ⟨r, hr, m⟩ := List.mem_flatMap.mp m
    obtain ⟨a, ha, e⟩ := List.mem_map.mp m
    obtain ⟨e1, e2⟩ := Prod.mk.inj e
    have := mem_lookup (b := r.2) h1 (show (r0, r.2) ∈ rs by rw [← e2]; exact hr)
    rw [this]
    exact List.mem_map.mpr ⟨a, ha, e1⟩
  · intro h
    cases e : rs.lookup r0 with
    | none => rw [e] at h; cases h
    | some as =>
      rw [e] at h
      obtain ⟨a, ha, e1⟩ := List.mem_map.mp h
      refine mem_lookup hk (List.mem_flatMap.mpr ⟨(r0, as), lookup_mem e, List.mem_map.mpr ⟨a, ha, by rw [e1]⟩⟩)
def innerL (rs : Rls) (row : List Str) (place : Int) : List (Str × List Str) := if 1 ≤ place ∧ place ≤ (row.length : Nat) then (rs.lookup ((row[(place - 1).toNat]?).getD "")).getD [] else []
/-- the law's look at a bar is the program's -/
theorem bar_law {rs : Rls} (h1 : (rs.map (·.1)).Nodup) (h2 : ((altsOf rs).map (·.1)).Nodup) {met : Brs} {one other : Str} {place : Int} : (¬ (1 ≤ place ∧ place ≤ ((spelledP rs one).length : Nat)) ∨ (one, place, other) ∈ met ∨ homeP rs other ≠ (spelledP rs one)[(place - 1).toNat]?) ↔
    ((one, place, other) ∈ met ∨ other ∉ (innerL rs (spelledP rs one) place).map (·.1)) := by
  unfold innerL
  by_cases hp : 1 ≤ place ∧ place ≤ ((spelledP rs one).length : Nat)
  · rw [if_pos hp]
    have hlt : (place - 1).toNat < (spelledP rs one).length := by omega
    rw [List.getElem?_eq_getElem hlt, Option.getD_some]
    have := home_iff h1 h2 (spelledP rs one)[(place - 1).toNat] other
    constructor
    · rintro (h | h | h)
      · exact absurd hp h
      · exact .inl h
      · exact .inr fun m => h (this.mpr m)
    · rintro (h | h)
      · exact .inr (.inl h)
      · exact .inr (.inr fun e => h (this.mp e))
  · rw [if_neg hp]
    exact ⟨fun _ => .inr (by simp), fun _ => .inl hp⟩
theorem bar_cons (rs : Rls) (met : Brs) (one other : Str) (place : Int) (bs : Brs) : barE rs met ((one, place, other) :: bs) = if ¬ (1 ≤ place ∧ place ≤ ((spelledP rs one).length : Nat)) ∨ (one, place, other) ∈ met ∨ homeP rs other ≠ (spelledP rs one)[(place - 1).toNat]? then some (("bar" : Str), some one) else barE rs (met ++ [(one, place, other)]) bs := rfl
theorem sym_cons (names heads skips : List Str) (s : Str) (ss : List Str) : symE names heads skips (s :: ss) = if s ∉ names ∧ s ∉ heads then some (("symbol" : Str), some s) else if s ∈ skips then some (("skipped" : Str), some s) else symE names heads skips ss := rfl
theorem rows_all : ∀ rs : Rls, (rowsOf rs).flatten = (allOf rs).flatMap (·.2.2)
  | [] => rfl
  | (n, as) :: rs => by
    have e1 : rowsOf ((n, as) :: rs) = as.map (·.2) ++ rowsOf rs := rfl
    have e2 : allOf ((n, as) :: rs) = as.map (fun a => (n, a.1, a.2)) ++ allOf rs := rfl
    rw [e1, e2, List.flatten_append, List.flatMap_append, rows_all rs]
    congr 1
    clear e1 e2
    induction as with
    | nil => rfl
    | cons a as ih => rw [List.map_cons, List.map_cons, List.flatten_cons, List.flatMap_cons, ih]
end Pa
set_option maxHeartbeats 4000000
namespace Pa
open PySem PySem.Spec PyProof.Rows L2 Ty Se
/-! ### what is due -/
theorem all_snd : ∀ rs : Rls, (allOf rs).map (·.2) = altsOf rs
  | [] => rfl
  | (n, as) :: rs => by
    show ((as.map fun a => (n, a.1, a.2)) ++ allOf rs).map (·.2) = as ++ altsOf rs
    rw [List.map_append, all_snd rs, List.map_map]
    congr 1
    exact List.map_id _
theorem paired_snd {H : Hp} : ∀ {vs : List V} {xs : List (Str × Str × List Str)}, Paired (fun v (x : Str × Str × List Str) => AltV H v x.2) vs xs → Paired (AltV H) vs (xs.map (·.2))
  | _, _, .nil => .nil
  | _, _, .cons h t => .cons h (paired_snd t)
theorem sb_lay {x : Str} {b : Bool} (h : Nm x) : (PyData.tuple [.str x, .bool b]).canLay0 = true ∧ (PyData.tuple [.str x, .bool b]).depth ≤ 1 := by
  refine ⟨?_, by show 1 ≤ 1; decide⟩
  show (PyData.strOk x && (true && true)) = true
  rw [nm_ok h]; rfl
theorem sb_shaped {x : Str} {b : Bool} (h : Nm x) : SeqAt.shaped (PyData.tuple [.str x, .bool b]) = true := shaped_of (sb_lay h).1 (Nat.le_trans (sb_lay h).2 (by decide))
theorem sbs_shaped {ks : Kds} (h : ∀ k, k ∈ ks → Nm k.1) : SeqAt.shaped (.list (ks.map fun k => PyData.tuple [.str k.1, .bool k.2.2])) = true := by
  refine shaped_of (lay_all fun d hd => ?_) ?_
  · obtain ⟨x, hx, rfl⟩ := List.mem_map.mp hd
    exact (sb_lay (h x hx)).1
  · show PyData.depthAll _ + 1 ≤ 64
    have := depth_all (l := ks.map fun k => PyData.tuple [.str k.1, .bool k.2.2]) (n := 1) fun d hd => by
      obtain ⟨x, hx, rfl⟩ := List.mem_map.mp hd
      exact (sb_lay (h x hx)).2
    omega
theorem alts_nodup : ∀ {rs : Rls} {r : Str × List (Str × List Str)}, ((altsOf rs).map (·.1)).Nodup → r ∈ rs → (r.2.map (·.1)).Nodup
  | (n, as) :: rs, r, h, m => by
    have h : ((as ++ altsOf rs).map (·.1)).Nodup := h
    rw [List.map_append] at h
    obtain ⟨h1, h2, _⟩ := List.nodup_append.mp h
    rcases List.mem_cons.mp m with e | m
    · rw [e]; exact h1
    · exact alts_nodup h2 m
theorem inner_nodup {rs : Rls} {row : List Str} {p : Int} (h : ((altsOf rs).map (·.1)).Nodup) : ((innerL rs row p).map (·.1)).Nodup := by
  unfold innerL
  split
  · cases e : rs.lookup ((row[(p - 1).toNat]?).getD "") with
    | none => exact .nil
    | some as => exact alts_nodup h (lookup_mem e)
  · exact .nil
def spDue : Sp := fun vs H Q _ => ∃ (v : V) (W : Wor), vs = [v] ∧ WV H v W ∧ WF W ∧ ∀ v' H', NoV H' v' (gramE W.ks W.rs W.st W.bs) → Same H H' → Q v' H'
abbrev nDu : List Str := ["world", "kinds", "rules", "start", "barred", "due", "names", "heads", "rows", "signs", "head", "label", "row", "sign", "at", "one", "place", "other", "inner", "pattern", "skipped"]
theorem scDu : FnScope nDu ["world"] (defScope lDue) := ⟨rfl, rfl, rfl, by decide +kernel, rfl, by decide +kernel, by decide +kernel⟩
section
variable {P : Program} {w : World} {K : PySem.W.Frag} {mg : Str → Option Value} {base : Heap} {f g g2 g3 : Addr} {fd gd gd2 gd3 : FuncData}
theorem ok_due (F : Fun K "_law_due" "_law_due" lDue f fd)
    (GA : FnOk P w K mg base CX0 1 g gd ["rules"] spAll) (bA : Binds K gd ["rules"] []) (kA : PySem.W.keepIn K (.ref g) = true) (mA : mg "_law_all" = some (.ref g))
    (GM : FnOk P w K mg base CX0 16 g2 gd2 ["world"] spMany) (bM : Binds K gd2 ["world"] []) (kM : PySem.W.keepIn K (.ref g2) = true) (mM : mg "_law_too_many" = some (.ref g2))
    (GD : FnOk P w K mg base CX0 16 g3 gd3 ["kinds", "rules"] spND) (bD : Binds K gd3 ["kinds", "rules"] []) (kD : PySem.W.keepIn K (.ref g3) = true) (mD : mg "_law_name_due" = some (.ref g3))
    (ml : mg "len" = none) (mll : mg "list" = none) (md : mg "dict" = none) (me : mg "enumerate" = none) :
    FnOk P w K mg base CX0 17 f fd ["world"] spDue := by
  refine F.ok scDu (fun vs H Q E h => ?_) (fun cdv A outer s0 H vs Q E hr h => ?_)
  · obtain ⟨_, _, rfl, _⟩ := h
    rfl
  have hu := hr.units
  have hu1 := hu_of hr
  have hu65 : (A.deeper (envOfC "_law_due" (defScope lDue) s0.heap.objs.size f cdv)).units + 65 < cLine := by have := hr.un; omega
  have GA' := GA.mono (show 1 ≤ 16 by decide)
  obtain ⟨v, ⟨ks, rs, st, bs⟩, rfl, ⟨ww, a, b, c, ka, rb, cb, rfl, hw, ha, pa, hb, pb, hc, pc⟩, hF, q⟩ := h
  refine ⟨_, pss_cons (ps_asg (pv 0) (pg_lst rfl (pgs_cons (pg_name (i := 1) scDu.nd rfl (Or.inl rfl)) (pgs_cons (pg_name (i := 2) scDu.nd rfl (Or.inl rfl)) (pgs_cons (pg_name (i := 3) scDu.nd rfl (Or.inl rfl)) (pgs_cons (pg_name (i := 4) scDu.nd rfl (Or.inl rfl)) pgs_nil))))))
    (pss_cons (ps_if (pt_val (pe_call GM hr rfl mM kM bM .nil pass0 (pa_cons (pv 0) pa_nil))) (pss_one (ps_ret (pe_lst (pa_cons pe_str (pa_cons pe_non pa_nil))))) pss_nil)
    (pss_cons (ps_set (i := 5) scDu.nd rfl (.inl rfl) (pe_call GD hr rfl mD kD bD .nil pass0 (pa_cons (pv 1) (pa_cons (pv 2) pa_nil))))
    (pss_cons (ps_if (pt_cmp (pc_notN (pv 5))) (pss_one (ps_ret (pv 5))) pss_nil)
    (pss_cons (ps_setLc (i := 6) (own := [("one", 15), ("pattern", 19), ("skipped", 20)]) (g := gTup K 3 (gCons (gName 15) (gCons (gName 19) (gCons (gName 20) gNil)))) (tt := tYes) rfl scDu.nd rfl rfl (sw_true rfl rfl rfl (by decide +kernel)) (pi_list (pv 1)) (blkOk_by (N := nDu) (sc := defScope lDue) (by decide +kernel)) (fun _ _ _ _ _ => pg_tup rfl (pgs_cons (pg_name (i := 15) scDu.nd rfl (Or.inl rfl)) (pgs_cons (pg_name (i := 19) scDu.nd rfl (Or.inl rfl)) (pgs_cons (pg_name (i := 20) scDu.nd rfl (Or.inl rfl)) pgs_nil)))) (fun _ _ _ _ _ => pts_nil) (fun _ _ _ _ _ => pv 15))
    (pss_cons (ps_set (i := 7) scDu.nd rfl (.inl rfl) (pe_callTy (call_dictP rfl) rfl md (by decide +kernel) (pa_cons (pv 2) pa_nil)))
    (pss_cons (ps_set (i := 8) scDu.nd rfl (.inl rfl) (pe_callTy (call_dictP rfl) rfl md (by decide +kernel) (pa_cons
      (pe_lc (own := [("head", 10), ("label", 11), ("row", 12)]) (g := gTup K 3 (gCons (gName 10) (gCons (gName 11) (gCons (gName 12) gNil)))) (tt := tYes) rfl scDu.nd (pi_list (pe_call GA' hr rfl mA kA bA .nil pass0 (pa_cons (pv 2) pa_nil))) (blkOk_by (N := nDu) (sc := defScope lDue) (by decide +kernel)) (fun _ _ _ _ _ => pg_tup rfl (pgs_cons (pg_name (i := 10) scDu.nd rfl (Or.inl rfl)) (pgs_cons (pg_name (i := 11) scDu.nd rfl (Or.inl rfl)) (pgs_cons (pg_name (i := 12) scDu.nd rfl (Or.inl rfl)) pgs_nil)))) (fun _ _ _ _ _ => pts_nil)
        (fun _ _ _ _ _ => pe_tup (pa_cons (pv 11) (pa_cons (pv 12) pa_nil)))) pa_nil)))
    (pss_cons (ps_set (i := 9) scDu.nd rfl (.inl rfl) (pe_lst pa_nil))
    (pss_cons (ps_for PassesOwn.never rfl (pi_list (pe_call GA' hr rfl mA kA bA .nil pass0 (pa_cons (pv 2) pa_nil))) (pg_tup rfl (pgs_cons (pg_name (i := 10) scDu.nd rfl (Or.inl rfl)) (pgs_cons (pg_name (i := 11) scDu.nd rfl (Or.inl rfl)) (pgs_cons (pg_name (i := 12) scDu.nd rfl (Or.inl rfl)) pgs_nil))))
      (pss_one (ps_expr (pe_bm PySem.F.plainAttrs_list PySem.F.slot_list_extend PySem.F.type_list_extend mt_extend (pv 9) (pa_cons (pe_callTy call_list_of rfl mll (by decide +kernel) (pa_cons (pv 12) pa_nil)) pa_nil)))))
    (pss_cons (ps_for PassesOwn.never rfl (pi_list (pv 9)) (pg_name (i := 13) scDu.nd rfl (Or.inl rfl))
      (pss_cons (ps_if (PW.pt (pw_and (pt_cmpR op_notIn_seq (pv 13) (pv 6) rfl) (pw_and1 (pt_cmp (pc_dnotin hu1 (pv 13) (pv 7)))))) (pss_one (ps_ret (pe_lst (pa_cons pe_str (pa_cons (pv 13) pa_nil))))) pss_nil)
      (pss_one (ps_if (pt_cmpR (op_inD hu65) (pe_tup (pa_cons (pv 13) (pa_cons pe_bl pa_nil)))
          (pe_lc (own := [("one", 15), ("pattern", 19), ("skipped", 20)]) (g := gTup K 3 (gCons (gName 15) (gCons (gName 19) (gCons (gName 20) gNil)))) (tt := tYes) rfl scDu.nd (pi_list (pv 1)) (blkOk_by (N := nDu) (sc := defScope lDue) (by decide +kernel)) (fun _ _ _ _ _ => pg_tup rfl (pgs_cons (pg_name (i := 15) scDu.nd rfl (Or.inl rfl)) (pgs_cons (pg_name (i := 19) scDu.nd rfl (Or.inl rfl)) (pgs_cons (pg_name (i := 20) scDu.nd rfl (Or.inl rfl)) pgs_nil)))) (fun _ _ _ _ _ => pts_nil)
            (fun _ _ _ _ _ => pe_tup (pa_cons (pv 15) (pa_cons (pv 20) pa_nil)))) rfl) (pss_one (ps_ret (pe_lst (pa_cons pe_str (pa_cons (pv 13) pa_nil))))) pss_nil))))
    (pss_cons (ps_if (pt_cmp (pc_dnotin hu1 (pv 3) (pv 7))) (pss_one (ps_ret (pe_lst (pa_cons pe_str (pa_cons (pv 3) pa_nil))))) pss_nil)
    (pss_cons (ps_for PassesOwn.never rfl (pi_enum rfl me (pa_cons (pv 4) pa_nil)) (pg_tup rfl (pgs_cons (pg_name (i := 14) scDu.nd rfl (Or.inl rfl)) (pgs_cons (pg_tup rfl (pgs_cons (pg_name (i := 15) scDu.nd rfl (Or.inl rfl)) (pgs_cons (pg_name (i := 16) scDu.nd rfl (Or.inl rfl)) (pgs_cons (pg_name (i := 17) scDu.nd rfl (Or.inl rfl)) pgs_nil)))) pgs_nil)))
      (pss_cons (ps_set (i := 12) scDu.nd rfl (.inl rfl) (pe_dget2 hu1 (pv 8) (pv 15) (pe_tup pa_nil) ⟨rfl, rfl, rfl, rfl⟩))
      (pss_cons (ps_set (i := 18) scDu.nd rfl (.inl rfl) (pe_ifExp (pt_not (pt_chain op_le op_le pe_int (pv 16) (pe_callB call_len_seq rfl ml PySem.boot_len (pa_cons (pv 12) pa_nil)))) (pe_lst pa_nil) (pe_dget2 hu1 (pv 7) (pe_ix ix_tup (pv 12) (pe_op op_sub (pv 16) pe_int) (fun _ _ => rfl)) (pe_lst pa_nil) ⟨rfl, rfl, rfl, rfl⟩)))
      (pss_one (ps_if (PW.pt (pw_or (pt_cmpR (op_inD hu65) (pe_tup (pa_cons (pv 15) (pa_cons (pv 16) (pa_cons (pv 17) pa_nil)))) (pe_slice sl_list (pv 4) po_none (po_some (pv 14))) rfl) (pw_or1 (pt_cmp (pc_dnotin hu1 (pv 17) (pe_callTy (call_dictP rfl) rfl md (by decide +kernel) (pa_cons (pv 18) pa_nil)))))))
        (pss_one (ps_ret (pe_lst (pa_cons pe_str (pa_cons (pv 15) pa_nil))))) pss_nil)))))
    (pss_one (ps_ret pe_non))))))))))))), ?_⟩
  have Q0 : gramE ks rs st bs = none → ∀ H', Same H H' → Q .non H' := fun e H' s => q .non H' (by show NoV H' .non (gramE ks rs st bs); rw [e]; rfl) s
  have Q1 : ∀ e, gramE ks rs st bs = some e → ∀ p H', H' p = some (.lst [.str e.1, oV e.2]) → Same H H' → Q (.ref p) H' := fun e he p H' hp s => q (.ref p) H' (by show NoV H' (.ref p) (gramE ks rs st bs); rw [he]; exact ⟨p, rfl, hp⟩) s
  clear q
  have lka : ka.length = ks.length := Paired.length pa
  have lrb : rb.length = rs.length := Paired.length pb
  have lcb : cb.length = bs.length := Paired.length pc
  have zk : ks.length ≤ 1000 := hF.kl
  have zr : rs.length ≤ 10000 := hF.rl
  have zb : bs.length ≤ 1000 := hF.bl
  have za : (altsOf rs).length ≤ 60000 := hF.al
  refine ⟨_, rfl, ww, _, rfl, SqL.of hw, rfl, _, _, rfl, _, _, rfl, _, _, rfl, _, _, rfl, rfl, ?_⟩
  refine ⟨_, rfl, .ref ww, ⟨ks, rs, st, bs⟩, rfl, ⟨ww, a, b, c, ka, rb, cb, rfl, hw, ha, pa, hb, pb, hc, pc⟩, hF, fun H1 s1 => ⟨_, rfl, ?_⟩⟩
  by_cases hm : manyE ks rs bs = true
  · refine ifT hm ⟨(by show 2 ≤ sizeLine; decide), fun p hp => Q1 ("many", none) ?_ p _ upd_same (s1.trans (same_new hp _))⟩
    unfold gramE
    rw [if_pos hm]
  have hm' : manyE ks rs bs = false := by
    cases h : manyE ks rs bs with
    | true => exact absurd h hm
    | false => rfl
  refine ifF hm' ?_
  refine ⟨_, rfl, _, rfl, a, b, ⟨ks, rs, st, bs⟩, rfl, KL.same s1 ⟨ka, ha, pa⟩, RL.same s1 ⟨rb, hb, pb⟩, hF, fun v1 H2 nv s2 => ?_⟩
  have s12 := s1.trans s2
  have hgr : gramE ks rs st bs = match nameDue ks rs with
      | some e => some e
      | none => match symE (ks.map (·.1)) (rs.map (·.1)) ((ks.filter fun k => k.2.2).map (·.1)) (rowsOf rs).flatten with
        | some e => some e
        | none => if st ∉ rs.map (·.1) then some ("begin", some st) else barE rs [] bs := by
    unfold gramE nameDue
    rw [hm', if_neg Bool.false_ne_true]
    cases kindE [] ks with
    | some e => rfl
    | none =>
      show _ = match ruleE (ks.map (·.1)) [] rs with
        | some e => some e
        | none => _
      rfl
  have nv : NoV H2 v1 (nameDue ks rs) := nv
  cases hnd : nameDue ks rs with
  | some e =>
    rw [hnd] at nv hgr
    obtain ⟨p, rfl, hp⟩ := nv
    exact ⟨_, rfl, _, rfl, ifT rfl ⟨_, rfl, Q1 e hgr p H2 hp s12⟩⟩
  | none =>
  rw [hnd] at nv hgr
  have nv : v1 = .non := nv
  subst nv
  refine ⟨_, rfl, _, rfl, ifF rfl ?_⟩
  have hkn : kindE [] ks = none := by
    cases h : kindE [] ks with
    | none => rfl
    | some e => unfold nameDue at hnd; rw [h] at hnd; cases hnd
  have hrn : ruleE (ks.map (·.1)) [] rs = none := by unfold nameDue at hnd; rw [hkn] at hnd; exact hnd
  obtain ⟨⟨nd1, _⟩, nd2, _⟩ := rule_nodup hrn
  refine ⟨_, rfl, a, rfl, ⟨_, SqL.of (s12 _ _ ha)⟩, fun D hD => ?_⟩
  refine lc_list (K := K) (xs := ka) (LcI H2 D (fun k : Str × Pat × Bool => V.str k.1) ks) (.start hD) (fun i H' _ h => SqL.of (h.2 _ _ (s12 _ _ ha))) (fun i v H' hv h => ?turn2) (fun H3 h3 => ?done2)
  case turn2 =>
    obtain ⟨k, hy, ⟨ra, u, rfl, g1, g2⟩⟩ := paired_get pa i v hv
    refine ⟨ra, _, rfl, SqT.of (h.2 _ _ (s12 _ _ g1)), rfl, _, _, rfl, _, _, rfl, _, _, rfl, rfl, rfl, ?_⟩
    simp only [tYes, ↓reduceIte]
    exact ⟨_, rfl, _, h.1, by rw [sizeLine_eq]; have := h.len; omega, h.step hD hy⟩
  obtain ⟨eD, s3⟩ := h3.done lka
  have s13 := s12.trans s3
  have eD : H3 D = some (.lst ((ks.map (·.1)).map V.str)) := by rw [eD, List.map_map]; rfl
  obtain ⟨ps, kvs, rfl, hps, hkv⟩ := rl_pairs (K := K) (paired_imp (fun _ _ r => r.same s13) pb)
  have hmn : mergeK [] kvs = kvs := merge_nodup (by rw [drl_keys hkv]; exact inr_nodup nd1)
  refine ⟨_, rfl, b, ps, kvs, rfl, SqL.of (s13 _ _ hb), hps, fun dh hdh => ?_⟩
  rw [hmn]
  have w4 := same_new hdh (.dK kvs)
  have e4 : (upd H3 dh (.dK kvs)) dh = some (.dK kvs) := upd_same
  generalize upd H3 dh (.dK kvs) = H4 at w4 e4 ⊢
  have s14 := s13.trans w4
  have eD4 := w4 _ _ eD
  refine ⟨_, rfl, b, rs, rfl, RL.same s14 ⟨_, hb, pb⟩, by omega, fun p1 xs H5 np1 e5 pxs s5 => ⟨p1, rfl, ⟨_, SqL.of e5⟩, fun D2 hD2 => ?_⟩⟩
  have lxs : xs.length = (allOf rs).length := Paired.length pxs
  have lal := all_len rs
  refine lc_list (K := K) (xs := xs) (LcR H5 D2 (fun H v (x : Str × Str × List Str) => AltV H v x.2) (allOf rs)) (.start hD2) (fun i H' _ h => by obtain ⟨_, _, _, _, s⟩ := h; exact SqL.of (s _ _ e5)) (fun i v H' hv h => ?turn3) (fun H6 h => ?done3)
  case turn3 =>
    obtain ⟨acc, f1, f2, f3, f4⟩ := h
    obtain ⟨⟨n, lb, row⟩, hy, ⟨ra, rb2, rfl, g1, g2⟩⟩ := paired_get pxs i v hv
    have hi : i < (allOf rs).length := (List.getElem?_eq_some_iff.mp hy).1
    refine ⟨ra, _, rfl, SqT.of (f4 _ _ g1), rfl, _, _, rfl, _, _, rfl, _, _, rfl, rfl, rfl, ?_⟩
    simp only [tYes, ↓reduceIte]
    refine ⟨_, rfl, _, rfl, (by show 2 ≤ sizeLine; decide), fun t ht => ?_⟩
    have u := same_new ht (.tup [.str lb, .ref rb2])
    refine ⟨acc, u _ _ f1, by rw [sizeLine_eq, f2]; omega, ?_⟩
    exact LcR.step (fun tk r => r.tk tk) f1 f2 f3 f4 u hD2 hy ⟨t, rb2, rfl, upd_same, u _ _ (f4 _ _ g2)⟩
  obtain ⟨acc, f1, f3, f4⟩ := h.done lxs
  have hal : Paired (AltV H6) acc (altsOf rs) := by
    rw [← all_snd rs]
    exact paired_snd f3
  obtain ⟨ps2, kvs2, rfl, hps2, hkv2⟩ := al_pairs (K := K) hal
  have hmn2 : mergeK [] kvs2 = kvs2 := merge_nodup (by rw [spe_keys hkv2]; exact inr_nodup nd2)
  refine ⟨D2, ps2, kvs2, rfl, SqL.of f1, hps2, fun dr hdr => ?_⟩
  rw [hmn2]
  have w7 := same_new hdr (.dK kvs2)
  have e7 : (upd H6 dr (.dK kvs2)) dr = some (.dK kvs2) := upd_same
  have hkv7 : Paired (SpE (upd H6 dr (.dK kvs2))) kvs2 (altsOf rs) := paired_imp (fun _ _ r => r.tk (Tk.of_same w7)) hkv2
  have s47 : Same H4 (upd H6 dr (.dK kvs2)) := s5.trans (f4.trans w7)
  generalize upd H6 dr (.dK kvs2) = H7 at w7 e7 hkv7 s47 ⊢
  have s17 := s14.trans s47
  refine ⟨(by show 0 ≤ sizeLine; decide), fun l hl => ?_⟩
  have w8 := same_new hl (.lst [])
  have el : (upd H7 l (.lst [])) l = some (.lst []) := upd_same
  have hlH : H l = none := new_of s17 hl
  have hl7 : ∀ c o, H7 c = some o → c ≠ l := fun c o e => ne_of_none e hl
  generalize upd H7 l (.lst []) = H8 at w8 el ⊢
  have s18 := s17.trans w8
  refine ⟨_, rfl, b, rs, rfl, RL.same s18 ⟨_, hb, pb⟩, by omega, fun p2 xs2 H9 np2 e9 pxs2 s9 => ⟨p2, rfl, ⟨_, SqL.of e9⟩, ?_⟩⟩
  have lxs2 : xs2.length = (allOf rs).length := Paired.length pxs2
  have el9 := s9 _ _ el
  have lp2 : p2 ≠ l := fun e => by rw [e, el] at np2; cases np2
  have s79 := w8.trans s9
  refine for_list (K := K) (xs := xs2) (fun i σ H' => ∃ x10 x11 x12, σ = [some (.ref ww), some (.ref a), some (.ref b), some (.str st), some (.ref c), some .non, some (.ref D), some (.ref dh), some (.ref dr), some (.ref l), x10, x11, x12, none, none, none, none, none, none, none, none] ∧ H' l = some (.lst ((((allOf rs).take i).flatMap (·.2.2)).map V.str)) ∧ (((allOf rs).take i).flatMap (·.2.2)).length ≤ i * 100 ∧ (∀ c o, c ≠ l → H9 c = some o → H' c = some o))
    ⟨_, _, _, rfl, el9, Nat.zero_le _, fun c o _ e => e⟩ (fun i σ H' _ h => by obtain ⟨_, _, _, _, _, _, k⟩ := h; exact SqL.of (k _ _ lp2 e9)) (fun i v σ H' hv h => ?turn4) (fun σ H' h => ?done4)
  case turn4 =>
    obtain ⟨x10, x11, x12, rfl, e1, le1, k⟩ := h
    obtain ⟨⟨n, lb, row⟩, hy, ⟨ra, rb2, rfl, g1, g2⟩⟩ := paired_get pxs2 i v hv
    have hi : i < (allOf rs).length := (List.getElem?_eq_some_iff.mp hy).1
    have hrow : row.length ≤ 100 := by
      obtain ⟨r, hr, m⟩ := List.mem_flatMap.mp (List.mem_of_getElem? hy)
      obtain ⟨a', ha', e⟩ := List.mem_map.mp m
      have h2 := (hF.r r hr).2.2 a' ha'
      have e2 : a' = (lb, row) := (Prod.mk.inj e).2
      rw [e2] at h2
      exact h2.2.1
    have tk : ∀ {c ys}, H9 c = some (.tup ys) → H' c = some (.tup ys) := fun {c ys} e => k _ _ (fun z => by rw [z, el9] at e; cases e) e
    refine ⟨ra, _, rfl, SqT.of (tk g1), rfl, _, _, rfl, _, _, rfl, _, _, rfl, rfl, ?_⟩
    refine ⟨_, rfl, .inl ⟨rfl, _, SqL.of e1⟩, _, rfl, rb2, _, rfl, .inr (SqT.of (tk g2)), fun L hL => ?_⟩
    have u := same_new hL (.lst (row.map V.str))
    refine ⟨l, L, _, _, rfl, rfl, u _ _ e1, upd_same, by rw [List.length_map, List.length_map, sizeLine_eq]; show _ + row.length ≤ _; omega, ?_⟩
    refine ⟨_, _, _, rfl, ?_, ?_, fun c o n e => ?_⟩
    · rw [upd_same, List.take_add_one, hy, List.flatMap_append, List.map_append, Option.toList_some, List.flatMap_singleton]
    · rw [List.take_add_one, hy, List.flatMap_append, Option.toList_some, List.flatMap_singleton, List.length_append]
      show _ + row.length ≤ _
      omega
    · rw [upd_ne n]; exact u _ _ (k c o n e)
  obtain ⟨x10, x11, x12, rfl, e1, le1, k⟩ := h
  rw [lxs2, List.take_length, ← rows_all] at e1
  have s7' : Same H7 H' := fun c o e => k c o (hl7 c o e) (s79 _ _ e)
  have sX : Same H H' := s17.trans s7'
  have eDX := s7' _ _ (s47 _ _ eD4)
  have edh := s7' _ _ (s47 _ _ e4)
  have edr := s7' _ _ e7
  have hkvX : Paired (DRl H') kvs rs := paired_imp (fun _ _ ⟨e1, bb, e2, h⟩ => ⟨e1, bb, e2, h.same (w4.trans (s47.trans s7'))⟩) hkv
  have hkv2X : Paired (SpE H') kvs2 (altsOf rs) := paired_imp (fun _ _ r => r.tk (Tk.of_same s7')) hkv7
  have hkk := drl_keys hkvX
  have hFs : ∀ x, x ∈ (rowsOf rs).flatten → Nm x := fun x hx => by
    rw [rows_all] at hx
    obtain ⟨y, hy, hx⟩ := List.mem_flatMap.mp hx
    obtain ⟨r, hr, m⟩ := List.mem_flatMap.mp hy
    obtain ⟨a', ha', e⟩ := List.mem_map.mp m
    have h2 := (hF.r r hr).2.2 a' ha'
    rw [← e] at hx
    exact h2.2.2 x hx
  clear k el9 np2 e9 pxs2 s9 s79 lp2 e5 pxs s5 np1 f4 f3 f1 hal hps2 hps
  obtain ⟨F, hFe⟩ : ∃ F, F = (rowsOf rs).flatten := ⟨_, rfl⟩
  rw [← hFe] at e1 hgr hFs
  obtain ⟨sk, hsk⟩ : ∃ sk, sk = (ks.filter fun k => k.2.2).map (·.1) := ⟨_, rfl⟩
  rw [← hsk] at hgr
  refine ⟨_, rfl, l, rfl, ⟨_, SqL.of e1⟩, ?_⟩
  refine for_list (K := K) (xs := F.map V.str) (fun i σ H2 => ∃ x13, σ = [some (.ref ww), some (.ref a), some (.ref b), some (.str st), some (.ref c), some .non, some (.ref D), some (.ref dh), some (.ref dr), some (.ref l), x10, x11, x12, x13, none, none, none, none, none, none, none] ∧ Same H' H2 ∧ symE (ks.map (·.1)) (rs.map (·.1)) sk F = symE (ks.map (·.1)) (rs.map (·.1)) sk (F.drop i))
    ⟨_, rfl, same_refl, rfl⟩ (fun i σ H2 _ h => by obtain ⟨_, _, k, _⟩ := h; exact SqL.of (k _ _ e1)) (fun i v σ H2 hv h => ?turn5) (fun σ H2 h => ?done5)
  case turn5 =>
    obtain ⟨x13, rfl, k, es⟩ := h
    rw [List.getElem?_map] at hv
    obtain ⟨n, hn, rfl⟩ : ∃ n, F[i]? = some n ∧ V.str n = v := by
      cases e : F[i]? with
      | none => rw [e] at hv; cases hv
      | some k => rw [e] at hv; exact ⟨k, rfl, Option.some.inj hv⟩
    have hi : i < F.length := (List.getElem?_eq_some_iff.mp hn).1
    have hd2 : F.drop i = n :: F.drop (i + 1) := by
      rw [List.drop_eq_getElem_cons hi]
      congr 1
      rw [List.getElem?_eq_getElem hi] at hn
      exact Option.some.inj hn
    rw [hd2, sym_cons] at es
    have nn := hFs n (List.mem_of_getElem? hn)
    have sY := sX.trans k
    have fin : ∀ e, symE (ks.map (·.1)) (rs.map (·.1)) sk F = some e → gramE ks rs st bs = some e := fun e h => by rw [hgr, h]
    refine ⟨_, rfl, _, rfl, D, _, rfl, .inl (SqL.of (k _ _ eDX)), rfl, all_flat _, _, rfl, ?_⟩
    rw [if_pos rfl, inV_strs]
    refine' auxH (C0 := fun H3 => Same H2 H3 ∧ ¬(n ∉ ks.map (·.1) ∧ n ∉ rs.map (·.1))) (fun hR => ?m5) ?rest5
    case m5 =>
      by_cases a1 : n ∈ ks.map (·.1)
      · rw [decide_eq_true a1]
        refine iteF (iteF ?_)
        obtain ⟨H3, hH⟩ : ∃ H3, H3 = H2 := ⟨_, rfl⟩
        have hh : Same H2 H3 ∧ ¬(n ∉ ks.map (·.1) ∧ n ∉ rs.map (·.1)) := ⟨by rw [hH]; exact same_refl, fun h => h.1 a1⟩
        rw [← hH]
        exact hR H3 hh
      · rw [decide_eq_false a1]
        refine iteT ?_
        refine ⟨_, rfl, _, rfl, dh, _, rfl, DGet.k (k := Sum.inr n) (k _ _ edh), _, rfl, ?_⟩
        rw [key_in hkk n]
        by_cases a2 : n ∈ rs.map (·.1)
        · rw [decide_eq_true a2]
          refine iteF ?_
          obtain ⟨H3, hH⟩ : ∃ H3, H3 = H2 := ⟨_, rfl⟩
          have hh : Same H2 H3 ∧ ¬(n ∉ ks.map (·.1) ∧ n ∉ rs.map (·.1)) := ⟨by rw [hH]; exact same_refl, fun h => h.2 a2⟩
          rw [← hH]
          exact hR H3 hh
        · rw [decide_eq_false a2]
          have es2 := es.trans (if_pos ⟨a1, a2⟩)
          exact iteT ⟨_, rfl, (by show 2 ≤ sizeLine; decide), fun p hp => Q1 _ (fin _ es2) p _ upd_same (sY.trans (same_new hp _))⟩
    rintro H3 ⟨s3', hst⟩
    rw [if_neg hst] at es
    refine ⟨_, rfl, (by show 2 ≤ sizeLine; decide), fun t1 ht1 => ?_⟩
    have w1 := same_new ht1 (.tup [.str n, .bl true])
    have et1 : (upd H3 t1 (.tup [.str n, .bl true])) t1 = some (.tup [.str n, .bl true]) := upd_same
    generalize upd H3 t1 (.tup [.str n, .bl true]) = G1 at w1 et1 ⊢
    have sZ : Same H' G1 := k.trans (s3'.trans w1)
    have sZH := sX.trans sZ
    refine ⟨_, rfl, a, rfl, ⟨_, SqL.of (sZH _ _ ha)⟩, fun D5 hD5 => ?_⟩
    refine lc_list (K := K) (xs := ka) (LcR G1 D5 (fun H v (x : Str × Pat × Bool) => ∃ t, v = .ref t ∧ H t = some (.tup [.str x.1, .bl x.2.2])) ks) (.start hD5) (fun i H' _ h => by obtain ⟨_, _, _, _, s⟩ := h; exact SqL.of (s _ _ (sZH _ _ ha))) (fun i v H' hv h => ?turn6) (fun H6 h => ?done6)
    case turn6 =>
      obtain ⟨acc, f1, f2, f3, f4⟩ := h
      obtain ⟨k2, hy, ⟨ra, u, rfl, g1, g2⟩⟩ := paired_get pa i v hv
      have hi : i < ks.length := (List.getElem?_eq_some_iff.mp hy).1
      refine ⟨ra, _, rfl, SqT.of (f4 _ _ (sZH _ _ g1)), rfl, _, _, rfl, _, _, rfl, _, _, rfl, rfl, rfl, ?_⟩
      simp only [tYes, ↓reduceIte]
      refine ⟨_, rfl, _, rfl, (by show 2 ≤ sizeLine; decide), fun t ht => ?_⟩
      have u' := same_new ht (.tup [.str k2.1, .bl k2.2.2])
      refine ⟨acc, u' _ _ f1, by rw [sizeLine_eq, f2]; omega, ?_⟩
      exact LcR.step (fun tk ⟨t, e, h⟩ => ⟨t, e, tk _ _ h⟩) f1 f2 f3 f4 u' hD5 hy ⟨t, rfl, upd_same⟩
    obtain ⟨acc, f1, f3, f4⟩ := h.done lka
    have sW := sZ.trans f4
    refine ⟨.tuple [.str n, .bool true], ks.map fun k => PyData.tuple [.str k.1, .bool k.2.2], .tup (SqT.of (f4 _ _ et1)) (.cons (.str _) (.cons (.bl _) .nil)), .lst (SqL.of f1) (DpAll.of (fun v x ⟨t, e, h⟩ => by rw [e]; exact .tup (SqT.of h) (.cons (.str _) (.cons (.bl _) .nil))) f3), sb_shaped nn, sbs_shaped (fun k hk => (hF.k k hk).1), _, rfl, ?_⟩
    rw [any_skip, ← hsk]
    by_cases a3 : n ∈ sk
    · rw [if_pos a3] at es
      exact ifT (decide_eq_true a3) ⟨_, rfl, (by show 2 ≤ sizeLine; decide), fun p hp => Q1 _ (fin _ es) p _ upd_same (sX.trans (sW.trans (same_new hp _)))⟩
    · rw [if_neg a3] at es
      exact ifF (decide_eq_false a3) ⟨_, rfl, sW, es⟩
  obtain ⟨x13, rfl, k, es⟩ := h
  rw [List.length_map, List.drop_length, show symE _ _ _ [] = none from rfl] at es
  rw [es] at hgr
  have sY := sX.trans k
  refine ⟨_, rfl, _, rfl, dh, _, rfl, DGet.k (k := Sum.inr st) (k _ _ edh), _, rfl, ?_⟩
  rw [key_in hkk st]
  by_cases b1 : st ∈ rs.map (·.1)
  case neg =>
    rw [decide_eq_false b1]
    exact iteT ⟨_, rfl, (by show 2 ≤ sizeLine; decide), fun p hp => Q1 _ (hgr.trans (if_pos b1)) p _ upd_same (sY.trans (same_new hp _))⟩
  rw [decide_eq_true b1]
  refine iteF ?_
  have hgr : gramE ks rs st bs = barE rs [] bs := hgr.trans (if_neg (fun h => h b1))
  have eDr := k _ _ edr
  have eDh := k _ _ edh
  have hkvY : Paired (DRl H2) kvs rs := paired_imp (fun _ _ ⟨e1, bb, e2, h⟩ => ⟨e1, bb, e2, h.same k⟩) hkvX
  have hkv2Y : Paired (SpE H2) kvs2 (altsOf rs) := paired_imp (fun _ _ r => r.tk (Tk.of_same k)) hkv2X
  clear hkvX hkv2X hkv7 hkv2 hkv e1 edr edh eDX
  refine ⟨_, rfl, c, cb, rfl, SqL.of (sY _ _ hc), ?_⟩
  refine for_it (walk_enum (K := K) (a := c) (xs := cb)) (fun i σ H3 => ∃ x12 x14 x15 x16 x17 x18, σ = [some (.ref ww), some (.ref a), some (.ref b), some (.str st), some (.ref c), some .non, some (.ref D), some (.ref dh), some (.ref dr), some (.ref l), x10, x11, x12, x13, x14, x15, x16, x17, x18, none, none] ∧ Same H2 H3 ∧ barE rs [] bs = barE rs (bs.take i) (bs.drop i))
    ⟨_, _, _, _, _, _, rfl, same_refl, rfl⟩ (fun i σ H3 _ h => by obtain ⟨_, _, _, _, _, _, _, s, _⟩ := h; exact SqL.of (s _ _ (sY _ _ hc))) (fun i v σ H3 H4 hi h z => ?turn7) (fun σ H3 h => ?done7)
  case done7 =>
    obtain ⟨x12, x14, x15, x16, x17, x18, rfl, s, es⟩ := h
    rw [lcb, List.drop_length] at es
    exact Q0 (hgr.trans es) _ (sY.trans s)
  obtain ⟨x12, x14, x15, x16, x17, x18, rfl, s, es⟩ := h
  obtain ⟨T, y1, y2, rfl, hT, rfl, hy1, hy2⟩ := z
  cases hy1
  replace hy2 : cb[i]? = some y2 := hy2
  obtain ⟨⟨n, p, ot⟩, hki, ⟨ra, rfl, h1⟩⟩ := paired_get pc i y2 hy2
  have hil : i < bs.length := (List.getElem?_eq_some_iff.mp hki).1
  have bok := hF.b _ (List.mem_of_getElem? hki)
  have hdrop : bs.drop i = (n, p, ot) :: bs.drop (i + 1) := by
    rw [List.drop_eq_getElem_cons hil]
    congr 1
    rw [List.getElem?_eq_getElem hil] at hki
    exact Option.some.inj hki
  have htk : bs.take (i + 1) = bs.take i ++ [(n, p, ot)] := by rw [List.take_add_one, hki]; rfl
  rw [hdrop, bar_cons] at es
  have wT := same_new hT (.tup [.int (i : Nat), .ref ra])
  have eT : (upd H3 T (.tup [.int (i : Nat), .ref ra])) T = some (.tup [.int (i : Nat), .ref ra]) := upd_same
  generalize upd H3 T (.tup [.int (i : Nat), .ref ra]) = G1 at wT eT ⊢
  have sG1 := s.trans wT
  refine ⟨T, _, rfl, SqT.of eT, rfl, _, _, rfl, _, _, rfl, ra, _, rfl, SqT.of ((sY.trans sG1) _ _ h1), rfl, _, _, rfl, _, _, rfl, _, _, rfl, rfl, rfl, ?_⟩
  refine ⟨_, rfl, dr, rfl, .inl ⟨_, .inl (sG1 _ _ eDr)⟩, _, rfl, ?_⟩
  refine ⟨Nat.zero_le _, fun d df => ?_⟩
  have w2 := same_new df (.tup [])
  have edd : (upd G1 d (.tup [])) d = some (.tup []) := upd_same
  generalize upd G1 d (.tup []) = G2 at w2 edd ⊢
  have sG2 := sG1.trans w2
  obtain ⟨rb, hb1, hb2⟩ : ∃ rb, (valV kvs2 (Sum.inr n : Key)).getD (.ref d) = .ref rb ∧ G2 rb = some (.tup ((spelledP rs n).map V.str)) := by
    rcases spelled_at n hkv2Y with ⟨b, e1, e2⟩ | ⟨e1, e2⟩
    · exact ⟨b, by rw [e1]; rfl, sG2 _ _ e2⟩
    · exact ⟨d, by rw [e1]; rfl, by rw [show spelledP rs n = [] from e2]; exact edd⟩
  refine ⟨_, DGet.k (k := Sum.inr n) (sG2 _ _ eDr), ?_⟩
  rw [hb1]
  refine' aux2 (C0 := fun la H5 => Same G2 H5 ∧ AL H5 la (innerL rs (spelledP rs n) p)) (fun hR => ?m8) ?rest8
  case m8 =>
    refine ⟨_, rfl, _, _, rfl, rfl, _, rfl, ?_⟩
    have hp1 : decide ((1 : Int) ≤ p) = true ∨ decide ((1 : Int) ≤ p) = false := by cases decide ((1 : Int) ≤ p) <;> simp
    rcases hp1 with hp | hp
    case inr =>
      show (if decide ((1 : Int) ≤ p) = true then _ else _)
      rw [hp]
      refine iteF ⟨_, rfl, iteT ⟨(by show 0 ≤ sizeLine; decide), fun em hem => ?_⟩⟩
      have hi0 : innerL rs (spelledP rs n) p = [] := if_neg fun q => of_decide_eq_false hp q.1
      have hh : Same G2 (upd G2 em (.lst [])) ∧ AL (upd G2 em (.lst [])) em (innerL rs (spelledP rs n) p) := ⟨same_new hem _, by rw [hi0]; exact ⟨[], upd_same, .nil⟩⟩
      generalize upd G2 em (.lst []) = H5 at hh ⊢
      exact hR em H5 hh
    case inl =>
      show (if decide ((1 : Int) ≤ p) = true then _ else _)
      rw [hp]
      refine iteT ⟨_, rfl, rb, _, rfl, .inr (SqT.of hb2), _, _, rfl, rfl, _, rfl, ?_⟩
      rw [List.length_map]
      by_cases hq : p ≤ (((spelledP rs n).length : Nat) : Int)
      case neg =>
        rw [decide_eq_false hq]
        refine iteT ⟨(by show 0 ≤ sizeLine; decide), fun em hem => ?_⟩
        have hi0 : innerL rs (spelledP rs n) p = [] := if_neg fun q => hq q.2
        have hh : Same G2 (upd G2 em (.lst [])) ∧ AL (upd G2 em (.lst [])) em (innerL rs (spelledP rs n) p) := ⟨same_new hem _, by rw [hi0]; exact ⟨[], upd_same, .nil⟩⟩
        generalize upd G2 em (.lst []) = H5 at hh ⊢
        exact hR em H5 hh
      rw [decide_eq_true hq]
      have hp2 : (1 : Int) ≤ p := of_decide_eq_true hp
      have hlt : (p - 1).toNat < (spelledP rs n).length := by omega
      obtain ⟨r0, hr0⟩ : ∃ v, (spelledP rs n)[(p - 1).toNat]? = some v := ⟨_, List.getElem?_eq_getElem hlt⟩
      have hat : atI ((spelledP rs n).map V.str) (p - 1) = some (.str r0) := by
        have := atI_nat (xs := (spelledP rs n).map V.str) (j := (p - 1).toNat) (v := .str r0) (by rw [List.getElem?_map, hr0]; rfl)
        rwa [show (((p - 1).toNat : Nat) : Int) = p - 1 by omega] at this
      have hi0 : innerL rs (spelledP rs n) p = (rs.lookup r0).getD [] := by
        unfold innerL
        rw [if_pos ⟨hp2, hq⟩, hr0]; rfl
      refine iteF ⟨_, rfl, dh, rfl, .inl ⟨_, .inl (sG2 _ _ eDh)⟩, _, rfl, _, rfl, _, _, rfl, rfl, rb, _, _, _, rfl, rfl, SqT.of hb2, hat, (by show 0 ≤ sizeLine; decide), fun em hem => ?_⟩
      have w3 := same_new hem (.lst [])
      have e3 : (upd G2 em (.lst [])) em = some (.lst []) := upd_same
      generalize upd G2 em (.lst []) = H5 at w3 e3 ⊢
      refine ⟨_, DGet.k (k := Sum.inr r0) (w3 _ _ (sG2 _ _ eDh)), ?_⟩
      have hla : ∃ la, (valV kvs (Sum.inr r0 : Key)).getD (.ref em) = .ref la ∧ AL H5 la (innerL rs (spelledP rs n) p) := by
        rw [hi0]
        rcases drl_get r0 hkvY with ⟨bb, h1, h2, h3⟩ | ⟨h1, h2⟩
        · exact ⟨bb, by rw [h1]; rfl, h2.same (sG2.trans w3)⟩
        · exact ⟨em, by rw [h1]; rfl, by rw [h2]; exact ⟨[], e3, .nil⟩⟩
      obtain ⟨la, hla1, hla2⟩ := hla
      rw [hla1]
      exact hR la H5 ⟨w3, hla2⟩
  rintro la H5 ⟨s5, hAL⟩
  have sG5 := sG2.trans s5
  have sH5 := sY.trans sG5
  refine ⟨_, rfl, _, rfl, _, rfl, (by show 3 ≤ sizeLine; decide), fun t ht => ?_⟩
  have w5 := same_new ht (.tup [.str n, .int p, .str ot])
  have et : (upd H5 t (.tup [.str n, .int p, .str ot])) t = some (.tup [.str n, .int p, .str ot]) := upd_same
  generalize upd H5 t (.tup [.str n, .int p, .str ot]) = G6 at w5 et ⊢
  refine ⟨_, rfl, _, rfl, _, rfl, c, _, rfl, SqL.of ((sH5.trans w5) _ _ hc), fun c1 hc1 => ?_⟩
  rw [cut_to]
  have w6 := same_new hc1 (.lst (cb.take i))
  have ec1 : (upd G6 c1 (.lst (cb.take i))) c1 = some (.lst (cb.take i)) := upd_same
  generalize upd G6 c1 (.lst (cb.take i)) = G7 at w6 ec1 ⊢
  have sG7 := sG5.trans (w5.trans w6)
  have sH7 := sY.trans sG7
  have pc7 : Paired (BrV G7) (cb.take i) (bs.take i) := paired_take i (paired_imp (fun _ _ r => r.tk (Tk.of_same sH7)) pc)
  have hb7 : BrV G7 (.ref t) (n, p, ot) := ⟨t, rfl, w6 _ _ et⟩
  refine ⟨brD (n, p, ot), (bs.take i).map brD, hb7.dp, .lst (SqL.of ec1) (DpAll.of (fun _ _ r => r.dp) pc7), shaped_of (br_lay bok.1 bok.2.1).1 (Nat.le_trans (br_lay bok.1 bok.2.1).2 (by decide)), brs_shaped (fun x hx => by have := hF.b x (List.mem_of_mem_take hx); exact ⟨this.1, this.2.1⟩), _, rfl, ?_⟩
  rw [any_bar]
  by_cases hin : (n, p, ot) ∈ bs.take i
  · have es2 := es.trans (if_pos ((bar_law nd1 nd2).mpr (.inl hin)))
    exact ifT (decide_eq_true hin) (iteT ⟨_, rfl, (by show 2 ≤ sizeLine; decide), fun p hp => Q1 _ (hgr.trans es2) p _ upd_same (sH7.trans (same_new hp _))⟩)
  refine ifF (decide_eq_false hin) ?_
  obtain ⟨ys, hys, pys⟩ := hAL.same (w5.trans w6)
  obtain ⟨ps3, kvs3, rfl, hps3, hkv3⟩ := al_pairs (K := K) pys
  have hkk3 := spe_keys hkv3
  have hmn3 : mergeK [] kvs3 = kvs3 := merge_nodup (by rw [hkk3]; exact inr_nodup (inner_nodup nd2))
  refine ⟨_, rfl, _, rfl, la, ps3, kvs3, rfl, SqL.of hys, hps3, fun dd hdd => ?_⟩
  rw [hmn3]
  have w8 := same_new hdd (.dK kvs3)
  have sG8 := sG7.trans w8
  refine ⟨dd, _, rfl, DGet.k (k := Sum.inr ot) upd_same, _, rfl, ?_⟩
  rw [key_in hkk3 ot]
  by_cases hot : ot ∈ (innerL rs (spelledP rs n) p).map (·.1)
  case neg =>
    have es2 := es.trans (if_pos ((bar_law nd1 nd2).mpr (.inr hot)))
    rw [decide_eq_false hot]
    exact iteT ⟨_, rfl, (by show 2 ≤ sizeLine; decide), fun p hp => Q1 _ (hgr.trans es2) p _ upd_same ((sY.trans sG8).trans (same_new hp _))⟩
  rw [decide_eq_true hot]
  refine iteF ⟨_, _, _, _, _, _, rfl, sG8, ?_⟩
  rw [es, if_neg (fun h => ((bar_law nd1 nd2).mp h).elim hin fun h => h hot), ← htk]
end
end Pa
set_option maxHeartbeats 4000000
/-! ### a class called by keywords within try; isinstance of a caught error by a tuple of classes -/
namespace Pa
open PySem PySem.Spec PyProof.Rows L2
section
variable {X : Cx} {CX : CXT} {k n : Nat} {f C : Addr} {fd : FuncData} {ps ks : List Str} {sp : Sp} {E : L2.St → XK} {x : Str} {p pos : Pos} {e : Expr} {es : List Expr} {kws : List Keyword} {t tk : TA} {g : List Value → List Value → List Value} {gV : List V → List V → List V}
theorem run_makeKS {E : XK} {pins : List (Addr × Obj)} {σ : L2.St} {H : Hp} {s : Shared} {Q : VK} {us ws : List Value} {vs zs : List V} (M : L2.Mk X.K C f) (F : FnOk X.prog X.w X.K X.mg X.base CX k f fd ps sp) (hr : Room (k + 1) X.A) (hb : KBn X.K fd ps (n + 1) ks g gV) (hx : PassesAt CX X σ E)
    (I : Inv X pins σ H s) (r : Vals vs us) (rz : Vals zs ws) (l1 : vs.length = n) (l2 : zs.length = ks.length)
    (h : ∀ x dx, H x = none → H dx = none → dx ≠ x → sp (gV (.ref x :: vs) zs) (upd (upd H dx (.own x)) x (.ins C dx [])) (fun v H2 => v = .non ∧ Q (.ref x) H2) E) :
    wpAny (model X.prog X.w) X.A (call (.ref C) us (ks.zip ws)) (EP X pins σ Q) X.xe s := by
  have hq := h (s.heap.objs.size + 1) s.heap.objs.size (I.hok.fresh (Nat.le_succ _)) (I.hok.fresh (Nat.le_refl _)) (Nat.ne_of_lt (Nat.lt_succ_self _))
  have I2 := Inv.made (C := C) I
  have r1 : Vals (V.ref (s.heap.objs.size + 1) :: vs) (Value.ref (s.heap.objs.size + 1) :: us) := .cons rfl r
  have r2 := hb.rel r1 rz
  have n1 : (Value.ref (s.heap.objs.size + 1) :: us).length = n + 1 := by
    rw [List.length_cons, ← r.length, l1]
  refine wpAny_call (make_map (f := f) I.kIn M.makes M.init (beq_iff_eq.mp M.fn) (codeAny_mono (F.run _ X.stack _ _ ⟨Value.ref (s.heap.objs.size + 1) :: us, ks.zip ws⟩ (g (Value.ref (s.heap.objs.size + 1) :: us) ws) _ _ E (hr.make C us (ks.zip ws))
    (I2.env0.make C us (ks.zip ws)) (hb.to _ (Value.ref (s.heap.objs.size + 1) :: us) ws I2.kIn n1 (rz.length.symm.trans l2)) r2 hq) fun r s' hq' => ?_))
  cases r with
  | error e => exact hx pins _ _ e s' I2 hq'
  | ok fl =>
    cases fl with
    | ret u =>
      obtain ⟨v, H', I3, rv, ev, q3⟩ := I2.after hq'
      subst ev
      exact ⟨rv, ⟨V.ref (s.heap.objs.size + 1), H', I3, rfl, q3⟩⟩
    | next => exact False.elim hq'
    | brk => exact False.elim hq'
    | cont => exact False.elim hq'
def tMakeKS (C : Addr) (n m : Nat) (sp : Sp) (gV : List V → List V → List V) (E : L2.St → XK) (t tk : TA) : TE := fun σ H Q => t σ H fun vs H1 => tk σ H1 fun zs H2 => vs.length = n ∧ zs.length = m ∧ ∀ x dx, H2 x = none → H2 dx = none → dx ≠ x →
  sp (gV (.ref x :: vs) zs) (upd (upd H2 dx (.own x)) x (.ins C dx [])) (fun v H3 => v = .non ∧ Q (.ref x) H3) (E σ)
theorem pe_makeKS (M : L2.Mk X.K C f) (F : FnOk X.prog X.w X.K X.mg X.base CX k f fd ps sp) (hr : Room (k + 1) X.A) (hg : Gl X x) (hm : X.mg x = some (.ref C)) (hb : KBn X.K fd ps (n + 1) ks g gV) (hx : ∀ σ, PassesAt CX X σ (E σ)) (ha : PA X (e :: es) t) (hkw : PK X kws tk)
    (hall : (backToKw pos (keywordEach kws X.env)).all (·.1.isSome) = true := by rfl) (hks : (backToKw pos (keywordEach kws X.env)).filterMap (·.1) = ks := by rfl) (hdb : (x == ("__debug__" : Str)) = false := by decide)
    (he : starEach (e :: es) X.env = (false, eval e X.env) :: starEach es X.env := by rfl) (hpl : ((backTo pos (starEach (e :: es) X.env)).any (·.1) || (backToKw pos (keywordEach kws X.env)).any (·.1.isNone)) = false := by rfl) :
    PE X (.Call (.Name x p) (e :: es) kws pos) (tMakeKS C n ks.length sp gV E t tk) := by
  refine ⟨fun pins s σ H Q I h => ?_⟩
  refine wpAny_Call_Name_kw (ld_glob I hg hm ?_ hdb)
  refine PySem.W.callWith_KW (h₀ := X.base) I.ok.mod.kin M.kp hall (thn (ha.run pos pins s σ H _ I h) fun us s1 ⟨vs, H1, I1, r, q⟩ => ?_) hpl he
  refine thn (hkw.run pos pins s1 σ H1 _ I1 q) fun ws s2 ⟨zs, H2, I2, rz, l1, l2, q2⟩ => ⟨I2.kIn, ?_⟩
  rw [hks]
  exact run_makeKS M F hr hb (hx σ) I2 r rz l1 l2 q2
end
/-- isinstance(e, (c1, c2, ..)), e the caught error at a; cls its class, d its dict -/
def rIsCT (K : PySem.W.Frag) (a : Addr) (cls : Value) (d : Option Addr) : List V → Hp → VK → Prop := fun xs H Q => ∃ (tp : Addr) (cs : List V) (cvs : List Value) (b : Bool) (D dd : Addr) (fs : List (Str × V)), xs = [.ref a, .ref tp] ∧ H tp = some (.tup cs) ∧ Paired ClsV cs cvs ∧ cls = .ref D ∧ d = some dd ∧ H dd = some (.xd fs) ∧ ExcC K D ∧
  PySem.W.kitAny K (.ref D) cvs = some b ∧ Q (.bl b) H
theorem call_isCT {X : Cx} {a : Addr} {cls : Value} {d : Option Addr} {oe : Obj} {pn : List (Addr × Obj)} (hz : Zc cls d oe) (hf : ∃ vs, oe.data = .fields vs) : CallR (X.suite a ((a, oe) :: pn)) (.builtin "isinstance") (rIsCT X.K a cls d) := by
  intro pins s σ H xs us Q I r h
  obtain ⟨tp, cs, cvs, b, D, dd, fs, rfl, hT, hcv, rfl, rfl, hd, C, e, q⟩ := h
  obtain ⟨u1, u2, rfl, r1, r2⟩ := vals2 r
  cases r1
  cases (show u2 = Value.ref tp from r2)
  obtain ⟨hget, _⟩ := I.pin (a, oe) (List.mem_append.mpr (.inl List.mem_cons_self))
  obtain ⟨vs, hv⟩ := hf
  have hx : ObjOk X.prog X.w H s.heap dd (.xd fs) := I.hok dd _ hd
  obtain ⟨mA, ⟨od, es, ep, ho, _⟩, _⟩ := hx
  have J : PySem.W.InstAt s.heap a oe D (some od) := ⟨hget, hz.1, by unfold PySem.W.notCls; rw [hv] <;> rfl, by rw [hz.2]; exact ho⟩
  obtain ⟨_, its, rv, o, h1, h2, n, h3⟩ := (show ObjOk X.prog X.w H s.heap tp (.tup cs) from I.hok tp _ hT)
  have e3 := ClsV.all hcv rv
  subst e3
  obtain ⟨oc, od', dt, sl⟩ := o
  simp only at h2 h3
  subst h2 h3
  exact PySem.W.kia_tup (kit_caught C) I.kIn J h1 e (fun z => nomatch z) fun tk => ⟨.bl b, H, I.kept (t' := tk) fun _ _ z => z, rfl, q⟩
/-- a def with keyword-only defaults is a def -/
theorem funD_fun {K : PySem.W.Frag} {x qual : Str} {st : Stmt} {kws : List (Str × V)} {f : Addr} {fd : FuncData} (F : FunD K x qual (defArgs st) (defBody st) (defScope st) [] kws f fd) : Fun K x qual st f fd := by
  obtain ⟨oc, od, dV, kV, doc, pm, an, cdv, ct, osl, rfl, lk, hcd, hD, _⟩ := F.ex
  rcases hD with ⟨_, rfl⟩ | ⟨e, _⟩
  · exact ⟨⟨oc, od, kV, doc, pm, an, cdv, ct, osl, rfl, lk, hcd⟩, F.kp⟩
  · exact absurd rfl e
section
variable {K : PySem.W.Frag} {f dt : Addr} {fd : FuncData}
abbrev GInitD (K : PySem.W.Frag) (dt f : Addr) (fd : FuncData) : Prop := FunD K "__init__" "Grammar.__init__" (defArgs gInit) (defBody gInit) (defScope gInit) [] [("begin", .non), ("bars", .ref dt)] f fd
theorem ginit_kw (F : GInitD K dt f fd) : KBn K fd ["self", "kinds", "rules", "begin", "bars"] 3 ["begin", "bars"] (fun us ws => us ++ ws) (fun vs zs => vs ++ zs) := by
  obtain ⟨mv, h⟩ := F.kbinds0 (ps := ["self", "kinds", "rules", "begin", "bars"]) 3 ["begin", "bars"] [] (fun us _ ws => us ++ ws) (by simp) (fun q hq => by cases hq) (fun r1 _ r3 => paired_app r1 r3) (fun D doc pm an cdv ct us mv ws l1 _ l3 => by
    match us, l1, ws, l3 with
    | [a, b, c], _, [d, e], _ => rfl)
  exact h
theorem ginit_dfl (F : GInitD K dt f fd) : ∃ ds, Vals [V.non, V.ref dt] ds ∧ Binds K fd ["self", "kinds", "rules", "begin", "bars"] ds := by
  refine F.binds0 (ps := ["self", "kinds", "rules", "begin", "bars"]) 3 (by simp) rfl fun D doc pm an cdv ct us ks l1 l2 => ?_
  match us, l1, ks, l2 with
  | [a, b, c], _, [d, e], _ => exact ⟨_, _, _, _, _, _, rfl, rfl, _, _, _, _, _, _, rfl, rfl, rfl⟩
end
end Pa
set_option maxHeartbeats 4000000
namespace Pa
open PySem PySem.Spec PyProof.Rows L2 Ty Se
/-! ### what the program tells -/
theorem WF.gbd {W : Wor} (h : WF W) : GBd 14 W.ks W.rs W.bs := by
  refine ⟨Nat.le_trans h.kl (by decide), h.rl, Nat.le_trans h.bl (by decide), Nat.le_trans h.al (by decide), fun k hk => ?_, fun r hr => ?_⟩
  · have := h.k k hk
    exact ⟨Nat.le_trans this.1.1 (by decide), this.2.2.1, this.2.2.2⟩
  · have := h.r r hr
    exact ⟨Nat.le_trans this.1.1 (by decide), fun a ha => ⟨Nat.le_trans (this.2.2 a ha).1.1 (by decide), Nat.le_trans (this.2.2 a ha).2.1 (by decide)⟩⟩
def rTupC (K : PySem.W.Frag) : List V → Hp → VK → Prop := fun xs H Q => ∃ p ys, xs = [.ref p] ∧ ((SqL K H p ys ∧ ∀ l, H l = none → Q (.ref l) (upd H l (.tup ys))) ∨ (SqT K H p ys ∧ Q (.ref p) H))
def spLTold : Sp := fun vs H Q _ => ∃ (v : V) (W : Wor), vs = [v] ∧ WV H v W ∧ WF W ∧ ∀ v' H', NoV H' v' (gramE W.ks W.rs W.st W.bs) → Same H H' → Q v' H'
abbrev nTo : List Str := ["world", "kinds", "rules", "start", "barred", "e", "others"]
theorem scTo : FnScope nTo ["world"] (defScope lTold) := ⟨rfl, rfl, rfl, by decide +kernel, rfl, by decide +kernel, by decide +kernel⟩
/-- what K says of the errors -/
structure ToldK (K : PySem.W.Frag) (mg : Str → Option Value) (CN CY c1 c2 c3 c4 c5 c6 : Addr) : Prop where
  te : PySem.W.exmOne K (.ref CN) (.ref CN) = some true
  EC : ExcC K CN
  XT : XfC K CN
  n1 : PySem.W.findIn K (.ref CN) "what" = some none
  n2 : PySem.W.findIn K (.ref CN) "name" = some none
  mN : mg "NoGrammar" = some (.ref CN)
  mY : mg "YardError" = some (.ref CY)
  mV : mg "ValueError" = none
  kY : PySem.W.kitOne K (.ref CN) (.ref CY) = some true
  kV : PySem.W.kitOne K (.ref CN) (.type "ValueError") = some true
  m1 : mg "Barred" = some (.ref c1)
  m2 : mg "NoLabel" = some (.ref c2)
  m3 : mg "NoName" = some (.ref c3)
  m4 : mg "NoText" = some (.ref c4)
  m5 : mg "NoTree" = some (.ref c5)
  m6 : mg "TooMany" = some (.ref c6)
  kA : PySem.W.kitAny K (.ref CN) [.ref c1, .ref c2, .ref c3, .ref c4, .ref c5, .ref c6] = some false
section
variable {P : Program} {w : World} {K : PySem.W.Frag} {mg : Str → Option Value} {base : Heap} {f fI C CN CY c1 c2 c3 c4 c5 c6 dt : Addr} {fd dI : FuncData}
theorem ok_ltold (F : Fun K "_law_told" "_law_told" lTold f fd)
    (GI : FnOk P w K mg base (L2.CX P w) 47 fI dI ["self", "kinds", "rules", "begin", "bars"] (spGInit K 14 C CN)) (FD : GInitD K dt fI dI) (MK : L2.Mk K C fI) (mC : mg "Grammar" = some (.ref C))
    (T : ToldK K mg CN CY c1 c2 c3 c4 c5 c6) (mi : mg "isinstance" = none) (mt : mg "tuple" = none) :
    FnOk P w K mg base CX0 49 f fd ["world"] spLTold := by
  refine F.ok scTo (fun vs H Q E h => ?_) (fun cdv A outer s0 H vs Q E hr h => ?_)
  · obtain ⟨_, _, rfl, _⟩ := h
    rfl
  obtain ⟨v, ⟨ks, rs, st, bs⟩, rfl, ⟨ww, a, b, c, ka, rb, cb, rfl, hw, ha, pa, hb, pb, hc, pc⟩, hF, q⟩ := h
  have KB := ginit_kw FD
  refine ⟨_, pss_cons (ps_asg (pv 0) (pg_lst rfl (pgs_cons (pg_name (i := 1) scTo.nd rfl (Or.inl rfl)) (pgs_cons (pg_name (i := 2) scTo.nd rfl (Or.inl rfl)) (pgs_cons (pg_name (i := 3) scTo.nd rfl (Or.inl rfl)) (pgs_cons (pg_name (i := 4) scTo.nd rfl (Or.inl rfl)) pgs_nil))))))
    (pss_cons (ps_try_as (i := 5) (Wout := fun _ _ _ _ => False) rfl rfl scTo.nd rfl rfl ⟨rfl, by decide, Or.inl T.mN⟩ takes0
      (fun W pn xe tk _ => pss_one (ps_expr (pe_makeKS MK GI (hr.mono (by decide)) rfl mC KB (fun σ => passAt tk σ) (pa_cons (pv 1) (pa_cons (pv 2) pa_nil)) (pk_cons (pv 3) (pk_cons (pe_callTy (show CallR _ (.type "tuple") (rTupC K) from call_tuple_of) rfl mt (by decide +kernel) (pa_cons (pv 4) pa_nil)) pk_nil)))))
      (fun a oe cls d pn hz hf => pss_cons (ps_set (i := 6) scTo.nd rfl (.inl rfl) (pe_callB (show CallR _ (.builtin "isinstance") (rIsCT K a cls d) from call_isCT hz hf) rfl mi (by decide +kernel) (pa_cons (pv 5) (pa_cons
          (pe_tup (pa_cons (pe_glob rfl T.m1 (show RelV (.ref c1) (.ref c1) from rfl)) (pa_cons (pe_glob rfl T.m2 (show RelV (.ref c2) (.ref c2) from rfl)) (pa_cons (pe_glob rfl T.m3 (show RelV (.ref c3) (.ref c3) from rfl)) (pa_cons (pe_glob rfl T.m4 (show RelV (.ref c4) (.ref c4) from rfl)) (pa_cons (pe_glob rfl T.m5 (show RelV (.ref c5) (.ref c5) from rfl)) (pa_cons (pe_glob rfl T.m6 (show RelV (.ref c6) (.ref c6) from rfl)) pa_nil))))))) pa_nil))))
        (pss_one (ps_ret (pe_ifExp (PW.pt (pw_and (pt_val (pe_callB (show CallR _ (.builtin "isinstance") (rIsC K a cls d) from call_isC hz hf) rfl mi (by decide +kernel) (pa_cons (pv 5) (pa_cons (pe_glob rfl T.mY (show RelV (.ref CY) (.ref CY) from rfl)) pa_nil))))
            (pw_and (pt_val (pe_callB (show CallR _ (.builtin "isinstance") (rIsC K a cls d) from call_isC hz hf) rfl mi (by decide +kernel) (pa_cons (pv 5) (pa_cons (pe_bltn rfl T.mV (by decide +kernel) (show RelV (.ty "ValueError") (.type "ValueError") from rfl)) pa_nil))))
              (pw_and1 (pt_not (pt_val (pv 6)))))))
          (pe_lst (pa_cons (pe_xf T.XT T.n1 hz hf (pv 5)) (pa_cons (pe_xf T.XT T.n2 hz hf (pv 5)) pa_nil))) pe_str)))))
    (pss_one (ps_ret pe_non))), ?_⟩
  have Q0 : gramE ks rs st bs = none → ∀ H', Same H H' → Q .non H' := fun e H' s => q .non H' (by show NoV H' .non (gramE ks rs st bs); rw [e]; rfl) s
  have Q1 : ∀ e, gramE ks rs st bs = some e → ∀ p H', H' p = some (.lst [.str e.1, oV e.2]) → Same H H' → Q (.ref p) H' := fun e he p H' hp s => q (.ref p) H' (by show NoV H' (.ref p) (gramE ks rs st bs); rw [he]; exact ⟨p, rfl, hp⟩) s
  clear q
  refine ⟨_, rfl, ww, _, rfl, SqL.of hw, rfl, _, _, rfl, _, _, rfl, _, _, rfl, _, _, rfl, rfl, ?_⟩
  refine ⟨_, rfl, _, rfl, _, rfl, _, rfl, c, _, rfl, .inl ⟨SqL.of hc, fun ct hct => ⟨rfl, rfl, fun x dx hx hdx hne => ?_⟩⟩⟩
  have s1 := same_new hct (.tup cb)
  have e1 : (upd H ct (.tup cb)) ct = some (.tup cb) := upd_same
  generalize upd H ct (.tup cb) = H1 at s1 e1 hx hdx ⊢
  have s2 := same_new hdx (.own x)
  have hx2 : (upd H1 dx (.own x)) x = none := by rw [upd_ne (Ne.symm hne)]; exact hx
  have s3 := same_new hx2 (.ins C dx [])
  have s13 := s1.trans (s2.trans s3)
  have e3 : (upd (upd H1 dx (.own x)) x (.ins C dx [])) x = some (.ins C dx []) := upd_same
  have ec := (s2.trans s3) _ _ e1
  have hxH : H x = none := new_of s1 hx
  generalize upd (upd H1 dx (.own x)) x (.ins C dx []) = H3 at s13 e3 ec ⊢
  have back : ∀ {H'}, KX [x] H3 H' → Same H H' := fun {H'} kx c o e => kx c o (fun m => by rw [List.mem_singleton.mp m, hxH] at e; cases e) (s13 _ _ e)
  refine ⟨x, a, b, ct, dx, .str st, ka, rb, cb, ks, rs, bs, st, rfl, e3, s13 _ _ ha, paired_imp (fun _ _ r => r.tk (Tk.of_same s13)) pa, s13 _ _ hb, paired_imp (fun _ _ r => r.same s13) pb, SqT.of ec, paired_imp (fun _ _ r => r.tk (Tk.of_same s13)) pc, .inl rfl, hF.gbd, fun en fs H' hg l1 l2 kx => ⟨rfl, Q0 en H' (back kx)⟩, fun e he H' kx dd H4 hdd s4 e4 => ?_⟩
  refine ⟨true, T.te, fun _ a0 ha0 => ?_, fun h => by cases h⟩
  have s04 := (back kx).trans s4
  refine ⟨_, rfl, (by show 6 ≤ sizeLine; decide), fun tp htp => ?_⟩
  have w1 := same_new htp (.tup [.ref c1, .ref c2, .ref c3, .ref c4, .ref c5, .ref c6])
  have e5 := w1 _ _ e4
  refine ⟨tp, _, _, false, CN, dd, _, rfl, upd_same, .cons (.own _) (.cons (.own _) (.cons (.own _) (.cons (.own _) (.cons (.own _) (.cons (.own _) .nil))))), rfl, rfl, e5, T.EC, T.kA, ?_⟩
  refine ⟨_, rfl, .ref CY, _, true, CN, dd, _, rfl, fun u r => r, rfl, rfl, e5, T.EC, T.kY, _, rfl, iteT ?_⟩
  refine ⟨_, rfl, .ty "ValueError", _, true, CN, dd, _, rfl, fun u r => r, rfl, rfl, e5, T.EC, T.kV, _, rfl, iteT ?_⟩
  refine ⟨_, rfl, _, rfl, iteT ?_⟩
  refine ⟨_, rfl, rfl, rfl, dd, _, _, rfl, e5, rfl, _, rfl, rfl, rfl, dd, _, _, rfl, e5, rfl, (by show 2 ≤ sizeLine; decide), fun p hp => ?_⟩
  exact Q1 e he p _ upd_same (s04.trans (w1.trans (same_new hp _)))
end
end Pa
set_option maxHeartbeats 4000000
namespace Pa
open PySem PySem.Spec PyProof.Rows L2 Ty Se
/-! ### plain: a drawn grammar is refused by nothing -/
theorem gap_len : ("gap" : Str).length = 3 := by decide +kernel
theorem NmG.gap {x : Str} (h : NmG x) : x ≠ "gap" := fun e => by
  have := h.2.1
  rw [e, gap_len] at this
  omega
theorem kind_good : ∀ {ks : Kds} {met : List Str}, (∀ k, k ∈ ks → nameP k.1 = true ∧ bareP k.2.1 = false) → (ks.map (·.1)).Nodup → (∀ k, k ∈ ks → k.1 ∉ met) → kindE met ks = none
  | [], _, _, _, _ => rfl
  | (n, p, s) :: ks, met, hg, hn, hm => by
    have e : kindE met ((n, p, s) :: ks) = if nameP n = false then some (("name" : Str), some n) else if n ∈ met then some (("twice" : Str), some n) else if bareP p = true then some (("empty" : Str), some n) else kindE (met ++ [n]) ks := rfl
    have h0 := hg _ List.mem_cons_self
    have h1 : nameP n = true := h0.1
    have h2 : bareP p = false := h0.2
    rw [e, if_neg (by rw [h1]; decide), if_neg (hm _ List.mem_cons_self), if_neg (by rw [h2]; decide)]
    obtain ⟨n1, n2⟩ := List.nodup_cons.mp hn
    refine kind_good (fun k hk => hg k (List.mem_cons_of_mem _ hk)) n2 fun k hk m => ?_
    rcases List.mem_append.mp m with m | m
    · exact hm k (List.mem_cons_of_mem _ hk) m
    · exact n1 (List.mem_map.mpr ⟨k, hk, List.mem_singleton.mp m⟩)
theorem alt_good : ∀ {as : List (Str × List Str)} {ls : List Str}, (∀ a, a ∈ as → nameP a.1 = true ∧ a.2.length ≤ 6) → (as.map (·.1)).Nodup → (∀ a, a ∈ as → a.1 ∉ ls) → altE ls as = none
  | [], _, _, _, _ => rfl
  | (l, row) :: as, ls, hg, hn, hm => by
    have e : altE ls ((l, row) :: as) = if nameP l = false then some (("label" : Str), some l) else if l ∈ ls then some (("again" : Str), some l) else if 6 < row.length then some (("long" : Str), some l) else altE (ls ++ [l]) as := rfl
    have h0 := hg _ List.mem_cons_self
    have h1 : nameP l = true := h0.1
    have h2 : row.length ≤ 6 := h0.2
    rw [e, if_neg (by rw [h1]; decide), if_neg (hm _ List.mem_cons_self), if_neg (by omega)]
    obtain ⟨n1, n2⟩ := List.nodup_cons.mp hn
    refine alt_good (fun k hk => hg k (List.mem_cons_of_mem _ hk)) n2 fun k hk m => ?_
    rcases List.mem_append.mp m with m | m
    · exact hm k (List.mem_cons_of_mem _ hk) m
    · exact n1 (List.mem_map.mpr ⟨k, hk, List.mem_singleton.mp m⟩)
theorem rule_good : ∀ {rs : Rls} {met ls : List Str}, (∀ r, r ∈ rs → nameP r.1 = true ∧ r.2 ≠ [] ∧ ∀ a, a ∈ r.2 → nameP a.1 = true ∧ a.2.length ≤ 6) → (rs.map (·.1)).Nodup → (∀ r, r ∈ rs → r.1 ∉ met) → ((altsOf rs).map (·.1)).Nodup → (∀ a, a ∈ altsOf rs → a.1 ∉ ls) → ruleE met ls rs = none
  | [], _, _, _, _, _, _, _ => rfl
  | (n, as) :: rs, met, ls, hg, hn, hm, hl, hls => by
    have e : ruleE met ls ((n, as) :: rs) = if nameP n = false then some (("name" : Str), some n) else if n ∈ met then some (("twice" : Str), some n) else if as = [] then some (("bare" : Str), some n) else
      match altE ls as with
      | some e => some e
      | none => ruleE (met ++ [n]) (ls ++ as.map (·.1)) rs := rfl
    obtain ⟨h1, h2, h3⟩ := hg _ List.mem_cons_self
    have h1 : nameP n = true := h1
    have h2 : as ≠ [] := h2
    have ea : altsOf ((n, as) :: rs) = as ++ altsOf rs := rfl
    rw [ea] at hl hls
    rw [List.map_append] at hl
    obtain ⟨l1, l2, l3⟩ := List.nodup_append.mp hl
    rw [e, if_neg (by rw [h1]; decide), if_neg (hm _ List.mem_cons_self), if_neg h2, alt_good h3 l1 fun a ha => hls a (List.mem_append_left _ ha)]
    obtain ⟨n1, n2⟩ := List.nodup_cons.mp hn
    refine rule_good (fun k hk => hg k (List.mem_cons_of_mem _ hk)) n2 (fun k hk m => ?_) l2 fun a ha m => ?_
    · rcases List.mem_append.mp m with m | m
      · exact hm k (List.mem_cons_of_mem _ hk) m
      · exact n1 (List.mem_map.mpr ⟨k, hk, List.mem_singleton.mp m⟩)
    · rcases List.mem_append.mp m with m | m
      · exact hls a (List.mem_append_right _ ha) m
      · exact l3 _ m _ (List.mem_map.mpr ⟨a, ha, rfl⟩) rfl
theorem sym_good {names heads skips : List Str} : ∀ {l : List Str}, (∀ x, x ∈ l → (x ∈ names ∨ x ∈ heads) ∧ x ∉ skips) → symE names heads skips l = none
  | [], _ => rfl
  | x :: l, h => by
    obtain ⟨h1, h2⟩ := h x List.mem_cons_self
    rw [sym_cons, if_neg (fun q => h1.elim q.1 q.2), if_neg h2]
    exact sym_good fun y hy => h y (List.mem_cons_of_mem _ hy)
theorem sum_le {α : Type} (f : α → Nat) (m : Nat) : ∀ l : List α, (∀ x, x ∈ l → f x ≤ m) → (l.map f).sum ≤ m * l.length
  | [], _ => by simp
  | x :: l, h => by
    have h1 := h x List.mem_cons_self
    have h2 := sum_le f m l fun y hy => h y (List.mem_cons_of_mem _ hy)
    rw [List.map_cons, List.sum_cons, List.length_cons, Nat.mul_succ]; omega
theorem GW.kinds {ks : Kds} {rs : Rls} (h : GW ks rs) : 1 ≤ ks.length ∧ ks.length ≤ 4 ∧ ∀ k, k ∈ ks → ∃ ss, GKd ss k := by
  obtain ⟨ws, g, w1, w3, _⟩ := h.wds
  have := g.len
  refine ⟨?_, by omega, fun k hk => ⟨ws, g.all k hk⟩⟩
  cases ws with
  | nil => simp at w1
  | cons x ws =>
    have := g.has x List.mem_cons_self
    obtain ⟨k, hk, _⟩ := List.mem_map.mp this
    exact List.length_pos_of_mem hk
theorem GW.alts {ks : Kds} {rs : Rls} (h : GW ks rs) : (altsOf rs).length ≤ 12 := by
  have h1 : altsN rs ≤ 3 * rs.length := sum_le _ 3 rs fun r hr => (h.heads r hr).2.2.1
  rw [altsN_len] at h1
  have := h.few
  omega
theorem gw_none {ks : Kds} {rs : Rls} (h : GW ks rs) {start : Str} (hs : start ∈ rs.map (·.1)) : gramE ks rs start [] = none := by
  obtain ⟨k1, k4, kg⟩ := h.kinds
  have ha := h.alts
  have r1 := h.one
  have r4 := h.few
  obtain ⟨ws, g, w1, w3, wn, wg, wrow⟩ := h.wds
  have hsg : signsN ks ≤ 5 * ks.length := sum_le _ 5 ks fun k hk => (g.all k hk).cnt
  have hmany : manyE ks rs [] = false := by
    unfold manyE
    rw [decide_eq_false (show ¬ ks = [] from fun e => by rw [e] at k1; simp at k1), decide_eq_false (show ¬ rs = [] from fun e => by rw [e] at r1; simp at r1), decide_eq_false (show ¬ 14 < ks.length by omega), decide_eq_false (show ¬ 40 < signsN ks by omega), decide_eq_false (show ¬ 40 < rs.length by omega), altsN_len, decide_eq_false (show ¬ 100 < (altsOf rs).length by omega)]
    rfl
  obtain ⟨nw, nh, nd⟩ := List.nodup_append.mp wn
  have hk : kindE [] ks = none := kind_good (fun k hk => ⟨(g.all k hk).good, (g.all k hk).bare⟩) g.nodup fun k _ m => by cases m
  have hr : ruleE (ks.map (·.1)) [] rs = none := by
    refine rule_good (fun r hr => ?_) nh (fun r hr m => ?_) h.labels fun a _ m => by cases m
    · obtain ⟨g1, g2, g3, g4⟩ := h.heads r hr
      exact ⟨g1.1, fun e => by rw [e] at g2; simp at g2, fun a ha => ⟨(g4 a ha).1.1, by have := (g4 a ha).2; omega⟩⟩
    · obtain ⟨k, hk, e⟩ := List.mem_map.mp m
      rcases (g.all k hk).wh with ⟨m1, _⟩ | ⟨m1, _⟩
      · exact nd _ m1 _ (List.mem_map.mpr ⟨r, hr, rfl⟩) e
      · exact (h.heads r hr).1.gap (by rw [← m1]; exact e.symm)
  have hy : symE (ks.map (·.1)) (rs.map (·.1)) ((ks.filter fun k => k.2.2).map (·.1)) (rowsOf rs).flatten = none := by
    refine sym_good fun x hx => ?_
    obtain ⟨row, hrow, hx⟩ := List.mem_flatten.mp hx
    obtain ⟨r, hr, m⟩ := List.mem_flatMap.mp hrow
    obtain ⟨a, ha, rfl⟩ := List.mem_map.mp m
    have m := wrow r hr a ha x hx
    have hx3 : x ≠ "gap" := by
      rcases List.mem_append.mp m with m | m
      · exact (wg x m).gap
      · obtain ⟨r', hr', e⟩ := List.mem_map.mp m
        rw [← e]; exact (h.heads r' hr').1.gap
    refine ⟨?_, fun ms => ?_⟩
    · rcases List.mem_append.mp m with m | m
      · exact .inl (g.has x m)
      · exact .inr m
    · obtain ⟨k, hk, e⟩ := List.mem_map.mp ms
      obtain ⟨hk1, hk2⟩ := List.mem_filter.mp hk
      rcases (g.all k hk1).wh with ⟨_, m1⟩ | ⟨m1, _⟩
      · rw [m1] at hk2; cases hk2
      · exact hx3 (by rw [← m1]; exact e.symm)
  unfold gramE
  rw [hmany, if_neg Bool.false_ne_true, hk, hr, hy]
  show (if start ∉ rs.map (·.1) then _ else _) = none
  rw [if_neg (fun h => h hs)]
  rfl
/-! ### bounds -/
theorem kd_wd {k : Str × Pat × Bool} {m : Nat} (h1 : Nm k.1) (h2 : PW k.2.1) (h3 : sizeP k.2.1 ≤ m) : wd (kdD k) ≤ 106 + 110 * m := by
  have e1 : wd (kdD k) = wd (.str k.1) + (wd (patD k.2.1) + (7 + 0)) + 5 := rfl
  have := str_wd h1
  have := pat_wd h2
  have : 110 * sizeP k.2.1 ≤ 110 * m := Nat.mul_le_mul_left _ h3
  omega
theorem strs_wd2 {l : List Str} (h : ∀ x, x ∈ l → Nm x) : wds (l.map PyData.str) ≤ 94 * l.length := wds_le l fun x hx => str_wd (h x hx)
theorem alt_wd2 {a : Str × List Str} {m : Nat} (h1 : Nm a.1) (h2 : ∀ x, x ∈ a.2 → Nm x) (h3 : a.2.length ≤ m) : wd (altD a) ≤ 104 + 94 * m := by
  have e1 : wd (altD a) = wd (.str a.1) + (wds (a.2.map PyData.str) + 5 + 0) + 5 := rfl
  have := str_wd h1
  have := strs_wd2 h2
  have : 94 * a.2.length ≤ 94 * m := Nat.mul_le_mul_left _ h3
  omega
theorem rl_wd2 {r : Str × List (Str × List Str)} {m c : Nat} (h1 : Nm r.1) (h2 : ∀ a, a ∈ r.2 → wd (altD a) ≤ m) (h3 : r.2.length ≤ c) : wd (rlD r) ≤ 104 + m * c := by
  have e1 : wd (rlD r) = wd (.str r.1) + (wds (r.2.map altD) + 5 + 0) + 5 := rfl
  have := str_wd h1
  have := wds_le (f := altD) r.2 h2
  have : m * r.2.length ≤ m * c := Nat.mul_le_mul_left _ h3
  omega
theorem gw_wbn {ks : Kds} {rs : Rls} {st : Str} {bs : Brs} (h : GW ks rs) (hs : Nm st) (hb : bs.length ≤ 4) (hbs : ∀ b, b ∈ bs → EdgB b) : WBn 0 ⟨ks, rs, st, bs⟩ := by
  obtain ⟨k1, k4, kg⟩ := h.kinds
  have r4 := h.few
  obtain ⟨ws, g, w1, w3, wn, wg, wrow⟩ := h.wds
  have hx : ∀ r, r ∈ rs → ∀ a, a ∈ r.2 → ∀ x, x ∈ a.2 → Nm x := fun r hr a ha x hx => by
    rcases List.mem_append.mp (wrow r hr a ha x hx) with m | m
    · exact (wg x m).2.2
    · obtain ⟨r', hr', e⟩ := List.mem_map.mp m
      rw [← e]; exact (h.heads r' hr').1.2.2
  refine ⟨⟨k4, fun k hk => ⟨(g.all k hk).nm, (g.all k hk).pw, (g.all k hk).size, (g.all k hk).deep⟩, ?_⟩, ⟨r4, fun r hr => ?_, ?_⟩, ⟨hb, fun b hb => ?_⟩, hs⟩
  · have := wds_le (f := kdD) ks fun k hk => kd_wd (g.all k hk).nm (g.all k hk).pw (g.all k hk).size
    show wds (ks.map kdD) ≤ 4400
    omega
  · obtain ⟨g1, g2, g3, g4⟩ := h.heads r hr
    exact ⟨g1.2.2, g3, fun a ha => ⟨(g4 a ha).1.2.2, by have := (g4 a ha).2; omega, hx r hr a ha⟩⟩
  · have := wds_le (f := rlD) rs fun r hr => by
      obtain ⟨g1, g2, g3, g4⟩ := h.heads r hr
      exact rl_wd2 g1.2.2 (fun a ha => alt_wd2 (g4 a ha).1.2.2 (hx r hr a ha) (g4 a ha).2) g3
    show wds (rs.map rlD) ≤ 5100
    omega
  · have := hbs b hb
    exact ⟨this.1, this.2.1, by have := this.2.2; omega⟩
theorem gw_edb {ks : Kds} {rs : Rls} (h : GW ks rs) : EdB rs := by
  have r4 := h.few
  have ha := h.alts
  obtain ⟨ws, g, w1, w3, wn, wg, wrow⟩ := h.wds
  obtain ⟨nw, nh, nd⟩ := List.nodup_append.mp wn
  refine ⟨nh, by omega, by omega, fun a ha => ?_, fun r hr => by have := (h.heads r hr).2.2.1; omega⟩
  obtain ⟨r, hr, ha⟩ := List.mem_flatMap.mp ha
  have := (h.heads r hr).2.2.2 a ha
  exact ⟨this.1.2.2, by omega⟩
theorem wbn_wf {n : Nat} {W : Wor} (h : WBn n W) (hn : n ≤ 2) : WF W := by
  have w0 := h.w0 hn
  have hk : kN n ≤ 256 ∧ rN n ≤ 6724 ∧ bN n ≤ 334 ∧ sN n ≤ 1000 ∧ dN n ≤ 12 ∧ kW n + rW n ≤ 16000000 := by
    have : n = 0 ∨ n = 1 ∨ n = 2 := by omega
    rcases this with rfl | rfl | rfl <;> decide
  obtain ⟨z1, z2, z3, z4, z5, z6⟩ := hk
  have l1 := h.k.len
  have l2 := h.r.len
  have l3 := h.b.len
  have l4 := h.k.wt
  have l5 := h.r.wt
  refine ⟨by omega, by omega, by omega, w0.al, fun k hk => ?_, fun r hr => ?_, h.b.all, h.s, by omega⟩
  · have := h.k.all k hk
    exact ⟨this.nm, this.pw, by have := this.size; omega, by have := this.deep; omega⟩
  · have := h.r.all r hr
    exact ⟨this.nm, by have := this.few; omega, fun a ha => ⟨(this.alts a ha).nm, by have := (this.alts a ha).few; omega, (this.alts a ha).syms⟩⟩
theorem ab_wf {W : Wor} (h : AB W) : WF W := by
  have l1 := h.kl
  have l2 := h.rl
  have l3 := h.bl
  have al : altsN W.rs ≤ 10 * W.rs.length := sum_le _ 10 W.rs fun r hr => (h.r r hr).2.1
  rw [altsN_len] at al
  have t1 := wds_le (f := kdD) W.ks fun k hk => kd_wd (h.k k hk).1 (h.k k hk).2.1 (h.k k hk).2.2.1
  have t2 := wds_le (f := rlD) W.rs fun r hr => rl_wd2 (h.r r hr).1 (fun a ha => alt_wd2 ((h.r r hr).2.2 a ha).1 ((h.r r hr).2.2 a ha).2.2 ((h.r r hr).2.2 a ha).2.1) (h.r r hr).2.1
  refine ⟨by omega, by omega, by omega, by omega, fun k hk => ?_, fun r hr => ?_, h.b, h.s, by omega⟩
  · have := h.k k hk
    exact ⟨this.1, this.2.1, by have := this.2.2.1; omega, by have := this.2.2.2; omega⟩
  · have := h.r r hr
    exact ⟨this.1, by have := this.2.1; omega, fun a ha => ⟨(this.2.2 a ha).1, by have := (this.2.2 a ha).2.1; omega, (this.2.2 a ha).2.2⟩⟩
theorem WF.fi {W : Wor} (h : WF W) : Fi 20 (worD W) ∧ wd (worD W) ≤ 16777216 := by
  have sf : ∀ {n : Nat} {x : Str}, Nm x → Fi n (.str x) := fun h => .str h.2
  constructor
  · refine .lst fun d hd => ?_
    simp only [List.mem_cons, List.not_mem_nil, or_false] at hd
    rcases hd with rfl | rfl | rfl | rfl
    · refine .lst fun d hd => ?_
      obtain ⟨k, hk, rfl⟩ := List.mem_map.mp hd
      have := h.k k hk
      refine .tup fun d hd => ?_
      simp only [List.mem_cons, List.not_mem_nil, or_false] at hd
      rcases hd with rfl | rfl | rfl
      · exact sf this.1
      · exact (pat_fi this.2.1).mono (by have := this.2.2.2; omega)
      · exact .bl _
    · refine .lst fun d hd => ?_
      obtain ⟨r, hr, rfl⟩ := List.mem_map.mp hd
      have := h.r r hr
      refine .tup fun d hd => ?_
      simp only [List.mem_cons, List.not_mem_nil, or_false] at hd
      rcases hd with rfl | rfl
      · exact sf this.1
      · refine .lst fun d hd => ?_
        obtain ⟨a, ha, rfl⟩ := List.mem_map.mp hd
        have := this.2.2 a ha
        refine .tup fun d hd => ?_
        simp only [List.mem_cons, List.not_mem_nil, or_false] at hd
        rcases hd with rfl | rfl
        · exact sf this.1
        · refine .tup fun d hd => ?_
          obtain ⟨x, hx, rfl⟩ := List.mem_map.mp hd
          exact sf (this.2.2 x hx)
    · exact sf h.s
    · refine .lst fun d hd => ?_
      obtain ⟨b, hb, rfl⟩ := List.mem_map.mp hd
      have := h.b b hb
      refine .tup fun d hd => ?_
      simp only [List.mem_cons, List.not_mem_nil, or_false] at hd
      rcases hd with rfl | rfl | rfl
      · exact sf this.1
      · exact .int this.2.2
      · exact sf this.2.1
  · have e : wd (worD W) = wds (W.ks.map kdD) + 5 + (wds (W.rs.map rlD) + 5 + (wd (.str W.st) + (wds (W.bs.map brD) + 5 + 0))) + 5 := rfl
    have t := wds_le (f := brD) (k := 200) W.bs fun b hb => by
      have hb1 := h.b b hb
      have e1 : wd (brD b) = wd (.str b.1) + (7 + (wd (.str b.2.2) + 0)) + 5 := rfl
      have := str_wd hb1.1
      have := str_wd hb1.2.1
      omega
    have := h.bl
    have := h.wt
    have := str_wd h.s
    omega
end Pa
set_option maxHeartbeats 4000000
namespace Pa
open PySem PySem.Spec PyProof.Rows L2 Ty Se
/-! ### what is told and what is due are alike -/
def wordsL : List Str := ["many", "name", "twice", "empty", "bare", "label", "again", "long", "symbol", "skipped", "begin", "bar"]
theorem words_ok : ∀ x, x ∈ wordsL → PyData.strOk x = true := by decide +kernel
def NoOk (e : No) : Prop := PyData.strOk e.1 = true ∧ ∀ x, e.2 = some x → PyData.strOk x = true
theorem noOk {t n : Str} (h : t ∈ wordsL) (hn : Nm n) : NoOk (t, some n) := ⟨words_ok _ h, fun x e => by cases e; exact nm_ok hn⟩
theorem kindE_ok : ∀ {ks : Kds} {met : List Str} {e : No}, (∀ k, k ∈ ks → Nm k.1) → kindE met ks = some e → NoOk e
  | [], _, _, _, h => by cases h
  | (n, p, s) :: ks, met, e, hn, h => by
    have q : kindE met ((n, p, s) :: ks) = if nameP n = false then some (("name" : Str), some n) else if n ∈ met then some (("twice" : Str), some n) else if bareP p = true then some (("empty" : Str), some n) else kindE (met ++ [n]) ks := rfl
    rw [q] at h
    have nn : Nm n := hn _ List.mem_cons_self
    split at h
    · cases h; exact noOk (by simp [wordsL]) nn
    split at h
    · cases h; exact noOk (by simp [wordsL]) nn
    split at h
    · cases h; exact noOk (by simp [wordsL]) nn
    exact kindE_ok (fun k hk => hn k (List.mem_cons_of_mem _ hk)) h
theorem altE_ok : ∀ {as : List (Str × List Str)} {ls : List Str} {e : No}, (∀ a, a ∈ as → Nm a.1) → altE ls as = some e → NoOk e
  | [], _, _, _, h => by cases h
  | (l, row) :: as, ls, e, hn, h => by
    have q : altE ls ((l, row) :: as) = if nameP l = false then some (("label" : Str), some l) else if l ∈ ls then some (("again" : Str), some l) else if 6 < row.length then some (("long" : Str), some l) else altE (ls ++ [l]) as := rfl
    rw [q] at h
    have nn : Nm l := hn _ List.mem_cons_self
    split at h
    · cases h; exact noOk (by simp [wordsL]) nn
    split at h
    · cases h; exact noOk (by simp [wordsL]) nn
    split at h
    · cases h; exact noOk (by simp [wordsL]) nn
    exact altE_ok (fun k hk => hn k (List.mem_cons_of_mem _ hk)) h
theorem ruleE_ok : ∀ {rs : Rls} {met ls : List Str} {e : No}, (∀ r, r ∈ rs → Nm r.1 ∧ ∀ a, a ∈ r.2 → Nm a.1) → ruleE met ls rs = some e → NoOk e
  | [], _, _, _, _, h => by cases h
  | (n, as) :: rs, met, ls, e, hn, h => by
    have q : ruleE met ls ((n, as) :: rs) = if nameP n = false then some (("name" : Str), some n) else if n ∈ met then some (("twice" : Str), some n) else if as = [] then some (("bare" : Str), some n) else
      match altE ls as with
      | some e => some e
      | none => ruleE (met ++ [n]) (ls ++ as.map (·.1)) rs := rfl
    rw [q] at h
    have n0 := hn _ List.mem_cons_self
    have nn : Nm n := n0.1
    split at h
    · cases h; exact noOk (by simp [wordsL]) nn
    split at h
    · cases h; exact noOk (by simp [wordsL]) nn
    split at h
    · cases h; exact noOk (by simp [wordsL]) nn
    cases ha : altE ls as with
    | some e2 =>
      rw [ha] at h
      cases h
      exact altE_ok n0.2 ha
    | none =>
      rw [ha] at h
      exact ruleE_ok (fun k hk => hn k (List.mem_cons_of_mem _ hk)) h
theorem symE_ok {names heads skips : List Str} : ∀ {l : List Str} {e : No}, (∀ x, x ∈ l → Nm x) → symE names heads skips l = some e → NoOk e
  | [], _, _, h => by cases h
  | x :: l, e, hn, h => by
    rw [sym_cons] at h
    have nn := hn _ List.mem_cons_self
    split at h
    · cases h; exact noOk (by simp [wordsL]) nn
    split at h
    · cases h; exact noOk (by simp [wordsL]) nn
    exact symE_ok (fun k hk => hn k (List.mem_cons_of_mem _ hk)) h
theorem barE_ok {rs : Rls} : ∀ {bs met : Brs} {e : No}, (∀ b, b ∈ bs → Nm b.1) → barE rs met bs = some e → NoOk e
  | [], _, _, _, h => by cases h
  | (one, place, other) :: bs, met, e, hn, h => by
    rw [bar_cons] at h
    have nn : Nm one := hn _ List.mem_cons_self
    split at h
    · cases h; exact noOk (by simp [wordsL]) nn
    exact barE_ok (fun k hk => hn k (List.mem_cons_of_mem _ hk)) h
theorem gram_ok {W : Wor} (hF : WF W) {e : No} (h : gramE W.ks W.rs W.st W.bs = some e) : NoOk e := by
  unfold gramE at h
  split at h
  · cases h
    exact ⟨words_ok _ (by simp [wordsL]), fun x e => by cases e⟩
  cases hk : kindE [] W.ks with
  | some e2 =>
    rw [hk] at h
    cases h
    exact kindE_ok (fun k hk => (hF.k k hk).1) hk
  | none =>
  rw [hk] at h
  cases hr : ruleE (W.ks.map (·.1)) [] W.rs with
  | some e2 =>
    simp only [hr] at h
    cases h
    exact ruleE_ok (fun r hr => ⟨(hF.r r hr).1, fun a ha => ((hF.r r hr).2.2 a ha).1⟩) hr
  | none =>
  simp only [hr] at h
  cases hs : symE (W.ks.map (·.1)) (W.rs.map (·.1)) ((W.ks.filter fun k => k.2.2).map (·.1)) (rowsOf W.rs).flatten with
  | some e2 =>
    simp only [hs] at h
    cases h
    refine symE_ok (fun x hx => ?_) hs
    obtain ⟨row, hrow, hx⟩ := List.mem_flatten.mp hx
    obtain ⟨r, hr, m⟩ := List.mem_flatMap.mp hrow
    obtain ⟨a, ha, rfl⟩ := List.mem_map.mp m
    exact ((hF.r r hr).2.2 a ha).2.2 x hx
  | none =>
  simp only [hs] at h
  split at h
  · cases h
    exact noOk (by simp [wordsL]) hF.s
  exact barE_ok (fun b hb => (hF.b b hb).1) h
def noD : Option No → PyData
  | none => .none
  | some e => .list [.str e.1, match e.2 with | none => .none | some x => .str x]
theorem NoV.same {H H' : Hp} {v : V} : ∀ {o : Option No}, Same H H' → NoV H v o → NoV H' v o
  | none, _, h => h
  | some e, s, ⟨p, h1, h2⟩ => ⟨p, h1, s _ _ h2⟩
theorem NoV.dp {K : PySem.W.Frag} {H : Hp} {v : V} : ∀ {o : Option No}, NoV H v o → Dp K H v (noD o)
  | none, h => by
    have h : v = .non := h
    rw [h]; exact .non
  | some (t, n), ⟨p, h1, h2⟩ => by
    rw [h1]
    cases n with
    | none => exact .lst (SqL.of h2) (.cons (.str _) (.cons .non .nil))
    | some x => exact .lst (SqL.of h2) (.cons (.str _) (.cons (.str _) .nil))
theorem no_refl : ∀ o : Option No, PyData.eqv (noD o) (noD o) = true
  | none => rfl
  | some (t, none) => by simp [noD, PyData.eqv, PyData.eqvAll]
  | some (t, some x) => by simp [noD, PyData.eqv, PyData.eqvAll]
theorem no_shaped : ∀ {o : Option No}, (∀ e, o = some e → NoOk e) → SeqAt.shaped (noD o) = true
  | none, _ => rfl
  | some (t, none), h => by
    have h1 := (h _ rfl).1
    refine shaped_of ?_ (by show 1 ≤ 64; decide)
    show (PyData.strOk t && (true && true)) = true
    rw [show PyData.strOk t = true from h1]; rfl
  | some (t, some x), h => by
    have h1 := (h _ rfl).1
    have h2 := (h _ rfl).2 x rfl
    refine shaped_of ?_ (by show 1 ≤ 64; decide)
    show (PyData.strOk t && (PyData.strOk x && true)) = true
    rw [show PyData.strOk t = true from h1, h2]; rfl
end Pa
set_option maxHeartbeats 4000000
namespace Pa
open PySem PySem.Spec PyProof.Rows L2 Ty Se
/-! ### the law -/
theorem passF {P : Program} {w : World} {X : Cx} : Passes (L2.CX P w) X E0 := fun _ _ _ _ _ _ _ h => by
  obtain ⟨_, _, _, _, _, _, _, _, _, _, _, _, h⟩ := h
  exact h.elim
def spLaw (K : PySem.W.Frag) : Sp := fun vs H Q _ => ∃ (a : Addr) (ns : List Int), vs = [.ref a] ∧ SqL K H a (ns.map V.int) ∧ ns.length ≤ 63 ∧ ∀ H', Q (.bl true) H'
abbrev nLa : List Str := ["script", "k", "purse", "kinds", "rules", "at", "world", "count", "kept"]
theorem scLa : FnScope nLa ["script"] (defScope lLaw) := ⟨rfl, rfl, rfl, by decide +kernel, rfl, by decide +kernel, by decide +kernel⟩
theorem aux3 {X C0 : V → Hp → Prop} {M : Prop} (f : (∀ p H, C0 p H → X p H) → M) (r : ∀ p H, C0 p H → X p H) : M := f r
section
variable {A : Around} {P : Program} {w : World} {K : PySem.W.Frag} {mg : Str → Option Value} {base : Heap} {f fI fB C CN fN dt a1 a2 a3 a4 a5 a6 a7 a8 : Addr} {fd dI dB d1 d2 d3 d4 d5 d6 d7 d8 : FuncData}
theorem ok_law (F : Fun K "law" "law" lLaw f fd) (hA : A.guards = some []) (hr0 : Room 51 A)
    (PU : FnOk P w K mg base CX0 1 a1 d1 ["script", "k"] (spPurse K)) (b1 : Binds K d1 ["script", "k"] []) (k1 : PySem.W.keepIn K (.ref a1) = true) (m1 : mg "_law_purse" = some (.ref a1))
    (WO : FnOk P w K mg base CX0 8 a2 d2 ["purse"] spWorld) (b2 : Binds K d2 ["purse"] []) (k2 : PySem.W.keepIn K (.ref a2) = true) (m2 : mg "_law_world" = some (.ref a2))
    (BR : FnOk P w K mg base CX0 3 a3 d3 ["purse", "rules", "most"] spBars) (b3 : Binds K d3 ["purse", "rules", "most"] []) (k3 : PySem.W.keepIn K (.ref a3) = true) (m3 : mg "_law_bars" = some (.ref a3))
    (DR : FnOk P w K mg base CX0 1 a4 d4 ["purse", "many"] spDrawn) (b4 : Binds K d4 ["purse", "many"] []) (k4 : PySem.W.keepIn K (.ref a4) = true) (m4 : mg "_law_drawn" = some (.ref a4))
    (BE : FnOk P w K mg base CX0 4 a5 d5 ["purse", "world"] spBent) (b5 : Binds K d5 ["purse", "world"] []) (k5 : PySem.W.keepIn K (.ref a5) = true) (m5 : mg "_law_bent" = some (.ref a5))
    (AT : FnOk P w K mg base CX0 3 a6 d6 ["purse"] spAt) (b6 : Binds K d6 ["purse"] []) (k6 : PySem.W.keepIn K (.ref a6) = true) (m6 : mg "_law_at_bound" = some (.ref a6))
    (TO : FnOk P w K mg base CX0 49 a7 d7 ["world"] spLTold) (b7 : Binds K d7 ["world"] []) (k7 : PySem.W.keepIn K (.ref a7) = true) (m7 : mg "_law_told" = some (.ref a7))
    (DU : FnOk P w K mg base CX0 17 a8 d8 ["world"] spDue) (b8 : Binds K d8 ["world"] []) (k8 : PySem.W.keepIn K (.ref a8) = true) (m8 : mg "_law_due" = some (.ref a8))
    (GI : FnOk P w K mg base (L2.CX P w) 47 fI dI ["self", "kinds", "rules", "begin", "bars"] (spGInit K 14 C CN)) (FD : GInitD K dt fI dI) (MK : L2.Mk K C fI) (mC : mg "Grammar" = some (.ref C)) (hdt : ∀ H, SqT K H dt [])
    (GB : FnOk P w K mg base CX0 1 fB dB ["self"] (spBegin C)) (bB : Binds K dB ["self"] []) (MB : Meth K C "begin" fB) (T : GTxt K mg C CN fN)
    (mr : mg "range" = none) (mx : mg "max" = none) (mn : mg "min" = none) (ml : mg "len" = none) (mre : mg "repr" = none) :
    Enters A P w K mg base f fd ["script"] (spLaw K) := by
  refine enters F scLa hr0 fun cdv outer s H vs Q hr h => ?_
  obtain ⟨a, ns, rfl, hS, h63, q⟩ := h
  have hg : (A.deeper (envOfC "law" (defScope lLaw) s.heap.objs.size f cdv)).guards = some [] := hA
  have hu := hr.units
  obtain ⟨ds, hds, bI⟩ := ginit_dfl FD
  have PU' := PU.mono (show 1 ≤ 50 by decide)
  have WO' := WO.mono (show 8 ≤ 50 by decide)
  have BR' := BR.mono (show 3 ≤ 50 by decide)
  have DR' := DR.mono (show 1 ≤ 50 by decide)
  have BE' := BE.mono (show 4 ≤ 50 by decide)
  have AT' := AT.mono (show 3 ≤ 50 by decide)
  have TO' := TO.mono (show 49 ≤ 50 by decide)
  have DU' := DU.mono (show 17 ≤ 50 by decide)
  have GB' := GB.mono (show 1 ≤ 50 by decide)
  refine ⟨_, pss_cons (ps_for PassesOwn.never rfl (pi_range1 rfl mr (pa_cons (pe_callB (call_max2 rfl) rfl mx (by decide +kernel) (pa_cons pe_int (pa_cons (pe_callB (call_min2 rfl) rfl mn (by decide +kernel) (pa_cons pe_int (pa_cons (pe_callB call_len_seq rfl ml PySem.boot_len (pa_cons (pv 0) pa_nil)) pa_nil))) pa_nil))) pa_nil)) (pg_name (i := 1) scLa.nd rfl (Or.inl rfl))
      (pss_cons (ps_set (i := 2) scLa.nd rfl (.inl rfl) (pe_call PU' hr rfl m1 k1 b1 .nil pass0 (pa_cons (pv 0) (pa_cons (pv 1) pa_nil))))
      (pss_cons (ps_asg (pe_call WO' hr rfl m2 k2 b2 .nil pass0 (pa_cons (pv 2) pa_nil)) (pg_lst rfl (pgs_cons (pg_name (i := 3) scLa.nd rfl (Or.inl rfl)) (pgs_cons (pg_name (i := 4) scLa.nd rfl (Or.inl rfl)) (pgs_cons (pg_name (i := 5) scLa.nd rfl (Or.inl rfl)) pgs_nil)))))
      (pss_cons (ps_set (i := 6) scLa.nd rfl (.inl rfl) (pe_lst (pa_cons (pv 3) (pa_cons (pv 4) (pa_cons (pe_ix (show IxR _ (rIxT K) from ix_tup) (pe_ix (show IxR _ (rIxL K) from ix_list) (pv 4) (pv 5) (fun _ _ => rfl)) pe_int (fun _ _ => rfl)) (pa_cons (pe_call BR' hr rfl m3 k3 b3 .nil pass0 (pa_cons (pv 2) (pa_cons (pv 4) (pa_cons pe_int pa_nil)))) pa_nil))))))
      (pss_cons (ps_for PassesOwn.never rfl (pi_range1 rfl mr (pa_cons (pe_call DR' hr rfl m4 k4 b4 .nil pass0 (pa_cons (pv 2) (pa_cons pe_int pa_nil))) pa_nil)) (pg_name (i := 7) scLa.nd rfl (Or.inl rfl))
          (pss_one (ps_set (i := 6) scLa.nd rfl (.inl rfl) (pe_call BE' hr rfl m5 k5 b5 .nil pass0 (pa_cons (pv 2) (pa_cons (pv 6) pa_nil))))))
      (pss_cons (ps_if (pt_cmpR op_eq (pe_call DR' hr rfl m4 k4 b4 .nil pass0 (pa_cons (pv 2) (pa_cons pe_int pa_nil))) pe_int (nomark _)) (pss_one (ps_set (i := 6) scLa.nd rfl (.inl rfl) (pe_call AT' hr rfl m6 k6 b6 .nil pass0 (pa_cons (pv 2) pa_nil)))) pss_nil)
      (pss_cons (ps_set (i := 8) scLa.nd rfl (.inl rfl) (pe_callB (call_reprD hg hu) rfl mre (by decide +kernel) (pa_cons (pv 6) pa_nil)))
      (pss_cons (ps_if (PW.pt (pw_or (pt_cmpR (op_neD hu) (pe_call TO' hr rfl m7 k7 b7 .nil pass0 (pa_cons (pv 6) pa_nil)) (pe_call DU' hr rfl m8 k8 b8 .nil pass0 (pa_cons (pv 6) pa_nil)) (nomark _))
          (pw_or1 (pt_cmpR op_ne (pe_callB (call_reprD hg hu) rfl mre (by decide +kernel) (pa_cons (pv 6) pa_nil)) (pv 8) (nomark _))))) (pss_one (ps_ret pe_bl)) pss_nil)
      (pss_one (ps_if (pt_cmpR op_ne (pe_meth0 (pe_make MK GI (hr.mono (by decide)) rfl mC bI hds passF (pa_cons (pv 3) (pa_cons (pv 4) pa_nil))) T.cl MB GB' hr bB .nil pass0)
          (pe_ix (show IxR _ (rIxT K) from ix_tup) (pe_ix (show IxR _ (rIxL K) from ix_list) (pv 4) pe_int (fun _ _ => rfl)) pe_int (fun _ _ => rfl)) (nomark _)) (pss_one (ps_ret pe_bl)) pss_nil))))))))))
    (pss_one (ps_ret pe_bl)), ?_⟩
  have hm : ∃ m : Int, m = (if (if ((((ns.map V.int).length : Nat) : Int)) < 8 then ((((ns.map V.int).length : Nat) : Int)) else 8) > 1 then (if ((((ns.map V.int).length : Nat) : Int)) < 8 then ((((ns.map V.int).length : Nat) : Int)) else 8) else 1) ∧ 0 ≤ m ∧ m ≤ 8 := by
    refine ⟨_, rfl, ?_, ?_⟩ <;> split <;> (try split) <;> omega
  obtain ⟨m, hm, m0, m8⟩ := hm
  refine ⟨_, rfl, a, _, rfl, .inl hS, _, _, rfl, _, _, rfl, m, congrArg (fun z => [V.int z]) hm.symm, by omega, by omega, ?_⟩
  refine for_range (lo := 0) (n := m.toNat) (fun i σ H' => (∃ x1 x2 x3 x4 x5 x6 x7 x8, σ = [some (.ref a), x1, x2, x3, x4, x5, x6, x7, x8]) ∧ SqL K H' a (ns.map V.int)) ⟨⟨_, _, _, _, _, _, _, _, rfl⟩, hS⟩ (fun i σ H0 hi p => ?turn) (fun σ H0 p => ?done)
  case done => exact q _
  obtain ⟨⟨x1, x2, x3, x4, x5, x6, x7, x8, rfl⟩, hS0⟩ := p
  obtain ⟨kk, hkk⟩ : ∃ kk : Int, kk = 0 + (i : Int) := ⟨_, rfl⟩
  rw [← hkk]
  refine ⟨_, rfl, _, rfl, a, ns, kk, rfl, hS0, by rw [sizeLine_eq]; omega, by omega, by omega, fun j H1 hjn s1 hj1 => ?_⟩
  have fin : ∀ H', Keep j H1 H' → SqL K H' a (ns.map V.int) := fun H' k =>
    (show Same H0 H' from fun b o e => k b o (ne_of_none e hjn) (s1 b o e)).seq hS0
  refine ⟨_, rfl, j, 0, rfl, hj1, by decide, fun p aa bb ks rs at' H2 hp hp2 hK hR gw hat hj2 kp2 => ?_⟩
  refine ⟨p, _, rfl, SqL.of hp2, rfl, _, _, rfl, _, _, rfl, _, _, rfl, rfl, ?_⟩
  obtain ⟨rb, hrb, prb⟩ := id hR
  have lrb : rb.length = rs.length := Paired.length prb
  obtain ⟨va, hva⟩ : ∃ v, rb[at']? = some v := ⟨_, List.getElem?_eq_getElem (by omega)⟩
  obtain ⟨⟨nh, ash⟩, hrh, hvh⟩ := paired_get prb _ va hva
  obtain ⟨ra, rab, rxs, rfl, hra, _, _, _⟩ := hvh
  have hnh : Nm nh := (gw.heads _ (List.mem_of_getElem? hrh)).1.2.2
  refine ⟨_, rfl, _, rfl, _, rfl, _, rfl, bb, rb, _, _, rfl, rfl, SqL.of hrb, atI_nat hva, ra, _, 0, _, rfl, rfl, SqT.of hra, at_zero, ?_⟩
  refine ⟨_, rfl, _, rfl, j, bb, 300, 4, rs, rfl, hj2.mono (by omega), by decide, by decide, hR, gw_edb gw, fun pb bs H3 hpb hBL lbs hE hj3 kp3 => ⟨(by show 4 ≤ sizeLine; decide), fun pw hpw => ?_⟩⟩
  have w3 := same_new hpw (.lst [.ref aa, .ref bb, .str nh, .ref pb])
  have hW0 : WV (upd H3 pw (.lst [.ref aa, .ref bb, .str nh, .ref pb])) (.ref pw) ⟨ks, rs, nh, bs⟩ := .make upd_same ((hK.keep hj2 kp3).same w3) ((hR.keep hj2 kp3).same w3) (hBL.same w3)
  have hB0 : WBn 0 ⟨ks, rs, nh, bs⟩ := gw_wbn gw hnh lbs hE
  have hj4 := hj3.keep w3
  have k14 : Keep j H1 (upd H3 pw (.lst [.ref aa, .ref bb, .str nh, .ref pb])) := kp2.trans (kp3.trans (.of_same w3))
  have k24 : Keep j H2 (upd H3 pw (.lst [.ref aa, .ref bb, .str nh, .ref pb])) := kp3.trans (.of_same w3)
  generalize upd H3 pw (.lst [.ref aa, .ref bb, .str nh, .ref pb]) = H4 at w3 hW0 hj4 k14 k24 ⊢
  refine ⟨_, rfl, j, 305, 3, rfl, hj4.mono (by omega), by decide, by decide, by decide, fun r H5 r0 r3 hj5 kp5 => ?_⟩
  refine ⟨r, rfl, by omega, by omega, ?_⟩
  refine for_range (lo := 0) (n := r.toNat) (fun t σ H' => ∃ x7 v W, σ = [some (.ref a), some (.int kk), some (.ref j), some (.ref aa), some (.ref bb), some (.int (at' : Nat)), some v, x7, x8] ∧ WV H' v W ∧ WBn t W ∧ Jar j H' (306 + 20 * t) ∧ Keep j H2 H')
    ⟨_, _, _, rfl, hW0.keep hj4 kp5, hB0, hj5.mono (by omega), k24.trans kp5⟩ (fun t σ H' hi p => ?turn2) (fun σ H' p => ?done2)
  case turn2 =>
    obtain ⟨x7, v, W, rfl, wv, wb, jr, kp⟩ := p
    refine ⟨_, rfl, _, rfl, j, v, 306 + 20 * t, t, W, rfl, jr, by omega, wv, wb, by omega, fun v' W' H'' wv' wb' jr' kp' => ?_⟩
    exact ⟨_, v', W', rfl, wv', wb', jr'.mono (by omega), kp.trans kp'⟩
  obtain ⟨x7, v, W, rfl, wv, wb, jr, kp⟩ := p
  have wf := wbn_wf wb (by omega)
  refine ⟨_, rfl, j, 306 + 20 * r.toNat, 6, rfl, jr, by omega, by decide, by decide, fun r2 H7 r20 r26 jr7 kp7 => ?_⟩
  have wv7 := wv.keep jr kp7
  have kp27 := kp.trans kp7
  have e_t : r2 = 0 → decide (V.int r2 = V.int 0) = true := fun h => decide_eq_true (by rw [h])
  have e_f : r2 ≠ 0 → decide (V.int r2 = V.int 0) = false := fun h => decide_eq_false (fun e => h (V.int.inj e))
  refine' aux3 (C0 := fun v H' => (∃ W, WV H' v W ∧ WF W) ∧ Keep j H2 H') (fun hR => ?m3) ?rest3
  case m3 =>
    by_cases h0 : r2 ≠ 0
    · refine ⟨rfl, _, rfl, ifF (e_f h0) ?_⟩
      have hh : (∃ W, WV H7 v W ∧ WF W) ∧ Keep j H2 H7 := ⟨⟨W, wv7, wf⟩, kp27⟩
      generalize hv' : v = v' at hh
      generalize hH' : H7 = H7' at hh
      exact hR v' H7' hh
    · refine ⟨rfl, _, rfl, ifT (e_t (Decidable.not_not.mp h0)) ?_⟩
      refine ⟨_, rfl, j, 306 + 20 * r.toNat + 1, rfl, jr7, by omega, fun v' W' H8 wv' ab' jr' kp' => ?_⟩
      exact hR v' H8 ⟨⟨W', wv', ab_wf ab'⟩, kp27.trans kp'⟩
  rintro v8 H8 ⟨⟨W8, wv8, wf8⟩, k28⟩
  have wv8' := wv8
  obtain ⟨ww, _, _, _, _, _, _, rfl, _⟩ := wv8'
  refine ⟨_, rfl, ww, worD W8, 20, rfl, wv8.data, wf8.fi.1, by decide, wf8.fi.2, ?_⟩
  refine ⟨_, rfl, .ref ww, W8, rfl, wv8, wf8, fun t1 H9 n1 s9 => ?_⟩
  refine ⟨_, rfl, .ref ww, W8, rfl, wv8.same s9, wf8, fun t2 H10 n2 s10 => ?_⟩
  have sh := no_shaped (o := gramE W8.ks W8.rs W8.st W8.bs) fun e he => gram_ok wf8 he
  refine ⟨noD (gramE W8.ks W8.rs W8.st W8.bs), noD (gramE W8.ks W8.rs W8.st W8.bs), (n1.same s10).dp, n2.dp, sh, sh, _, rfl, ?_⟩
  rw [no_refl]
  have s810 := s9.trans s10
  refine iteF ?_
  refine ⟨_, rfl, ww, worD W8, 20, rfl, (wv8.same s810).data, wf8.fi.1, by decide, wf8.fi.2, ?_⟩
  refine ⟨_, rfl, rfl, _, rfl, ifF (by rw [decide_eq_true rfl]; rfl) ?_⟩
  have k2X : Keep j H2 H10 := k28.trans (.of_same s810)
  have k1X : Keep j H1 H10 := kp2.trans k2X
  obtain ⟨ka, hka, pka⟩ := hK.keep hj2 k2X
  obtain ⟨rb9, hrb9, prb9⟩ := hR.keep hj2 k2X
  obtain ⟨n0, as0, rt, ers⟩ : ∃ n0 as0 rt, rs = (n0, as0) :: rt := by
    have := gw.one
    cases rs with
    | nil => simp at this
    | cons x rt => exact ⟨x.1, x.2, rt, rfl⟩
  have hst : n0 ∈ rs.map (·.1) := by rw [ers]; exact List.mem_cons_self
  have gn := gw_none gw hst
  have gb : GBd 14 ks rs [] := by
    have wf0 : WF ⟨ks, rs, nh, []⟩ := wbn_wf (gw_wbn (bs := []) gw hnh (by decide) (fun b h => by cases h)) (by decide)
    exact wf0.gbd
  obtain ⟨v0, rtv, e0⟩ : ∃ v0 rtv, rb9 = v0 :: rtv := by
    cases rb9 with
    | nil =>
      have := Paired.length prb9
      rw [ers] at this
      simp at this
    | cons v rt => exact ⟨v, rt, rfl⟩
  obtain ⟨r00, hr00, hv0⟩ := paired_get prb9 0 v0 (by rw [e0]; rfl)
  rw [ers] at hr00
  have e00 : (n0, as0) = r00 := Option.some.inj hr00
  subst e00
  obtain ⟨ra0, rab0, rxs0, rfl, hra0, _, _, _⟩ := hv0
  have hra0 : H10 ra0 = some (.tup [.str n0, .ref rab0]) := hra0
  refine ⟨_, rfl, _, rfl, fun x dx hx hdx hne => ?_⟩
  have w5 := same_new hdx (.own x)
  have hx2 : (upd H10 dx (.own x)) x = none := by rw [upd_ne (Ne.symm hne)]; exact hx
  have w6 := same_new hx2 (.ins C dx [])
  have w56 := w5.trans w6
  have e6 : (upd (upd H10 dx (.own x)) x (.ins C dx [])) x = some (.ins C dx []) := upd_same
  generalize upd (upd H10 dx (.own x)) x (.ins C dx []) = G1 at w56 e6 ⊢
  have back : ∀ {H'}, KX [x] G1 H' → Same H10 H' := fun {H'} kx c o e => kx c o (fun m => by rw [List.mem_singleton.mp m, hx] at e; cases e) (w56 _ _ e)
  refine ⟨x, aa, bb, dt, dx, .non, ka, rb9, [], ks, rs, [], n0, rfl, e6, w56 _ _ hka, paired_imp (fun _ _ r => r.tk (Tk.of_same w56)) pka, w56 _ _ hrb9, paired_imp (fun _ _ r => r.same w56) prb9, hdt _, .nil, .inr ⟨rfl, fun n as t e => by rw [ers] at e; exact (Prod.mk.inj (List.cons.inj e).1).1⟩, gb, fun en fs H' hg l1 l2 kx => ?_, fun e he => by rw [gn] at he; cases he⟩
  have sB := back kx
  refine ⟨rfl, x, dx, fs, rfl, hg, l2, x, dx, fs, .str n0, rfl, hg, l1, ?_⟩
  refine ⟨_, rfl, bb, rb9, 0, _, rfl, rfl, SqL.of (sB _ _ hrb9), by rw [e0]; exact at_zero, ra0, _, 0, _, rfl, rfl, SqT.of (sB _ _ hra0), at_zero, ?_⟩
  refine ⟨rfl, _, rfl, ifF (by rw [decide_eq_true rfl]; rfl) ?_⟩
  exact ⟨⟨_, _, _, _, _, _, _, _, rfl⟩, fin _ (k1X.trans (.of_same sB))⟩
end
end Pa
namespace Pa
open PySem PySem.Spec PyProof.Rows L2 Ty
theorem kept_at {K : PySem.W.Frag} {d : Addr} {dd : Option Addr} {its : Array Value} {n : Nat} {sl : Array (Option Value)} {t0 t1 t2 t3 t4 : Tok} (hl : K.lookup d = some ⟨.type "tuple", dd, .seq its n, sl⟩)
    (he : its.toList = [.str "word" t0, .str "skip" t1, .str "rule" t2, .str "top" t3, .str "bar" t4]) (H : Hp) : SqT K H d (kept.map V.str) := by
  refine .inr ⟨_, its, n, hl, rfl, rfl, ?_, ?_⟩
  · have : its.toList.length = 5 := by rw [he]; rfl
    have e : its.toList.length = its.size := Array.length_toList
    rw [sizeLine_eq]; omega
  · rw [he]
    exact .cons ⟨_, rfl⟩ (.cons ⟨_, rfl⟩ (.cons ⟨_, rfl⟩ (.cons ⟨_, rfl⟩ (.cons ⟨_, rfl⟩ .nil))))
theorem none_at {K : PySem.W.Frag} {d : Addr} {dd : Option Addr} {its : Array Value} {n : Nat} {sl : Array (Option Value)} (hl : K.lookup d = some ⟨.type "tuple", dd, .seq its n, sl⟩) (he : its.toList = []) (H : Hp) : SqT K H d [] := by
  refine .inr ⟨_, its, n, hl, rfl, rfl, ?_, ?_⟩
  · have : its.toList.length = 0 := by rw [he]; rfl
    have e : its.toList.length = its.size := Array.length_toList
    omega
  · rw [he]; exact .nil
set_option maxHeartbeats 4000000 in
theorem all_mk {l : PySem.W.OpenLaw} {w : World} {K : PySem.W.Frag} {h : Heap} {mg : Str → Option Value} {fa B1 B2 B3 B4 B5 B6 DK dt f1 f2 f3 f4 f5 f6 f7 f8 f9 f10 f11 f12 f13 f14 f15 f16 f17 f18 f19 f20 f21 f22 f23 f24 f25 f26 f27 f28 f29 f30 CY CN fCN dkP C fC___init__ fC_ends fC_ends_anew fC_again_ends G fG___init__ fG_need_few fG_look_kinds fG_look_rules fG_look_label fG_look_symbols fG_look_bars fG_begin : Addr} (X : K.In h) (G0 : h.Ns mainGlobals mg) (hfa : mg "law" = some (.ref fa))
    {nmCN qCN : Str} {NNCN : Addr} {bsCN : List Value} {snCN : List Str} {subCN : List Value} {abCN : Bool} {colCN : Option Bool} {ddCN : Option Addr} {kx0CN kx1CN kx2CN kx3CN kx5CN : Option Value} {odICN anICN : Option Addr} {slICN : Array (Option Value)} {ocICN dcICN pmICN kVICN cdICN ctICN : Value}
    {od1 an1 od2 an2 od3 an3 od4 an4 od5 an5 od6 an6 od7 an7 od8 an8 od9 an9 od10 an10 od11 an11 od12 an12 od13 an13 od14 an14 od15 an15 od16 an16 od17 an17 od18 an18 od19 an19 od20 an20 od21 an21 od22 an22 od23 an23 od24 an24 od25 an25 od26 an26 od27 an27 od28 an28 od29 an29 od30 an30 : Option Addr} {sl1 sl2 sl3 sl4 sl5 sl6 sl7 sl8 sl9 sl10 sl11 sl12 sl13 sl14 sl15 sl16 sl17 sl18 sl19 sl20 sl21 sl22 sl23 sl24 sl25 sl26 sl27 sl28 sl29 sl30 : Array (Option Value)} {oc1 kV1 dc1 pm1 cd1 ct1 oc2 kV2 dc2 pm2 cd2 ct2 oc3 kV3 dc3 pm3 cd3 ct3 oc4 kV4 dc4 pm4 cd4 ct4 oc5 kV5 dc5 pm5 cd5 ct5 oc6 kV6 dc6 pm6 cd6 ct6 oc7 kV7 dc7 pm7 cd7 ct7 oc8 kV8 dc8 pm8 cd8 ct8 oc9 kV9 dc9 pm9 cd9 ct9 oc10 kV10 dc10 pm10 cd10 ct10 oc11 kV11 dc11 pm11 cd11 ct11 oc12 kV12 dc12 pm12 cd12 ct12 oc13 kV13 dc13 pm13 cd13 ct13 oc14 kV14 dc14 pm14 cd14 ct14 oc15 kV15 dc15 pm15 cd15 ct15 oc16 kV16 dc16 pm16 cd16 ct16 oc17 kV17 dc17 pm17 cd17 ct17 oc18 kV18 dc18 pm18 cd18 ct18 oc19 kV19 dc19 pm19 cd19 ct19 oc20 kV20 dc20 pm20 cd20 ct20 oc21 kV21 dc21 pm21 cd21 ct21 oc22 kV22 dc22 pm22 cd22 ct22 oc23 kV23 dc23 pm23 cd23 ct23 oc24 kV24 dc24 pm24 cd24 ct24 oc25 kV25 dc25 pm25 cd25 ct25 oc26 kV26 dc26 pm26 cd26 ct26 oc27 kV27 dc27 pm27 cd27 ct27 oc28 kV28 dc28 pm28 cd28 ct28 oc29 kV29 dc29 pm29 cd29 ct29 oc30 kV30 dc30 pm30 cd30 ct30 : Value}
    {odC___init__ anC___init__ : Option Addr} {slC___init__ : Array (Option Value)} {ocC___init__ kVC___init__ dcC___init__ pmC___init__ cdC___init__ ctC___init__ : Value}
    {odC_ends anC_ends : Option Addr} {slC_ends : Array (Option Value)} {ocC_ends kVC_ends dcC_ends pmC_ends cdC_ends ctC_ends : Value}
    {odC_ends_anew anC_ends_anew : Option Addr} {slC_ends_anew : Array (Option Value)} {ocC_ends_anew kVC_ends_anew dcC_ends_anew pmC_ends_anew cdC_ends_anew ctC_ends_anew : Value}
    {odC_again_ends anC_again_ends : Option Addr} {slC_again_ends : Array (Option Value)} {ocC_again_ends kVC_again_ends dcC_again_ends pmC_again_ends cdC_again_ends ctC_again_ends : Value}
    {odG___init__ anG___init__ : Option Addr} {slG___init__ : Array (Option Value)} {ocG___init__  dcG___init__ pmG___init__ cdG___init__ ctG___init__ : Value}
    {odG_need_few anG_need_few : Option Addr} {slG_need_few : Array (Option Value)} {ocG_need_few kVG_need_few dcG_need_few pmG_need_few cdG_need_few ctG_need_few : Value}
    {odG_look_kinds anG_look_kinds : Option Addr} {slG_look_kinds : Array (Option Value)} {ocG_look_kinds kVG_look_kinds dcG_look_kinds pmG_look_kinds cdG_look_kinds ctG_look_kinds : Value}
    {odG_look_rules anG_look_rules : Option Addr} {slG_look_rules : Array (Option Value)} {ocG_look_rules kVG_look_rules dcG_look_rules pmG_look_rules cdG_look_rules ctG_look_rules : Value}
    {odG_look_label anG_look_label : Option Addr} {slG_look_label : Array (Option Value)} {ocG_look_label kVG_look_label dcG_look_label pmG_look_label cdG_look_label ctG_look_label : Value}
    {odG_look_symbols anG_look_symbols : Option Addr} {slG_look_symbols : Array (Option Value)} {ocG_look_symbols kVG_look_symbols dcG_look_symbols pmG_look_symbols cdG_look_symbols ctG_look_symbols : Value}
    {odG_look_bars anG_look_bars : Option Addr} {slG_look_bars : Array (Option Value)} {ocG_look_bars kVG_look_bars dcG_look_bars pmG_look_bars cdG_look_bars ctG_look_bars : Value}
    {odG_begin anG_begin : Option Addr} {slG_begin : Array (Option Value)} {ocG_begin kVG_begin dcG_begin pmG_begin cdG_begin ctG_begin : Value}
    {tkL : Tok} {zkL : Str}
    {tkN : Tok}
    {ddkP : Option Addr} {itskP : Array Value} {nkP : Nat} {slkP : Array (Option Value)} {tkP0 tkP1 tkP2 tkP3 tkP4 : Tok}
    {tKa : Tok}
    {tKb : Tok}
    {tKc : Tok}
    {tKd : Tok}
    {tKe : Tok}
    {tKf : Tok}
    {ddt : Option Addr} {itsdt : Array Value} {ndt : Nat} {sldt : Array (Option Value)}
    (a1 : PySem.W.nsIn K mainGlobals "is_name" = some (some (.ref f1)))
    (l1 : K.lookup f1 = some ⟨oc1, od1, .func (PySem.W.fnOf "is_name" "is_name" (defArgs sName) (defBody sName) (defScope sName) .none kV1 dc1 pm1 an1 cd1 ct1), sl1⟩)
    (c1 : PySem.W.codeIn K cd1 "is_name" = true)
    (k1 : PySem.W.keepIn K (.ref f1) = true)
    (a2 : PySem.W.nsIn K mainGlobals "parts_told" = some (some (.ref f2)))
    (l2 : K.lookup f2 = some ⟨oc2, od2, .func (PySem.W.fnOf "parts_told" "parts_told" (defArgs sTold) (defBody sTold) (defScope sTold) .none kV2 dc2 pm2 an2 cd2 ct2), sl2⟩)
    (c2 : PySem.W.codeIn K cd2 "parts_told" = true)
    (k2 : PySem.W.keepIn K (.ref f2) = true)
    (a3 : PySem.W.nsIn K mainGlobals "spells" = some (some (.ref f3)))
    (l3 : K.lookup f3 = some ⟨oc3, od3, .func (PySem.W.fnOf "spells" "spells" (defArgs sSpells) (defBody sSpells) (defScope sSpells) .none kV3 dc3 pm3 an3 cd3 ct3), sl3⟩)
    (c3 : PySem.W.codeIn K cd3 "spells" = true)
    (k3 : PySem.W.keepIn K (.ref f3) = true)
    (a4 : PySem.W.nsIn K mainGlobals "spells_none" = some (some (.ref f4)))
    (l4 : K.lookup f4 = some ⟨oc4, od4, .func (PySem.W.fnOf "spells_none" "spells_none" (defArgs sNone) (defBody sNone) (defScope sNone) .none kV4 dc4 pm4 an4 cd4 ct4), sl4⟩)
    (c4 : PySem.W.codeIn K cd4 "spells_none" = true)
    (k4 : PySem.W.keepIn K (.ref f4) = true)
    (a5 : PySem.W.nsIn K mainGlobals "signs_in" = some (some (.ref f5)))
    (l5 : K.lookup f5 = some ⟨oc5, od5, .func (PySem.W.fnOf "signs_in" "signs_in" (defArgs sSignsIn) (defBody sSignsIn) (defScope sSignsIn) .none kV5 dc5 pm5 an5 cd5 ct5), sl5⟩)
    (c5 : PySem.W.codeIn K cd5 "signs_in" = true)
    (k5 : PySem.W.keepIn K (.ref f5) = true)
    (a6 : PySem.W.nsIn K mainGlobals "_law_purse" = some (some (.ref f6)))
    (l6 : K.lookup f6 = some ⟨oc6, od6, .func (PySem.W.fnOf "_law_purse" "_law_purse" (defArgs lPurse) (defBody lPurse) (defScope lPurse) .none kV6 dc6 pm6 an6 cd6 ct6), sl6⟩)
    (c6 : PySem.W.codeIn K cd6 "_law_purse" = true)
    (k6 : PySem.W.keepIn K (.ref f6) = true)
    (a7 : PySem.W.nsIn K mainGlobals "_law_drawn" = some (some (.ref f7)))
    (l7 : K.lookup f7 = some ⟨oc7, od7, .func (PySem.W.fnOf "_law_drawn" "_law_drawn" (defArgs lDrawn) (defBody lDrawn) (defScope lDrawn) .none kV7 dc7 pm7 an7 cd7 ct7), sl7⟩)
    (c7 : PySem.W.codeIn K cd7 "_law_drawn" = true)
    (k7 : PySem.W.keepIn K (.ref f7) = true)
    (a8 : PySem.W.nsIn K mainGlobals "_law_all" = some (some (.ref f8)))
    (l8 : K.lookup f8 = some ⟨oc8, od8, .func (PySem.W.fnOf "_law_all" "_law_all" (defArgs lAll) (defBody lAll) (defScope lAll) .none kV8 dc8 pm8 an8 cd8 ct8), sl8⟩)
    (c8 : PySem.W.codeIn K cd8 "_law_all" = true)
    (k8 : PySem.W.keepIn K (.ref f8) = true)
    (a9 : PySem.W.nsIn K mainGlobals "_law_named" = some (some (.ref f9)))
    (l9 : K.lookup f9 = some ⟨oc9, od9, .func (PySem.W.fnOf "_law_named" "_law_named" (defArgs lNamed) (defBody lNamed) (defScope lNamed) .none kV9 dc9 pm9 an9 cd9 ct9), sl9⟩)
    (c9 : PySem.W.codeIn K cd9 "_law_named" = true)
    (k9 : PySem.W.keepIn K (.ref f9) = true)
    (a10 : PySem.W.nsIn K mainGlobals "_law_pattern" = some (some (.ref f10)))
    (l10 : K.lookup f10 = some ⟨oc10, od10, .func (PySem.W.fnOf "_law_pattern" "_law_pattern" (defArgs lPattern) (defBody lPattern) (defScope lPattern) .none kV10 dc10 pm10 an10 cd10 ct10), sl10⟩)
    (c10 : PySem.W.codeIn K cd10 "_law_pattern" = true)
    (k10 : PySem.W.keepIn K (.ref f10) = true)
    (a11 : PySem.W.nsIn K mainGlobals "_law_bare" = some (some (.ref f11)))
    (l11 : K.lookup f11 = some ⟨oc11, od11, .func (PySem.W.fnOf "_law_bare" "_law_bare" (defArgs lBare) (defBody lBare) (defScope lBare) .none kV11 dc11 pm11 an11 cd11 ct11), sl11⟩)
    (c11 : PySem.W.codeIn K cd11 "_law_bare" = true)
    (k11 : PySem.W.keepIn K (.ref f11) = true)
    (a12 : PySem.W.nsIn K mainGlobals "_law_kinds" = some (some (.ref f12)))
    (l12 : K.lookup f12 = some ⟨oc12, od12, .func (PySem.W.fnOf "_law_kinds" "_law_kinds" (defArgs lKinds) (defBody lKinds) (defScope lKinds) .none kV12 dc12 pm12 an12 cd12 ct12), sl12⟩)
    (c12 : PySem.W.codeIn K cd12 "_law_kinds" = true)
    (k12 : PySem.W.keepIn K (.ref f12) = true)
    (a13 : PySem.W.nsIn K mainGlobals "_law_alternatives" = some (some (.ref f13)))
    (l13 : K.lookup f13 = some ⟨oc13, od13, .func (PySem.W.fnOf "_law_alternatives" "_law_alternatives" (defArgs lAlts) (defBody lAlts) (defScope lAlts) .none kV13 dc13 pm13 an13 cd13 ct13), sl13⟩)
    (c13 : PySem.W.codeIn K cd13 "_law_alternatives" = true)
    (k13 : PySem.W.keepIn K (.ref f13) = true)
    (a14 : PySem.W.nsIn K mainGlobals "_law_world" = some (some (.ref f14)))
    (l14 : K.lookup f14 = some ⟨oc14, od14, .func (PySem.W.fnOf "_law_world" "_law_world" (defArgs lWorld) (defBody lWorld) (defScope lWorld) .none kV14 dc14 pm14 an14 cd14 ct14), sl14⟩)
    (c14 : PySem.W.codeIn K cd14 "_law_world" = true)
    (k14 : PySem.W.keepIn K (.ref f14) = true)
    (a15 : PySem.W.nsIn K mainGlobals "_law_edges" = some (some (.ref f15)))
    (l15 : K.lookup f15 = some ⟨oc15, od15, .func (PySem.W.fnOf "_law_edges" "_law_edges" (defArgs lEdges) (defBody lEdges) (defScope lEdges) .none kV15 dc15 pm15 an15 cd15 ct15), sl15⟩)
    (c15 : PySem.W.codeIn K cd15 "_law_edges" = true)
    (k15 : PySem.W.keepIn K (.ref f15) = true)
    (a16 : PySem.W.nsIn K mainGlobals "_law_bars" = some (some (.ref f16)))
    (l16 : K.lookup f16 = some ⟨oc16, od16, .func (PySem.W.fnOf "_law_bars" "_law_bars" (defArgs lBars) (defBody lBars) (defScope lBars) .none kV16 dc16 pm16 an16 cd16 ct16), sl16⟩)
    (c16 : PySem.W.codeIn K cd16 "_law_bars" = true)
    (k16 : PySem.W.keepIn K (.ref f16) = true)
    (a17 : PySem.W.nsIn K mainGlobals "_law_strange" = some (some (.ref f17)))
    (l17 : K.lookup f17 = some ⟨oc17, od17, .func (PySem.W.fnOf "_law_strange" "_law_strange" (defArgs lStrange) (defBody lStrange) (defScope lStrange) .none kV17 dc17 pm17 an17 cd17 ct17), sl17⟩)
    (c17 : PySem.W.codeIn K cd17 "_law_strange" = true)
    (k17 : PySem.W.keepIn K (.ref f17) = true)
    (a18 : PySem.W.nsIn K mainGlobals "_law_all_names" = some (some (.ref f18)))
    (l18 : K.lookup f18 = some ⟨oc18, od18, .func (PySem.W.fnOf "_law_all_names" "_law_all_names" (defArgs lNames) (defBody lNames) (defScope lNames) .none kV18 dc18 pm18 an18 cd18 ct18), sl18⟩)
    (c18 : PySem.W.codeIn K cd18 "_law_all_names" = true)
    (k18 : PySem.W.keepIn K (.ref f18) = true)
    (a19 : PySem.W.nsIn K mainGlobals "_law_kinds_bent" = some (some (.ref f19)))
    (l19 : K.lookup f19 = some ⟨oc19, od19, .func (PySem.W.fnOf "_law_kinds_bent" "_law_kinds_bent" (defArgs lKBent) (defBody lKBent) (defScope lKBent) .none kV19 dc19 pm19 an19 cd19 ct19), sl19⟩)
    (c19 : PySem.W.codeIn K cd19 "_law_kinds_bent" = true)
    (k19 : PySem.W.keepIn K (.ref f19) = true)
    (a20 : PySem.W.nsIn K mainGlobals "_law_rules_bent" = some (some (.ref f20)))
    (l20 : K.lookup f20 = some ⟨oc20, od20, .func (PySem.W.fnOf "_law_rules_bent" "_law_rules_bent" (defArgs lRBent) (defBody lRBent) (defScope lRBent) .none kV20 dc20 pm20 an20 cd20 ct20), sl20⟩)
    (c20 : PySem.W.codeIn K cd20 "_law_rules_bent" = true)
    (k20 : PySem.W.keepIn K (.ref f20) = true)
    (a21 : PySem.W.nsIn K mainGlobals "_law_bars_bent" = some (some (.ref f21)))
    (l21 : K.lookup f21 = some ⟨oc21, od21, .func (PySem.W.fnOf "_law_bars_bent" "_law_bars_bent" (defArgs lBBent) (defBody lBBent) (defScope lBBent) .none kV21 dc21 pm21 an21 cd21 ct21), sl21⟩)
    (c21 : PySem.W.codeIn K cd21 "_law_bars_bent" = true)
    (k21 : PySem.W.keepIn K (.ref f21) = true)
    (a22 : PySem.W.nsIn K mainGlobals "_law_bent" = some (some (.ref f22)))
    (l22 : K.lookup f22 = some ⟨oc22, od22, .func (PySem.W.fnOf "_law_bent" "_law_bent" (defArgs lBent) (defBody lBent) (defScope lBent) .none kV22 dc22 pm22 an22 cd22 ct22), sl22⟩)
    (c22 : PySem.W.codeIn K cd22 "_law_bent" = true)
    (k22 : PySem.W.keepIn K (.ref f22) = true)
    (a23 : PySem.W.nsIn K mainGlobals "_law_at_bound" = some (some (.ref f23)))
    (l23 : K.lookup f23 = some ⟨oc23, od23, .func (PySem.W.fnOf "_law_at_bound" "_law_at_bound" (defArgs lBound) (defBody lBound) (defScope lBound) .none kV23 dc23 pm23 an23 cd23 ct23), sl23⟩)
    (c23 : PySem.W.codeIn K cd23 "_law_at_bound" = true)
    (k23 : PySem.W.keepIn K (.ref f23) = true)
    (a24 : PySem.W.nsIn K mainGlobals "_law_signs" = some (some (.ref f24)))
    (l24 : K.lookup f24 = some ⟨oc24, od24, .func (PySem.W.fnOf "_law_signs" "_law_signs" (defArgs lSigns) (defBody lSigns) (defScope lSigns) .none kV24 dc24 pm24 an24 cd24 ct24), sl24⟩)
    (c24 : PySem.W.codeIn K cd24 "_law_signs" = true)
    (k24 : PySem.W.keepIn K (.ref f24) = true)
    (a25 : PySem.W.nsIn K mainGlobals "_law_none" = some (some (.ref f25)))
    (l25 : K.lookup f25 = some ⟨oc25, od25, .func (PySem.W.fnOf "_law_none" "_law_none" (defArgs lNone) (defBody lNone) (defScope lNone) .none kV25 dc25 pm25 an25 cd25 ct25), sl25⟩)
    (c25 : PySem.W.codeIn K cd25 "_law_none" = true)
    (k25 : PySem.W.keepIn K (.ref f25) = true)
    (a26 : PySem.W.nsIn K mainGlobals "_law_too_many" = some (some (.ref f26)))
    (l26 : K.lookup f26 = some ⟨oc26, od26, .func (PySem.W.fnOf "_law_too_many" "_law_too_many" (defArgs lMany) (defBody lMany) (defScope lMany) .none kV26 dc26 pm26 an26 cd26 ct26), sl26⟩)
    (c26 : PySem.W.codeIn K cd26 "_law_too_many" = true)
    (k26 : PySem.W.keepIn K (.ref f26) = true)
    (a27 : PySem.W.nsIn K mainGlobals "_law_name_due" = some (some (.ref f27)))
    (l27 : K.lookup f27 = some ⟨oc27, od27, .func (PySem.W.fnOf "_law_name_due" "_law_name_due" (defArgs lNameDue) (defBody lNameDue) (defScope lNameDue) .none kV27 dc27 pm27 an27 cd27 ct27), sl27⟩)
    (c27 : PySem.W.codeIn K cd27 "_law_name_due" = true)
    (k27 : PySem.W.keepIn K (.ref f27) = true)
    (a28 : PySem.W.nsIn K mainGlobals "_law_due" = some (some (.ref f28)))
    (l28 : K.lookup f28 = some ⟨oc28, od28, .func (PySem.W.fnOf "_law_due" "_law_due" (defArgs lDue) (defBody lDue) (defScope lDue) .none kV28 dc28 pm28 an28 cd28 ct28), sl28⟩)
    (c28 : PySem.W.codeIn K cd28 "_law_due" = true)
    (k28 : PySem.W.keepIn K (.ref f28) = true)
    (a29 : PySem.W.nsIn K mainGlobals "_law_told" = some (some (.ref f29)))
    (l29 : K.lookup f29 = some ⟨oc29, od29, .func (PySem.W.fnOf "_law_told" "_law_told" (defArgs lTold) (defBody lTold) (defScope lTold) .none kV29 dc29 pm29 an29 cd29 ct29), sl29⟩)
    (c29 : PySem.W.codeIn K cd29 "_law_told" = true)
    (k29 : PySem.W.keepIn K (.ref f29) = true)
    (a30 : PySem.W.nsIn K mainGlobals "law" = some (some (.ref f30)))
    (l30 : K.lookup f30 = some ⟨oc30, od30, .func (PySem.W.fnOf "law" "law" (defArgs lLaw) (defBody lLaw) (defScope lLaw) .none kV30 dc30 pm30 an30 cd30 ct30), sl30⟩)
    (c30 : PySem.W.codeIn K cd30 "law" = true)
    (k30 : PySem.W.keepIn K (.ref f30) = true)
    (akC : PySem.W.nsIn K mainGlobals "Spelling" = some (some (.ref C)))
    (pgC : PySem.W.plainGet K C Str.empty = true)
    (hdC : PySem.W.hasDictIn K C = true)
    (poC : PySem.W.plainOver K C = true)
    (stC : PySem.W.findIn K (.ref C) "__setattr__" = some (some (.builtin "object.__setattr__")))
    (mkC : PySem.W.makesIn K C = true)
    (kcC : PySem.W.keepIn K (.ref C) = true)
    (naC_parts : PySem.W.findIn K (.ref C) "parts" = some none)
    (naC_text : PySem.W.findIn K (.ref C) "text" = some none)
    (naC_known : PySem.W.findIn K (.ref C) "known" = some none)
    (aC___init__ : PySem.W.findIn K (.ref C) "__init__" = some (some (.ref fC___init__)))
    (iC___init__ : PySem.W.isFn K (.ref fC___init__) = true)
    (lC___init__ : K.lookup fC___init__ = some ⟨ocC___init__, odC___init__, .func (PySem.W.fnOf "__init__" "Spelling.__init__" (defArgs sInit) (defBody sInit) (defScope sInit) .none kVC___init__ dcC___init__ pmC___init__ anC___init__ cdC___init__ ctC___init__), slC___init__⟩)
    (cC___init__ : PySem.W.codeIn K cdC___init__ "Spelling.__init__" = true)
    (kC___init__ : PySem.W.keepIn K (.ref fC___init__) = true)
    (aC_ends : PySem.W.findIn K (.ref C) "ends" = some (some (.ref fC_ends)))
    (iC_ends : PySem.W.isFn K (.ref fC_ends) = true)
    (lC_ends : K.lookup fC_ends = some ⟨ocC_ends, odC_ends, .func (PySem.W.fnOf "ends" "Spelling.ends" (defArgs sEnds) (defBody sEnds) (defScope sEnds) .none kVC_ends dcC_ends pmC_ends anC_ends cdC_ends ctC_ends), slC_ends⟩)
    (cC_ends : PySem.W.codeIn K cdC_ends "Spelling.ends" = true)
    (kC_ends : PySem.W.keepIn K (.ref fC_ends) = true)
    (aC_ends_anew : PySem.W.findIn K (.ref C) "ends_anew" = some (some (.ref fC_ends_anew)))
    (iC_ends_anew : PySem.W.isFn K (.ref fC_ends_anew) = true)
    (lC_ends_anew : K.lookup fC_ends_anew = some ⟨ocC_ends_anew, odC_ends_anew, .func (PySem.W.fnOf "ends_anew" "Spelling.ends_anew" (defArgs sAnew) (defBody sAnew) (defScope sAnew) .none kVC_ends_anew dcC_ends_anew pmC_ends_anew anC_ends_anew cdC_ends_anew ctC_ends_anew), slC_ends_anew⟩)
    (cC_ends_anew : PySem.W.codeIn K cdC_ends_anew "Spelling.ends_anew" = true)
    (kC_ends_anew : PySem.W.keepIn K (.ref fC_ends_anew) = true)
    (aC_again_ends : PySem.W.findIn K (.ref C) "again_ends" = some (some (.ref fC_again_ends)))
    (iC_again_ends : PySem.W.isFn K (.ref fC_again_ends) = true)
    (lC_again_ends : K.lookup fC_again_ends = some ⟨ocC_again_ends, odC_again_ends, .func (PySem.W.fnOf "again_ends" "Spelling.again_ends" (defArgs sAgain) (defBody sAgain) (defScope sAgain) .none kVC_again_ends dcC_again_ends pmC_again_ends anC_again_ends cdC_again_ends ctC_again_ends), slC_again_ends⟩)
    (cC_again_ends : PySem.W.codeIn K cdC_again_ends "Spelling.again_ends" = true)
    (kC_again_ends : PySem.W.keepIn K (.ref fC_again_ends) = true)
    (akG : PySem.W.nsIn K mainGlobals "Grammar" = some (some (.ref G)))
    (pgG : PySem.W.plainGet K G Str.empty = true)
    (hdG : PySem.W.hasDictIn K G = true)
    (poG : PySem.W.plainOver K G = true)
    (stG : PySem.W.findIn K (.ref G) "__setattr__" = some (some (.builtin "object.__setattr__")))
    (mkG : PySem.W.makesIn K G = true)
    (kcG : PySem.W.keepIn K (.ref G) = true)
    (naG_kind_rows : PySem.W.findIn K (.ref G) "kind_rows" = some none)
    (naG_rule_rows : PySem.W.findIn K (.ref G) "rule_rows" = some none)
    (naG_bar_rows : PySem.W.findIn K (.ref G) "bar_rows" = some none)
    (naG_first_rule : PySem.W.findIn K (.ref G) "first_rule" = some none)
    (naG_patterns : PySem.W.findIn K (.ref G) "patterns" = some none)
    (naG_skips : PySem.W.findIn K (.ref G) "skips" = some none)
    (naG_homes : PySem.W.findIn K (.ref G) "homes" = some none)
    (naG_spelled : PySem.W.findIn K (.ref G) "spelled" = some none)
    (naG_numbers : PySem.W.findIn K (.ref G) "numbers" = some none)
    (naG_label_rows : PySem.W.findIn K (.ref G) "label_rows" = some none)
    (aG___init__ : PySem.W.findIn K (.ref G) "__init__" = some (some (.ref fG___init__)))
    (iG___init__ : PySem.W.isFn K (.ref fG___init__) = true)
    (lG___init__ : K.lookup fG___init__ = some ⟨ocG___init__, odG___init__, .func (PySem.W.fnOf "__init__" "Grammar.__init__" (defArgs gInit) (defBody gInit) (defScope gInit) .none (.ref DK) dcG___init__ pmG___init__ anG___init__ cdG___init__ ctG___init__), slG___init__⟩)
    (cG___init__ : PySem.W.codeIn K cdG___init__ "Grammar.__init__" = true)
    (kG___init__ : PySem.W.keepIn K (.ref fG___init__) = true)
    (aG_need_few : PySem.W.findIn K (.ref G) "need_few" = some (some (.ref fG_need_few)))
    (iG_need_few : PySem.W.isFn K (.ref fG_need_few) = true)
    (lG_need_few : K.lookup fG_need_few = some ⟨ocG_need_few, odG_need_few, .func (PySem.W.fnOf "need_few" "Grammar.need_few" (defArgs gFew) (defBody gFew) (defScope gFew) .none kVG_need_few dcG_need_few pmG_need_few anG_need_few cdG_need_few ctG_need_few), slG_need_few⟩)
    (cG_need_few : PySem.W.codeIn K cdG_need_few "Grammar.need_few" = true)
    (kG_need_few : PySem.W.keepIn K (.ref fG_need_few) = true)
    (aG_look_kinds : PySem.W.findIn K (.ref G) "look_kinds" = some (some (.ref fG_look_kinds)))
    (iG_look_kinds : PySem.W.isFn K (.ref fG_look_kinds) = true)
    (lG_look_kinds : K.lookup fG_look_kinds = some ⟨ocG_look_kinds, odG_look_kinds, .func (PySem.W.fnOf "look_kinds" "Grammar.look_kinds" (defArgs gKinds) (defBody gKinds) (defScope gKinds) .none kVG_look_kinds dcG_look_kinds pmG_look_kinds anG_look_kinds cdG_look_kinds ctG_look_kinds), slG_look_kinds⟩)
    (cG_look_kinds : PySem.W.codeIn K cdG_look_kinds "Grammar.look_kinds" = true)
    (kG_look_kinds : PySem.W.keepIn K (.ref fG_look_kinds) = true)
    (aG_look_rules : PySem.W.findIn K (.ref G) "look_rules" = some (some (.ref fG_look_rules)))
    (iG_look_rules : PySem.W.isFn K (.ref fG_look_rules) = true)
    (lG_look_rules : K.lookup fG_look_rules = some ⟨ocG_look_rules, odG_look_rules, .func (PySem.W.fnOf "look_rules" "Grammar.look_rules" (defArgs gRules) (defBody gRules) (defScope gRules) .none kVG_look_rules dcG_look_rules pmG_look_rules anG_look_rules cdG_look_rules ctG_look_rules), slG_look_rules⟩)
    (cG_look_rules : PySem.W.codeIn K cdG_look_rules "Grammar.look_rules" = true)
    (kG_look_rules : PySem.W.keepIn K (.ref fG_look_rules) = true)
    (aG_look_label : PySem.W.findIn K (.ref G) "look_label" = some (some (.ref fG_look_label)))
    (iG_look_label : PySem.W.isFn K (.ref fG_look_label) = true)
    (lG_look_label : K.lookup fG_look_label = some ⟨ocG_look_label, odG_look_label, .func (PySem.W.fnOf "look_label" "Grammar.look_label" (defArgs gLabel) (defBody gLabel) (defScope gLabel) .none kVG_look_label dcG_look_label pmG_look_label anG_look_label cdG_look_label ctG_look_label), slG_look_label⟩)
    (cG_look_label : PySem.W.codeIn K cdG_look_label "Grammar.look_label" = true)
    (kG_look_label : PySem.W.keepIn K (.ref fG_look_label) = true)
    (aG_look_symbols : PySem.W.findIn K (.ref G) "look_symbols" = some (some (.ref fG_look_symbols)))
    (iG_look_symbols : PySem.W.isFn K (.ref fG_look_symbols) = true)
    (lG_look_symbols : K.lookup fG_look_symbols = some ⟨ocG_look_symbols, odG_look_symbols, .func (PySem.W.fnOf "look_symbols" "Grammar.look_symbols" (defArgs gSymbols) (defBody gSymbols) (defScope gSymbols) .none kVG_look_symbols dcG_look_symbols pmG_look_symbols anG_look_symbols cdG_look_symbols ctG_look_symbols), slG_look_symbols⟩)
    (cG_look_symbols : PySem.W.codeIn K cdG_look_symbols "Grammar.look_symbols" = true)
    (kG_look_symbols : PySem.W.keepIn K (.ref fG_look_symbols) = true)
    (aG_look_bars : PySem.W.findIn K (.ref G) "look_bars" = some (some (.ref fG_look_bars)))
    (iG_look_bars : PySem.W.isFn K (.ref fG_look_bars) = true)
    (lG_look_bars : K.lookup fG_look_bars = some ⟨ocG_look_bars, odG_look_bars, .func (PySem.W.fnOf "look_bars" "Grammar.look_bars" (defArgs gBars) (defBody gBars) (defScope gBars) .none kVG_look_bars dcG_look_bars pmG_look_bars anG_look_bars cdG_look_bars ctG_look_bars), slG_look_bars⟩)
    (cG_look_bars : PySem.W.codeIn K cdG_look_bars "Grammar.look_bars" = true)
    (kG_look_bars : PySem.W.keepIn K (.ref fG_look_bars) = true)
    (aG_begin : PySem.W.findIn K (.ref G) "begin" = some (some (.ref fG_begin)))
    (iG_begin : PySem.W.isFn K (.ref fG_begin) = true)
    (lG_begin : K.lookup fG_begin = some ⟨ocG_begin, odG_begin, .func (PySem.W.fnOf "begin" "Grammar.begin" (defArgs gBegin) (defBody gBegin) (defScope gBegin) .none kVG_begin dcG_begin pmG_begin anG_begin cdG_begin ctG_begin), slG_begin⟩)
    (cG_begin : PySem.W.codeIn K cdG_begin "Grammar.begin" = true)
    (kG_begin : PySem.W.keepIn K (.ref fG_begin) = true)
    (aY : PySem.W.nsIn K mainGlobals "YardError" = some (some (.ref CY)))
    (rY : PySem.W.readsIn K CY (.type "type") = true)
    (gY : PySem.W.specialIn K (.ref CY) "__getattribute__" = some (some (.builtin "type.__getattribute__")))
    (vY : PySem.W.findCls K (.ref CY) (.type "type") "__init__" = some (.val (.builtin "ValueError.__init__")))
    (yB : PySem.W.subIn K (.ref CY) (.type "BaseException") = some true)
    (yD : PySem.W.hasDictIn K CY = true)
    (yT : PySem.W.typeIn K (.ref CY) = some (.type "type"))
    (aCN : PySem.W.nsIn K mainGlobals "NoGrammar" = some (some (.ref CN)))
    (xCN : K.lookup CN = some (excClassObj nmCN qCN CN NNCN bsCN [.ref CY, .type "ValueError", .type "Exception", .type "BaseException", .type "object"] true snCN subCN abCN colCN ddCN kx0CN kx1CN kx2CN kx3CN kx5CN "ValueError.__new__"))
    (saCN : PySem.W.findIn K (.ref CN) "__setattr__" = some (some (.builtin "object.__setattr__")))
    (exCN : PySem.W.subIn K (.ref CN) (.type "BaseException") = some true)
    (tyCN : PySem.W.typeIn K (.ref CN) = some (.type "type"))
    (kCN : PySem.W.keepIn K (.ref CN) = true)
    (noCNwhat : PySem.W.findIn K (.ref CN) "what" = some none)
    (noCNname : PySem.W.findIn K (.ref CN) "name" = some none)
    (aICN : PySem.W.findIn K (.ref CN) "__init__" = some (some (.ref fCN)))
    (tICN : PySem.W.typeIn K (.ref fCN) = some (.type "function"))
    (lICN : K.lookup fCN = some ⟨ocICN, odICN, .func (PySem.W.fnOf "__init__" "NoGrammar.__init__" (defArgs sNoGrammar) (defBody sNoGrammar) (defScope sNoGrammar) .none kVICN dcICN pmICN anICN cdICN ctICN), slICN⟩)
    (cICN : PySem.W.codeIn K cdICN "NoGrammar.__init__" = true)
    (kICN : PySem.W.keepIn K (.ref fCN) = true)
    (eGCN : PySem.W.findIn K (.ref CN) "__getattribute__" = some (some (.builtin "BaseException.__getattribute__")))
    (eKCN : PySem.W.findIn K (.ref CN) "__getattr__" = some none)
    (eDCN : PySem.W.hasDictIn K CN = true)
    (eACN : PySem.W.findIn K (.ref CN) "__class__" = some (some (.builtin "object.__class__")))
    (eMCN : PySem.W.mroIn K CN (.type "object") = some true)
    (sCYCN : PySem.W.subIn K (.ref CN) (.ref CY) = some true)
    (sCCCN : PySem.W.subIn K (.ref CN) (.ref CN) = some true)
    (qVCN : PySem.W.kitOne K (.ref CN) (.type "ValueError") = some true)
    (qYCN : PySem.W.kitOne K (.ref CN) (.ref CY) = some true)
    (qCCN : PySem.W.kitOne K (.ref CN) (.ref CN) = some true)
    (eN : PySem.W.specialIn K (.builtin "object.__class__") "__get__" = some (some (.builtin "getset_descriptor.__get__")))
    (eT : PySem.W.takesIn K (.builtin "object.__class__") = some true)
    (akL : PySem.W.nsIn K mainGlobals "LETTERS" = some (some (.str zkL tkL)))
    (ekL : zkL = lettS)
    (akN : PySem.W.nsIn K mainGlobals "LONGEST" = some (some (.int 8 tkN)))
    (akP : PySem.W.nsIn K mainGlobals "KEPT" = some (some (.ref dkP)))
    (lkP : K.lookup dkP = some ⟨.type "tuple", ddkP, .seq itskP nkP, slkP⟩)
    (ekP : itskP.toList = [.str "word" tkP0, .str "skip" tkP1, .str "rule" tkP2, .str "top" tkP3, .str "bar" tkP4])
    (aKa : PySem.W.nsIn K mainGlobals "MOST_KINDS" = some (some (.int 14 tKa)))
    (aKb : PySem.W.nsIn K mainGlobals "MOST_SIGNS" = some (some (.int 40 tKb)))
    (aKc : PySem.W.nsIn K mainGlobals "MOST_RULES" = some (some (.int 40 tKc)))
    (aKd : PySem.W.nsIn K mainGlobals "MOST_ALTERNATIVES" = some (some (.int 100 tKd)))
    (aKe : PySem.W.nsIn K mainGlobals "MOST_BARS" = some (some (.int 30 tKe)))
    (aKf : PySem.W.nsIn K mainGlobals "MOST_SYMBOLS" = some (some (.int 6 tKf)))
    (nb : PySem.W.nsIn K DK "begin" = some (some .none))
    (ns : PySem.W.nsIn K DK "bars" = some (some (.ref dt)))
    (ldt : K.lookup dt = some ⟨.type "tuple", ddt, .seq itsdt ndt, sldt⟩)
    (edt : itsdt.toList = [])
    (aB1 : PySem.W.nsIn K mainGlobals "Barred" = some (some (.ref B1)))
    (aB2 : PySem.W.nsIn K mainGlobals "NoLabel" = some (some (.ref B2)))
    (aB3 : PySem.W.nsIn K mainGlobals "NoName" = some (some (.ref B3)))
    (aB4 : PySem.W.nsIn K mainGlobals "NoText" = some (some (.ref B4)))
    (aB5 : PySem.W.nsIn K mainGlobals "NoTree" = some (some (.ref B5)))
    (aB6 : PySem.W.nsIn K mainGlobals "TooMany" = some (some (.ref B6)))
    (qB1 : PySem.W.kitOne K (.ref CN) (.ref B1) = some false)
    (qB2 : PySem.W.kitOne K (.ref CN) (.ref B2) = some false)
    (qB3 : PySem.W.kitOne K (.ref CN) (.ref B3) = some false)
    (qB4 : PySem.W.kitOne K (.ref CN) (.ref B4) = some false)
    (qB5 : PySem.W.kitOne K (.ref CN) (.ref B5) = some false)
    (qB6 : PySem.W.kitOne K (.ref CN) (.ref B6) = some false)
    (z_isinstance : PySem.W.nsIn K mainGlobals "isinstance" = some none)
    (z_str : PySem.W.nsIn K mainGlobals "str" = some none)
    (z_all : PySem.W.nsIn K mainGlobals "all" = some none)
    (z_any : PySem.W.nsIn K mainGlobals "any" = some none)
    (z_zip : PySem.W.nsIn K mainGlobals "zip" = some none)
    (z_tuple : PySem.W.nsIn K mainGlobals "tuple" = some none)
    (z_len : PySem.W.nsIn K mainGlobals "len" = some none)
    (z_max : PySem.W.nsIn K mainGlobals "max" = some none)
    (z_int : PySem.W.nsIn K mainGlobals "int" = some none)
    (z_range : PySem.W.nsIn K mainGlobals "range" = some none)
    (z_list : PySem.W.nsIn K mainGlobals "list" = some none)
    (z_min : PySem.W.nsIn K mainGlobals "min" = some none)
    (z_enumerate : PySem.W.nsIn K mainGlobals "enumerate" = some none)
    (z_sorted : PySem.W.nsIn K mainGlobals "sorted" = some none)
    (z_set : PySem.W.nsIn K mainGlobals "set" = some none)
    (z_sum : PySem.W.nsIn K mainGlobals "sum" = some none)
    (z_dict : PySem.W.nsIn K mainGlobals "dict" = some none)
    (z_repr : PySem.W.nsIn K mainGlobals "repr" = some none)
    (z_ValueError : PySem.W.nsIn K mainGlobals "ValueError" = some none)
    : ∃ fd : FuncData, (∀ (s : Shared) (v : Value), BindsTo s fd ⟨[v], []⟩ [("script", v)]) ∧ ∀ base : Heap, K.In base → base.Ns mainGlobals mg → Enters callerA l.prog w K mg base fa fd ["script"] (spLaw K) := by
  subst ekL
  have e := hfa.symm.trans (PySem.W.mg_of X G0 a30)
  cases e
  have F1 := fun_mk (st := sName) l1 c1 k1
  have b1 := F1.binds (ps := ["thing"]) fun _ _ _ _ _ _ us hl => match us, hl with | [_], _ => rfl
  have m1 := PySem.W.mg_of X G0 a1
  have F2 := fun_mk (st := sTold) l2 c2 k2
  have b2 := F2.binds (ps := ["pattern"]) fun _ _ _ _ _ _ us hl => match us, hl with | [_], _ => rfl
  have m2 := PySem.W.mg_of X G0 a2
  have F3 := fun_mk (st := sSpells) l3 c3 k3
  have b3 := F3.binds (ps := ["pattern", "text"]) fun _ _ _ _ _ _ us hl => match us, hl with | [_, _], _ => rfl
  have m3 := PySem.W.mg_of X G0 a3
  have F4 := fun_mk (st := sNone) l4 c4 k4
  have b4 := F4.binds (ps := ["pattern"]) fun _ _ _ _ _ _ us hl => match us, hl with | [_], _ => rfl
  have m4 := PySem.W.mg_of X G0 a4
  have F5 := fun_mk (st := sSignsIn) l5 c5 k5
  have b5 := F5.binds (ps := ["pattern"]) fun _ _ _ _ _ _ us hl => match us, hl with | [_], _ => rfl
  have m5 := PySem.W.mg_of X G0 a5
  have F6 := fun_mk (st := lPurse) l6 c6 k6
  have b6 := F6.binds (ps := ["script", "k"]) fun _ _ _ _ _ _ us hl => match us, hl with | [_, _], _ => rfl
  have m6 := PySem.W.mg_of X G0 a6
  have F7 := fun_mk (st := lDrawn) l7 c7 k7
  have b7 := F7.binds (ps := ["purse", "many"]) fun _ _ _ _ _ _ us hl => match us, hl with | [_, _], _ => rfl
  have m7 := PySem.W.mg_of X G0 a7
  have F8 := fun_mk (st := lAll) l8 c8 k8
  have b8 := F8.binds (ps := ["rules"]) fun _ _ _ _ _ _ us hl => match us, hl with | [_], _ => rfl
  have m8 := PySem.W.mg_of X G0 a8
  have F9 := fun_mk (st := lNamed) l9 c9 k9
  have b9 := F9.binds (ps := ["purse", "many"]) fun _ _ _ _ _ _ us hl => match us, hl with | [_, _], _ => rfl
  have m9 := PySem.W.mg_of X G0 a9
  have F10 := fun_mk (st := lPattern) l10 c10 k10
  have b10 := F10.binds (ps := ["purse", "deep"]) fun _ _ _ _ _ _ us hl => match us, hl with | [_, _], _ => rfl
  have m10 := PySem.W.mg_of X G0 a10
  have F11 := fun_mk (st := lBare) l11 c11 k11
  have b11 := F11.binds (ps := ["pattern"]) fun _ _ _ _ _ _ us hl => match us, hl with | [_], _ => rfl
  have m11 := PySem.W.mg_of X G0 a11
  have F12 := fun_mk (st := lKinds) l12 c12 k12
  have b12 := F12.binds (ps := ["purse", "some"]) fun _ _ _ _ _ _ us hl => match us, hl with | [_, _], _ => rfl
  have m12 := PySem.W.mg_of X G0 a12
  have F13 := fun_mk (st := lAlts) l13 c13 k13
  have b13 := F13.binds (ps := ["purse", "solid", "labels", "own", "later"]) fun _ _ _ _ _ _ us hl => match us, hl with | [_, _, _, _, _], _ => rfl
  have m13 := PySem.W.mg_of X G0 a13
  have F14 := fun_mk (st := lWorld) l14 c14 k14
  have b14 := F14.binds (ps := ["purse"]) fun _ _ _ _ _ _ us hl => match us, hl with | [_], _ => rfl
  have m14 := PySem.W.mg_of X G0 a14
  have F15 := fun_mk (st := lEdges) l15 c15 k15
  have b15 := F15.binds (ps := ["rules"]) fun _ _ _ _ _ _ us hl => match us, hl with | [_], _ => rfl
  have m15 := PySem.W.mg_of X G0 a15
  have F16 := fun_mk (st := lBars) l16 c16 k16
  have b16 := F16.binds (ps := ["purse", "rules", "most"]) fun _ _ _ _ _ _ us hl => match us, hl with | [_, _, _], _ => rfl
  have m16 := PySem.W.mg_of X G0 a16
  have F17 := fun_mk (st := lStrange) l17 c17 k17
  have b17 := F17.binds (ps := ["purse", "some"]) fun _ _ _ _ _ _ us hl => match us, hl with | [_, _], _ => rfl
  have m17 := PySem.W.mg_of X G0 a17
  have F18 := fun_mk (st := lNames) l18 c18 k18
  have b18 := F18.binds (ps := ["world"]) fun _ _ _ _ _ _ us hl => match us, hl with | [_], _ => rfl
  have m18 := PySem.W.mg_of X G0 a18
  have F19 := fun_mk (st := lKBent) l19 c19 k19
  have b19 := F19.binds (ps := ["purse", "world"]) fun _ _ _ _ _ _ us hl => match us, hl with | [_, _], _ => rfl
  have m19 := PySem.W.mg_of X G0 a19
  have F20 := fun_mk (st := lRBent) l20 c20 k20
  have b20 := F20.binds (ps := ["purse", "world"]) fun _ _ _ _ _ _ us hl => match us, hl with | [_, _], _ => rfl
  have m20 := PySem.W.mg_of X G0 a20
  have F21 := fun_mk (st := lBBent) l21 c21 k21
  have b21 := F21.binds (ps := ["purse", "world"]) fun _ _ _ _ _ _ us hl => match us, hl with | [_, _], _ => rfl
  have m21 := PySem.W.mg_of X G0 a21
  have F22 := fun_mk (st := lBent) l22 c22 k22
  have b22 := F22.binds (ps := ["purse", "world"]) fun _ _ _ _ _ _ us hl => match us, hl with | [_, _], _ => rfl
  have m22 := PySem.W.mg_of X G0 a22
  have F23 := fun_mk (st := lBound) l23 c23 k23
  have b23 := F23.binds (ps := ["purse"]) fun _ _ _ _ _ _ us hl => match us, hl with | [_], _ => rfl
  have m23 := PySem.W.mg_of X G0 a23
  have F24 := fun_mk (st := lSigns) l24 c24 k24
  have b24 := F24.binds (ps := ["pattern"]) fun _ _ _ _ _ _ us hl => match us, hl with | [_], _ => rfl
  have m24 := PySem.W.mg_of X G0 a24
  have F25 := fun_mk (st := lNone) l25 c25 k25
  have b25 := F25.binds (ps := ["text"]) fun _ _ _ _ _ _ us hl => match us, hl with | [_], _ => rfl
  have m25 := PySem.W.mg_of X G0 a25
  have F26 := fun_mk (st := lMany) l26 c26 k26
  have b26 := F26.binds (ps := ["world"]) fun _ _ _ _ _ _ us hl => match us, hl with | [_], _ => rfl
  have m26 := PySem.W.mg_of X G0 a26
  have F27 := fun_mk (st := lNameDue) l27 c27 k27
  have b27 := F27.binds (ps := ["kinds", "rules"]) fun _ _ _ _ _ _ us hl => match us, hl with | [_, _], _ => rfl
  have m27 := PySem.W.mg_of X G0 a27
  have F28 := fun_mk (st := lDue) l28 c28 k28
  have b28 := F28.binds (ps := ["world"]) fun _ _ _ _ _ _ us hl => match us, hl with | [_], _ => rfl
  have m28 := PySem.W.mg_of X G0 a28
  have F29 := fun_mk (st := lTold) l29 c29 k29
  have b29 := F29.binds (ps := ["world"]) fun _ _ _ _ _ _ us hl => match us, hl with | [_], _ => rfl
  have m29 := PySem.W.mg_of X G0 a29
  have F30 := fun_mk (st := lLaw) l30 c30 k30
  have mC := PySem.W.mg_of X G0 akC
  have FC___init__ := fun_mk (st := sInit) lC___init__ cC___init__ kC___init__
  have bC___init__ := FC___init__.binds (ps := ["self", "pattern", "text"]) fun _ _ _ _ _ _ us hl => match us, hl with | [_, _, _], _ => rfl
  have FC_ends := fun_mk (st := sEnds) lC_ends cC_ends kC_ends
  have bC_ends := FC_ends.binds (ps := ["self", "part", "begun"]) fun _ _ _ _ _ _ us hl => match us, hl with | [_, _, _], _ => rfl
  have FC_ends_anew := fun_mk (st := sAnew) lC_ends_anew cC_ends_anew kC_ends_anew
  have bC_ends_anew := FC_ends_anew.binds (ps := ["self", "part", "begun"]) fun _ _ _ _ _ _ us hl => match us, hl with | [_, _, _], _ => rfl
  have FC_again_ends := fun_mk (st := sAgain) lC_again_ends cC_again_ends kC_again_ends
  have bC_again_ends := FC_again_ends.binds (ps := ["self", "part", "begun"]) fun _ _ _ _ _ _ us hl => match us, hl with | [_, _, _], _ => rfl
  have mG := PySem.W.mg_of X G0 akG
  skip
  skip
  have FG_need_few := fun_mk (st := gFew) lG_need_few cG_need_few kG_need_few
  have bG_need_few := FG_need_few.binds (ps := ["self"]) fun _ _ _ _ _ _ us hl => match us, hl with | [_], _ => rfl
  have FG_look_kinds := fun_mk (st := gKinds) lG_look_kinds cG_look_kinds kG_look_kinds
  have bG_look_kinds := FG_look_kinds.binds (ps := ["self"]) fun _ _ _ _ _ _ us hl => match us, hl with | [_], _ => rfl
  have FG_look_rules := fun_mk (st := gRules) lG_look_rules cG_look_rules kG_look_rules
  have bG_look_rules := FG_look_rules.binds (ps := ["self"]) fun _ _ _ _ _ _ us hl => match us, hl with | [_], _ => rfl
  have FG_look_label := fun_mk (st := gLabel) lG_look_label cG_look_label kG_look_label
  have bG_look_label := FG_look_label.binds (ps := ["self", "label", "row"]) fun _ _ _ _ _ _ us hl => match us, hl with | [_, _, _], _ => rfl
  have FG_look_symbols := fun_mk (st := gSymbols) lG_look_symbols cG_look_symbols kG_look_symbols
  have bG_look_symbols := FG_look_symbols.binds (ps := ["self"]) fun _ _ _ _ _ _ us hl => match us, hl with | [_], _ => rfl
  have FG_look_bars := fun_mk (st := gBars) lG_look_bars cG_look_bars kG_look_bars
  have bG_look_bars := FG_look_bars.binds (ps := ["self"]) fun _ _ _ _ _ _ us hl => match us, hl with | [_], _ => rfl
  have FG_begin := fun_mk (st := gBegin) lG_begin cG_begin kG_begin
  have bG_begin := FG_begin.binds (ps := ["self"]) fun _ _ _ _ _ _ us hl => match us, hl with | [_], _ => rfl
  have mY := PySem.W.mg_of X G0 aY
  have FICN := fun_mk (st := sNoGrammar) lICN cICN kICN
  have bICN := FICN.binds (ps := ["self", "what", "name"]) fun _ _ _ _ _ _ us hl => match us, hl with | [_, _, _], _ => rfl
  have mCN := PySem.W.mg_of X G0 aCN
  have TCN : OexC K CN := ⟨⟨nmCN, qCN, NNCN, bsCN, _, snCN, subCN, abCN, colCN, ddCN, kx0CN, kx1CN, kx2CN, kx3CN, kx5CN, xCN, rfl⟩, saCN, exCN, tyCN, kCN⟩
  have ECCN : ExcC K CN := ⟨eGCN, eKCN, exCN, eDCN, eACN, eN, eT, eMCN⟩
  have XTCN : XfC K CN := ⟨eGCN, eKCN, exCN, eDCN⟩
  have teYCN := PySem.W.exm_ref yB yD yT sCYCN
  have teCCN := PySem.W.exm_ref exCN eDCN tyCN sCCCN
  have mkL := PySem.W.mg_of X G0 akL
  have mkN := PySem.W.mg_of X G0 akN
  have mkP := PySem.W.mg_of X G0 akP
  have mKa := PySem.W.mg_of X G0 aKa
  have mKb := PySem.W.mg_of X G0 aKb
  have mKc := PySem.W.mg_of X G0 aKc
  have mKd := PySem.W.mg_of X G0 aKd
  have mKe := PySem.W.mg_of X G0 aKe
  have mKf := PySem.W.mg_of X G0 aKf
  have y_isinstance := PySem.W.mg_none_of X G0 z_isinstance
  have y_str := PySem.W.mg_none_of X G0 z_str
  have y_all := PySem.W.mg_none_of X G0 z_all
  have y_any := PySem.W.mg_none_of X G0 z_any
  have y_zip := PySem.W.mg_none_of X G0 z_zip
  have y_tuple := PySem.W.mg_none_of X G0 z_tuple
  have y_len := PySem.W.mg_none_of X G0 z_len
  have y_max := PySem.W.mg_none_of X G0 z_max
  have y_int := PySem.W.mg_none_of X G0 z_int
  have y_range := PySem.W.mg_none_of X G0 z_range
  have y_list := PySem.W.mg_none_of X G0 z_list
  have y_min := PySem.W.mg_none_of X G0 z_min
  have y_enumerate := PySem.W.mg_none_of X G0 z_enumerate
  have y_sorted := PySem.W.mg_none_of X G0 z_sorted
  have y_set := PySem.W.mg_none_of X G0 z_set
  have y_sum := PySem.W.mg_none_of X G0 z_sum
  have y_dict := PySem.W.mg_none_of X G0 z_dict
  have y_repr := PySem.W.mg_none_of X G0 z_repr
  have y_ValueError := PySem.W.mg_none_of X G0 z_ValueError
  refine ⟨PySem.W.fnOf "law" "law" (defArgs lLaw) (defBody lLaw) (defScope lLaw) .none kV30 dc30 pm30 an30 cd30 ct30, fun s v => .of_eq rfl, fun base _ _ => ?_⟩
  have T : Txt K C fC_ends fC_ends_anew fC_again_ends := ⟨⟨pgC, hdC, poC, stC⟩, naC_parts, naC_text, naC_known, ⟨aC_ends, iC_ends, kC_ends⟩, ⟨aC_ends_anew, iC_ends_anew, kC_ends_anew⟩, ⟨aC_again_ends, iC_again_ends, kC_again_ends⟩⟩
  have M : Mk K C fC___init__ := ⟨mkC, aC___init__, iC___init__, kcC⟩
  have MG : Mk K G fG___init__ := ⟨mkG, aG___init__, iG___init__, kcG⟩
  have TG : GTxt K mg G CN fCN := ⟨⟨pgG, hdG, poG, stG⟩, naG_kind_rows, naG_rule_rows, naG_bar_rows, naG_first_rule, naG_patterns, naG_skips, naG_homes, naG_spelled, naG_numbers, naG_label_rows, TCN, noCNwhat, noCNname, aICN, tICN, mCN⟩
  have FD : GInitD K dt fG___init__ _ := ⟨⟨_, _, .none, .ref DK, _, _, _, _, _, _, rfl, lG___init__, cG___init__, .inl ⟨rfl, rfl⟩, .inr ⟨DK, rfl, fun q hq => by
    simp only [List.mem_cons, List.not_mem_nil, or_false] at hq
    rcases hq with rfl | rfl
    · exact ⟨_, nb, rfl⟩
    · exact ⟨_, ns, rfl⟩⟩⟩, kG___init__⟩
  have hdt := none_at ldt edt
  have mB1 := PySem.W.mg_of X G0 aB1
  have mB2 := PySem.W.mg_of X G0 aB2
  have mB3 := PySem.W.mg_of X G0 aB3
  have mB4 := PySem.W.mg_of X G0 aB4
  have mB5 := PySem.W.mg_of X G0 aB5
  have mB6 := PySem.W.mg_of X G0 aB6
  have kAny : PySem.W.kitAny K (.ref CN) [.ref B1, .ref B2, .ref B3, .ref B4, .ref B5, .ref B6] = some false := by simp only [PySem.W.kitAny, qB1, qB2, qB3, qB4, qB5, qB6]
  have TK : ToldK K mg CN CY B1 B2 B3 B4 B5 B6 := ⟨teCCN, ECCN, XTCN, noCNwhat, noCNname, mCN, mY, y_ValueError, qYCN, qVCN, mB1, mB2, mB3, mB4, mB5, mB6, kAny⟩
  have ON := ok_nog (P := l.prog) (w := w) (base := base) (C := CN) FICN mY ⟨rY, gY⟩ vY
  have O1 := ok_name (P := l.prog) (w := w) (base := base) F1 mkL mkN mkP (kept_at lkP ekP) y_isinstance y_str y_len y_all
  have O2 := ok_told (P := l.prog) (w := w) (mg := mg) (base := base) F2 y_len y_list y_range
  have OI := ok_init FC___init__ T O2 b2 k2 m2
  have OE := ends_all (P := l.prog) (w := w) (base := base) FC_ends FC_ends_anew FC_again_ends T bC_ends bC_ends_anew bC_again_ends y_len y_sorted y_set 14
  have O3 := ok_spells (D := 14) (by decide) F3 T M mC OI bC___init__ OE bC_ends y_len
  have O4 := ok_none F4 O3 b3 k3 m3
  have cnt5 : ∀ d, FnOk l.prog w K mg base CX0 (d + 1) f5 _ ["pattern"] (spCnt d) := fun d => by
    induction d with
    | zero => exact cnt_left
    | succ d ih => exact ok_signsin F5 ih b5 m5 y_sum
  have OF := ok_few (d := 14) FG_need_few TG ON bICN (cnt5 14) b5 k5 m5 mKa mKb mKc mKd mKe y_len y_sum y_any y_zip
  have OK := ok_gkinds (D := 14) FG_look_kinds TG ON bICN O1 b1 k1 m1 O4 b4 k4 m4
  have OL := ok_label FG_look_label TG ON bICN O1 b1 k1 m1 mKf y_len
  have OR := ok_grules FG_look_rules TG ON bICN O1 b1 k1 m1 OL bG_look_label ⟨aG_look_label, iG_look_label, kG_look_label⟩ y_len
  have OS := ok_syms FG_look_symbols TG ON bICN
  have OB := ok_gbars FG_look_bars TG ON bICN y_len
  have OG := ok_ginit (D := 14) (funD_fun FD) TG ON bICN OF bG_need_few ⟨aG_need_few, iG_need_few, kG_need_few⟩ OK bG_look_kinds ⟨aG_look_kinds, iG_look_kinds, kG_look_kinds⟩ OR bG_look_rules ⟨aG_look_rules, iG_look_rules, kG_look_rules⟩ OS bG_look_symbols ⟨aG_look_symbols, iG_look_symbols, kG_look_symbols⟩ OB bG_look_bars ⟨aG_look_bars, iG_look_bars, kG_look_bars⟩ y_list y_tuple
  have OBe := ok_begin (P := l.prog) (w := w) (base := base) FG_begin TG
  have O6 := ok_purse (P := l.prog) (w := w) (base := base) F6 y_len y_max
  have O7 := ok_drawn (P := l.prog) (w := w) (mg := mg) (base := base) F7
  have O8 := ok_all (P := l.prog) (w := w) (mg := mg) (base := base) F8
  have O9 := ok_named F9 O7 b7 k7 m7 y_range
  have pat : ∀ n, FnOk l.prog w K mg base CX0 (n + 1) f10 _ ["purse", "deep"] (spPattern n) := fun n => by
    induction n with
    | zero => exact pattern_left
    | succ n ih => exact ok_pattern F10 ih b10 m10 O7 b7 k7 m7 y_sorted y_set y_range y_len
  have bare : ∀ d, FnOk l.prog w K mg base CX0 (d + 1) f11 _ ["pattern"] (spBare d) := fun d => by
    induction d with
    | zero => exact bare_left
    | succ d ih => exact ok_bare F11 ih b11 m11
  have O12 := ok_kinds F12 O7 b7 k7 m7 (pat 3) b10 k10 m10 (bare 5) b11 k11 m11 y_len
  have O13 := ok_alts F13 O7 b7 k7 m7 y_len y_range y_tuple
  have O14 := ok_world F14 O7 b7 k7 m7 O9 b9 k9 m9 O13 b13 k13 m13 O12 b12 k12 m12 y_len y_range y_int
  have O15 := ok_edges F15 O8 b8 k8 m8 y_enumerate y_dict
  have O16 := ok_bars F16 O7 b7 k7 m7 O15 b15 k15 m15 y_range y_int y_len
  have O17 := ok_strange F17 O7 b7 k7 m7 y_len
  have O18 := ok_names F18 O8 b8 k8 m8
  have O19 := ok_kbent F19 O7 b7 k7 m7 O17 b17 k17 m17 O18 b18 k18 m18 y_len y_max
  have O20 := ok_rbent F20 O7 b7 k7 m7 O17 b17 k17 m17 O18 b18 k18 m18 y_len y_max y_range
  have O21 := ok_bbent F21 O7 b7 k7 m7 O8 b8 k8 m8 y_len
  have O22 := ok_bent F22 O7 b7 k7 m7 O17 b17 k17 m17 O18 b18 k18 m18 O19 b19 k19 m19 O20 b20 k20 m20 O21 b21 k21 m21 y_list
  have O23 := ok_atbound F23 O7 b7 k7 m7 O15 b15 k15 m15 y_range y_int
  have sgn : ∀ d, FnOk l.prog w K mg base CX0 (d + 1) f24 _ ["pattern"] (spCnt d) := fun d => by
    induction d with
    | zero => exact cnt_left
    | succ d ih => exact ok_lsigns F24 ih b24 m24 y_sum
  have O25 := ok_lnone (P := l.prog) (w := w) (base := base) F25 y_len
  have O26 := ok_many F26 O8 b8 k8 m8 (sgn 14) b24 k24 m24 y_len y_sum
  have O27 := ok_namedue F27 O25 b25 k25 m25 (bare 14) b11 k11 m11 y_len y_int
  have O28 := ok_due F28 O8 b8 k8 m8 O26 b26 k26 m26 O27 b27 k27 m27 y_len y_list y_dict y_enumerate
  have O29 := ok_ltold F29 OG FD MG mG TK y_isinstance y_tuple
  exact ok_law F30 rfl ⟨rfl, by decide, by decide⟩ O6 b6 k6 m6 O14 b14 k14 m14 O16 b16 k16 m16 O7 b7 k7 m7 O22 b22 k22 m22 O23 b23 k23 m23 O29 b29 k29 m29 O28 b28 k28 m28 OG FD MG mG hdt OBe bG_begin ⟨aG_begin, iG_begin, kG_begin⟩ TG y_range y_max y_min y_len y_repr
end Pa
open PySem PySem.W PyProof.Rows
set_option maxRecDepth 100000 in
set_option maxHeartbeats 0 in
theorem PySem.Challenge.cw_tongueyard_k10_grammars_refused_holds : PySem.Challenge.rw_tongueyard_k10_grammars_refused.Holds := by
  w_on; o_law; k_head; (case hw => w_witness2)
  k_fill
  refine Ty.walk_enter (l := PySem.Challenge.rw_tongueyard_k10_grammars_refused) (n := 63) (x := "script") (sp := fun w => Pa.spLaw _) rfl (by decide) rfl (fun w h Y => PySem.W.kIn_of Y) ?F (fun w H a ns hl hS => ⟨a, ns, rfl, hS, hl, fun _ => rfl⟩)
  case F =>
    intro w mg fa h KX G hmg
    refine' Pa.all_mk KX G hmg ?a1 ?l1 ?c1 ?k1 ?a2 ?l2 ?c2 ?k2 ?a3 ?l3 ?c3 ?k3 ?a4 ?l4 ?c4 ?k4 ?a5 ?l5 ?c5 ?k5 ?a6 ?l6 ?c6 ?k6 ?a7 ?l7 ?c7 ?k7 ?a8 ?l8 ?c8 ?k8 ?a9 ?l9 ?c9 ?k9 ?a10 ?l10 ?c10 ?k10 ?a11 ?l11 ?c11 ?k11 ?a12 ?l12 ?c12 ?k12 ?a13 ?l13 ?c13 ?k13 ?a14 ?l14 ?c14 ?k14 ?a15 ?l15 ?c15 ?k15 ?a16 ?l16 ?c16 ?k16 ?a17 ?l17 ?c17 ?k17 ?a18 ?l18 ?c18 ?k18 ?a19 ?l19 ?c19 ?k19 ?a20 ?l20 ?c20 ?k20 ?a21 ?l21 ?c21 ?k21 ?a22 ?l22 ?c22 ?k22 ?a23 ?l23 ?c23 ?k23 ?a24 ?l24 ?c24 ?k24 ?a25 ?l25 ?c25 ?k25 ?a26 ?l26 ?c26 ?k26 ?a27 ?l27 ?c27 ?k27 ?a28 ?l28 ?c28 ?k28 ?a29 ?l29 ?c29 ?k29 ?a30 ?l30 ?c30 ?k30 ?akC ?pgC ?hdC ?poC ?stC ?mkC ?kcC ?naC_parts ?naC_text ?naC_known ?aC___init__ ?iC___init__ ?lC___init__ ?cC___init__ ?kC___init__ ?aC_ends ?iC_ends ?lC_ends ?cC_ends ?kC_ends ?aC_ends_anew ?iC_ends_anew ?lC_ends_anew ?cC_ends_anew ?kC_ends_anew ?aC_again_ends ?iC_again_ends ?lC_again_ends ?cC_again_ends ?kC_again_ends ?akG ?pgG ?hdG ?poG ?stG ?mkG ?kcG ?naG_kind_rows ?naG_rule_rows ?naG_bar_rows ?naG_first_rule ?naG_patterns ?naG_skips ?naG_homes ?naG_spelled ?naG_numbers ?naG_label_rows ?aG___init__ ?iG___init__ ?lG___init__ ?cG___init__ ?kG___init__ ?aG_need_few ?iG_need_few ?lG_need_few ?cG_need_few ?kG_need_few ?aG_look_kinds ?iG_look_kinds ?lG_look_kinds ?cG_look_kinds ?kG_look_kinds ?aG_look_rules ?iG_look_rules ?lG_look_rules ?cG_look_rules ?kG_look_rules ?aG_look_label ?iG_look_label ?lG_look_label ?cG_look_label ?kG_look_label ?aG_look_symbols ?iG_look_symbols ?lG_look_symbols ?cG_look_symbols ?kG_look_symbols ?aG_look_bars ?iG_look_bars ?lG_look_bars ?cG_look_bars ?kG_look_bars ?aG_begin ?iG_begin ?lG_begin ?cG_begin ?kG_begin ?aY ?rY ?gY ?vY ?yB ?yD ?yT ?aCN ?xCN ?saCN ?exCN ?tyCN ?kCN ?noCNwhat ?noCNname ?aICN ?tICN ?lICN ?cICN ?kICN ?eGCN ?eKCN ?eDCN ?eACN ?eMCN ?sCYCN ?sCCCN ?qVCN ?qYCN ?qCCN ?eN ?eT ?akL ?ekL ?akN ?akP ?lkP ?ekP ?aKa ?aKb ?aKc ?aKd ?aKe ?aKf ?nb ?ns ?ldt ?edt ?aB1 ?aB2 ?aB3 ?aB4 ?aB5 ?aB6 ?qB1 ?qB2 ?qB3 ?qB4 ?qB5 ?qB6 ?z_isinstance ?z_str ?z_all ?z_any ?z_zip ?z_tuple ?z_len ?z_max ?z_int ?z_range ?z_list ?z_min ?z_enumerate ?z_sorted ?z_set ?z_sum ?z_dict ?z_repr ?z_ValueError
    (case a1 => k_is)
    (case l1 => k_is)
    (case c1 => k_is)
    (case k1 => k_is)
    (case a2 => k_is)
    (case l2 => k_is)
    (case c2 => k_is)
    (case k2 => k_is)
    (case a3 => k_is)
    (case l3 => k_is)
    (case c3 => k_is)
    (case k3 => k_is)
    (case a4 => k_is)
    (case l4 => k_is)
    (case c4 => k_is)
    (case k4 => k_is)
    (case a5 => k_is)
    (case l5 => k_is)
    (case c5 => k_is)
    (case k5 => k_is)
    (case a6 => k_is)
    (case l6 => k_is)
    (case c6 => k_is)
    (case k6 => k_is)
    (case a7 => k_is)
    (case l7 => k_is)
    (case c7 => k_is)
    (case k7 => k_is)
    (case a8 => k_is)
    (case l8 => k_is)
    (case c8 => k_is)
    (case k8 => k_is)
    (case a9 => k_is)
    (case l9 => k_is)
    (case c9 => k_is)
    (case k9 => k_is)
    (case a10 => k_is)
    (case l10 => k_is)
    (case c10 => k_is)
    (case k10 => k_is)
    (case a11 => k_is)
    (case l11 => k_is)
    (case c11 => k_is)
    (case k11 => k_is)
    (case a12 => k_is)
    (case l12 => k_is)
    (case c12 => k_is)
    (case k12 => k_is)
    (case a13 => k_is)
    (case l13 => k_is)
    (case c13 => k_is)
    (case k13 => k_is)
    (case a14 => k_is)
    (case l14 => k_is)
    (case c14 => k_is)
    (case k14 => k_is)
    (case a15 => k_is)
    (case l15 => k_is)
    (case c15 => k_is)
    (case k15 => k_is)
    (case a16 => k_is)
    (case l16 => k_is)
    (case c16 => k_is)
    (case k16 => k_is)
    (case a17 => k_is)
    (case l17 => k_is)
    (case c17 => k_is)
    (case k17 => k_is)
    (case a18 => k_is)
    (case l18 => k_is)
    (case c18 => k_is)
    (case k18 => k_is)
    (case a19 => k_is)
    (case l19 => k_is)
    (case c19 => k_is)
    (case k19 => k_is)
    (case a20 => k_is)
    (case l20 => k_is)
    (case c20 => k_is)
    (case k20 => k_is)
    (case a21 => k_is)
    (case l21 => k_is)
    (case c21 => k_is)
    (case k21 => k_is)
    (case a22 => k_is)
    (case l22 => k_is)
    (case c22 => k_is)
    (case k22 => k_is)
    (case a23 => k_is)
    (case l23 => k_is)
    (case c23 => k_is)
    (case k23 => k_is)
    (case a24 => k_is)
    (case l24 => k_is)
    (case c24 => k_is)
    (case k24 => k_is)
    (case a25 => k_is)
    (case l25 => k_is)
    (case c25 => k_is)
    (case k25 => k_is)
    (case a26 => k_is)
    (case l26 => k_is)
    (case c26 => k_is)
    (case k26 => k_is)
    (case a27 => k_is)
    (case l27 => k_is)
    (case c27 => k_is)
    (case k27 => k_is)
    (case a28 => k_is)
    (case l28 => k_is)
    (case c28 => k_is)
    (case k28 => k_is)
    (case a29 => k_is)
    (case l29 => k_is)
    (case c29 => k_is)
    (case k29 => k_is)
    (case a30 => k_is)
    (case l30 => k_is)
    (case c30 => k_is)
    (case k30 => k_is)
    (case akC => k_is)
    (case pgC => k_is)
    (case hdC => k_is)
    (case poC => k_is)
    (case stC => k_is)
    (case mkC => k_is)
    (case kcC => k_is)
    (case naC_parts => k_is)
    (case naC_text => k_is)
    (case naC_known => k_is)
    (case aC___init__ => k_is)
    (case iC___init__ => k_is)
    (case lC___init__ => k_is)
    (case cC___init__ => k_is)
    (case kC___init__ => k_is)
    (case aC_ends => k_is)
    (case iC_ends => k_is)
    (case lC_ends => k_is)
    (case cC_ends => k_is)
    (case kC_ends => k_is)
    (case aC_ends_anew => k_is)
    (case iC_ends_anew => k_is)
    (case lC_ends_anew => k_is)
    (case cC_ends_anew => k_is)
    (case kC_ends_anew => k_is)
    (case aC_again_ends => k_is)
    (case iC_again_ends => k_is)
    (case lC_again_ends => k_is)
    (case cC_again_ends => k_is)
    (case kC_again_ends => k_is)
    (case akG => k_is)
    (case pgG => k_is)
    (case hdG => k_is)
    (case poG => k_is)
    (case stG => k_is)
    (case mkG => k_is)
    (case kcG => k_is)
    (case naG_kind_rows => k_is)
    (case naG_rule_rows => k_is)
    (case naG_bar_rows => k_is)
    (case naG_first_rule => k_is)
    (case naG_patterns => k_is)
    (case naG_skips => k_is)
    (case naG_homes => k_is)
    (case naG_spelled => k_is)
    (case naG_numbers => k_is)
    (case naG_label_rows => k_is)
    (case aG___init__ => k_is)
    (case iG___init__ => k_is)
    (case lG___init__ => k_is)
    (case cG___init__ => k_is)
    (case kG___init__ => k_is)
    (case aG_need_few => k_is)
    (case iG_need_few => k_is)
    (case lG_need_few => k_is)
    (case cG_need_few => k_is)
    (case kG_need_few => k_is)
    (case aG_look_kinds => k_is)
    (case iG_look_kinds => k_is)
    (case lG_look_kinds => k_is)
    (case cG_look_kinds => k_is)
    (case kG_look_kinds => k_is)
    (case aG_look_rules => k_is)
    (case iG_look_rules => k_is)
    (case lG_look_rules => k_is)
    (case cG_look_rules => k_is)
    (case kG_look_rules => k_is)
    (case aG_look_label => k_is)
    (case iG_look_label => k_is)
    (case lG_look_label => k_is)
    (case cG_look_label => k_is)
    (case kG_look_label => k_is)
    (case aG_look_symbols => k_is)
    (case iG_look_symbols => k_is)
    (case lG_look_symbols => k_is)
    (case cG_look_symbols => k_is)
    (case kG_look_symbols => k_is)
    (case aG_look_bars => k_is)
    (case iG_look_bars => k_is)
    (case lG_look_bars => k_is)
    (case cG_look_bars => k_is)
    (case kG_look_bars => k_is)
    (case aG_begin => k_is)
    (case iG_begin => k_is)
    (case lG_begin => k_is)
    (case cG_begin => k_is)
    (case kG_begin => k_is)
    (case aY => k_is)
    (case rY => k_is)
    (case gY => k_is)
    (case vY => k_is)
    (case yB => k_is)
    (case yD => k_is)
    (case yT => k_is)
    (case aCN => k_is)
    (case xCN => k_is)
    (case saCN => k_is)
    (case exCN => k_is)
    (case tyCN => k_is)
    (case kCN => k_is)
    (case noCNwhat => k_is)
    (case noCNname => k_is)
    (case aICN => k_is)
    (case tICN => k_is)
    (case lICN => k_is)
    (case cICN => k_is)
    (case kICN => k_is)
    (case eGCN => k_is)
    (case eKCN => k_is)
    (case eDCN => k_is)
    (case eACN => k_is)
    (case eMCN => k_is)
    (case sCYCN => first | rfl | k_is)
    (case sCCCN => first | rfl | k_is)
    (case qVCN => first | rfl | k_is)
    (case qYCN => first | rfl | k_is)
    (case qCCN => first | rfl | k_is)
    (case eN => k_is)
    (case eT => k_is)
    (case akL => k_is)
    (case ekL => decide +kernel)
    (case akN => k_is)
    (case akP => k_is)
    (case lkP => k_is)
    (case ekP => rfl)
    (case aKa => k_is)
    (case aKb => k_is)
    (case aKc => k_is)
    (case aKd => k_is)
    (case aKe => k_is)
    (case aKf => k_is)
    (case nb => k_is)
    (case ns => k_is)
    (case ldt => k_is)
    (case edt => rfl)
    (case aB1 => k_is)
    (case aB2 => k_is)
    (case aB3 => k_is)
    (case aB4 => k_is)
    (case aB5 => k_is)
    (case aB6 => k_is)
    (case qB1 => first | rfl | k_is)
    (case qB2 => first | rfl | k_is)
    (case qB3 => first | rfl | k_is)
    (case qB4 => first | rfl | k_is)
    (case qB5 => first | rfl | k_is)
    (case qB6 => first | rfl | k_is)
    (case z_isinstance => k_is)
    (case z_str => k_is)
    (case z_all => k_is)
    (case z_any => k_is)
    (case z_zip => k_is)
    (case z_tuple => k_is)
    (case z_len => k_is)
    (case z_max => k_is)
    (case z_int => k_is)
    (case z_range => k_is)
    (case z_list => k_is)
    (case z_min => k_is)
    (case z_enumerate => k_is)
    (case z_sorted => k_is)
    (case z_set => k_is)
    (case z_sum => k_is)
    (case z_dict => k_is)
    (case z_repr => k_is)
    (case z_ValueError => k_is)
#print axioms PySem.Challenge.cw_tongueyard_k10_grammars_refused_holds
