import PyProof.Rows.All
import Wide.All
import OpenK.AllK
import Wide.FinOn
import HandS.ForMost
import HandS.Wide
import HandS.IsInst
import HandS.TupAny
import HandS.Walk
import HandS.SetKeys
import HandS.ExcValue
import KE.KUnpackStar
import KE.KRevSl
import KE.GoesZip
import KE.GoesMore
import HandS.ForExc
import HandS.ExcInit
import HandS.ExcIs
import HandS.ExcField
import HandS.ClsMeth
import HandS.SortInts
import HandS.More
import HandS.Zip
import KE.KDictZip
import KE.KIntText
import HandS.DictComp
import HandS.FStr
import HandS.RaiseMore
import HandS.Conv
import PySem.Challenge.RW_tongueyard_k41_tables_as_texts
set_option Elab.async false
set_option linter.all false
set_option maxRecDepth 100000
/-! own rules over the hand layer: powers of wide ints, a starred name behind one name, texts and tuples turned round -/
namespace Ty
open PySem PySem.Spec PyProof.Rows L2
section
variable {X : Cx}
/-- a ** b of wide ints: few bits in all -/
def CPowW (i j : Int) : Prop := 0 ≤ j ∧ (i.natAbs.log2 + 1) * j.toNat ≤ 1000000
theorem bits_le_log (i : Int) : Builtin.Int.intBits i ≤ i.natAbs.log2 + 1 := by
  unfold Builtin.Int.intBits
  split <;> omega
theorem op_powW : OpR X (binaryOp .Pow) (rI CPowW fun i j => .int (i ^ j.toNat)) := opI fun i j t u s Q E hc q => by
  obtain ⟨h0, h1⟩ := hc
  refine pow_int h0 ?_ q
  have e : j = ((j.toNat : Nat) : Int) := by omega
  have h2 : Builtin.Int.intBits i * j.toNat ≤ 1000000 := Nat.le_trans (Nat.mul_le_mul_right _ (bits_le_log i)) h1
  have h3 : ((Builtin.Int.intBits i : Nat) : Int) * ((j.toNat : Nat) : Int) ≤ 1000000 := by
    have := Int.ofNat_le.mpr h2
    simpa using this
  rw [← e] at h3
  omega
theorem powW_of {i : Int} {k n : Nat} (h : i.natAbs < 2 ^ n) (h0 : 0 < n) (hk : n * k ≤ 1000000) : CPowW i (k : Int) := by
  refine ⟨by omega, ?_⟩
  have x := PySem.Flt.log2_lt_of h0 h
  have : (i.natAbs.log2 + 1) * ((k : Int)).toNat ≤ n * k := by
    rw [Int.toNat_natCast]
    exact Nat.mul_le_mul_right _ x
  omega
/-- where something is tracked there is an object -/
theorem there {P : Program} {w : World} {H : Hp} {h : Heap} {a : Addr} {o : HO} (x : ObjOk P w H h a o) : ∃ u, h.get? a = some u := by
  cases o with
  | lst xs => obtain ⟨_, _, _, _, e⟩ := x; exact ⟨_, e⟩
  | tup xs => obtain ⟨_, _, _, q, e, _⟩ := x; exact ⟨q, e⟩
  | dK kvs => obtain ⟨_, _, _, _, q, _, _, e, _⟩ := x; exact ⟨q, e⟩
  | dT kvs => obtain ⟨_, _, _, _, q, _, _, e, _⟩ := x; exact ⟨q, e⟩
  | set S n => obtain ⟨q, _, _, _, e, _⟩ := x; exact ⟨q, e⟩
  | ins C dx fs => obtain ⟨_, _, _, e, _⟩ := x; exact ⟨_, e⟩
  | own y => exact x
  | xd fs => obtain ⟨_, ⟨q, _, _, e, _⟩, _⟩ := x; exact ⟨q, e⟩
  | rng lo hi => obtain ⟨_, _, _, e⟩ := x; exact ⟨_, e⟩
  | frz ob u => exact ⟨ob, x.1⟩
  | tbl ps => exact ⟨_, (show h.get? a = some _ from x)⟩
  | met f y => exact ⟨_, (show h.get? a = some _ from x)⟩
  | ext φ => exact x.2.1
/-- a new object where the heap had none: all that stood stands, the new one is tracked -/
theorem laidG {pins : List (Addr × Obj)} {σ : L2.St} {H : Hp} {s : Shared} {g : Heap} {o : HO} {ob : Obj} {tk : Nat} (I : Inv X pins σ H s) (k : ∀ b u, s.heap.get? b = some u → g.get? b = some u)
    (new : ObjOk X.prog X.w (upd H g.objs.size o) (g.push ob) g.objs.size o) : H g.objs.size = none ∧ Inv X pins σ (upd H g.objs.size o) { s with heap := g.push ob, toks := tk } := by
  have hp : s.heap.get? g.objs.size = none := by
    cases e : s.heap.get? g.objs.size with
    | none => rfl
    | some u => exact absurd (Heap.lt_size (k _ _ e)) (Nat.lt_irrefl _)
  have hn : H g.objs.size = none := by
    cases e : H g.objs.size with
    | none => rfl
    | some u =>
      obtain ⟨q, eq⟩ := there (I.hok _ _ e)
      rw [hp] at eq
      cases eq
  exact ⟨hn, I.laidN (t' := tk) (fun b u e => Heap.get?_push_of_some _ (k b u e)) hp hn new⟩
/-- a tuple of one item or more, drawn into its first item and a new list of the others -/
theorem unpack_head {prog : Program} {w : World} {A : Around} {E : Value → Shared → Prop} {s : Shared} {t : Addr} {x : Value} {xs : List Value} {Q : List Value → Shared → Prop} (hh : A.handled = none)
    (ht : IsTup s.heap t (x :: xs).toArray) (hz : xs.length ≤ 16000)
    (h : ∀ (g : Heap) (tk : Nat), (∀ b o, s.heap.get? b = some o → g.get? b = some o) → Q [x, .ref g.objs.size] { s with heap := g.push { cls := .type "list", data := .seq xs.toArray }, toks := tk }) :
    wpAny (model prog w) A (unpackItems (.ref t) 2 (some 1)) Q E s := by
  have hlt : t < s.heap.objs.size := by obtain ⟨o, ho, _⟩ := ht; exact Heap.lt_size ho
  have hne : t ≠ s.heap.objs.size := Nat.ne_of_lt hlt
  have hsz : (x :: xs).toArray.size = xs.length + 1 := by simp
  unfold unpackItems
  refine wpAny_bind ?_
  unfold notIterableAtAll
  refine wpAny_bind (wpAny_specialOf ht.typeIs slot_tuple_iter.lookup (wpAny_pure ?_))
  simp only [Bool.false_eq_true, if_false]
  refine wpAny_bind (wpAny_holding (iter_tuple ht ?_))
  refine wpAny_bind (wpAny_holding (draw_tuple hne 1 0 _ _ ⟨_, Heap.get?_push_size _ rfl, rfl, rfl⟩ (ht.push _) (by omega) fun g1 it1 same1 => ?_))
  have ht1 : IsTup g1 t (x :: xs).toArray := (ht.push _).extBut same1.extBut hne
  have ht1' := ht1
  have it1' := it1
  obtain ⟨ot, hot, _⟩ := ht1'
  obtain ⟨oi, hoi, _⟩ := it1'
  show wpAny _ _ (if ([x] : List Value).length < 1 then _ else _) _ _ _
  rw [if_neg (show ¬ ([x] : List Value).length < 1 from Nat.lt_irrefl 1)]
  refine wpAny_bind (wpAny_holding (PySem.W.kun_collect (s := { s with heap := g1 }) (T := "tuple_iterator") (.inr (.inr (.inr rfl))) (Walks.tuple (A := A.in1) hh s.heap.objs.size t hne (x :: xs).toArray) (fun j u st => st.1.typeIs) (k := 1) (by omega) ⟨it1, ht1⟩ (Heap.lt_size hoi) (Heap.lt_size hot) (fun g2 tk kp => ?_) (by rw [sizeLine_eq]; omega)))
  show wpAny _ _ (if xs.length < 0 then _ else _) _ _ _
  rw [if_neg (by omega)]
  show wpAny _ _ (newList (xs.take (xs.length - 0)) >>= fun d => pure ([x] ++ [d] ++ xs.drop (xs.length - 0))) _ _ _
  rw [Nat.sub_zero, List.take_length, List.drop_length]
  have kp2 : ∀ b o, s.heap.get? b = some o → g2.get? b = some o := fun b o e =>
    have hb : b ≠ s.heap.objs.size := Nat.ne_of_lt (Heap.lt_size e)
    kp b o hb (same1.extBut b o hb (Heap.get?_push_of_some _ e))
  exact wpAny_bind (wpAny_newList (wpAny_pure (h g2 tk kp2)) (by rw [sizeLine_eq]; omega))
/-- (name, *names) = a tuple of one item or more -/
def gStar1 (K : PySem.W.Frag) (g : TG) (g2 : TG) : TG := fun v σ H Q => ∃ a x xs, v = .ref a ∧ SqT K H a (x :: xs) ∧ xs.length ≤ 16000 ∧
  ∀ D, H D = none → g x σ (upd H D (.lst xs)) fun σ1 H1 => g2 (.ref D) σ1 H1 Q
theorem pg_star1 {e1 e2 : Expr} {g g2 : TG} {k : Nat} {sp pos : Pos} (hc : X.calm = true) (h1 : PG X e1 g) (h2 : PG X e2 g2)
    (hs : assignEach [e1, .Starred e2 sp] X.env = [(false, assign e1 X.env), (true, assign e2 X.env)] := by rfl) : PG X (.Tuple [e1, .Starred e2 sp] k pos) (gStar1 X.K g g2) := by
  refine ⟨fun pins s σ H v u Q I r hw => ?_⟩
  obtain ⟨a, x, xs, rfl, hq, hl, hw⟩ := hw
  cases r
  obtain ⟨its, rv, ht, hz⟩ := I.tuple hq
  cases rv with
  | @cons _ u1 _ us r1 rr =>
    have hlen := Paired.length rr
    rw [assign_Tuple]
    refine wpAny_bind (wpAny_standAt ?_)
    unfold unpack
    rw [hs]
    refine wpAny_bind (wpAny_holding (unpack_head (I.ok.hd hc) ht (by omega) fun g1 tk kp => ?_))
    obtain ⟨hn, I1⟩ := laidG (o := .lst xs) (ob := { cls := .type "list", data := .seq us.toArray }) (tk := tk) I kp ⟨by rw [sizeLine_eq]; omega, us, 0, rr, Heap.get?_push_size _ rfl⟩
    refine assignInOrder_cons (thn (h1.run pins _ σ _ x u1 _ I1 r1 (hw _ hn)) fun _ s1 ⟨σ1, H1, J1, q1⟩ => ?_)
    exact assignInOrder_cons (thn (h2.run pins s1 σ1 H1 (.ref g1.objs.size) _ Q J1 rfl q1) fun _ s2 ⟨σ2, H2, J2, q2⟩ => assignInOrder_nil ⟨σ2, H2, J2, q2⟩)
end
end Ty
namespace Ty
open PySem PySem.Spec PyProof.Rows L2
section
variable {X : Cx}
/-- the turned text -/
def revS (z : Str) : Str := ⟨z.cps.toList.reverse.toArray⟩
theorem revS_is (z : Str) (u : Tok) : Txt.sliceBy z none none (-1, u) = revS z := by
  have h := step_rev_list z u
  apply str_of_list
  rw [h]
  show _ = z.cps.toList.reverse.toArray.toList
  rw [List.toList_toArray]
  apply List.ext_getElem
  · simp [Str.length]
  · intro i h1 h2
    have h3 : i < z.cps.size := by simpa using h2
    have h4 : z.cps.size - 1 - i < z.cps.size := by omega
    simp [Str.length, Array.getD, h4]
/-- the parts of [::-1], evaluated -/
theorem part_back {σ : L2.St} {H : Hp} {pins : List (Addr × Obj)} {s : Shared} {k : Nat} {p1 p2 : Pos} (I : Inv X pins σ H s) {Q : Value → Shared → Prop}
    (h : ∀ (vs : Value) (u : Tok) (s4 : Shared), vs = .int (-1) u → Inv X pins σ H s4 → Q vs s4) : wpAny (model X.prog X.w) X.A (evalPart (some (.UnaryOp .USub (.Constant (.int 1) k p1) p2)) X.env) Q X.xe s := by
  have hst : PO X (some (.UnaryOp .USub (.Constant (.int 1) k p1) p2)) (tPart (tUn (rU fun i => .int (-i)) (tC (.int 1)))) := po_some (pe_un un_neg pe_int)
  refine thn (hst.run pins s σ H (fun o H4 => o = some (-1) ∧ H4 = H) I ⟨1, rfl, -1, rfl, rfl, rfl⟩) fun v s4 hv => ?_
  obtain ⟨o, H4, I4, ps, rfl, rfl⟩ := hv
  cases ps with
  | int i t => exact h _ t s4 rfl I4
/-- e[::-1] of a text -/
def tRevS (te : TE) : TE := fun σ H Q => te σ H fun x H1 => ∃ z, x = .str z ∧ z.length ≤ sizeLine ∧ Q (.str (revS z)) H1
theorem pe_revS {e : Expr} {te : TE} {k : Nat} {p1 p2 p3 pos : Pos} (he : PE X e te) : PE X (.Subscript e (.Slice none none (some (.UnaryOp .USub (.Constant (.int 1) k p1) p2)) p3) pos) (tRevS te) := by
  refine ⟨fun pins s σ H Q I h => ?_⟩
  refine Subscript_ (thn (he.run pins s σ H _ I h) fun v s1 hv => ?_)
  obtain ⟨x, H1, I1, r1, z, rfl, hz, q⟩ := hv
  obtain ⟨t, rfl⟩ := r1
  refine wpAny_Slice (thn (po_none.run pins s1 σ H1 (fun o H2 => o = none ∧ H2 = H1) I1 ⟨rfl, rfl⟩) fun vl s2 hv => ?_)
  obtain ⟨o1, H2, I2, pl, rfl, rfl⟩ := hv
  refine thn (po_none.run pins s2 σ H2 (fun o H3 => o = none ∧ H3 = H2) I2 ⟨rfl, rfl⟩) fun vu s3 hv => ?_
  obtain ⟨o2, H3, I3, pu, rfl, rfl⟩ := hv
  refine part_back I3 fun vs u s4 ev I4 => ?_
  subst ev
  cases pl
  cases pu
  have I5 : Inv X pins σ H3 { s4 with heap := s4.heap.push { cls := .type "slice", data := .fields #[.none, .none, .int (-1) u] } } := I4.kept (t' := s4.toks) fun b ob q => Heap.get?_push_of_some _ q
  refine tail_any (ops := [.ref s4.heap.objs.size, .str z t]) (typeIs_str _ z t) F.slot_str_getitem.lookup ?_ (by with_unfolding_all rfl)
  refine wpAny_getItem_str_slice (l := none) (u := none) (st := some (-1, u)) ⟨_, Heap.get?_push_size _ rfl, rfl, rfl⟩ rfl ?_
  refine post_val_or_str ⟨?_, fun t' c => ?_⟩
  · exact Nat.le_trans (Txt.sliceBy_le z none none (-1, u) (show (-1 : Int) ≠ 0 by decide)) hz
  · exact ⟨.str (revS z), H3, I5.tok c, ⟨t', by rw [← revS_is z u]; rfl⟩, q⟩
/-! ### a tuple turned round -/
theorem filterMap_same {α β : Type} {f g : α → Option β} : ∀ (l : List α), (∀ x ∈ l, f x = g x) → l.filterMap f = l.filterMap g
  | [], _ => rfl
  | x :: l, h => by
    rw [List.filterMap_cons, List.filterMap_cons, h x List.mem_cons_self, filterMap_same l fun y hy => h y (List.mem_cons_of_mem _ hy)]
theorem places_back (n : Nat) : Builtin.Slice.slicePlaces ((n : Int) - 1) (-1) (-1) = n := by
  unfold Builtin.Slice.slicePlaces
  rw [if_neg (by decide)]
  by_cases h : (n : Int) - 1 > -1
  · rw [if_pos h]
    have e : (-(-1 : Int)) = 1 := rfl
    rw [e, Int.ediv_one]
    omega
  · rw [if_neg h]
    omega
theorem pick_back {α : Type} (l : List α) : ((List.range l.length).filterMap fun (k : Nat) => l.toArray[((l.length : Int) - 1 + (k : Int) * (-1)).toNat]?) = l.reverse := by
  have e : ((List.range l.length).filterMap fun (k : Nat) => l.toArray[((l.length : Int) - 1 + (k : Int) * (-1)).toNat]?) = ((List.range l.length).map fun k => l.length - 1 - k).filterMap (l[·]?) := by
    rw [List.filterMap_map]
    refine filterMap_same _ fun k hk => ?_
    have hk' := List.mem_range.mp hk
    have : ((l.length : Int) - 1 + (k : Int) * (-1)).toNat = l.length - 1 - k := by omega
    rw [this]
    simp
  have z := PySem.W.krv_all l.toArray
  rw [e, PySem.W.krv_range, List.filterMap_reverse]
  have z2 : (List.range l.length).filterMap (l[·]?) = l := by
    simpa using z
  rw [z2]
theorem getItem_tuple_back {prog : Program} {w : World} {A : Around} {E : Value → Shared → Prop} {s : Shared} {t sl : Addr} {items : List Value} {u : Tok} {Q : Value → Shared → Prop} (ht : IsTup s.heap t items.toArray) (hs : s.heap.IsSliceOf sl .none .none (.int (-1) u))
    (h : Q (.ref s.heap.objs.size) { s with heap := s.heap.push { cls := .type "tuple", data := .seq items.reverse.toArray } }) (hsz : items.length ≤ sizeLine) : wpAny (model prog w) A (getItem (.ref t) (.ref sl)) Q E s := by
  obtain ⟨os, hos, hcs, hds⟩ := id hs
  have hTs : s.TypeIs (.ref sl) "slice" := ⟨os, hos, hcs⟩
  unfold getItem
  try with_reducible refine wpAny_holding ?_
  refine wpAny_bind (wpAny_sequenceKey ht.typeIs (by decide) ?_)
  refine wpAny_bind (wpAny_callSpecial?_slot (name := Str.ofString "__getitem__") ht.typeIs PyProof.Rows.slot_tuple_getitem
    (wpAny_call_entry PyProof.Rows.slot_tuple_getitem ht.typeIs entry_tuple_getitem ?_ (args_tuple_getitem _ _)))
  show wpAny _ _ (Builtin.Tuple.tupleItemsOf (.ref t) >>= _) _ _ s
  refine wpAny_bind (tupleItemsOf_ ht ?_)
  refine wpAny_bind (wpAny_typeOf hTs ?_)
  rw [if_pos (by decide)]
  have hap : wpAny (model prog w) A.in1 (Builtin.Slice.sliceApplied (.ref sl) (pure (items.toArray.size : Int))) (fun r s' => r = ((items.length : Int) - 1, -1, items.length) ∧ s' = s) E s := by
    unfold Builtin.Slice.sliceApplied Builtin.Slice.sliceFields
    refine wpAny_bind (wpAny_bind (wpAny_field hos hds (x := .none) rfl (wpAny_bind (wpAny_field hos hds (x := .none) rfl (wpAny_bind (wpAny_field hos hds (x := .int (-1) u) rfl (wpAny_pure ?_)))))))
    refine wpAny_bind (HT.slicePart_ (.int (-1) u) ?_)
    show wpAny _ _ (if ((-1 : Int) == 0) = true then _ else _) _ _ s
    rw [if_neg (by decide)]
    refine wpAny_bind (HT.slicePart_ .none (wpAny_bind (HT.slicePart_ .none (wpAny_bind (wpAny_pure (wpAny_pure ⟨?_, rfl⟩))))))
    show (((items.toArray.size : Int) - 1, (-1 : Int), Builtin.Slice.slicePlaces ((items.toArray.size : Int) - 1) (-1) (-1)) : Int × Int × Nat) = _
    rw [List.size_toArray, places_back]
  refine wpAny_bind (wpAny_mono hap (fun r s' hr => ?_) fun _ _ x => x)
  obtain ⟨rfl, rfl⟩ := hr
  show wpAny _ _ (if (((items.length : Int) - 1 == 0 && (-1 : Int) == 1 && items.length == items.toArray.size) = true) then _ else _) _ _ s'
  rw [if_neg (by simp)]
  rw [show ((List.range items.length).filterMap fun (k : Nat) => items.toArray[((items.length : Int) - 1 + (k : Int) * (-1)).toNat]?) = items.reverse from pick_back items]
  have hsz' : sizeOk (.seq items.reverse.toArray) := by
    show items.reverse.toArray.size ≤ sizeLine
    rw [List.size_toArray, List.length_reverse]
    exact hsz
  first
    | exact wpAny_bind (m := Builtin.Tuple.tupleExact _) (wpAny_newObj_type (wpAny_pure ⟨_, rfl, wpAny_pure h⟩) hsz')
    | exact wpAny_bind (m := Builtin.Tuple.tupleExact _) (wpAny_newObj_type (wpAny_bind (wpAny_pure (wpAny_pure ⟨_, rfl, wpAny_pure h⟩))) hsz')
end
end Ty
namespace Ty
open PySem PySem.Spec PyProof.Rows L2
/-! ### zip of two texts, walked by a target of several names -/
def ItzS (x y : Str) : It :=
  ⟨fun i _ => i < min x.cps.size y.cps.size,
    fun i H v H' => ∃ T c d, v = .ref T ∧ H T = none ∧ H' = upd H T (.tup [.str ⟨#[c]⟩, .str ⟨#[d]⟩]) ∧ x.cps[i]? = some c ∧ y.cps[i]? = some d,
    fun i _ => i = min x.cps.size y.cps.size⟩
/-- the zip's cells at turn i -/
def zsAt (z TI TO i1 i2 : Addr) (x y : Str) (t u : Tok) (i : Nat) (h : Heap) : Prop :=
  IsZip h z TI TO .none ∧ IsTupOf2 h TI (.ref i1) (.ref i2) ∧ (∃ a1 a2, IsTupOf2 h TO a1 a2) ∧ h.IsStrIter i1 (strIterType x) x t i ∧ h.IsStrIter i2 (strIterType y) y u i
theorem zs_walks {P : Program} {w : World} {A : Around} (hh : A.handled = none) {z TI TO i1 i2 : Addr} (S : ZipSep2 z TI TO i1 i2 [i1] [i2]) (x y : Str) (t u : Tok) :
    WalksT P w A z (z :: TI :: TO :: ([i1] ++ [i2])) [z, TO, i1, i2] (min x.cps.size y.cps.size)
      (fun i vals => ∃ v1 v2, (∃ c k, x.cps[i]? = some c ∧ v1 = .str ⟨#[c]⟩ k) ∧ (∃ c k, y.cps[i]? = some c ∧ v2 = .str ⟨#[c]⟩ k) ∧ vals = #[v1, v2]) (zsAt z TI TO i1 i2 x y t u)
      (fun i T h => IsZip h z TI TO (rawInt T) ∧ IsTupOf2 h TI (.ref i1) (.ref i2) ∧ (∃ a1 a2, IsTupOf2 h TO a1 a2) ∧ h.IsStrIter i1 (strIterType x) x t (i + 1) ∧ h.IsStrIter i2 (strIterType y) y u (i + 1) ∧ T ≠ z ∧ T ≠ TO ∧ T ≠ i1 ∧ T ≠ i2) :=
  WalksT.zipD2 S (Draws.text (A := A.in1) hh i1 x t) (Draws.text (A := A.in1) hh i2 y u)
theorem five_le {n c : Nat} (h : c = n + 4 ∨ c = n + 2 ∨ c = n + 3 ∨ c = n ∨ c = n + 1) : n ≤ c := by omega
theorem sep_nat (n : Nat) : ZipSep2 (n + 4) (n + 2) (n + 3) n (n + 1) [n] [n + 1] := by
  constructor <;> simp <;> omega
theorem sep_new (n : Addr) : ZipSep2 (n + 4) (n + 2) (n + 3) n (n + 1) [n] [n + 1] := sep_nat n
theorem turn_zipS {P : Program} {w : World} {K : PySem.W.Frag} {elts : List Expr} {kk : Nat} {tpos : Pos} {z TI TO i1 i2 : Addr} (S : ZipSep2 z TI TO i1 i2 [i1] [i2]) (x y : Str) (t u : Tok) :
    Turn P w K (.Tuple elts kk tpos) (ItzS x y) (z :: TI :: TO :: ([i1] ++ [i2])) z (zsAt z TI TO i1 i2 x y t u) where
  mem := List.mem_cons_self
  obj := fun i h st c hc => by
    obtain ⟨hz, hTI, ⟨a, b, hTO⟩, ⟨o1, e1, _, d1⟩, ⟨o2, e2, _, d2⟩⟩ := st
    have hc' : c = z ∨ c = TI ∨ c = TO ∨ c = i1 ∨ c = i2 := by simpa using hc
    rcases hc' with rfl | rfl | rfl | rfl | rfl
    · exact ⟨_, hz, fun v q => nomatch q⟩
    · exact ⟨_, hTI, fun v q => nomatch q⟩
    · exact ⟨_, hTO, fun v q => nomatch q⟩
    · exact ⟨o1, e1, fun v q => by rw [d1] at q; cases q⟩
    · exact ⟨o2, e2, fun v q => by rw [d2] at q; cases q⟩
  keep := fun i h h' st k => by
    obtain ⟨hz, hTI, ⟨a, b, hTO⟩, ⟨o1, e1, r1⟩, ⟨o2, e2, r2⟩⟩ := st
    exact ⟨k z (by simp) _ hz, k TI (by simp) _ hTI, ⟨a, b, k TO (by simp) _ hTO⟩, ⟨o1, k i1 (by simp) _ e1, r1⟩, ⟨o2, k i2 (by simp) _ e2, r2⟩⟩
  item := by
    intro X hP hw hK hc i pins s σ H E I hf st hg
    subst hP hw hK
    have W := zs_walks (P := X.prog) (w := X.w) (A := X.A) (I.ok.hd hc) S x y t u
    refine W.item i s _ _ hg st fun T vals g tk pt hT isT mid kp => ⟨_, rfl, ?_⟩
    refine W.go elts kk tpos i T { s with heap := g, toks := tk } _ _ mid fun g2 st2 kp2 => ?_
    obtain ⟨v1, v2, ⟨c, k1, ec, rfl⟩, ⟨d, k2, ed, rfl⟩, rfl⟩ := pt
    have hap := W.apart i T g mid
    have sub : ∀ b, b ∉ (z :: TI :: TO :: ([i1] ++ [i2])) → b ∉ [z, TO, i1, i2] := fun b hb q => hb (W.sub b q)
    obtain ⟨oT, eT, cT, nT, dT⟩ := isT
    have new : ObjOk X.prog X.w (upd H T (.tup [.str ⟨#[c]⟩, .str ⟨#[d]⟩])) g2 T (.tup [.str ⟨#[c]⟩, .str ⟨#[d]⟩]) :=
      ⟨by show 2 ≤ sizeLine; decide, [.str ⟨#[c]⟩ k1, .str ⟨#[d]⟩ k2], .cons ⟨k1, rfl⟩ (.cons ⟨k2, rfl⟩ .nil), oT, kp2 T oT hap eT, cT, nT, dT⟩
    have I1 := I.turnedNew (t' := tk) (h' := g2) (fun b o hb e => kp2 b o (sub b hb) (kp b o (sub b hb) e)) hf hT new
    refine ⟨.ref T, _, I1, rfl, ⟨T, c, d, rfl, I.hok.fresh hT, rfl, ec, ed⟩, st2, fun b hb => ?_⟩
    have hlt : b < s.heap.objs.size := by
      obtain ⟨hz, hTI, ⟨a1, a2, hTO⟩, ⟨o1, e1, _⟩, ⟨o2, e2, _⟩⟩ := st
      have hb' : b = z ∨ b = TI ∨ b = TO ∨ b = i1 ∨ b = i2 := by simpa using hb
      rcases hb' with rfl | rfl | rfl | rfl | rfl
      · exact Heap.lt_size hz
      · exact Heap.lt_size hTI
      · exact Heap.lt_size hTO
      · exact Heap.lt_size e1
      · exact Heap.lt_size e2
    rw [upd_ne (Nat.ne_of_lt (Nat.lt_of_lt_of_le hlt hT))]
    exact (hf b hb).1
  done := by
    intro X hP hw hK hc i pins s σ H E I hf st hg
    subst hP hw hK
    have W := zs_walks (P := X.prog) (w := X.w) (A := X.A) (I.ok.hd hc) S x y t u
    have hg' : i = min x.cps.size y.cps.size := hg
    subst hg'
    exact W.done s _ _ st fun g tk kp => ⟨rfl, I.turnedL (t' := tk) (fun b o hb e => kp b o (fun q => hb (W.sub b q)) e) hf⟩
  self := fun A i s Q E st h => wpAny_pyIter_zip st.1 h
def iZipS (ta : TA) : TI := fun σ H R => ta σ H fun vs H1 => ∃ x y, vs = [.str x, .str y] ∧ R (ItzS x y) H1
theorem pi_zipS {X : Cx} {e e2 : Expr} {ta : TA} {p pos tpos : Pos} {elts : List Expr} {kk : Nat} (hg : Gl X "zip") (hm : X.mg "zip" = none) (ha : PA X [e, e2] ta)
    (hs : starEach [e, e2] X.env = (false, eval e X.env) :: starEach [e2] X.env := by rfl) (hpl : (backTo pos (starEach [e2] X.env)).any (·.1) = false := by rfl) :
    PI X (.Tuple elts kk tpos) (.Call (.Name "zip" p) [e, e2] [] pos) (iZipS ta) := by
  refine ⟨fun pins s σ H R I h => ?_⟩
  refine Call_ (ld_blt I hg hm PyProof.Rows.boot_zip (PyProof.Rows.callWith_type1 (thn (ha.run pos pins s σ H _ I h) fun us s1 hv => ?_) hs hpl))
  obtain ⟨vs, H1, I1, r1, x, y, rfl, q⟩ := hv
  obtain ⟨u1, u2, rfl, q1, q2⟩ := vals2 r1
  obtain ⟨t, rfl⟩ := q1
  obtain ⟨u, rfl⟩ := q2
  refine zip_begins2 (begins_text x t) (begins_text y u) trivial trivial fun g hz hTI hTO h1 h2 hsz kp => wpAny_pyIter_zip hz ?_
  have I2 : Inv X pins σ H1 { s1 with heap := g } := I1.kept (t' := s1.toks) kp
  have S : ZipSep2 (s1.heap.objs.size + 4) (s1.heap.objs.size + 2) (s1.heap.objs.size + 3) s1.heap.objs.size (s1.heap.objs.size + 1) [s1.heap.objs.size] [s1.heap.objs.size + 1] := sep_new _
  refine ⟨s1.heap.objs.size + 4, _, _, _, H1, rfl, I2, turn_zipS S x y t u, ⟨hz, hTI, ⟨_, _, hTO⟩, ⟨_, h1, rfl, rfl⟩, ⟨_, h2, rfl, rfl⟩⟩, fun c hc => ?_, q⟩
  have hle : s1.heap.objs.size ≤ c := by
    have hc' : c = s1.heap.objs.size + 4 ∨ c = s1.heap.objs.size + 2 ∨ c = s1.heap.objs.size + 3 ∨ c = s1.heap.objs.size ∨ c = s1.heap.objs.size + 1 := by simpa using hc
    exact five_le hc'
  exact I1.fpOk hle (I1.hok.fresh hle)
end Ty
namespace Ty
open PySem PySem.Spec PyProof.Rows L2
/-! ### data in the abstract heap, apart from the jar's address -/
mutual
/-- v reads as d; none of its lists lies at j -/
inductive Rep (j : Addr) (H : Hp) : V → PyData → Prop
  | non : Rep j H .non .none
  | bl (b : Bool) : Rep j H (.bl b) (.bool b)
  | int (i : Int) : Rep j H (.int i) (.int i)
  | str (x : Str) : Rep j H (.str x) (.str x)
  | lst {a : Addr} {xs : List V} {ds : List PyData} : a ≠ j → sysModules < a → H a = some (.lst xs) → Reps j H xs ds → Rep j H (.ref a) (.list ds)
  | tup {a : Addr} {xs : List V} {ds : List PyData} : a ≠ j → H a = some (.tup xs) → Reps j H xs ds → Rep j H (.ref a) (.tuple ds)
  | dct {a : Addr} : a ≠ j → H a = some (.dK []) → Rep j H (.ref a) (.dict [])
inductive Reps (j : Addr) (H : Hp) : List V → List PyData → Prop
  | nil : Reps j H [] []
  | cons {v : V} {vs : List V} {d : PyData} {ds : List PyData} : Rep j H v d → Reps j H vs ds → Reps j H (v :: vs) (d :: ds)
end
/-- all that is tracked apart from j stands -/
def Keep (j : Addr) (H H' : Hp) : Prop := ∀ b o, b ≠ j → H b = some o → H' b = some o
theorem Keep.refl {j : Addr} {H : Hp} : Keep j H H := fun _ _ _ h => h
theorem Keep.trans {j : Addr} {H H1 H2 : Hp} (a : Keep j H H1) (b : Keep j H1 H2) : Keep j H H2 := fun c o n h => b c o n (a c o n h)
theorem Keep.of_same {j : Addr} {H H' : Hp} (s : Same H H') : Keep j H H' := fun b o _ h => s b o h
theorem same_new {H : Hp} {p : Addr} (h : H p = none) (o : HO) : Same H (upd H p o) := fun b u q => by rw [upd_ne (ne_of_none q h)]; exact q
theorem keep_new {j : Addr} {H : Hp} {p : Addr} (h : H p = none) (o : HO) : Keep j H (upd H p o) := .of_same (same_new h o)
theorem keep_jar {j : Addr} {H : Hp} (o : HO) : Keep j H (upd H j o) := fun b u n q => by rw [upd_ne n]; exact q
section
variable {j : Addr} {H H' : Hp}
mutual
theorem Rep.keep (k : Keep j H H') : ∀ (d : PyData) (v : V), Rep j H v d → Rep j H' v d
  | .none, _, h => by cases h; exact .non
  | .bool _, _, h => by cases h; exact .bl _
  | .int _, _, h => by cases h; exact .int _
  | .str _, _, h => by cases h; exact .str _
  | .list ds, _, h => by
    cases h with
    | lst n g e r => exact .lst n g (k _ _ n e) (Reps.keep k ds _ r)
  | .tuple ds, _, h => by
    cases h with
    | tup n e r => exact .tup n (k _ _ n e) (Reps.keep k ds _ r)
  | .dict _, _, h => by
    cases h with
    | dct n e => exact .dct n (k _ _ n e)
theorem Reps.keep (k : Keep j H H') : ∀ (ds : List PyData) (vs : List V), Reps j H vs ds → Reps j H' vs ds
  | [], _, h => by cases h; exact .nil
  | d :: ds, _, h => by
    cases h with
    | cons r t => exact .cons (Rep.keep k d _ r) (Reps.keep k ds _ t)
end
theorem Reps.length : ∀ {vs : List V} {ds : List PyData}, Reps j H vs ds → vs.length = ds.length
  | _, _, .nil => rfl
  | _, _, .cons _ t => by rw [List.length_cons, List.length_cons, Reps.length t]
theorem Reps.get : ∀ {vs : List V} {ds : List PyData} {i : Nat} {v : V}, Reps j H vs ds → vs[i]? = some v → ∃ d, ds[i]? = some d ∧ Rep j H v d
  | _, _, _, _, .nil, e => by simp at e
  | _, _, 0, _, .cons r _, e => by simp at e; subst e; exact ⟨_, rfl, r⟩
  | _, _, i + 1, v, .cons _ t, e => by
    obtain ⟨d, h1, h2⟩ := Reps.get (i := i) (v := v) t (by simpa using e)
    exact ⟨d, by simpa using h1, h2⟩
theorem Reps.append : ∀ {vs ws : List V} {ds es : List PyData}, Reps j H vs ds → Reps j H ws es → Reps j H (vs ++ ws) (ds ++ es)
  | _, _, _, _, .nil, t => t
  | _, _, _, _, .cons r q, t => .cons r (Reps.append q t)
theorem Reps.take : ∀ {vs : List V} {ds : List PyData} (n : Nat), Reps j H vs ds → Reps j H (vs.take n) (ds.take n)
  | _, _, 0, _ => .nil
  | _, _, _ + 1, .nil => .nil
  | _, _, n + 1, .cons r t => .cons r (Reps.take n t)
theorem Reps.drop : ∀ {vs : List V} {ds : List PyData} (n : Nat), Reps j H vs ds → Reps j H (vs.drop n) (ds.drop n)
  | _, _, 0, r => r
  | _, _, _ + 1, .nil => .nil
  | _, _, n + 1, .cons _ t => Reps.drop n t
theorem Reps.reverse : ∀ {vs : List V} {ds : List PyData}, Reps j H vs ds → Reps j H vs.reverse ds.reverse
  | _, _, .nil => .nil
  | _, _, .cons r t => by
    rw [List.reverse_cons, List.reverse_cons]
    exact Reps.append (Reps.reverse t) (.cons r .nil)
end
section
variable {X : Cx} {pins : List (Addr × Obj)} {σ : L2.St} {H : Hp} {s : Shared} {j : Addr}
mutual
theorem Rep.reads (I : Inv X pins σ H s) : ∀ (d : PyData) (v : V) (u : Value), Rep j H v d → RelV v u → ∃ as, Reads s.heap u d as ∧ sysModules ∉ as
  | .none, _, _, h, r => by
    cases h
    cases r
    exact ⟨_, Reads.none, by simp⟩
  | .bool b, _, _, h, r => by
    cases h
    cases r
    exact ⟨_, Reads.bool b, by simp⟩
  | .int i, _, _, h, r => by
    cases h
    obtain ⟨t, rfl⟩ := r
    exact ⟨_, Reads.int i t, by simp⟩
  | .str x, _, _, h, r => by
    cases h
    obtain ⟨t, rfl⟩ := r
    exact ⟨_, Reads.str x t, by simp⟩
  | .list ds, _, _, h, r => by
    cases h with
    | lst n g e q =>
      cases r
      obtain ⟨z, its, m, rv, ho⟩ := I.hok _ _ e
      obtain ⟨as, hr, hn⟩ := Reps.reads I ds _ its q rv
      exact ⟨_, Reads.list ho rfl rfl (by simpa using hr), by simp only [List.mem_cons, not_or]; exact ⟨Nat.ne_of_lt g, hn⟩⟩
  | .tuple ds, _, _, h, r => by
    cases h with
    | tup n e q =>
      cases r
      obtain ⟨z, its, rv, o, ho, hc, m, hd⟩ := I.hok _ _ e
      obtain ⟨as, hr, hn⟩ := Reps.reads I ds _ its q rv
      exact ⟨_, Reads.tuple ho hc hd (by simpa using hr), hn⟩
  | .dict _, _, _, h, r => by
    cases h with
    | @dct a n e =>
      cases r
      obtain ⟨z, hs, vs, rel, dd⟩ := I.hok _ _ e
      cases rel
      obtain ⟨o, es, ep, ho, hx, hd, _, hp, _⟩ := dd
      have he : es.toList = [] := by
        cases q : es.toList with
        | nil => rfl
        | cons e l =>
          rw [q] at hp
          cases hp
      have hn : (a == sysModules) = false := hs
      exact ⟨_, Reads.dict (kvs := []) ho hx.1 hd (by rw [he]; exact ReadsAll.nil) (by rw [he]; exact ReadsAll.nil), by
        simp only [List.append_nil, List.mem_cons, List.not_mem_nil, or_false]
        intro z
        rw [← z] at hn
        simp at hn⟩
theorem Reps.reads (I : Inv X pins σ H s) : ∀ (ds : List PyData) (vs : List V) (us : List Value), Reps j H vs ds → Vals vs us → ∃ as, ReadsAll s.heap us ds as ∧ sysModules ∉ as
  | [], _, _, h, r => by
    cases h
    cases r
    exact ⟨_, ReadsAll.nil, by simp⟩
  | d :: ds, _, _, h, r => by
    cases h with
    | cons h1 h2 =>
      cases r with
      | cons r1 r2 =>
        obtain ⟨as, q1, n1⟩ := Rep.reads I d _ _ h1 r1
        obtain ⟨bs, q2, n2⟩ := Reps.reads I ds _ _ h2 r2
        exact ⟨_, ReadsAll.cons q1 q2, by simp only [List.mem_append, not_or]; exact ⟨n1, n2⟩⟩
end
end
end Ty
namespace Ty
open PySem PySem.Spec PyProof.Rows L2
section
variable {X : Cx}
/-! ### new lists that lie behind the modules' table -/
def tLstN (t : TA) : TE := fun σ H Q => t σ H fun xs H1 => xs.length ≤ sizeLine ∧ ∀ p, H1 p = none → sysModules < p → Q (.ref p) (upd H1 p (.lst xs))
theorem pe_lstN {es : List Expr} {t : TA} {pos : Pos} (h : PA X es t) : PE X (.List es pos) (tLstN t) := by
  refine ⟨fun pins s σ H Q I hq => ?_⟩
  refine wpAny_List_spliced (thn (h.run pos pins s σ H _ I hq) fun us s1 hv => ?_)
  obtain ⟨xs, H1, I1, r, z, q⟩ := hv
  refine ⟨by rw [← r.length]; exact z, .ref s1.heap.objs.size, upd H1 s1.heap.objs.size (.lst xs), I1.laid (t' := s1.toks) (fun b u e => Heap.get?_push_of_some _ e) (Nat.le_refl _) ⟨z, us, 0, r, Heap.get?_push_size _ rfl⟩, rfl, q _ (I1.hok.fresh (Nat.le_refl _)) I1.big⟩
def rListN (K : PySem.W.Frag) : List V → Hp → VK → Prop := fun xs H Q => ∃ p ys, xs = [.ref p] ∧ SqT K H p ys ∧ ∀ l, H l = none → sysModules < l → Q (.ref l) (upd H l (.lst ys))
theorem call_listN : CallR X (.type "list") (rListN X.K) := by
  intro pins s σ H xs us Q I r h
  obtain ⟨p, ys, rfl, hq, q⟩ := h
  obtain ⟨u, rfl, rx⟩ := vals1 r
  cases rx
  obtain ⟨its, r', pl, hz⟩ := I.tuple hq
  have hlen := r'.length
  obtain ⟨o, ho, hc, n, hd⟩ := pl
  refine call_list_seq p (.inr rfl) ho hc hd (fun g c kp e => ?_) (by rw [List.size_toArray, ← hlen]; exact hz)
  exact ⟨.ref s.heap.objs.size, _, I.laid (t' := s.toks) kp (Nat.le_refl _) (show ObjOk X.prog X.w _ g _ (.lst ys) from ⟨hz, its, c, r', e⟩), rfl, q _ (I.hok.fresh (Nat.le_refl _)) I.big⟩
/-! ### str of data, where no repr is under way -/
def strD : PyData → Str
  | .str x => x
  | d => d.shown
def rStrD (j : Addr) : List V → Hp → VK → Prop := fun vs H Q => ∃ v d, vs = [v] ∧ Rep j H v d ∧ d.showable = true ∧ d.shown.length ≤ sizeLine ∧ d.depth ≤ 60 ∧ Q (.str (strD d)) H
theorem call_strD {j : Addr} (hg : X.A.guards = some []) (hu : X.A.units + 64 < cLine) : CallR X (.type "str") (rStrD j) := by
  intro pins s σ H xs us Q I r h
  obtain ⟨v, d, rfl, rp, hs, hz, hd, q⟩ := h
  obtain ⟨u, rfl, rx⟩ := vals1 r
  cases rp with
  | non => cases rx; exact PySem.P.str_of_none ⟨.str _, H, I.tok _, ⟨_, rfl⟩, q⟩
  | bl b => cases rx; exact PySem.P.str_of_bool ⟨.str _, H, I.tok _, ⟨_, rfl⟩, q⟩
  | int i => obtain ⟨t, rfl⟩ := rx; exact PySem.P.str_of_int (of_decide_eq_true hs) ⟨.str _, H, I.tok _, ⟨_, rfl⟩, q⟩
  | str x => obtain ⟨t, rfl⟩ := rx; exact PySem.P.str_of_str ⟨.str x, H, I, ⟨_, rfl⟩, q⟩
  | lst n g e rs =>
    obtain ⟨as, rd, hn⟩ := Rep.reads I _ _ _ (.lst n g e rs) rx
    cases rx
    exact str_of_reads rd hs (fun _ => hn) hg (by omega) (fun _ _ e => e) (fun g u tk kp => ⟨.str _, H, I.kept (t' := tk) kp, ⟨_, rfl⟩, q⟩) hz
  | tup n e rs =>
    obtain ⟨as, rd, hn⟩ := Rep.reads I _ _ _ (.tup n e rs) rx
    cases rx
    exact str_of_reads rd hs (fun _ => hn) hg (by omega) (fun _ _ e => e) (fun g u tk kp => ⟨.str _, H, I.kept (t' := tk) kp, ⟨_, rfl⟩, q⟩) hz
  | dct n e =>
    obtain ⟨as, rd, hn⟩ := Rep.reads I _ _ _ (.dct n e) rx
    cases rx
    exact str_of_reads rd hs (fun _ => hn) hg (by omega) (fun _ _ e => e) (fun g u tk kp => ⟨.str _, H, I.kept (t' := tk) kp, ⟨_, rfl⟩, q⟩) hz
/-! ### a tuple against the empty one -/
def rEqT0 (K : PySem.W.Frag) : R2 := fun x y H Q => ∃ a b xs, x = .ref a ∧ y = .ref b ∧ SqT K H a xs ∧ SqT K H b [] ∧ Q (.bl (decide (xs = []))) H
theorem op_eqT0 (hu : X.A.units < cLine) : OpR X (compareOp .Eq) (rEqT0 X.K) := by
  intro pins s σ H x y v u Q I rx ry h
  obtain ⟨a, b, xs, rfl, rfl, ha, hb, q⟩ := h
  cases rx
  cases ry
  obtain ⟨its, r1, p1, _⟩ := I.tuple ha
  obtain ⟨its2, r2, p2, _⟩ := I.tuple hb
  cases r2
  have hlen := r1.length
  refine SeqAt.eq_tupleAt (e := fun _ => true) p1 p2 hu (fun k h1 h2 => absurd h2 (by simp)) ⟨.bl _, H, I, rfl, ?_⟩
  have e : ((List.range (min its.toArray.size ([] : List Value).toArray.size)).all (fun _ => true) && its.toArray.size == ([] : List Value).toArray.size) = decide (xs = []) := by
    cases xs with
    | nil =>
      cases its with
      | nil => rfl
      | cons => cases hlen
    | cons =>
      cases its with
      | nil => cases hlen
      | cons => simp
  rw [e]
  exact q
end
end Ty
namespace Ty
open PySem PySem.Spec PyProof.Rows L2
def Jar (j : Addr) (H : Hp) (C : Nat) : Prop := ∃ a b c : Int, H j = some (.lst [.int a, .int b, .int c]) ∧ b.natAbs < 2 ^ 140 ∧ 0 ≤ c ∧ c ≤ (C : Int)
theorem Jar.mono {j : Addr} {H : Hp} {C D : Nat} (h : Jar j H C) (l : C ≤ D) : Jar j H D := by
  obtain ⟨a, b, c, h1, h2, h3, h4⟩ := h
  exact ⟨a, b, c, h1, h2, h3, by omega⟩
theorem Jar.keep {j : Addr} {H H' : Hp} {C : Nat} (h : Jar j H C) (s : Same H H') : Jar j H' C := by
  obtain ⟨a, b, c, h1, h2⟩ := h
  exact ⟨a, b, c, s _ _ h1, h2⟩
theorem Jar.ne {j p : Addr} {H : Hp} {C : Nat} (h : Jar j H C) (n : H p = none) : p ≠ j := by
  obtain ⟨a, b, c, h1, _⟩ := h
  intro e
  rw [e, h1] at n
  cases n
def tyOf : PyData → String
  | .none => "NoneType"
  | .bool _ => "bool"
  | .int _ => "int"
  | .str _ => "str"
  | .list _ => "list"
  | .tuple _ => "tuple"
  | .dict _ => "dict"
def isT : PyData → Bool
  | .tuple _ => true
  | _ => false
def isS : PyData → Bool
  | .str _ => true
  | _ => false
theorem Rep.ty {K : PySem.W.Frag} {j : Addr} {H : Hp} {v : V} {d : PyData} (r : Rep j H v d) : TyX K H v (.type (tyOf d)) := by
  cases r with
  | non => exact .base .non
  | bl b => exact .base (.bl b)
  | int i => exact .base (.int i)
  | str x => exact .base (.str x)
  | lst n g e q => exact .base (.lst e)
  | tup n e q => exact .base (.tup e)
  | dct n e => exact .base (.dK e)
theorem kit_s (K : PySem.W.Frag) : ∀ d : PyData, PySem.W.kitOne K (.type (tyOf d)) (.type "str") = some (isS d)
  | .none => kit_ty (show kitB "NoneType" "str" = some false by decide +kernel)
  | .bool _ => kit_ty (show kitB "bool" "str" = some false by decide +kernel)
  | .int _ => kit_ty (show kitB "int" "str" = some false by decide +kernel)
  | .str _ => kit_ty (show kitB "str" "str" = some true by decide +kernel)
  | .list _ => kit_ty (show kitB "list" "str" = some false by decide +kernel)
  | .tuple _ => kit_ty (show kitB "tuple" "str" = some false by decide +kernel)
  | .dict _ => kit_ty (show kitB "dict" "str" = some false by decide +kernel)
theorem kit_t (K : PySem.W.Frag) : ∀ d : PyData, PySem.W.kitOne K (.type (tyOf d)) (.type "tuple") = some (isT d)
  | .none => kit_ty (show kitB "NoneType" "tuple" = some false by decide +kernel)
  | .bool _ => kit_ty (show kitB "bool" "tuple" = some false by decide +kernel)
  | .int _ => kit_ty (show kitB "int" "tuple" = some false by decide +kernel)
  | .str _ => kit_ty (show kitB "str" "tuple" = some false by decide +kernel)
  | .list _ => kit_ty (show kitB "list" "tuple" = some false by decide +kernel)
  | .tuple _ => kit_ty (show kitB "tuple" "tuple" = some true by decide +kernel)
  | .dict _ => kit_ty (show kitB "dict" "tuple" = some false by decide +kernel)
theorem Rep.isS_ex {j : Addr} {H : Hp} {v : V} {d : PyData} (r : Rep j H v d) (h : isS d = true) : ∃ x, d = .str x ∧ v = .str x := by
  cases d with
  | str x => cases r; exact ⟨_, rfl, rfl⟩
  | _ => cases h
theorem Rep.isT_ex {j : Addr} {H : Hp} {v : V} {d : PyData} (r : Rep j H v d) (h : isT d = true) : ∃ a xs ds, d = .tuple ds ∧ v = .ref a ∧ a ≠ j ∧ H a = some (.tup xs) ∧ Reps j H xs ds := by
  cases d with
  | tuple ds => cases r with | tup n e q => exact ⟨_, _, _, rfl, rfl, n, e, q⟩
  | _ => cases h
def Acc (H1 : Hp) (D : Addr) (ys : List V) (H : Hp) : Prop := Same H1 H ∧ H D = some (.lst ys)
theorem Acc.nil {H : Hp} {D : Addr} (n : H D = none) : Acc H D [] (upd H D (.lst [])) := ⟨same_new n _, upd_same⟩
theorem Acc.push {H1 H : Hp} {D : Addr} {ys : List V} (a : Acc H1 D ys H) (n : H1 D = none) (y : V) : Acc H1 D (ys ++ [y]) (upd H D (.lst (ys ++ [y]))) :=
  ⟨fun b o e => by rw [upd_ne (ne_of_none e n)]; exact a.1 b o e, upd_same⟩
theorem Acc.same {H1 H H' : Hp} {D : Addr} {ys : List V} (a : Acc H1 D ys H) (s : Same H H') : Acc H1 D ys H' := ⟨a.1.trans s, s _ _ a.2⟩
theorem Reps.all_keep {j : Addr} {H H' : Hp} {vs : List V} {ds : List PyData} (r : Reps j H vs ds) (s : Same H H') : Reps j H' vs ds := Reps.keep (Keep.of_same s) ds vs r
theorem Rep.all_keep {j : Addr} {H H' : Hp} {v : V} {d : PyData} (r : Rep j H v d) (s : Same H H') : Rep j H' v d := Rep.keep (Keep.of_same s) d v r
theorem at_zero {α : Type} {x : α} {xs : List α} : atI (x :: xs) 0 = some x := by
  have : (0 : Int) < (((x :: xs).length : Nat) : Int) := by rw [List.length_cons]; omega
  unfold atI ixN
  rw [if_pos (Int.le_refl 0), if_pos this]
  rfl
theorem join_one : ∀ l : List Nat, Txt.join "" (l.map fun c => (⟨#[c]⟩ : Str)) = ⟨l.toArray⟩ := by
  intro l
  rw [TL.join_eq]
  induction l with
  | nil => rfl
  | cons c l ih =>
    cases l with
    | nil => rfl
    | cons d l =>
      show (⟨#[c]⟩ : Str) ++ "" ++ Str.join "" ((d :: l).map fun c => (⟨#[c]⟩ : Str)) = _
      rw [ih]
      refine str_of_list ?_
      rw [Str.cps_append, Array.toList_append, Str.cps_append, Array.toList_append]
      rfl
theorem sIx_one {n : Nat} : HT.sIx (n + 1) 0 (some 1) = 1 := by
  unfold HT.sIx
  simp
theorem cut_tail {v : V} {vs : List V} : cutV (v :: vs) (some 1) none = vs := by
  unfold cutV
  rw [List.length_cons, sIx_one]
  show List.take (vs.length + 1 - 1) (List.drop 1 (v :: vs)) = vs
  rw [Nat.add_sub_cancel]
  exact List.take_length
section
variable {X : Cx}
def tDat (d : PyData) : TE := fun σ H Q => ∀ v H', Same H H' → (∀ j, H j ≠ none → Rep j H' v d) → Q v H'
def tDats (ds : List PyData) : TA := fun σ H Q => ∀ vs H', Same H H' → vs.length = ds.length → (∀ j, H j ≠ none → Reps j H' vs ds) → Q vs H'
theorem same_refl {H : Hp} : Same H H := fun b o h => h
theorem new_ne {H H' : Hp} {p j : Addr} (s : Same H H') (hp : H' p = none) (hj : H j ≠ none) : p ≠ j := by
  intro e
  subst e
  cases q : H p with
  | none => exact hj q
  | some o => rw [s _ _ q] at hp; cases hp
theorem dt_non {j : Nat} {pos : Pos} : PE X (.Constant .none j pos) (tDat .none) := ⟨fun pins s σ H Q I h => (pe_non (X := X)).run pins s σ H Q I (h _ _ same_refl fun _ _ => .non)⟩
theorem dt_bl {b : Bool} {j : Nat} {pos : Pos} : PE X (.Constant (.bool b) j pos) (tDat (.bool b)) := ⟨fun pins s σ H Q I h => (pe_bl (X := X)).run pins s σ H Q I (h _ _ same_refl fun _ _ => .bl b)⟩
theorem dt_int {i : Int} {j : Nat} {pos : Pos} : PE X (.Constant (.int i) j pos) (tDat (.int i)) := ⟨fun pins s σ H Q I h => (pe_int (X := X)).run pins s σ H Q I (h _ _ same_refl fun _ _ => .int i)⟩
theorem dt_str {x : Str} {j : Nat} {pos : Pos} : PE X (.Constant (.str x) j pos) (tDat (.str x)) := ⟨fun pins s σ H Q I h => (pe_str (X := X)).run pins s σ H Q I (h _ _ same_refl fun _ _ => .str x)⟩
theorem da_nil : PA X [] (tDats []) := ⟨fun pos pins s σ H Q I h => (pa_nil (X := X)).run pos pins s σ H Q I (h _ _ same_refl rfl fun _ _ => .nil)⟩
theorem da_cons {e : Expr} {es : List Expr} {d : PyData} {ds : List PyData} (he : PE X e (tDat d)) (ha : PA X es (tDats ds)) (hs : starEach (e :: es) X.env = (false, eval e X.env) :: starEach es X.env := by rfl) : PA X (e :: es) (tDats (d :: ds)) :=
  ⟨fun pos pins s σ H Q I h => (pa_cons he ha hs).run pos pins s σ H Q I fun v H1 s1 r1 vs H2 s2 hl r2 => h _ _ (s1.trans s2) (by rw [List.length_cons, List.length_cons, hl]) fun j hj =>
    have hj1 : H1 j ≠ none := fun e => by
      cases q : H j with
      | none => exact hj q
      | some o => rw [s1 _ _ q] at e; cases e
    .cons ((r1 j hj).all_keep s2) (r2 j hj1)⟩
theorem dt_tup {es : List Expr} {ds : List PyData} {k : Nat} {pos : Pos} (ha : PA X es (tDats ds)) (hl : ds.length ≤ 1000 := by decide) : PE X (.Tuple es k pos) (tDat (.tuple ds)) :=
  ⟨fun pins s σ H Q I h => (pe_tup ha).run pins s σ H Q I fun vs H1 s1 hv r =>
    ⟨by rw [hv, sizeLine_eq]; omega, fun p hp => h _ _ (s1.trans (same_new hp _)) fun i hi => .tup (new_ne s1 hp hi) upd_same ((r i hi).all_keep (same_new hp _))⟩⟩
theorem dt_lst {es : List Expr} {ds : List PyData} {pos : Pos} (ha : PA X es (tDats ds)) (hl : ds.length ≤ 1000 := by decide) : PE X (.List es pos) (tDat (.list ds)) :=
  ⟨fun pins s σ H Q I h => (pe_lstN ha).run pins s σ H Q I fun vs H1 s1 hv r =>
    ⟨by rw [hv, sizeLine_eq]; omega, fun p hp hlt => h _ _ (s1.trans (same_new hp _)) fun i hi => .lst (new_ne s1 hp hi) hlt upd_same ((r i hi).all_keep (same_new hp _))⟩⟩
theorem dt_dct {pos : Pos} : PE X (.Dict [] [] pos) (tDat (.dict [])) :=
  ⟨fun pins s σ H Q I h => (pe_dnewK (X := X)).run pins s σ H Q I fun p hp => h _ _ (same_new hp _) fun i hi => .dct (new_ne same_refl hp hi) upd_same⟩
theorem at_in {α : Type} {l : List α} {i : Int} (h0 : 0 ≤ i) (h1 : i < (l.length : Nat)) : ∃ x, atI l i = some x ∧ l[i.toNat]? = some x := by
  have h2 : i.toNat < l.length := by omega
  refine ⟨l[i.toNat], ?_, List.getElem?_eq_getElem h2⟩
  unfold atI ixN
  rw [if_pos h0, if_pos h1]
  exact List.getElem?_eq_getElem h2
theorem Jar.some {j : Addr} {H : Hp} {C : Nat} (h : Jar j H C) : H j ≠ none := by
  obtain ⟨a, b, c, h1, _⟩ := h
  rw [h1]
  simp
end
theorem Keep.lst {j p : Addr} {H H' : Hp} {xs : List V} (k : Keep j H H') (n : p ≠ j) (e : H p = some (.lst xs)) : H' p = some (.lst xs) := k _ _ n e
def Ones (ys : List Str) : Prop := ∀ y, y ∈ ys → ∃ c, c < 128 ∧ y = ⟨#[c]⟩
theorem Ones.codes : ∀ {ys : List Str}, Ones ys → ∃ l : List Nat, ys = l.map (fun c => (⟨#[c]⟩ : Str)) ∧ ∀ c, c ∈ l → c < 128
  | [], _ => ⟨[], rfl, fun _ h => by cases h⟩
  | y :: ys, h => by
    obtain ⟨c, hc, rfl⟩ := h y List.mem_cons_self
    obtain ⟨l, rfl, hl⟩ := Ones.codes (ys := ys) fun z hz => h z (List.mem_cons_of_mem _ hz)
    exact ⟨c :: l, rfl, fun d hd => by
      rcases List.mem_cons.mp hd with e | e
      · rw [e]; exact hc
      · exact hl d e⟩
theorem ones_sum : ∀ l : List Nat, ((l.map (fun c => (⟨#[c]⟩ : Str))).map (·.length)).sum = l.length
  | [] => rfl
  | c :: l => by
    rw [List.map_cons, List.map_cons, List.sum_cons, ones_sum l, List.length_cons]
    show 1 + _ = _
    omega
theorem cut_to {xs : List V} {b : Nat} : cutV xs none (some (b : Nat)) = xs.take b := by
  unfold cutV
  rw [HT.sIx_nat]
  show List.take (min b xs.length - 0) (List.drop 0 xs) = _
  rw [Nat.sub_zero, List.drop_zero]
  by_cases h : b ≤ xs.length
  · rw [Nat.min_eq_left h]
  · rw [Nat.min_eq_right (by omega), List.take_length, List.take_of_length_le (by omega)]
theorem cut_from {xs : List V} {b : Nat} : cutV xs (some (b : Nat)) none = xs.drop b := by
  unfold cutV
  rw [HT.sIx_nat]
  show List.take (xs.length - min b xs.length) _ = _
  rw [List.take_of_length_le (by rw [List.length_drop]; exact Nat.le_refl _)]
  by_cases h : b ≤ xs.length
  · rw [Nat.min_eq_left h]
  · rw [Nat.min_eq_right (by omega), List.drop_length, List.drop_eq_nil_of_le (by omega)]
theorem not_in {j a b : Addr} (h1 : a ≠ j) (h2 : b ≠ j) : j ∉ [a, b] := by simp [Ne.symm h1, Ne.symm h2]
theorem not_in1 {j a : Addr} (h1 : a ≠ j) : j ∉ [a] := by simp [Ne.symm h1]
structure Good (j : Addr) (H0 H : Hp) (C : Nat) : Prop where
  jar : Jar j H C
  keep : Keep j H0 H
theorem Good.same {j : Addr} {H0 H H' : Hp} {C : Nat} (g : Good j H0 H C) (s : Same H H') : Good j H0 H' C := ⟨g.jar.keep s, g.keep.trans (Keep.of_same s)⟩
theorem Good.on {j : Addr} {H0 H H' : Hp} {C C' : Nat} (g : Good j H0 H C) (k : Keep j H H') (jr : Jar j H' C') : Good j H0 H' C' := ⟨jr, g.keep.trans k⟩
theorem Good.new {j : Addr} {H0 H : Hp} {C : Nat} (g : Good j H0 H C) {p : Addr} (hp : H p = none) (o : HO) : Good j H0 (upd H p o) C := g.same (same_new hp o)
theorem Good.got {j p : Addr} {H0 H : Hp} {C : Nat} (g : Good j H0 H C) {as : List Addr} (n : ∀ j, H j ≠ none → j ∉ as → p ≠ j) (h : j ∉ as) : p ≠ j := n j g.jar.some h
end Ty
/-! own errors whose __init__ calls the base's own, by the base's name; isinstance of a caught one that bears fields -/
namespace Ka
open PySem PySem.Spec PyProof.Rows L2
section
variable {X : Cx} {x : Str} {e : Expr} {es : List Expr} {ta : TA} {p1 p2 pos : Pos} {CY : Addr} {mc : Value}
theorem pe_oinit {pl : Sem Bool} (hg : Gl X x) (hm : X.mg x = some (.ref CY)) (r : ClX.CRead X.K CY mc) (vV : PySem.W.findCls X.K (.ref CY) mc "__init__" = some (.val (.builtin "ValueError.__init__"))) (ha : PA X (e :: es) ta) (hdb : (x == ("__debug__" : Str)) = false := by decide)
    (hc : eval (.Call (.Attribute (.Name x p1) "__init__" p2) (e :: es) [] pos) X.env = (do
      let ov ← eval (.Name x p1) X.env
      standAt p2.atName
      let (f, first) ← holding [ov] (getMethod ov "__init__" pl)
      callWith pos f first (backTo pos (starEach (e :: es) X.env)) (backToKw pos (keywordEach [] X.env))) := by rfl)
    (he : starEach (e :: es) X.env = (false, eval e X.env) :: starEach es X.env := by rfl) (hpl : (backTo pos (starEach es X.env)).any (·.1) = false := by rfl) :
    PE X (.Call (.Attribute (.Name x p1) "__init__" p2) (e :: es) [] pos) (tVeI X.K ta) := by
  refine ⟨fun pins s σ H Q I h => ?_⟩
  refine PySem.W.methodCall_KW (ld_glob I hg hm ?_ hdb) hc
  refine PySem.W.method_cls I.kIn r.ga (PySem.W.cls_value I.kIn r.rd vV (by decide +kernel) ?_)
  refine PyProof.Rows.callWith_method1 (thn (ha.run pos pins _ σ H _ (I.tok _) h) fun us s1 hv => ?_) he hpl
  obtain ⟨vs, H1, I1, r1, a, C, ws, ev, hl, T, ea, q⟩ := hv
  subst ev
  cases r1 with
  | @cons _ u0 _ ur ra rw' =>
    obtain rfl : u0 = Value.ref a := ra
    have hlen : ur.length ≤ sizeLine := by
      rw [← Paired.length rw', sizeLine_eq]
      omega
    exact oinit_ok T I1 ea hlen fun s' J => ⟨.non, H1, J, rfl, q⟩
end
/-! ### isinstance of a caught error that has its dict -/
section
open PySem.W PySem.Calls
variable {prog : Program} {w : World} {A : Around} {E : Value → Shared → Prop} {s : Shared} {K : Frag} {x D : Addr} {ox : Obj} {od : Option Obj}
theorem data_first {C : Addr} {name : Str} {a g : Value} (hc : (clsIn K C).isSome = true) (ha : findIn K (.ref C) name = some (some a)) (hg : specialIn K a "__get__" = some (some g)) (ht : takesIn K a = some true) : findObj K C od name = some (.bind g a) := by
  obtain ⟨cd, hc⟩ := Option.isSome_iff_exists.mp hc
  unfold findObj
  rw [hc, Option.bind_some, ha, Option.bind_some]
  simp [hg, ht]
/-- its class is asked of the object's own getter, whatever its dict holds -/
theorem its_class {Q : Option Value → Shared → Prop} (T : ExcC K D) (X : K.In s.heap) (I : InstAt s.heap x ox D od) (h : Q (some (.ref D)) { s with toks := s.toks + 1 }) : wpAny (model prog w) A (getAttr? (.ref x) "__class__") Q E s := by
  have known : (clsIn K D).isSome = true := by
    obtain ⟨cd, hc, _⟩ := any_some T.hd
    rw [hc]; rfl
  have found : findObj K D od "__class__" = some (.bind (.builtin "getset_descriptor.__get__") (.builtin "object.__class__")) := data_first known T.ha T.hn T.ht
  obtain ⟨hp, g, d, t, os⟩ := s
  have seen := I.type (M := model prog w)
  have its := looks_findIn (M := model prog w) X T.hg
  have nohook := looks_findIn (M := model prog w) X T.hk
  have look := looks_find (M := model prog w) X I found
  have base : Looks (model prog w) hp (isInstance (.ref x) (.type "BaseException")) true := seen.andThen (looks_subIn X T.hs)
  have differ : (Value.builtin "BaseException.__getattribute__" == Value.builtin "object.__getattribute__") = false := by decide +kernel
  have short : (onTheHeap (Value.ref D) && Value.builtin "BaseException.__getattribute__" == Value.builtin "object.__getattribute__") = false := by rw [differ]; rfl
  have plain : (false && onTheHeap (Value.builtin "BaseException.__getattribute__")) = false := rfl
  unfold getAttr? getAttrBy? getAttrBy
  refine wpAny_bind (wpAny_mkText (wpAny_bind (wpAny_attempt (wpAny_holding (wpAny_bind (seen.at (wpAny_bind (its.at ?_))))))))
  show wpAny _ _ (if (onTheHeap (Value.ref D) && Value.builtin "BaseException.__getattribute__" == Value.builtin "object.__getattribute__") = true then _ else _) _ _ _
  rw [short, if_neg Bool.false_ne_true]
  unfold getAttrByItsOwn hookBefore
  refine wpAny_bind ?_
  rw [if_pos (show onTheHeap (Value.ref D) = true from rfl)]
  refine nohook.at (wpAny_bind (wpAny_attempt (wpAny_holding ?_)))
  unfold callGetattribute
  rw [plain, if_neg Bool.false_ne_true]
  unfold boundAndCalled
  rw [PySem.F.excAttr_ValueError.ga.bind (.ref x)]
  refine wpAny_bind (wpAny_pure ?_)
  show wpAny _ _ (call (.builtin "BaseException.__getattribute__") [.ref x, .str "__class__" t]) _ _ _
  refine wpAny_call (codeAny_call_builtin PySem.F.excAttr_ValueError.ga.plain PySem.F.entry_bexc_ga ?_)
  refine @check_slot (model prog w) _ _ ⟨hp, g, d, t + 1, os⟩ "BaseException.__getattribute__" "BaseException" "__getattribute__" (.ref x) [.str "__class__" t] [] _ (by decide +kernel) (by decide +kernel) base (PySem.F.args_bexc_ga (.ref x) (.str "__class__" t)) ?_
  unfold Builtin.«object.__getattribute__»
  refine wpAny_bind (wpAny_of_eq (a := ((Value.ref x : Value), [Value.str "__class__" t])) (by first | rfl | (simp only [slotArgs]; rfl)) ?_)
  refine wpAny_bind (wpAny_pure (wpAny_bind (seen.at (wpAny_bind (look.at ?_)))))
  show wpAny _ _ (holding [Value.builtin "object.__class__"] (call (.builtin "getset_descriptor.__get__") [.builtin "object.__class__", .ref x, .ref D]) >>= ret) _ _ _
  refine wpAny_bind (wpAny_holding (wpAny_call (class_get (s := ⟨hp, g, d, t + 1, os⟩) X I T.hm ?_)))
  refine wpAny_pure ?_
  show wpAny _ _ (handedOut (.ref D)) _ _ _
  rw [handedOut_of (v := .ref D) rfl]
  first
    | exact wpAny_pure (wpAny_pure h)
    | exact wpAny_pure h
    | exact wpAny_pure (wpAny_bind (wpAny_pure (wpAny_pure h)))
theorem kit_caught (T : ExcC K D) : KitX K (.ref x) (.ref D) (fun h => InstAt h x ox D od) where
  ty := fun _ _ _ I => I.type
  it := fun _ _ X _ => by
    obtain ⟨cd, hc, _⟩ := any_some T.hd
    unfold clsIn at hc
    split at hc
    · rename_i c' d' cd' sl' ho
      intro A' Q' E' s' k q
      unfold isType loadHead
      exact wpAny_bind (wpAny_loadPart (k _ _ (X _ _ ho)) (wpAny_pure q))
    · cases hc
  ne := fun h tp dd its n sl X htp => by
    obtain ⟨cd, hc, _⟩ := any_some T.hd
    refine Bool.eq_false_iff.mpr fun q => ?_
    have e : D = tp := Value.ref.inj (beq_iff_eq.mp q)
    subst e
    unfold clsIn at hc
    split at hc
    · rename_i c' d' cd' sl' ho
      have z := (X _ _ ho).symm.trans htp
      cases z
    · cases hc
  ca := fun X I k => its_class T X I k
end
/-- isinstance(e, c), e the caught error at a; cls its class, d its dict -/
def rIsC (K : PySem.W.Frag) (a : Addr) (cls : Value) (d : Option Addr) : List V → Hp → VK → Prop := fun xs H Q => ∃ (c : V) (cv : Value) (b : Bool) (D dd : Addr) (fs : List (Str × V)), xs = [.ref a, c] ∧ (∀ u, RelV c u → u = cv) ∧ cls = .ref D ∧ d = some dd ∧ H dd = some (.xd fs) ∧ ExcC K D ∧
  PySem.W.kitOne K (.ref D) cv = some b ∧ Q (.bl b) H
theorem call_isC {X : Cx} {a : Addr} {cls : Value} {d : Option Addr} {oe : Obj} {pn : List (Addr × Obj)} (hz : Zc cls d oe) (hf : ∃ vs, oe.data = .fields vs) : CallR (X.suite a ((a, oe) :: pn)) (.builtin "isinstance") (rIsC X.K a cls d) := by
  intro pins s σ H xs us Q I r h
  obtain ⟨c, cv, b, D, dd, fs, rfl, hcv, rfl, rfl, hd, C, e, q⟩ := h
  obtain ⟨u1, u2, rfl, r1, r2⟩ := vals2 r
  cases r1
  have ec := hcv _ r2
  subst ec
  obtain ⟨hget, _⟩ := I.pin (a, oe) (List.mem_append.mpr (.inl List.mem_cons_self))
  obtain ⟨vs, hv⟩ := hf
  have hx : ObjOk X.prog X.w H s.heap dd (.xd fs) := I.hok dd _ hd
  obtain ⟨mA, ⟨od, es, ep, ho, _⟩, _⟩ := hx
  have J : PySem.W.InstAt s.heap a oe D (some od) := ⟨hget, hz.1, by unfold PySem.W.notCls; rw [hv] <;> rfl, by rw [hz.2]; exact ho⟩
  exact PySem.W.kia_one (kit_caught C) I.kIn J e (fun z => nomatch z) fun tk => ⟨.bl b, H, I.kept (t' := tk) fun _ _ z => z, rfl, q⟩
end Ka
namespace Ka
open PySem PySem.Spec PyProof.Rows L2 Ty
abbrev top (i : Nat) : Stmt := PySem.Challenge.pw_tongueyard_k41_tables_as_texts.main.body.getD i (.Pass ⟨0, 0, 0, 0⟩)
def inner (i : Nat) : Stmt → Stmt
  | .ClassDef _ _ _ body _ _ _ _ _ _ _ => body.getD i (.Pass ⟨0, 0, 0, 0⟩)
  | s => s
abbrev sInit : Stmt := inner 0 (top 2)
abbrev sName : Stmt := top 7
abbrev sShown : Stmt := top 11
abbrev sText : Stmt := top 12
abbrev sMark : Stmt := top 13
abbrev sNumber : Stmt := top 14
abbrev sItem : Stmt := top 15
abbrev sDeed : Stmt := top 16
abbrev sRow : Stmt := top 17
abbrev sRead : Stmt := top 18
abbrev lCell : Stmt := top 20
abbrev lWell : Stmt := top 21
abbrev lDip : Stmt := top 22
abbrev lMark : Stmt := top 23
abbrev lNumber : Stmt := top 24
abbrev lDrawn : Stmt := top 25
abbrev lWritten : Stmt := top 26
abbrev lIsMark : Stmt := top 27
abbrev lIsNumber : Stmt := top 28
abbrev lIsDeed : Stmt := top 29
abbrev lWrong : Stmt := top 30
abbrev lSpoilt : Stmt := top 31
abbrev lAlike : Stmt := top 32
abbrev lHeld : Stmt := top 33
abbrev lLaw : Stmt := top 34
theorem scDip : FnScope ["well", "many", "found", "mixed"] ["well", "many"] (defScope lDip) := ⟨rfl, rfl, rfl, by decide +kernel, rfl, by decide +kernel, by decide +kernel⟩
theorem scWell : FnScope ["cell", "place"] ["cell", "place"] (defScope lWell) := ⟨rfl, rfl, rfl, by decide +kernel, rfl, by decide +kernel, by decide +kernel⟩
theorem scCell : FnScope ["script", "k"] ["script", "k"] (defScope lCell) := ⟨rfl, rfl, rfl, by decide +kernel, rfl, by decide +kernel, by decide +kernel⟩
theorem scInit : FnScope ["self", "row"] ["self", "row"] (defScope sInit) := ⟨rfl, rfl, rfl, by decide +kernel, rfl, by decide +kernel, by decide +kernel⟩
def spDip : Sp := fun vs H Q _ => ∃ (j : Addr) (C : Nat) (m : Int), vs = [.ref j, .int m] ∧ Jar j H C ∧ C ≤ 1000000000 ∧ 0 < m ∧ m < 1000000 ∧
  ∀ (r : Int) (H' : Hp), 0 ≤ r → r < m → Jar j H' (C + 1) → Keep j H H' → Q (.int r) H'
def spWell : Sp := fun vs H Q _ => ∃ (z k : Int), vs = [.int z, .int k] ∧ 0 ≤ k ∧ k < 1000 ∧ ∀ (j : Addr) (H' : Hp), H j = none → Same H H' → Jar j H' 20000 → Q (.ref j) H'
def spCell (K : PySem.W.Frag) : Sp := fun vs H Q _ => ∃ (a : Addr) (ns : List Int) (k : Int), vs = [.ref a, .int k] ∧ SqL K H a (ns.map V.int) ∧ ns.length ≤ sizeLine ∧ 0 ≤ k ∧ ∀ z : Int, Q (.int z) H
/-- an error's __init__: it gives the new error its field -/
def spInit (K : PySem.W.Frag) (C : Addr) : Sp := fun vs H Q _ => ∃ (a : Addr) (v : V), vs = [.ref a, v] ∧ OexC K C ∧ PySem.W.findIn K (.ref C) "row" = some none ∧ H a = some (exo a C none) ∧
  ∀ d, H d = none → d ≠ a → Q .non (upd (upd H d (exd d [("row", v)])) a (exo a C (some d)))
section
variable {P : Program} {w : World} {K : PySem.W.Frag} {mg : Str → Option Value} {base : Heap} {f C CY : Addr} {fd : FuncData} {mc : Value}
theorem ok_init (F : Fun K "__init__" "NoTable.__init__" sInit f fd) (mY : mg "YardError" = some (.ref CY)) (r : ClX.CRead K CY mc) (vV : PySem.W.findCls K (.ref CY) mc "__init__" = some (.val (.builtin "ValueError.__init__"))) :
    FnOk P w K mg base CX0 1 f fd ["self", "row"] (spInit K C) := by
  refine F.ok scInit (fun vs H Q E h => ?_) (fun cdv A outer s H vs Q E hr h => ?_)
  · obtain ⟨a, v, rfl, _⟩ := h
    rfl
  obtain ⟨a, v, rfl, T, no, ha, q⟩ := h
  refine ⟨_, pss_cons (ps_expr (pe_oinit rfl mY r vV (pa_cons (pv 0) (pa_cons pe_str pa_nil)))) (pss_one (ps_ost (f := "row") (pv 0) (pv 1))), ?_⟩
  refine ⟨_, rfl, a, C, _, rfl, by decide, T, ha, _, rfl, _, rfl, a, C, rfl, T, no, .inl ⟨ha, fun d hd hn => q d hd hn⟩⟩
theorem ok_cell (F : Fun K "_law_cell" "_law_cell" lCell f fd) (ml : mg "len" = none) : FnOk P w K mg base CX0 1 f fd ["script", "k"] (spCell K) := by
  refine F.ok scCell (fun vs H Q E h => ?_) (fun cdv A outer s H vs Q E hr h => ?_)
  · obtain ⟨a, ns, k, rfl, _⟩ := h
    rfl
  obtain ⟨a, ns, k, rfl, hS, hl, k0, q⟩ := h
  refine ⟨_, pss_cons (ps_if (pt_cmpR op_lt (pv 1) (pe_callB call_len_seq rfl ml PySem.boot_len (pa_cons (pv 0) pa_nil)) (nomark _)) (pss_one (ps_ret (pe_ix ix_list (pv 0) (pv 1) (fun _ _ => rfl)))) pss_nil) (pss_one (ps_ret pe_int)), ?_⟩
  refine ⟨_, rfl, _, rfl, a, _, rfl, .inl hS, _, _, rfl, rfl, _, rfl, ?_⟩
  refine ite2 (fun c => ?_) (fun c => q 0)
  have c' : k < (((ns.map V.int).length : Nat) : Int) := of_decide_eq_true c
  obtain ⟨x, hx1, hx2⟩ := at_in (l := ns.map V.int) k0 c'
  obtain ⟨z, _, rfl⟩ := List.mem_map.mp (List.mem_of_getElem? hx2)
  exact ⟨_, rfl, _, rfl, a, _, _, _, rfl, rfl, hS, hx1, q z⟩
theorem ok_well (F : Fun K "_law_well" "_law_well" lWell f fd) (mm : mg "max" = none) : FnOk P w K mg base CX0 1 f fd ["cell", "place"] spWell := by
  refine F.ok scWell (fun vs H Q E h => ?_) (fun cdv A outer s H vs Q E hr h => ?_)
  · obtain ⟨z, k, rfl, _⟩ := h
    rfl
  obtain ⟨z, k, rfl, k0, k1, q⟩ := h
  refine ⟨_, pss_one (ps_ret (pe_lst (pa_cons (pe_callB (call_max2 rfl) rfl mm (by decide +kernel) (pa_cons pe_int (pa_cons (pe_op op_sub (pv 0) (pe_op op_pow pe_int pe_int)) pa_nil)))
      (pa_cons (pe_op op_mod (pv 0) (pe_op op_add (pe_op op_powW pe_int pe_int) pe_int)) (pa_cons (pe_op op_add (pe_op op_mul pe_int (pv 1)) pe_int) pa_nil))))), ?_⟩
  refine ⟨_, rfl, _, _, rfl, rfl, ⟨by decide, by decide, by decide⟩, _, _, rfl, rfl, _, _, rfl, _, rfl, _, _, rfl, rfl, powW_of (n := 4) (by decide) (by decide) (k := 41) (by decide), _, _, rfl, rfl, _, _, rfl, rfl, (show (0 : Int) < (10 : Int) ^ (41 : Int).toNat + 13 by decide), _, rfl, _, _, rfl, rfl, .inl ⟨by decide, by decide⟩, _, _, rfl, rfl, (by show 3 ≤ sizeLine; decide), fun p hp => ?_⟩
  refine q p _ hp (same_new hp _) ⟨_, _, _, upd_same, ?_, by omega, by omega⟩
  have e : ((10 : Int) ^ (41 : Int).toNat + 13) = 100000000000000000000000000000000000000013 := by decide
  rw [e]
  have h1 := Int.emod_nonneg z (b := 100000000000000000000000000000000000000013) (by decide)
  have h2 := Int.emod_lt_of_pos z (b := 100000000000000000000000000000000000000013) (by decide)
  have h3 : (2 : Nat) ^ 140 = 1393796574908163946345982392040522594123776 := by decide
  omega
theorem ok_dip (F : Fun K "_law_dip" "_law_dip" lDip f fd) : FnOk P w K mg base CX0 1 f fd ["well", "many"] spDip := by
  refine F.ok scDip (fun vs H Q E h => ?_) (fun cdv A outer s H vs Q E hr h => ?_)
  · obtain ⟨j, C, m, rfl, _⟩ := h
    rfl
  obtain ⟨j, C, m, rfl, ⟨a, b, c, hj, hb, hc0, hc⟩, hC, m0, m1, q⟩ := h
  refine ⟨_, pss_cons (ps_if (pt_cmpR op_gt (pe_ix ix_list (pv 0) pe_int (fun _ _ => rfl)) pe_int (nomark _))
      (pss_cons (ps_set (i := 2) scDip.nd rfl (.inl rfl) (pe_op op_mod (pe_ix ix_list (pv 0) pe_int (fun _ _ => rfl)) (pv 1)))
        (pss_cons (ps_asg (pe_op op_fdivN (pe_ix ix_list (pv 0) pe_int (fun _ _ => rfl)) (pv 1)) (pg_sub (pv 0) pe_int set_list))
          (pss_one (ps_ret (pv 2))))) pss_nil)
    (pss_cons (ps_asg (pe_op op_add (pe_ix ix_list (pv 0) pe_int (fun _ _ => rfl)) pe_int) (pg_sub (pv 0) pe_int set_list))
    (pss_cons (ps_set (i := 3) scDip.nd rfl (.inl rfl) (pe_op op_mod (pe_op op_powW (pe_op op_add (pe_op op_add (pe_ix ix_list (pv 0) pe_int (fun _ _ => rfl)) pe_int) (pe_op op_mul (pe_op op_mul pe_int (pe_ix ix_list (pv 0) pe_int (fun _ _ => rfl))) (pe_ix ix_list (pv 0) pe_int (fun _ _ => rfl)))) pe_int) (pe_op op_add (pe_op op_powW pe_int pe_int) pe_int)))
    (pss_cons (ps_set (i := 3) scDip.nd rfl (.inl rfl) (pe_op op_mod (pe_op op_powW (pe_op op_add (pv 3) (pe_op op_mul pe_int (pe_ix ix_list (pv 0) pe_int (fun _ _ => rfl)))) pe_int) (pe_op op_add (pe_op op_powW pe_int pe_int) pe_int)))
    (pss_one (ps_ret (pe_op op_mod (pe_op op_fdivN (pv 3) pe_int) (pv 1))))))), ?_⟩
  have e0 : ∀ (x y z : V), atI [x, y, z] 0 = some x := fun _ _ _ => rfl
  have e1 : ∀ (x y z : V), atI [x, y, z] 1 = some y := fun _ _ _ => rfl
  have e2 : ∀ (x y z : V), atI [x, y, z] 2 = some z := fun _ _ _ => rfl
  refine ⟨_, rfl, j, _, _, _, rfl, rfl, SqL.of hj, e0 _ _ _, _, _, rfl, rfl, _, rfl, ?_⟩
  refine ite2 (fun g => ?_) (fun g => ?_)
  · refine ⟨_, rfl, j, _, _, _, rfl, rfl, SqL.of hj, e0 _ _ _, _, rfl, _, _, rfl, rfl, m0, ?_⟩
    refine ⟨_, rfl, j, _, _, _, rfl, rfl, SqL.of hj, e0 _ _ _, _, rfl, _, _, rfl, rfl, ⟨by omega, by omega⟩, ?_⟩
    refine ⟨_, rfl, j, _, _, 0, rfl, rfl, hj, rfl, ?_⟩
    refine ⟨_, rfl, q _ _ (Int.emod_nonneg _ (by omega)) (Int.emod_lt_of_pos _ m0) ?_ (keep_jar _)⟩
    exact ⟨_, b, c, upd_same, hb, hc0, by omega⟩
  · refine ⟨_, rfl, j, _, _, _, rfl, rfl, SqL.of hj, e2 _ _ _, _, _, rfl, rfl, ?_⟩
    refine ⟨_, rfl, j, _, _, 2, rfl, rfl, hj, rfl, ?_⟩
    have hj2 : (upd H j (.lst [.int a, .int b, .int (c + 1)])) j = some (.lst [.int a, .int b, .int (c + 1)]) := upd_same
    have hq0 : (0 : Int) ≤ 50331653 * (c + 1) := by omega
    have hq1 : 50331653 * (c + 1) ≤ 50331653 * 1000000001 := by omega
    refine ⟨_, rfl, j, _, _, _, rfl, rfl, SqL.of hj2, e1 _ _ _, _, _, rfl, rfl, _, rfl, j, _, _, _, rfl, rfl, SqL.of hj2, e2 _ _ _, _, _, rfl, rfl, .inl ⟨by decide, by decide⟩, _, rfl, j, _, _, _, rfl, rfl, SqL.of hj2, e2 _ _ _, _, _, rfl, rfl, .inl ⟨by omega, by omega⟩, _, _, rfl, rfl, ?_⟩
    have hp1 : (b + 8191 + 50331653 * (c + 1) * (c + 1)).natAbs < 2 ^ 200 := by
      have h4 : 50331653 * (c + 1) * (c + 1) ≤ 50331653 * 1000000001 * 1000000001 := Int.mul_le_mul hq1 (by omega) (by omega) (by decide)
      have h5 : 0 ≤ 50331653 * (c + 1) * (c + 1) := Int.mul_nonneg hq0 (by omega)
      have : (2 : Nat) ^ 140 + 8191 + 50331653 * 1000000001 * 1000000001 < 2 ^ 200 := by decide
      omega
    have em1 : ((10 : Int) ^ (44 : Int).toNat + 31) = 100000000000000000000000000000000000000000031 := by decide
    have em2 : ((10 : Int) ^ (46 : Int).toNat + 69) = 10000000000000000000000000000000000000000000069 := by decide
    refine ⟨_, _, rfl, rfl, powW_of hp1 (by decide) (k := 3) (by decide), _, _, rfl, rfl, powW_of (n := 4) (by decide) (by decide) (k := 44) (by decide), _, _, rfl, rfl, _, _, rfl, rfl, (show (0 : Int) < (10 : Int) ^ (44 : Int).toNat + 31 by decide), ?_⟩
    have hm1 : ∀ x : Int, (x % ((10 : Int) ^ (44 : Int).toNat + 31)).natAbs < 2 ^ 150 := fun x => by
      rw [em1]
      have h1 := Int.emod_nonneg x (b := 100000000000000000000000000000000000000000031) (by decide)
      have h2 := Int.emod_lt_of_pos x (b := 100000000000000000000000000000000000000000031) (by decide)
      have : (2 : Nat) ^ 150 = 1427247692705959881058285969449495136382746624 := by decide
      omega
    refine ⟨_, rfl, _, rfl, j, _, _, _, rfl, rfl, SqL.of hj2, e2 _ _ _, _, _, rfl, rfl, .inl ⟨by decide, by decide⟩, _, _, rfl, rfl, ?_⟩
    refine ⟨_, _, rfl, rfl, powW_of (n := 200) ?_ (by decide) (k := 3) (by decide), _, _, rfl, rfl, powW_of (n := 4) (by decide) (by decide) (k := 46) (by decide), _, _, rfl, rfl, _, _, rfl, rfl, (show (0 : Int) < (10 : Int) ^ (46 : Int).toNat + 69 by decide), ?_⟩
    · have := hm1 ((b + 8191 + 50331653 * (c + 1) * (c + 1)) ^ (3 : Int).toNat)
      have : (2 : Nat) ^ 150 + 12582917 * 1000000001 < 2 ^ 200 := by decide
      omega
    refine ⟨_, rfl, _, _, rfl, rfl, ⟨by decide, by decide⟩, _, rfl, _, _, rfl, rfl, m0, ?_⟩
    exact q _ _ (Int.emod_nonneg _ (by omega)) (Int.emod_lt_of_pos _ m0) ⟨a, b, c + 1, upd_same, hb, by omega, by omega⟩ (keep_jar _)
end
end Ka
set_option maxHeartbeats 4000000
/-! sorted of texts, any number of them: of a list, of a dict's keys -/
namespace Ka
open PySem PySem.Spec PyProof.Rows L2 Ty Srt
def ltS (x y : Str) : Bool := decide (x.cps.toList < y.cps.toList)
def leS (x y : Str) : Prop := ltS y x = false
def sv : Value → Str
  | .str x _ => x
  | _ => Str.empty
def ltSv (v u : Value) : Bool := ltS (sv v) (sv u)
theorem ltS_asym {x y : Str} (h : ltS x y = true) : ltS y x = false := by
  have a : x.cps.toList < y.cps.toList := of_decide_eq_true h
  exact decide_eq_false fun b => List.lt_irrefl _ (List.lt_trans a b)
theorem leS_trans {x y z : Str} (h1 : leS x y) (h2 : leS y z) : leS x z := by
  have a : ¬ y.cps.toList < x.cps.toList := of_decide_eq_false h1
  have b : ¬ z.cps.toList < y.cps.toList := of_decide_eq_false h2
  exact decide_eq_false (List.not_lt.mpr (List.le_trans (List.not_lt.mp a) (List.not_lt.mp b)))
theorem leS_anti {x y : Str} (h1 : leS x y) (h2 : leS y x) : x = y := by
  have a : ¬ y.cps.toList < x.cps.toList := of_decide_eq_false h1
  have b : ¬ x.cps.toList < y.cps.toList := of_decide_eq_false h2
  have e := List.le_antisymm (List.not_lt.mp a) (List.not_lt.mp b)
  exact str_of_list e
theorem swo_str : SrtO.Swo ltSv := ⟨fun x y h => ltS_asym h, fun x y z h1 h2 => leS_trans (x := sv x) (y := sv y) (z := sv z) h1 h2⟩
section
variable {prog : Program} {w : World} {A : Around} {E : Value → Shared → Prop} {s : Shared}
theorem strs_mem : ∀ {vs : List Value} {ns : List Str}, StrsAre vs ns → ∀ v ∈ vs, ∃ i t, v = Value.str i t
  | _, _, .nil, v, h => absurd h (by simp)
  | _, _, .cons n t r, v, h => by
    rcases List.mem_cons.mp h with e | h
    · exact ⟨n, t, e⟩
    · exact strs_mem r v h
theorem strs_sv : ∀ {vs : List Value}, (∀ v ∈ vs, ∃ i t, v = Value.str i t) → StrsAre vs (vs.map sv)
  | [], _ => .nil
  | v :: vs, h => by
    obtain ⟨i, t, e⟩ := h v List.mem_cons_self
    subst e
    exact .cons i t (strs_sv fun u hu => h u (List.mem_cons_of_mem _ hu))
theorem sv_strs : ∀ {vs : List Value} {ns : List Str}, StrsAre vs ns → vs.map sv = ns
  | _, _, .nil => rfl
  | _, _, .cons n t r => congrArg (n :: ·) (sv_strs r)
theorem str_cmp {vs : List Value} {ns : List Str} (hI : StrsAre vs ns) : SrtO.Cmp prog w A s oneType' (fun p => p.1 ∈ vs) (SrtO.lt2 ltSv) := by
  intro p q hm hm'
  obtain ⟨a, t, e⟩ := strs_mem hI _ hm
  obtain ⟨b, u, e'⟩ := strs_mem hI _ hm'
  show wpAny (model prog w) A (keyLt' oneType' p.1 q.1) (fun r s' => s' = s ∧ r = ltSv p.1 q.1) (fun _ _ => False) s
  rw [e, e', keyLt'_oneType]
  exact oneLt_str ⟨rfl, rfl⟩
theorem strs_sortable {a : Addr} {vs : List Value} {ns : List Str} (hI : StrsAre vs ns) (h2 : 2 ≤ vs.length) : SrtO.SortableO prog w A s a vs ltSv := by
  intro h' _
  refine ⟨oneType', fun Q E hq => ?_, str_cmp hI⟩
  match vs, hI, h2 with
  | v1 :: v2 :: rest, hI, _ =>
    rw [keyKind_strs hI]
    exact wpAny_pure hq
  | [], _, h => exact absurd h (by decide)
  | [v], _, h => exact absurd h (by simp)
theorem strs_out {vs out : List Value} {ns : List Str} (hI : StrsAre vs ns) (hs : SrtO.Srtd ltSv out) (hb : SrtO.Stb ltSv out vs) : StrsAre out (out.map sv) ∧ (out.map sv).Perm ns ∧ (out.map sv).Pairwise leS := by
  refine ⟨strs_sv fun v hv => strs_mem hI v (hb.perm.mem_iff.mp hv), ?_, ?_⟩
  · have q := hb.perm.map sv
    rw [sv_strs hI] at q
    exact q
  · exact List.pairwise_map.mpr (hs.imp fun {x y} h => h)
end
/-- sorted(xs), texts, any number of them -/
def rSortedS (K : PySem.W.Frag) : List V → Hp → VK → Prop := fun vs H Q => ∃ (a : Addr) (ns : List Str), vs = [V.ref a] ∧ SqL K H a (ns.map V.str) ∧
  ∀ (ns' : List Str) (p : Addr), ns'.Perm ns → ns'.Pairwise leS → H p = none → Q (.ref p) (upd H p (.lst (ns'.map V.str)))
/-- sorted(d), texts, any number of them -/
def rSortedDS : List V → Hp → VK → Prop := fun xs H Q => ∃ (a : Addr) (kvs : List (Key × V)) (ks : List Str), xs = [.ref a] ∧ Rd H a (.dK kvs) ∧ kvs.map (·.1) = ks.map Sum.inr ∧
    ∀ (ys : List Str) (p : Addr), ys.Perm ks → ys.Pairwise leS → H p = none → Q (.ref p) (upd H p (.lst (ys.map V.str)))
section
variable {X : Cx}
theorem cr_sortedS : CallR X (.builtin "sorted") (rSortedS X.K) := by
  intro pins s σ H vs us Q I r h
  obtain ⟨a, ns, rfl, hs, q⟩ := h
  obtain ⟨its, rv, hl, hz⟩ := I.list hs
  rw [Vals.ref1 r]
  have hi := rv.strs
  refine SrtO.sorted_ord swo_str hl.isList (by rw [← rv.length]; exact hz) (fun h2 h₁ a' _ _ => strs_sortable hi h2) fun out h1 h2 => ?_
  obtain ⟨k1, k2, k3⟩ := strs_out hi h1 h2
  obtain ⟨ep, he'⟩ := PyProof.Rows.sortedAll_at s.heap its out.toArray
  have hlen : ((out.map sv).map V.str).length ≤ sizeLine := by
    rw [List.length_map, k2.length_eq]
    rw [List.length_map] at hz
    exact hz
  exact ⟨.ref _, upd H (s.heap.objs.size + 1) (.lst ((out.map sv).map V.str)), I.laid (t' := s.toks) (fun _ _ => PyProof.Rows.sortedAll_old) (Nat.le_succ _) ⟨hlen, out, ep, vals_of_strs k1, he'⟩, rfl, q _ _ k2 k3 (I.hok.fresh (Nat.le_succ _))⟩
theorem call_sortedDS (hcalm : X.calm = true) : CallR X (.builtin "sorted") rSortedDS := by
  intro pins s σ H xs us Q I r q
  obtain ⟨a, kvs, ks, ex, hd, hks, q⟩ := q
  subst ex
  obtain ⟨u, eu, rx⟩ := vals1 r
  subst eu
  cases rx
  obtain ⟨z, lo, vs, rel, dd⟩ := dk_rd I.hok hd
  obtain ⟨ep, hat⟩ := dd.dictAt
  have hkeys : vs.map (·.1) = ks.map Sum.inr := rel.keys.symm.trans hks
  have hl : vs.length = ks.length := by
    have e := congrArg List.length hkeys
    rw [List.length_map, List.length_map] at e
    exact e
  have h16 : vs.length ≤ sizeLine := by rw [← rel.length]; exact z
  refine Calls.call_function_entry PyProof.Rows.kind_sorted PyProof.Rows.plain_sorted PyProof.Rows.entry_sorted (PyProof.Rows.args_sorted1 _) ?_
  unfold Builtin.«sorted»
  refine wpAny_bind (m := checkCount "sorted" 1 1 _) (wpAny_pure ?_)
  refine wpAny_bind (PySem.W.kdu_collect (A := X.A.in1) (PySem.W.kdl_dict (knd := mixKind X.prog X.w) (kvs := vs) (ep := ep) lo) (I.ok.hd hcalm) hat h16 fun h' tk acc hk hacc => ?_)
  have hal : acc.toList.length = ks.length := by rw [Array.length_toList, hacc.1, hl]
  have hS : StrsAre acc.toList ks := L2.strs_at hal fun j v e => by
    obtain ⟨k, x, e1, e2⟩ := hacc.2 j v (by rw [← Array.getElem?_toList]; exact e)
    have e3 : (vs.map (·.1))[j]? = some k := by rw [List.getElem?_map, e1]; all_goals rfl
    rw [hkeys, List.getElem?_map] at e3
    cases e4 : ks[j]? with
    | none => rw [e4] at e3; cases e3
    | some y =>
      rw [e4] at e3
      have e5 : Sum.inr y = k := Option.some.inj e3
      subst e5
      obtain ⟨t, ev⟩ := Value.isStrOf_shape (x := y) (v := v) e2
      exact ⟨y, t, rfl, ev⟩
  have I1 : Inv X pins σ H { s with heap := h', toks := tk } := I.kept hk
  refine wpAny_bind (wpAny_newList ?_ (by rw [hal, ← hl]; exact h16))
  have hoL : (h'.push (seqObj "list" acc.toList.toArray 0)).get? h'.objs.size = some (seqObj "list" acc.toList.toArray 0) := Heap.get?_push_size _ rfl
  show wpAny _ _ _ _ _ { s with heap := h'.push (seqObj "list" acc.toList.toArray 0), toks := tk }
  refine wpAny_bind (wpAny_holding (wpAny_call_entry PyProof.Rows.slot_list_sort ⟨_, hoL, rfl⟩ PyProof.Rows.entry_list_sort
    (SrtO.list_sort_ord (s := { s with heap := h'.push (seqObj "list" acc.toList.toArray 0), toks := tk }) swo_str hoL (by rw [hal, ← hl]; exact h16) (fun h2 => strs_sortable hS h2) fun out h1 h2 => ⟨_, rfl, ?_⟩)
    (PyProof.Rows.args_list_sort _)))
  obtain ⟨g1, g2, g3⟩ := strs_out hS h1 h2
  obtain ⟨e', he'⟩ := PyProof.Rows.sortedHeap_at (vs := acc.toList) (out := out.toArray) hoL
  have hlen : ((out.map sv).map V.str).length ≤ sizeLine := by
    rw [List.length_map, g2.length_eq, ← hl]
    exact h16
  refine wpAny_pure ⟨_, rfl, .ref h'.objs.size, upd H h'.objs.size (.lst ((out.map sv).map V.str)), I1.laid (t' := tk) (fun b u e => ?_) (Nat.le_refl _)
    (show ObjOk X.prog X.w _ _ _ (.lst ((out.map sv).map V.str)) from ⟨hlen, out, e', vals_of_strs g1, he'⟩), rfl, q _ _ g2 g3 (I1.hok.fresh (Nat.le_refl _))⟩
  have hb : b < h'.objs.size := Heap.lt_size e
  rw [PyProof.Rows.sortedHeap_old (Nat.ne_of_lt hb) (by rw [size_push']; exact Nat.lt_succ_of_lt hb)]
  exact Heap.get?_push_of_some _ e
end
end Ka
set_option maxHeartbeats 2000000
/-! enumerate(zip(a, b)) of two tuples, gone through by number, (x, y): the zip's own pairs are not let go -/
namespace Ka
open PySem RZ
section
variable {prog : Program} {w : World} {A : Around} {E : Value → Shared → Prop} {s : Shared}
/-- a zip, its first two fields told -/
abbrev IsZipA (h : Heap) (z TI TO : Addr) (f0 : Value) (f : Bool) : Prop :=
  h.get? z = some { cls := .type "zip", dict := none, data := .fields #[f0, .bool f, .bool false, .ref TI, .ref TO], slots := #[] }
/-- the kept pair is none, or one that was handed out -/
def Kept (f0 : Value) : Prop := f0 = .none ∨ ∃ T : Addr, f0 = rawInt T
theorem loadIf {a : Addr} {Q : Option Obj → Shared → Prop} (h : Q (s.heap.get? a) s) : wpAny (model prog w) A (loadIfAlive a) Q E s := fun _ _ _ => h
theorem free_zip {z TI TO : Addr} {f0 : Value} {f : Bool} {Q : Bool → Shared → Prop} (hz : IsZipA s.heap z TI TO f0 f) (k : Kept f0)
    (h1 : Q true s) (h2 : ∀ h' (T : Addr), f0 = rawInt T → IsZipA h' z TI TO (rawInt T) true → Heap.SameBut z s.heap h' → Q false { s with heap := h' }) : wpAny (model prog w) A (Builtin.SmallTypes.ownedTupleIsFree (.ref z)) Q E s := by
  unfold Builtin.SmallTypes.ownedTupleIsFree
  rcases k with rfl | ⟨T, rfl⟩
  · exact wpAny_bind (wpAny_field hz rfl (x := .none) rfl (wpAny_pure h1))
  · refine wpAny_bind (wpAny_field hz rfl (x := rawInt T) rfl ?_)
    show wpAny _ _ (loadIfAlive ((T : Int).toNat) >>= _) _ _ _
    rw [Int.toNat_natCast]
    refine wpAny_bind (loadIf ?_)
    cases hT : s.heap.get? T with
    | none =>
      simp only [Option.isNone_none, if_true]
      exact wpAny_pure h1
    | some oT =>
      simp only [Option.isNone_some, Bool.false_eq_true, if_false]
      refine wpAny_bind (wpAny_field hz rfl (x := .bool f) rfl ?_)
      cases f with
      | true =>
        rw [if_neg (show ¬ ((Value.bool true != Value.bool true) = true) from Bool.false_ne_true)]
        exact wpAny_pure (h2 s.heap T rfl hz (Heap.SameBut.refl _ _))
      | false =>
        rw [if_pos (show (Value.bool false != Value.bool true) = true from rfl)]
        exact wpAny_bind (wpAny_setField_rec hz (by simp) fun h₁ hz₁ hs₁ => wpAny_pure (h2 h₁ T rfl hz₁ hs₁))
/-- the zip's cells at a turn -/
structure ZAt (h : Heap) (z TI TO i1 i2 l1 l2 : Addr) (i : Nat) : Prop where
  z : ∃ f0 f, IsZipA h z TI TO f0 f ∧ Kept f0
  ti : IsPair h TI (.ref i1) (.ref i2)
  to : ∃ a b, IsPair h TO a b
  i1 : h.IsTupleIter i1 l1 i
  i2 : h.IsTupleIter i2 l2 i
theorem zipA_item {z TI TO i1 i2 l1 l2 : Addr} {i : Nat} {xs ys : Array Value} {x y : Value} {Q : Value → Shared → Prop} (D : ZipApart z TI TO i1 i2 l1 l2)
    (Z : ZAt s.heap z TI TO i1 i2 l1 l2 i) (hl1 : s.heap.IsTuple l1 xs) (hl2 : s.heap.IsTuple l2 ys) (hx : xs[i]? = some x) (hy : ys[i]? = some y)
    (hQ : ∀ h', ZAt h' z TI TO i1 i2 l1 l2 (i + 1) → IsPair h' s.heap.objs.size x y → h'.objs.size = s.heap.objs.size + 1 →
      (∀ c o, c ≠ z → c ≠ TO → c ≠ i1 → c ≠ i2 → s.heap.get? c = some o → h'.get? c = some o) → Q (.ref s.heap.objs.size) { s with heap := h' }) :
    wpAny (model prog w) A (Builtin.«zip.__next__» ⟨[.ref z], []⟩) (fun fin s' => ∃ v, fin = .done (.ret v) ∧ Q v s') E s := by
  obtain ⟨⟨f0, f, hz, k⟩, hTI, ⟨a, b, hTO⟩, h1, h2⟩ := Z
  show wpAny _ _ (field (.ref z) 2 >>= _) _ _ _
  refine wpAny_bind (wpAny_field hz rfl (x := .bool false) rfl ?_)
  show wpAny _ _ (field (.ref z) 3 >>= _) _ _ _
  refine wpAny_bind (wpAny_field hz rfl (x := .ref TI) rfl ?_)
  refine wpAny_bind (wpAny_seqItems hTI rfl ?_)
  show wpAny _ _ (Builtin.SmallTypes.ownedTupleIsFree (.ref z) >>= _) _ _ _
  refine wpAny_bind (free_zip hz k ?_ fun h₁ T eT hz₁ hs₁ => ?_)
  · simp only [if_true]
    refine wpAny_bind (wpAny_rule ?_)
    refine wpAny_bind (wpAny_field hz rfl (x := .ref TO) rfl ?_)
    refine wpAny_bind (wpAny_setField_rec hz (by simp) fun h₁ hz₁ hs₁ => ?_)
    replace hz₁ : IsZipA h₁ z TI TO .ellipsis f := hz₁
    refine wpAny_bind ?_
    simp only [List.zipIdx_cons, List.zipIdx_nil, List.forIn_cons, List.forIn_nil]
    refine wpAny_bind (wpAny_bind (wpAny_onRaise ?_))
    show wpAny _ _ (Builtin.SmallTypes.nextOf (.ref i1) >>= _) _ _ _
    refine wpAny_bind (nextOf_tuple_item (h1.extBut hs₁.extBut D.i1z) (hl1.extBut hs₁.extBut D.l1z) hx fun h₂ h1₂ hs₂ => wpAny_pure ?_)
    have hTO₂ : IsPair h₂ TO a b := hs₂.extBut _ _ D.TOi1 (hs₁.extBut _ _ D.TOz hTO)
    refine wpAny_bind (wpAny_seqItems hTO₂ rfl ?_)
    refine wpAny_bind (wpAny_updateSeq_pair hTO₂ fun h₃ hTO₃ hs₃ => ?_)
    replace hTO₃ : IsPair h₃ TO x b := hTO₃
    refine wpAny_bind (wpAny_letGo (wpAny_pure ?_))
    refine wpAny_bind (wpAny_bind (wpAny_onRaise ?_))
    show wpAny _ _ (Builtin.SmallTypes.nextOf (.ref i2) >>= _) _ _ _
    refine wpAny_bind (nextOf_tuple_item (((h2.extBut hs₁.extBut D.i2z).extBut hs₂.extBut D.i12.symm).extBut hs₃.extBut D.TOi2.symm)
      (((hl2.extBut hs₁.extBut D.l2z).extBut hs₂.extBut D.l2i1).extBut hs₃.extBut D.l2TO) hy fun h₄ h2₄ hs₄ => wpAny_pure ?_)
    have hTO₄ : IsPair h₄ TO x b := hs₄.extBut _ _ D.TOi2 hTO₃
    refine wpAny_bind (wpAny_seqItems hTO₄ rfl ?_)
    refine wpAny_bind (wpAny_updateSeq_pair hTO₄ fun h₅ hTO₅ hs₅ => ?_)
    replace hTO₅ : IsPair h₅ TO x y := hTO₅
    refine wpAny_bind (wpAny_letGo (wpAny_pure (wpAny_pure ?_)))
    refine wpAny_bind (wpAny_seqItems hTO₅ rfl ?_)
    refine wpAny_bind (wpAny_newTuple ?_)
    have hsz : h₅.objs.size = s.heap.objs.size := by rw [hs₅.1, hs₄.1, hs₃.1, hs₂.1, hs₁.1]
    have hz₅ : IsZipA h₅ z TI TO .ellipsis f := hs₅.extBut _ _ D.TOz.symm (hs₄.extBut _ _ D.i2z.symm (hs₃.extBut _ _ D.TOz.symm (hs₂.extBut _ _ D.i1z.symm hz₁)))
    have hk₅ : ∀ c o, c ≠ z → c ≠ TO → c ≠ i1 → c ≠ i2 → s.heap.get? c = some o → h₅.get? c = some o := fun c o c1 c2 c3 c4 e =>
      hs₅.extBut _ _ c2 (hs₄.extBut _ _ c4 (hs₃.extBut _ _ c2 (hs₂.extBut _ _ c3 (hs₁.extBut _ _ c1 e))))
    have h1₅ : h₅.IsTupleIter i1 l1 (i + 1) := ((h1₂.extBut hs₃.extBut D.TOi1.symm).extBut hs₄.extBut D.i12).extBut hs₅.extBut D.TOi1.symm
    have h2₅ : h₅.IsTupleIter i2 l2 (i + 1) := h2₄.extBut hs₅.extBut D.TOi2.symm
    have hTI₅ : IsPair h₅ TI (.ref i1) (.ref i2) := hk₅ _ _ D.TIz D.TITO D.TIi1 D.TIi2 hTI
    have hzlt : z < h₅.objs.size := Heap.lt_size hz₅
    show wpAny _ _ (Builtin.SmallTypes.ownedTupleHandOut (.ref z) (.ref h₅.objs.size) >>= _) _ _ _
    refine wpAny_bind ?_
    unfold Builtin.SmallTypes.ownedTupleHandOut
    have hz₆ : IsZipA (h₅.push { cls := .type "tuple", data := .seq #[x, y] }) z TI TO .ellipsis f := Heap.get?_push_of_some _ hz₅
    refine wpAny_bind (wpAny_setField_rec hz₆ (by simp) fun h₇ hz₇ hs₇ => ?_)
    replace hz₇ : IsZipA h₇ z TI TO (rawInt h₅.objs.size) f := hz₇
    refine wpAny_setField_rec hz₇ (by simp) fun h₈ hz₈ hs₈ => ?_
    replace hz₈ : IsZipA h₈ z TI TO (rawInt h₅.objs.size) false := hz₈
    have up : ∀ c o, c ≠ z → h₅.get? c = some o → h₈.get? c = some o := fun c o c1 e => hs₈.extBut _ _ c1 (hs₇.extBut _ _ c1 (Heap.get?_push_of_some _ e))
    have hT₈ : IsPair h₈ h₅.objs.size x y := hs₈.extBut _ _ (Nat.ne_of_gt hzlt) (hs₇.extBut _ _ (Nat.ne_of_gt hzlt) (Heap.get?_push_size _ rfl))
    have hz8 : h₈.objs.size = h₅.objs.size + 1 := by rw [hs₈.1, hs₇.1, Heap.size_push]
    have Z8 : ZAt h₈ z TI TO i1 i2 l1 l2 (i + 1) := ⟨⟨_, _, hz₈, .inr ⟨_, rfl⟩⟩, up _ _ D.TIz hTI₅, ⟨_, _, up _ _ D.TOz hTO₅⟩, h1₅.at fun o e => up _ o D.i1z e, h2₅.at fun o e => up _ o D.i2z e⟩
    rw [hsz] at hT₈ hz8
    refine wpAny_pure ⟨_, rfl, ?_⟩
    show Q (.ref h₅.objs.size) _
    rw [hsz]
    exact hQ h₈ Z8 hT₈ hz8 fun c o c1 c2 c3 c4 e => up c o c1 (hk₅ c o c1 c2 c3 c4 e)
  · simp only [Bool.false_eq_true, if_false]
    refine wpAny_bind ?_
    rw [← Array.forIn_toList]
    simp only [List.forIn_cons, List.forIn_nil]
    refine wpAny_bind (wpAny_bind (wpAny_holding ?_))
    show wpAny _ _ (Builtin.SmallTypes.nextOf (.ref i1) >>= _) _ _ _
    refine wpAny_bind (nextOf_tuple_item (s := { s with heap := h₁ }) (h1.extBut hs₁.extBut D.i1z) (hl1.extBut hs₁.extBut D.l1z) hx fun h₂ h1₂ hs₂ => wpAny_pure ?_)
    refine wpAny_pure ?_
    refine wpAny_bind (wpAny_bind (wpAny_holding ?_))
    show wpAny _ _ (Builtin.SmallTypes.nextOf (.ref i2) >>= _) _ _ _
    refine wpAny_bind (nextOf_tuple_item (s := { s with heap := h₂ }) ((h2.extBut hs₁.extBut D.i2z).extBut hs₂.extBut D.i12.symm) ((hl2.extBut hs₁.extBut D.l2z).extBut hs₂.extBut D.l2i1) hy fun h₃ h2₃ hs₃ => wpAny_pure ?_)
    refine wpAny_pure (wpAny_pure ?_)
    show wpAny _ _ (newTuple [x, y] >>= _) _ _ _
    refine wpAny_bind (wpAny_newTuple ?_)
    have hsz : h₃.objs.size = s.heap.objs.size := by rw [hs₃.1, hs₂.1, hs₁.1]
    have hz₃ : IsZipA h₃ z TI TO (rawInt T) true := hs₃.extBut _ _ D.i2z.symm (hs₂.extBut _ _ D.i1z.symm hz₁)
    have hk : ∀ c o, c ≠ z → c ≠ i1 → c ≠ i2 → s.heap.get? c = some o → h₃.get? c = some o := fun c o c1 c2 c3 e => hs₃.extBut _ _ c3 (hs₂.extBut _ _ c2 (hs₁.extBut _ _ c1 e))
    have h1₃ : h₃.IsTupleIter i1 l1 (i + 1) := h1₂.extBut hs₃.extBut D.i12
    refine wpAny_pure ⟨_, rfl, ?_⟩
    show Q (.ref h₃.objs.size) _
    have hp : IsPair (h₃.push { cls := .type "tuple", data := .seq #[x, y] }) h₃.objs.size x y := Heap.get?_push_size _ rfl
    have hz4 : (h₃.push { cls := .type "tuple", data := .seq #[x, y] }).objs.size = h₃.objs.size + 1 := Heap.size_push ..
    have Z4 : ZAt (h₃.push { cls := .type "tuple", data := .seq #[x, y] }) z TI TO i1 i2 l1 l2 (i + 1) :=
      ⟨⟨_, _, Heap.get?_push_of_some _ hz₃, .inr ⟨_, rfl⟩⟩, Heap.get?_push_of_some _ (hk _ _ D.TIz D.TIi1 D.TIi2 hTI), ⟨_, _, Heap.get?_push_of_some _ (hk _ _ D.TOz D.TOi1 D.TOi2 hTO)⟩,
        h1₃.at fun o e => Heap.get?_push_of_some _ e, h2₃.at fun o e => Heap.get?_push_of_some _ e⟩
    rw [hsz] at hp hz4 ⊢
    exact hQ _ Z4 hp hz4 fun c o c1 _ c2 c3 e => Heap.get?_push_of_some _ (hk c o c1 c2 c3 e)
theorem zipA_end {z TI TO i1 i2 l1 l2 : Addr} {i : Nat} {xs ys : Array Value} {Q : Fin → Shared → Prop} (hh : A.handled = none) (D : ZipApart z TI TO i1 i2 l1 l2)
    (Z : ZAt s.heap z TI TO i1 i2 l1 l2 i) (hl1 : s.heap.IsTuple l1 xs) (hl2 : s.heap.IsTuple l2 ys) (hend : xs[i]? = none ∨ ys[i]? = none)
    (hE : ∀ h' e, (∀ c o, c ≠ z → c ≠ TO → c ≠ i1 → c ≠ i2 → s.heap.get? c = some o → h'.get? c = some o) → (∃ o, h'.get? e = some o ∧ o.cls = .type "StopIteration") → E (.ref e) { s with heap := h' }) :
    wpAny (model prog w) A (Builtin.«zip.__next__» ⟨[.ref z], []⟩) Q E s := by
  obtain ⟨⟨f0, f, hz, k⟩, hTI, ⟨a, b, hTO⟩, h1, h2⟩ := Z
  show wpAny _ _ (field (.ref z) 2 >>= _) _ _ _
  refine wpAny_bind (wpAny_field hz rfl (x := .bool false) rfl ?_)
  show wpAny _ _ (field (.ref z) 3 >>= _) _ _ _
  refine wpAny_bind (wpAny_field hz rfl (x := .ref TI) rfl ?_)
  refine wpAny_bind (wpAny_seqItems hTI rfl ?_)
  show wpAny _ _ (Builtin.SmallTypes.ownedTupleIsFree (.ref z) >>= _) _ _ _
  refine wpAny_bind (free_zip hz k ?_ fun h₁ T eT hz₁ hs₁ => ?_)
  · simp only [if_true]
    refine wpAny_bind (wpAny_rule ?_)
    refine wpAny_bind (wpAny_field hz rfl (x := .ref TO) rfl ?_)
    refine wpAny_bind (wpAny_setField_rec hz (by simp) fun h₁ hz₁ hs₁ => ?_)
    replace hz₁ : IsZipA h₁ z TI TO .ellipsis f := hz₁
    refine wpAny_bind ?_
    simp only [List.zipIdx_cons, List.zipIdx_nil, List.forIn_cons, List.forIn_nil]
    refine wpAny_bind (wpAny_bind (wpAny_onRaise ?_))
    show wpAny _ _ (Builtin.SmallTypes.nextOf (.ref i1) >>= _) _ _ _
    cases hx : xs[i]? with
    | none =>
      refine wpAny_bind (nextOf_tuple_end hh (h1.extBut hs₁.extBut D.i1z) (hl1.extBut hs₁.extBut D.l1z) hx fun h₂ e hs₂ he => ?_)
      obtain ⟨oe, hoe, hce⟩ := he
      have hz₂ : IsZipA h₂ z TI TO .ellipsis f := hs₂ _ _ D.i1z.symm hz₁
      have hez : e ≠ z := fun x => by subst x; rw [hz₂] at hoe; cases hoe; simp at hce
      refine wpAny_setField_rec hz₂ (by simp) fun h₃ _ hs₃ => hE h₃ e (fun c o c1 _ c3 _ x => hs₃.extBut _ _ c1 (hs₂ _ _ c3 (hs₁.extBut _ _ c1 x))) ⟨oe, hs₃.extBut _ _ hez hoe, hce⟩
    | some x =>
      have hy : ys[i]? = none := by rcases hend with h | h; rw [hx] at h; cases h; exact h
      refine wpAny_bind (nextOf_tuple_item (h1.extBut hs₁.extBut D.i1z) (hl1.extBut hs₁.extBut D.l1z) hx fun h₂ h1₂ hs₂ => wpAny_pure ?_)
      have hTO₂ : IsPair h₂ TO a b := hs₂.extBut _ _ D.TOi1 (hs₁.extBut _ _ D.TOz hTO)
      refine wpAny_bind (wpAny_seqItems hTO₂ rfl ?_)
      refine wpAny_bind (wpAny_updateSeq_pair hTO₂ fun h₃ hTO₃ hs₃ => ?_)
      refine wpAny_bind (wpAny_letGo (wpAny_pure ?_))
      refine wpAny_bind (wpAny_bind (wpAny_onRaise ?_))
      show wpAny _ _ (Builtin.SmallTypes.nextOf (.ref i2) >>= _) _ _ _
      refine wpAny_bind (nextOf_tuple_end hh (((h2.extBut hs₁.extBut D.i2z).extBut hs₂.extBut D.i12.symm).extBut hs₃.extBut D.TOi2.symm)
        (((hl2.extBut hs₁.extBut D.l2z).extBut hs₂.extBut D.l2i1).extBut hs₃.extBut D.l2TO) hy fun h₄ e hs₄ he => ?_)
      obtain ⟨oe, hoe, hce⟩ := he
      have hz₄ : IsZipA h₄ z TI TO .ellipsis f := hs₄ _ _ D.i2z.symm (hs₃.extBut _ _ D.TOz.symm (hs₂.extBut _ _ D.i1z.symm hz₁))
      have hez : e ≠ z := fun x => by subst x; rw [hz₄] at hoe; cases hoe; simp at hce
      refine wpAny_setField_rec hz₄ (by simp) fun h₅ _ hs₅ => hE h₅ e (fun c o c1 c2 c3 c4 x => hs₅.extBut _ _ c1 (hs₄ _ _ c4 (hs₃.extBut _ _ c2 (hs₂.extBut _ _ c3 (hs₁.extBut _ _ c1 x))))) ⟨oe, hs₅.extBut _ _ hez hoe, hce⟩
  · simp only [Bool.false_eq_true, if_false]
    refine wpAny_bind ?_
    rw [← Array.forIn_toList]
    simp only [List.forIn_cons, List.forIn_nil]
    refine wpAny_bind (wpAny_bind (wpAny_holding ?_))
    show wpAny _ _ (Builtin.SmallTypes.nextOf (.ref i1) >>= _) _ _ _
    cases hx : xs[i]? with
    | none =>
      refine wpAny_bind (nextOf_tuple_end (s := { s with heap := h₁ }) hh (h1.extBut hs₁.extBut D.i1z) (hl1.extBut hs₁.extBut D.l1z) hx fun h₂ e hs₂ he => ?_)
      exact hE h₂ e (fun c o c1 _ c2 _ x => hs₂ _ _ c2 (hs₁.extBut _ _ c1 x)) he
    | some x =>
      have hy : ys[i]? = none := by rcases hend with h | h; rw [hx] at h; cases h; exact h
      refine wpAny_bind (nextOf_tuple_item (s := { s with heap := h₁ }) (h1.extBut hs₁.extBut D.i1z) (hl1.extBut hs₁.extBut D.l1z) hx fun h₂ h1₂ hs₂ => wpAny_pure ?_)
      refine wpAny_pure ?_
      refine wpAny_bind (wpAny_bind (wpAny_holding ?_))
      show wpAny _ _ (Builtin.SmallTypes.nextOf (.ref i2) >>= _) _ _ _
      refine wpAny_bind (nextOf_tuple_end (s := { s with heap := h₂ }) hh ((h2.extBut hs₁.extBut D.i2z).extBut hs₂.extBut D.i12.symm) ((hl2.extBut hs₁.extBut D.l2z).extBut hs₂.extBut D.l2i1) hy fun h₃ e hs₃ he => ?_)
      exact hE h₃ e (fun c o c1 _ c2 c3 x => hs₃ _ _ c3 (hs₂.extBut _ _ c2 (hs₁.extBut _ _ c1 x))) he
theorem ZAt.zType {h : Heap} {z TI TO i1 i2 l1 l2 : Addr} {i : Nat} (Z : ZAt h z TI TO i1 i2 l1 l2 i) : ∃ o, h.get? z = some o ∧ o.cls = .type "zip" := by
  obtain ⟨⟨f0, f, hz, k⟩, _⟩ := Z
  exact ⟨_, hz, rfl⟩
theorem nextOf_zipA {z TI TO i1 i2 l1 l2 : Addr} {i : Nat} {xs ys : Array Value} {x y : Value} {Q : Value → Shared → Prop} (D : ZipApart z TI TO i1 i2 l1 l2)
    (Z : ZAt s.heap z TI TO i1 i2 l1 l2 i) (hl1 : s.heap.IsTuple l1 xs) (hl2 : s.heap.IsTuple l2 ys) (hx : xs[i]? = some x) (hy : ys[i]? = some y)
    (hQ : ∀ h', ZAt h' z TI TO i1 i2 l1 l2 (i + 1) → IsPair h' s.heap.objs.size x y → h'.objs.size = s.heap.objs.size + 1 →
      (∀ c o, c ≠ z → c ≠ TO → c ≠ i1 → c ≠ i2 → s.heap.get? c = some o → h'.get? c = some o) → Q (.ref s.heap.objs.size) { s with heap := h' }) :
    wpAny (model prog w) A (Builtin.SmallTypes.nextOf (.ref z)) Q E s := by
  have hTy : s.TypeIs (.ref z) "zip" := Z.zType
  unfold Builtin.SmallTypes.nextOf
  exact wpAny_bind (wpAny_callSpecial?_slot (name := Str.ofString "__next__") hTy F.slot_zip_next
    (wpAny_call_entry F.slot_zip_next hTy F.entry_zip_next
      (zipA_item D Z hl1 hl2 hx hy fun h' a1 a2 a3 a4 => wpAny_pure (hQ h' a1 a2 a3 a4)) (F.args_zip_next_1 _)))
theorem nextOf_zipA_end {z TI TO i1 i2 l1 l2 : Addr} {i : Nat} {xs ys : Array Value} {Q : Value → Shared → Prop} (hh : A.handled = none) (D : ZipApart z TI TO i1 i2 l1 l2)
    (Z : ZAt s.heap z TI TO i1 i2 l1 l2 i) (hl1 : s.heap.IsTuple l1 xs) (hl2 : s.heap.IsTuple l2 ys) (hend : xs[i]? = none ∨ ys[i]? = none)
    (hE : ∀ h' e, (∀ c o, c ≠ z → c ≠ TO → c ≠ i1 → c ≠ i2 → s.heap.get? c = some o → h'.get? c = some o) → (∃ o, h'.get? e = some o ∧ o.cls = .type "StopIteration") → E (.ref e) { s with heap := h' }) :
    wpAny (model prog w) A (Builtin.SmallTypes.nextOf (.ref z)) Q E s := by
  have hTy : s.TypeIs (.ref z) "zip" := Z.zType
  unfold Builtin.SmallTypes.nextOf
  exact wpAny_bind (wpAny_callSpecial?_slot (name := Str.ofString "__next__") hTy F.slot_zip_next
    (wpAny_call_entry F.slot_zip_next hTy F.entry_zip_next (zipA_end hh D Z hl1 hl2 hend hE) (F.args_zip_next_1 _)))
end
end Ka
set_option maxHeartbeats 2000000
/-! enumerate(zip(a, b)): its own turns, and the rule for a for over it -/
namespace Ka
open PySem RZ PyProof.Rows L2
section
variable {prog : Program} {w : World} {A : Around} {E : Value → Shared → Prop} {s : Shared}
theorem enumZ_item {e z TI TO i1 i2 l1 l2 : Addr} {i : Nat} {xs ys : Array Value} {x y old : Value} {Q : Value → Shared → Prop} (D : ZipApart z TI TO i1 i2 l1 l2)
    (he : IsEnum s.heap e z (i : Int) old) (Z : ZAt s.heap z TI TO i1 i2 l1 l2 i) (hl1 : s.heap.IsTuple l1 xs) (hl2 : s.heap.IsTuple l2 ys) (hx : xs[i]? = some x) (hy : ys[i]? = some y)
    (e1 : e ≠ z) (e2 : e ≠ TO) (e3 : e ≠ i1) (e4 : e ≠ i2) (e5 : e ≠ TI)
    (hQ : ∀ h1 h' tk, ZAt h1 z TI TO i1 i2 l1 l2 (i + 1) → IsPair h1 s.heap.objs.size x y → h1.objs.size = s.heap.objs.size + 1 → (∀ c o, c ≠ z → c ≠ TO → c ≠ i1 → c ≠ i2 → s.heap.get? c = some o → h1.get? c = some o) →
      IsEnumOut h' e z ((i : Int) + 1) (.ref s.heap.objs.size) h1.objs.size → h'.get? h1.objs.size = some { cls := .type "tuple", data := .seq #[.int i tk, .ref s.heap.objs.size] } →
      (∀ b o, b ≠ e → h1.get? b = some o → h'.get? b = some o) → Q (.ref h1.objs.size) { s with heap := h', toks := tk + 1 }) :
    wpAny (model prog w) A (Builtin.«enumerate.__next__» ⟨[.ref e], []⟩) (fun fin s' => ∃ v, fin = .done (.ret v) ∧ Q v s') E s := by
  obtain ⟨hp, g, d, tk, os⟩ := s
  show wpAny _ _ (field (.ref e) 2 >>= _) _ _ _
  refine wpAny_bind (wpAny_field he rfl (x := .ref z) rfl ?_)
  refine wpAny_bind (nextOf_zipA D Z hl1 hl2 hx hy fun h₁ Z₁ hp₁ hsz₁ hk₁ => ?_)
  have he₁ : IsEnum h₁ e z (i : Int) old := hk₁ e _ e1 e2 e3 e4 he
  show wpAny _ _ (field (.ref e) 3 >>= _) _ _ ⟨h₁, g, d, tk, os⟩
  refine wpAny_bind (wpAny_field he₁ rfl (x := rawInt (i : Int)) rfl ?_)
  show wpAny _ _ (field (.ref e) 4 >>= _) _ _ ⟨h₁, g, d, tk, os⟩
  refine wpAny_bind (wpAny_field he₁ rfl (x := .none) rfl ?_)
  show wpAny _ _ (mkInt (i : Int) >>= _) _ _ ⟨h₁, g, d, tk, os⟩
  refine wpAny_bind (wpAny_mkInt ?_)
  show wpAny _ _ (setField (.ref e) 3 (rawInt ((i : Int) + 1)) >>= _) _ _ ⟨h₁, g, d, tk + 1, os⟩
  refine wpAny_bind (wpAny_setField_rec he₁ (by simp) fun h₂ he₂ hs₂ => ?_)
  replace hs₂ : Heap.SameBut e h₁ h₂ := hs₂
  replace he₂ : IsEnum h₂ e z ((i : Int) + 1) old := he₂
  show wpAny _ _ (setField (.ref e) 4 .none >>= _) _ _ ⟨h₂, g, d, tk + 1, os⟩
  refine wpAny_bind (wpAny_setField_rec he₂ (by simp) fun h₃ he₃ hs₃ => ?_)
  replace hs₃ : Heap.SameBut e h₂ h₃ := hs₃
  replace he₃ : IsEnum h₃ e z ((i : Int) + 1) old := he₃
  show wpAny _ _ (newTuple [.int i tk, .ref hp.objs.size] >>= _) _ _ ⟨h₃, g, d, tk + 1, os⟩
  refine wpAny_bind (wpAny_newTuple ?_)
  have he₄ : IsEnum (h₃.push { cls := .type "tuple", data := .seq #[.int i tk, .ref hp.objs.size] }) e z ((i : Int) + 1) old := Heap.get?_push_of_some _ he₃
  generalize hh₄ : h₃.push { cls := .type "tuple", data := .seq #[.int i tk, .ref hp.objs.size] } = h₄ at he₄
  have hsz : h₃.objs.size = h₁.objs.size := by rw [hs₃.1, hs₂.1]
  have hel : e < h₁.objs.size := Heap.lt_size he₁
  have ht₄ : h₄.get? h₁.objs.size = some { cls := .type "tuple", data := .seq #[.int i tk, .ref hp.objs.size] } := by rw [← hh₄, ← hsz]; exact Heap.get?_push_size _ rfl
  have hk₄ : ∀ b o, b ≠ e → h₁.get? b = some o → h₄.get? b = some o := fun b o hbe hb => by
    rw [← hh₄]; exact Heap.get?_push_of_some _ (hs₃.extBut b o hbe (hs₂.extBut b o hbe hb))
  show wpAny _ _ (Builtin.SmallTypes.ownedTupleIsFree (.ref e) >>= _) _ _ ⟨h₄, g, d, tk + 1, os⟩
  rw [hsz]
  clear hh₄ he₃ hs₃ he₂ hs₂ hsz h₃ h₂
  refine wpAny_bind ?_
  · unfold Builtin.SmallTypes.ownedTupleIsFree
    refine wpAny_bind (wpAny_field he₄ rfl (x := .none) rfl (wpAny_pure ?_))
    simp only [if_true]
    refine wpAny_bind (wpAny_rule ?_)
    refine wpAny_bind (wpAny_field he₄ rfl (x := old) rfl ?_)
    refine wpAny_bind (wpAny_setField_rec he₄ (by simp) fun h₅ he₅ hs₅ => ?_)
    replace hs₅ : Heap.SameBut e h₄ h₅ := hs₅
    replace he₅ : IsEnum h₅ e z ((i : Int) + 1) (.ref hp.objs.size) := he₅
    show wpAny _ _ (Builtin.SmallTypes.ownedTupleHandOut (.ref e) (.ref h₁.objs.size) >>= _) _ _ ⟨h₅, g, d, tk + 1, os⟩
    refine wpAny_bind ?_
    · unfold Builtin.SmallTypes.ownedTupleHandOut
      refine wpAny_bind (wpAny_setField_rec he₅ (by simp) fun h₆ he₆ hs₆ => ?_)
      replace hs₆ : Heap.SameBut e h₅ h₆ := hs₆
      replace he₆ : IsEnumOut h₆ e z ((i : Int) + 1) (.ref hp.objs.size) h₁.objs.size := he₆
      refine wpAny_setField_rec he₆ (by simp) fun h₇ he₇ hs₇ => ?_
      replace hs₇ : Heap.SameBut e h₆ h₇ := hs₇
      replace he₇ : IsEnumOut h₇ e z ((i : Int) + 1) (.ref hp.objs.size) h₁.objs.size := he₇
      refine wpAny_bind (wpAny_letGo (wpAny_pure ⟨_, rfl, hQ h₁ h₇ tk Z₁ hp₁ hsz₁ hk₁ he₇ ?_ ?_⟩))
      · exact hs₇.extBut _ _ (Nat.ne_of_gt hel) (hs₆.extBut _ _ (Nat.ne_of_gt hel) (hs₅.extBut _ _ (Nat.ne_of_gt hel) ht₄))
      · exact fun b o hbe hb => hs₇.extBut b o hbe (hs₆.extBut b o hbe (hs₅.extBut b o hbe (hk₄ b o hbe hb)))
theorem pyNext_enumZ_item {e z TI TO i1 i2 l1 l2 : Addr} {i : Nat} {xs ys : Array Value} {x y old : Value} {Q : Option Value → Shared → Prop} (D : ZipApart z TI TO i1 i2 l1 l2)
    (he : IsEnum s.heap e z (i : Int) old) (Z : ZAt s.heap z TI TO i1 i2 l1 l2 i) (hl1 : s.heap.IsTuple l1 xs) (hl2 : s.heap.IsTuple l2 ys) (hx : xs[i]? = some x) (hy : ys[i]? = some y)
    (e1 : e ≠ z) (e2 : e ≠ TO) (e3 : e ≠ i1) (e4 : e ≠ i2) (e5 : e ≠ TI)
    (hQ : ∀ h1 h' tk, ZAt h1 z TI TO i1 i2 l1 l2 (i + 1) → IsPair h1 s.heap.objs.size x y → h1.objs.size = s.heap.objs.size + 1 → (∀ c o, c ≠ z → c ≠ TO → c ≠ i1 → c ≠ i2 → s.heap.get? c = some o → h1.get? c = some o) →
      IsEnumOut h' e z ((i : Int) + 1) (.ref s.heap.objs.size) h1.objs.size → h'.get? h1.objs.size = some { cls := .type "tuple", data := .seq #[.int i tk, .ref s.heap.objs.size] } →
      (∀ b o, b ≠ e → h1.get? b = some o → h'.get? b = some o) → Q (some (.ref h1.objs.size)) { s with heap := h', toks := tk + 1 }) :
    wpAny (model prog w) A (pyNext (.ref e)) Q E s := by
  have hT : s.TypeIs (.ref e) "enumerate" := ⟨_, he, rfl⟩
  unfold pyNext
  exact wpAny_bind (wpAny_attempt (wpAny_callSpecial?_slot (name := Str.ofString "__next__") hT F.slot_enumerate_next
    (wpAny_call_entry F.slot_enumerate_next hT F.entry_enumerate_next
      (enumZ_item D he Z hl1 hl2 hx hy e1 e2 e3 e4 e5 fun h1 h' tk a1 a2 a3 a4 a5 a6 a7 => wpAny_pure (hQ h1 h' tk a1 a2 a3 a4 a5 a6 a7)) (F.args_enumerate_next_1 _))))
theorem pyNext_enumZ_end {e z TI TO i1 i2 l1 l2 : Addr} {i : Nat} {xs ys : Array Value} {old : Value} {c : Int} {Q : Option Value → Shared → Prop} (hh : A.handled = none) (D : ZipApart z TI TO i1 i2 l1 l2)
    (he : IsEnum s.heap e z c old) (Z : ZAt s.heap z TI TO i1 i2 l1 l2 i) (hl1 : s.heap.IsTuple l1 xs) (hl2 : s.heap.IsTuple l2 ys) (hend : xs[i]? = none ∨ ys[i]? = none)
    (hQ : ∀ h', (∀ c o, c ≠ z → c ≠ TO → c ≠ i1 → c ≠ i2 → s.heap.get? c = some o → h'.get? c = some o) → Q none { s with heap := h' }) : wpAny (model prog w) A (pyNext (.ref e)) Q E s := by
  have hT : s.TypeIs (.ref e) "enumerate" := ⟨_, he, rfl⟩
  unfold pyNext
  refine wpAny_bind (wpAny_attempt (wpAny_callSpecial?_slot (name := Str.ofString "__next__") hT F.slot_enumerate_next
    (wpAny_call_entry F.slot_enumerate_next hT F.entry_enumerate_next ?_ (F.args_enumerate_next_1 _))))
  show wpAny _ _ (field (.ref e) 2 >>= _) _ _ _
  refine wpAny_bind (wpAny_field he rfl (x := .ref z) rfl ?_)
  refine wpAny_bind (nextOf_zipA_end hh D Z hl1 hl2 hend fun h' x he' hx' => ?_)
  obtain ⟨o, ho, hc⟩ := hx'
  refine wpAny_bind (wpAny_isInstance (T := "StopIteration") (b := true) ⟨o, ho, hc⟩ isSubtype_stop ?_)
  exact wpAny_pure (hQ _ he')
end
set_option maxHeartbeats 4000000 in
theorem meets_enumerate_newZ (z TI TO : Addr) :
    Meets (Builtin.«enumerate.__new__» ⟨[.type "enumerate", .ref z], []⟩) (fun _ R s => IsZip s.heap z TI TO .none ∧
      R (.ok (.ret (.ref s.heap.objs.size))) { s with heap := s.heap.push { cls := .type "enumerate", data := .fields #[.none, .bool false, .ref z, rawInt 0, .none, .none] } }) :=
  .of_wp fun prog w A R s h => by
    obtain ⟨hp, g, d, tk, os⟩ := s; obtain ⟨h1, h⟩ := h
    have hsub := sub_enumerate
    have q1 : ∀ {A' : Around} {E : Value → Shared → Prop} {Q : Value → Shared → Prop}, Q (.ref z) ⟨hp, g, d, tk, os⟩ → wpAny (model prog w) A' (pyIter (.ref z)) Q E ⟨hp, g, d, tk, os⟩ :=
      fun q => wpAny_pyIter_zip (s := ⟨hp, g, d, tk, os⟩) h1 q
    wp_walk using q1
    refine wpAny_stack_any fun st => wpAny_pure ?_
    split
    · rename_i c _ _ _ _ _
      cases (c == Value.type "enumerate")
      · wp_walk using q1
        exact ⟨_, rfl, h⟩
      · wp_walk using q1
        exact ⟨_, rfl, h⟩
    · wp_walk using q1
      exact ⟨_, rfl, h⟩
theorem call_enumZ {prog : Program} {w : World} {A : Around} {E : Value → Shared → Prop} {s : Shared} {z TI TO : Addr} {Q : Value → Shared → Prop} (hz : IsZip s.heap z TI TO .none)
    (h : ∀ h', IsEnum h' s.heap.objs.size z 0 .none → h'.objs.size = s.heap.objs.size + 1 → (∀ b o, s.heap.get? b = some o → h'.get? b = some o) → Q (.ref s.heap.objs.size) { s with heap := h' }) :
    wpAny (model prog w) A (call (.type "enumerate") [.ref z]) Q E s := by
  refine callType_new F.called_enumerate (by decide) (F.typeCall_enumerate_1 _) (F.newCall_enumerate_1 _) (fun obj => F.args_object_init_2 obj _) F.entry_enumerate_new
    (meets_enumerate_newZ z TI TO) ⟨hz, ?_⟩
  have he := Heap.get?_push_size s.heap (o := { cls := .type "enumerate", data := .fields #[.none, .bool false, .ref z, rawInt 0, .none, .none] }) rfl
  exact ⟨⟨_, he, rfl⟩, h _ he (Heap.size_push ..) fun b o x => Heap.get?_push_of_some _ x⟩
end Ka
set_option maxHeartbeats 2000000
namespace Ka
open PySem PySem.Spec PyProof.Rows L2 RZ
theorem ZAt.keep {h h' : Heap} {z TI TO i1 i2 a b : Addr} {i : Nat} (Z : ZAt h z TI TO i1 i2 a b i) (k : ∀ c, c = z ∨ c = TI ∨ c = TO ∨ c = i1 ∨ c = i2 → ∀ o, h.get? c = some o → h'.get? c = some o) : ZAt h' z TI TO i1 i2 a b i := by
  obtain ⟨⟨f0, f, hz, kp⟩, hTI, ⟨x, y, hTO⟩, h1, h2⟩ := Z
  exact ⟨⟨f0, f, k z (by simp) _ hz, kp⟩, k TI (by simp) _ hTI, ⟨x, y, k TO (by simp) _ hTO⟩, h1.at fun o q => k i1 (by simp) o q, h2.at fun o q => k i2 (by simp) o q⟩
/-- the tuples at a and b as they stand at each turn: the number and a new pair -/
def ItEZ (K : PySem.W.Frag) (a b : Addr) : It :=
  ⟨fun i H => ∃ (xs ys : List V) (x y : V), SqT K H a xs ∧ SqT K H b ys ∧ xs[i]? = some x ∧ ys[i]? = some y,
    fun i H v H' => ∃ T P x y, v = .ref P ∧ H T = none ∧ H P = none ∧ T ≠ P ∧ H' = upd (upd H T (.tup [x, y])) P (.tup [.int (i : Nat), .ref T]) ∧ (∀ xs, SqT K H a xs → xs[i]? = some x) ∧ ∀ ys, SqT K H b ys → ys[i]? = some y,
    fun i H => ∃ xs ys : List V, SqT K H a xs ∧ SqT K H b ys ∧ (xs.length ≤ i ∨ ys.length ≤ i)⟩
theorem turn_enumZ {P : Program} {w : World} {K : PySem.W.Frag} {elts : List Expr} {kk : Nat} {tpos : Pos} {a b e z TI TO i1 i2 : Addr} (D : ZipApart z TI TO i1 i2 a b) (e1 : e ≠ z) (e2 : e ≠ TO) (e3 : e ≠ i1) (e4 : e ≠ i2) (e5 : e ≠ TI) :
    Turn P w K (.Tuple elts kk tpos) (ItEZ K a b) [e, z, TI, TO, i1, i2] e (fun i h => (∃ old, IsEnum h e z ((i : Nat) : Int) old) ∧ ZAt h z TI TO i1 i2 a b i) where
  mem := by simp
  obj := fun i h st c hc => by
    obtain ⟨⟨old, he⟩, ⟨f0, f, hz, kp⟩, hTI, ⟨x, y, hTO⟩, ⟨o1, q1, _, d1⟩, ⟨o2, q2, _, d2⟩⟩ := st
    have e' : c = e ∨ c = z ∨ c = TI ∨ c = TO ∨ c = i1 ∨ c = i2 := by simpa using hc
    rcases e' with q | q | q | q | q | q
    · rw [q]; exact ⟨_, he, fun v q => nomatch q⟩
    · rw [q]; exact ⟨_, hz, fun v q => nomatch q⟩
    · rw [q]; exact ⟨_, hTI, fun v q => nomatch q⟩
    · rw [q]; exact ⟨_, hTO, fun v q => nomatch q⟩
    · rw [q]; exact ⟨o1, q1, fun v q => by rw [d1] at q; cases q⟩
    · rw [q]; exact ⟨o2, q2, fun v q => by rw [d2] at q; cases q⟩
  keep := fun i h h' st k => by
    obtain ⟨⟨old, he⟩, Z⟩ := st
    exact ⟨⟨old, k e (by simp) _ he⟩, Z.keep fun c hc o q => k c (by rcases hc with r | r | r | r | r <;> simp [r]) o q⟩
  item := by
    intro X hP hw hK hc i pins s σ H E I hf st hg
    subst hP hw hK
    obtain ⟨⟨old, he⟩, Z⟩ := st
    obtain ⟨xs, ys, x, y, hqx, hqy, hx, hy⟩ := hg
    obtain ⟨its, rv, p, _⟩ := I.tuple hqx
    obtain ⟨its2, rv2, p2, _⟩ := I.tuple hqy
    obtain ⟨u, hu, ru⟩ := rv.get hx
    obtain ⟨u2, hu2, ru2⟩ := rv2.get hy
    have hel : e < s.heap.objs.size := Heap.lt_size he
    refine pyNext_enumZ_item D he Z p p2 (x := u) (y := u2) (by simpa using hu) (by simpa using hu2) e1 e2 e3 e4 e5 fun h1 h' tk Z1 hp1 hs1 hk1 ho hP hk => ?_
    refine ⟨_, rfl, wpAny_letOwnedTupleGo_enum (s := { s with heap := h', toks := tk + 1 }) ho fun h'' he' sb => ?_⟩
    have hf1 : ∀ c ∈ [z, TI, TO, i1, i2], FpOk X pins H c := fun c hc => hf c (List.mem_cons_of_mem _ hc)
    have new1 : ObjOk X.prog X.w (upd H s.heap.objs.size (.tup [x, y])) h1 s.heap.objs.size (.tup [x, y]) :=
      ⟨by show 2 ≤ sizeLine; decide, [u, u2], .cons ru (.cons ru2 .nil), ⟨_, hp1, rfl, _, rfl⟩⟩
    have I1 : Inv X pins σ (upd H s.heap.objs.size (.tup [x, y])) { s with heap := h1 } :=
      I.turnedNew (t' := s.toks) (ch := [z, TI, TO, i1, i2]) (fun c o hb q => hk1 c o (fun q' => hb (by simp [q'])) (fun q' => hb (by simp [q'])) (fun q' => hb (by simp [q'])) (fun q' => hb (by simp [q'])) q) hf1 (Nat.le_refl _) new1
    have hTn : H s.heap.objs.size = none := I.hok.fresh (Nat.le_refl _)
    have hPn : H h1.objs.size = none := I.hok.fresh (by rw [hs1]; exact Nat.le_succ _)
    have hTP : s.heap.objs.size ≠ h1.objs.size := by rw [hs1]; exact Nat.ne_of_lt (Nat.lt_succ_self _)
    have hef : FpOk X pins (upd H s.heap.objs.size (.tup [x, y])) e := by
      obtain ⟨f0, f1⟩ := hf e (by simp)
      exact ⟨by rw [upd_ne (Nat.ne_of_lt hel)]; exact f0, f1⟩
    have hel1 : e < h1.objs.size := by rw [hs1]; exact Nat.lt_succ_of_lt hel
    have hP2 : h''.get? h1.objs.size = some { cls := .type "tuple", data := .seq #[.int i tk, .ref s.heap.objs.size] } := (sb.2 _ (Nat.ne_of_gt hel1)).trans hP
    have new2 : ObjOk X.prog X.w (upd (upd H s.heap.objs.size (.tup [x, y])) h1.objs.size (.tup [.int (i : Nat), .ref s.heap.objs.size])) h'' h1.objs.size (.tup [.int (i : Nat), .ref s.heap.objs.size]) :=
      ⟨by show 2 ≤ sizeLine; decide, [.int i tk, .ref s.heap.objs.size], .cons ⟨_, rfl⟩ (.cons rfl .nil), ⟨_, hP2, rfl, _, rfl⟩⟩
    have I2 : Inv X pins σ (upd (upd H s.heap.objs.size (.tup [x, y])) h1.objs.size (.tup [.int (i : Nat), .ref s.heap.objs.size])) { s with heap := h'', toks := tk + 1 } :=
      I1.turnedNew (t' := tk + 1) (ch := [e]) (fun c o hb q => (sb.2 c (fun q' => hb (by simp [q']))).trans (hk c o (fun q' => hb (by simp [q'])) q)) (fun c hc => by rw [List.mem_singleton.mp hc]; exact hef) (Nat.le_refl _) new2
    refine ⟨.ref h1.objs.size, _, I2, rfl, ⟨_, _, x, y, rfl, hTn, hPn, hTP, rfl, fun l hl => by rw [I.tuple_inj hl hqx]; exact hx, fun l hl => by rw [I.tuple_inj hl hqy]; exact hy⟩, ⟨⟨.ref s.heap.objs.size, ?_⟩, ?_⟩, fun c hcm => ?_⟩
    · have ee : ((i + 1 : Nat) : Int) = (i : Int) + 1 := by omega
      rw [ee]; exact he'
    · refine Z1.keep fun c hc o q => ?_
      have hce : c ≠ e := by
        rcases hc with r | r | r | r | r
        · rw [r]; exact Ne.symm e1
        · rw [r]; exact Ne.symm e5
        · rw [r]; exact Ne.symm e2
        · rw [r]; exact Ne.symm e3
        · rw [r]; exact Ne.symm e4
      exact (sb.2 c hce).trans (hk c o hce q)
    · have hlt : c < s.heap.objs.size := by
        have e' : c = e ∨ c = z ∨ c = TI ∨ c = TO ∨ c = i1 ∨ c = i2 := by simpa using hcm
        obtain ⟨⟨f0, f, hz, kp⟩, hTI, ⟨x0, y0, hTO⟩, ⟨o1, q1, _⟩, ⟨o2, q2, _⟩⟩ := Z
        rcases e' with q | q | q | q | q | q
        · rw [q]; exact hel
        · rw [q]; exact Heap.lt_size hz
        · rw [q]; exact Heap.lt_size hTI
        · rw [q]; exact Heap.lt_size hTO
        · rw [q]; exact Heap.lt_size q1
        · rw [q]; exact Heap.lt_size q2
      rw [upd_ne (Nat.ne_of_lt (by rw [hs1]; exact Nat.lt_succ_of_lt hlt)), upd_ne (Nat.ne_of_lt hlt)]
      exact (hf c hcm).1
  done := by
    intro X hP hw hK hc i pins s σ H E I hf st hg
    subst hP hw hK
    obtain ⟨⟨old, he⟩, Z⟩ := st
    obtain ⟨xs, ys, hqx, hqy, hend⟩ := hg
    obtain ⟨its, rv, p, _⟩ := I.tuple hqx
    obtain ⟨its2, rv2, p2, _⟩ := I.tuple hqy
    have l1 := rv.length
    have l2 := rv2.length
    have hn : its.toArray[i]? = none ∨ its2.toArray[i]? = none := by
      rcases hend with q | q
      · exact .inl (by simp; omega)
      · exact .inr (by simp; omega)
    exact pyNext_enumZ_end (I.ok.hd hc) D he Z p p2 hn fun h' hk => ⟨rfl, I.turnedL (t' := s.toks) (ch := [e, z, TI, TO, i1, i2]) (fun c o hb q =>
      hk c o (fun q' => hb (by simp [q'])) (fun q' => hb (by simp [q'])) (fun q' => hb (by simp [q'])) (fun q' => hb (by simp [q'])) q) hf⟩
  self := fun A i s Q E st h => let ⟨⟨_, he⟩, _⟩ := st; wpAny_pyIter_enum he h
def iEZ (K : PySem.W.Frag) (ta : TA) : TI := fun σ H R => ta σ H fun vs H1 => ∃ a b xs ys, vs = [.ref a, .ref b] ∧ SqT K H1 a xs ∧ SqT K H1 b ys ∧ R (ItEZ K a b) H1
theorem enum_apart (n a b : Nat) (ha : a < n) (hb : b < n) : n + 5 ≠ n + 4 ∧ n + 5 ≠ n + 3 ∧ n + 5 ≠ n ∧ n + 5 ≠ n + 1 ∧ n + 5 ≠ n + 2 := by omega
theorem pi_enumZ {X : Cx} {e e2 : Expr} {ta : TA} {p pos p' pos' tpos : Pos} {elts : List Expr} {kk : Nat} (hg' : Gl X "enumerate") (hm' : X.mg "enumerate" = none) (hg : Gl X "zip") (hm : X.mg "zip" = none) (ha : PA X [e, e2] ta)
    (hs : starEach [e, e2] X.env = (false, eval e X.env) :: starEach [e2] X.env := by rfl) (hpl : (backTo pos (starEach [e2] X.env)).any (·.1) = false := by rfl) :
    PI X (.Tuple elts kk tpos) (.Call (.Name "enumerate" p') [.Call (.Name "zip" p) [e, e2] [] pos] [] pos') (iEZ X.K ta) := by
  refine ⟨fun pins s σ H R I h => ?_⟩
  refine Call_ (ld_blt I hg' hm' PyProof.Rows.boot_enumerate (PyProof.Rows.callWith_type1 ?_ rfl rfl))
  show wpAny _ _ (spliced [(false, eval (.Call (.Name "zip" p) [e, e2] [] pos) X.env)]) _ _ _
  refine Calls.spliced_cons (Call_ (ld_blt I hg hm PyProof.Rows.boot_zip (PyProof.Rows.callWith_type1 (thn (ha.run pos pins s σ H _ I h) fun us s1 hv => ?_) hs hpl)))
  obtain ⟨vs, H1, I1, r1, a, b, xs, ys, rfl, hqx, hqy, q⟩ := hv
  obtain ⟨u1, u2, rfl, q1, q2⟩ := vals2 r1
  cases q1
  cases q2
  obtain ⟨its, rv, p1, _⟩ := I1.tuple hqx
  obtain ⟨its2, rv2, p2, _⟩ := I1.tuple hqy
  obtain ⟨o1, ho1, _⟩ := id p1
  obtain ⟨o2, ho2, _⟩ := id p2
  have la : a < s1.heap.objs.size := Heap.lt_size ho1
  have lb : b < s1.heap.objs.size := Heap.lt_size ho2
  refine call_zipT (show s1.heap.IsTuple a its.toArray from p1) (show s1.heap.IsTuple b its2.toArray from p2) fun h' hz hTI hTO h1 h2 hsz hk => Calls.spliced_nil ?_
  refine call_enumZ (s := { s1 with heap := h' }) hz fun h'' he hsz2 hk2 => ?_
  replace he : IsEnum h'' h'.objs.size (s1.heap.objs.size + 4) 0 .none := he
  rw [hsz] at he
  show wpAny _ _ (pyIter (.ref h'.objs.size)) _ _ _
  rw [hsz]
  refine wpAny_pyIter_enum he ?_
  have I2 : Inv X pins σ H1 { s1 with heap := h'' } := I1.kept (t' := s1.toks) fun c o q => hk2 c o (hk c o q)
  have ne := enum_apart s1.heap.objs.size a b la lb
  have Z : ZAt h'' (s1.heap.objs.size + 4) (s1.heap.objs.size + 2) (s1.heap.objs.size + 3) s1.heap.objs.size (s1.heap.objs.size + 1) a b 0 :=
    ZAt.keep (h := h') ⟨⟨_, _, hz, .inl rfl⟩, hTI, ⟨_, _, hTO⟩, h1, h2⟩ fun c _ o q => hk2 c o q
  refine ⟨s1.heap.objs.size + 5, [s1.heap.objs.size + 5, s1.heap.objs.size + 4, s1.heap.objs.size + 2, s1.heap.objs.size + 3, s1.heap.objs.size, s1.heap.objs.size + 1], _, _, H1, rfl, I2, turn_enumZ (PySem.W.ktu_apart s1.heap.objs.size a b la lb) ne.1 ne.2.1 ne.2.2.1 ne.2.2.2.1 ne.2.2.2.2, ⟨⟨.none, he⟩, Z⟩, fun c hcm => ?_, q⟩
  have e' : c = s1.heap.objs.size + 5 ∨ c = s1.heap.objs.size + 4 ∨ c = s1.heap.objs.size + 2 ∨ c = s1.heap.objs.size + 3 ∨ c = s1.heap.objs.size ∨ c = s1.heap.objs.size + 1 := by simpa using hcm
  have hle : s1.heap.objs.size ≤ c := by
    rcases e' with z | z | z | z | z | z
    · rw [z]; exact Nat.le_add_right _ _
    · rw [z]; exact Nat.le_add_right _ _
    · rw [z]; exact Nat.le_add_right _ _
    · rw [z]; exact Nat.le_add_right _ _
    · rw [z]; exact Nat.le_refl _
    · rw [z]; exact Nat.le_add_right _ _
  exact I1.fpOk hle (I1.hok.fresh hle)
/-- a walk over it: the i-th of xs and ys -/
def YEZ (xs ys : List V) : Nat → Hp → V → Hp → Prop := fun i H v H' => ∃ T P x y, v = .ref P ∧ H T = none ∧ H P = none ∧ T ≠ P ∧ H' = upd (upd H T (.tup [x, y])) P (.tup [.int (i : Nat), .ref T]) ∧ xs[i]? = some x ∧ ys[i]? = some y
theorem walk_enumZ {K : PySem.W.Frag} {a b : Addr} {xs ys : List V} {n : Nat} (h1 : xs.length = n) (h2 : ys.length = n) : Walk (ItEZ K a b) n (fun H => SqT K H a xs ∧ SqT K H b ys) (YEZ xs ys) := by
  subst h1
  refine ⟨fun i H hi q => ⟨xs, ys, xs[i], ys[i], q.1, q.2, by simp [hi], by simp [hi, h2]⟩, fun H q => ⟨xs, ys, q.1, q.2, .inl (Nat.le_refl _)⟩, fun i H v H' hi q y => ?_⟩
  obtain ⟨T, P, x, z, k1, k2, k3, k4, k5, k6, k7⟩ := y
  exact ⟨T, P, x, z, k1, k2, k3, k4, k5, k6 xs q.1, k7 ys q.2⟩
end Ka
set_option maxHeartbeats 2000000
/-! a, *rest = list; a, b, *rest = list: any length -/
namespace Ka
open PySem PySem.Spec PyProof.Rows L2 Ty
theorem unpack_listS {prog : Program} {w : World} {A : Around} {E : Value → Shared → Prop} {s : Shared} {l : Addr} {xs ys : List Value} {Q : List Value → Shared → Prop} (hh : A.handled = none)
    (hl : s.heap.IsList l (xs ++ ys).toArray) (hz : xs.length + ys.length ≤ sizeLine)
    (h : ∀ (g : Heap) (tk : Nat), (∀ b o, s.heap.get? b = some o → g.get? b = some o) → Q (xs ++ [.ref g.objs.size]) { s with heap := g.push { cls := .type "list", data := .seq ys.toArray }, toks := tk }) :
    wpAny (model prog w) A (unpackItems (.ref l) (xs.length + 1) (some xs.length)) Q E s := by
  have hlt : l ≠ s.heap.objs.size := by obtain ⟨o, ho, _⟩ := hl; exact Nat.ne_of_lt (Heap.lt_size ho)
  have hsz : (xs ++ ys).toArray.size = xs.length + ys.length := by simp
  unfold unpackItems
  refine wpAny_bind ?_
  unfold notIterableAtAll
  refine wpAny_bind (wpAny_specialOf hl.typeIs slot_list_iter.lookup (wpAny_pure ?_))
  simp only [Bool.false_eq_true, if_false]
  refine wpAny_bind (wpAny_holding (wpAny_pyIter_list hl ?_))
  refine wpAny_bind (wpAny_holding (PySem.W.kun_draw hlt xs.length 0 _ _ ⟨_, Heap.get?_push_size _ rfl, rfl, rfl⟩ (hl.push _) (by omega) fun g1 it1 same1 => ?_))
  have hl1 : g1.IsList l (xs ++ ys).toArray := (hl.push _).extBut same1.extBut hlt
  rw [Nat.zero_add] at it1
  have it1' := it1
  obtain ⟨oi, hoi, _⟩ := it1'
  have hl1' := hl1
  obtain ⟨ol, hol, _⟩ := hl1'
  have ef : (((xs ++ ys).toArray.toList.drop 0).take xs.length) = xs := by
    rw [List.drop_zero]
    simp
  rw [ef]
  rw [if_neg (Nat.lt_irrefl _)]
  refine wpAny_bind (wpAny_holding (PySem.W.kun_collect (s := { s with heap := g1 }) (T := "list_iterator") (.inr (.inr (.inl rfl))) (Walks.list (A := A.in1) hh s.heap.objs.size l hlt (xs ++ ys).toArray) (fun j u st => st.1.typeIs) (k := xs.length) (by omega) ⟨it1, hl1⟩ (Heap.lt_size hoi) (Heap.lt_size hol) (fun g2 tk kp => ?_) (by rw [hsz]; exact hz)))
  have er : ((xs ++ ys).toArray.toList.drop xs.length) = ys := by simp
  rw [er]
  have e0 : xs.length + 1 - 1 - xs.length = 0 := by omega
  show wpAny _ _ (if ys.length < xs.length + 1 - 1 - xs.length then _ else _) _ _ _
  rw [e0, if_neg (Nat.not_lt_zero _)]
  rw [Nat.sub_zero, List.take_length, List.drop_length]
  have kp2 : ∀ b o, s.heap.get? b = some o → g2.get? b = some o := fun b o e =>
    have hb : b ≠ s.heap.objs.size := Nat.ne_of_lt (Heap.lt_size e)
    kp b o hb (same1.extBut b o hb (Heap.get?_push_of_some _ e))
  refine wpAny_bind (wpAny_newList (wpAny_pure ?_) (by omega))
  rw [List.append_nil]
  exact h g2 tk kp2
/-- name, *names = a list of one item or more -/
def gStarL1 (K : PySem.W.Frag) (g : TG) (g2 : TG) : TG := fun v σ H Q => ∃ a x xs, v = .ref a ∧ SqL K H a (x :: xs) ∧
  ∀ D, H D = none → g x σ (upd H D (.lst xs)) fun σ1 H1 => g2 (.ref D) σ1 H1 Q
/-- name, name, *names = a list of two items or more -/
def gStarL2 (K : PySem.W.Frag) (g g' : TG) (g2 : TG) : TG := fun v σ H Q => ∃ a x y xs, v = .ref a ∧ SqL K H a (x :: y :: xs) ∧
  ∀ D, H D = none → g x σ (upd H D (.lst xs)) fun σ1 H1 => g' y σ1 H1 fun σ2 H2 => g2 (.ref D) σ2 H2 Q
section
variable {X : Cx}
theorem pg_starL1 {e1 e2 : Expr} {g g2 : TG} {k : Nat} {sp pos : Pos} (hc : X.calm = true) (h1 : PG X e1 g) (h2 : PG X e2 g2)
    (hs : assignEach [e1, .Starred e2 sp] X.env = [(false, assign e1 X.env), (true, assign e2 X.env)] := by rfl) : PG X (.Tuple [e1, .Starred e2 sp] k pos) (gStarL1 X.K g g2) := by
  refine ⟨fun pins s σ H v u Q I r hw => ?_⟩
  obtain ⟨a, x, xs, rfl, hq, hw⟩ := hw
  cases r
  obtain ⟨its, rv, ht, hz⟩ := I.list hq
  cases rv with
  | @cons _ u1 _ us r1 rr =>
    have hlen := Paired.length rr
    rw [List.length_cons] at hz
    rw [assign_Tuple]
    refine wpAny_bind (wpAny_standAt ?_)
    unfold unpack
    rw [hs]
    refine wpAny_bind (wpAny_holding (unpack_listS (xs := [u1]) (ys := us) (I.ok.hd hc) ht.isList (by show 1 + us.length ≤ sizeLine; omega) fun g1 tk kp => ?_))
    obtain ⟨hn, I1⟩ := laidG (o := .lst xs) (ob := { cls := .type "list", data := .seq us.toArray }) (tk := tk) I kp ⟨by omega, us, 0, rr, Heap.get?_push_size _ rfl⟩
    refine assignInOrder_cons (thn (h1.run pins _ σ _ x u1 _ I1 r1 (hw _ hn)) fun _ s1 ⟨σ1, H1, J1, q1⟩ => ?_)
    exact assignInOrder_cons (thn (h2.run pins s1 σ1 H1 (.ref g1.objs.size) _ Q J1 rfl q1) fun _ s2 ⟨σ2, H2, J2, q2⟩ => assignInOrder_nil ⟨σ2, H2, J2, q2⟩)
theorem pg_starL2 {e1 e2 e3 : Expr} {g g' g2 : TG} {k : Nat} {sp pos : Pos} (hc : X.calm = true) (h1 : PG X e1 g) (h2 : PG X e2 g') (h3 : PG X e3 g2)
    (hs : assignEach [e1, e2, .Starred e3 sp] X.env = [(false, assign e1 X.env), (false, assign e2 X.env), (true, assign e3 X.env)] := by rfl) : PG X (.Tuple [e1, e2, .Starred e3 sp] k pos) (gStarL2 X.K g g' g2) := by
  refine ⟨fun pins s σ H v u Q I r hw => ?_⟩
  obtain ⟨a, x, y, xs, rfl, hq, hw⟩ := hw
  cases r
  obtain ⟨its, rv, ht, hz⟩ := I.list hq
  cases rv with
  | @cons _ u1 _ us r1 rr =>
    cases rr with
    | @cons _ u2 _ us r2 rr =>
      have hlen := Paired.length rr
      rw [List.length_cons, List.length_cons] at hz
      rw [assign_Tuple]
      refine wpAny_bind (wpAny_standAt ?_)
      unfold unpack
      rw [hs]
      refine wpAny_bind (wpAny_holding (unpack_listS (xs := [u1, u2]) (ys := us) (I.ok.hd hc) ht.isList (by show 2 + us.length ≤ sizeLine; omega) fun g1 tk kp => ?_))
      obtain ⟨hn, I1⟩ := laidG (o := .lst xs) (ob := { cls := .type "list", data := .seq us.toArray }) (tk := tk) I kp ⟨by omega, us, 0, rr, Heap.get?_push_size _ rfl⟩
      refine assignInOrder_cons (thn (h1.run pins _ σ _ x u1 _ I1 r1 (hw _ hn)) fun _ s1 ⟨σ1, H1, J1, q1⟩ => ?_)
      refine assignInOrder_cons (thn (h2.run pins s1 σ1 H1 y u2 _ J1 r2 q1) fun _ s2 ⟨σ2, H2, J2, q2⟩ => ?_)
      exact assignInOrder_cons (thn (h3.run pins s2 σ2 H2 (.ref g1.objs.size) _ Q J2 rfl q2) fun _ s3 ⟨σ3, H3, J3, q3⟩ => assignInOrder_nil ⟨σ3, H3, J3, q3⟩)
end
end Ka
/-! texts of low signs, lists of them compared; a dict against an empty one; marks and numbers -/
namespace Ka
open PySem PySem.Spec PyProof.Rows L2 Ty
/-- a text of low signs, of few signs -/
structure Tx (x : Str) : Prop where
  few : x.length ≤ 100000
  low : ∀ c, c ∈ x.cps.toList → c < 128
theorem Tx.ok {x : Str} (t : Tx x) : (PyData.str x).canLay0 = true := by
  show x.cps.all (· < 0x110000) = true
  rw [← Array.all_toList, List.all_eq_true]
  intro c hc
  have := t.low c hc
  exact decide_eq_true (by omega)
theorem lay_strs : ∀ {l : List Str}, (∀ x, x ∈ l → Tx x) → PyData.canLayAll0 (l.map PyData.str) = true
  | [], _ => rfl
  | x :: l, h => by
    show ((PyData.str x).canLay0 && PyData.canLayAll0 (l.map PyData.str)) = true
    rw [(h x List.mem_cons_self).ok, lay_strs fun y hy => h y (List.mem_cons_of_mem _ hy)]
    rfl
theorem depth_strs : ∀ {l : List Str}, PyData.depthAll (l.map PyData.str) = 0
  | [] => rfl
  | x :: l => by
    show max 0 (PyData.depthAll (l.map PyData.str)) = 0
    rw [depth_strs]; rfl
theorem shaped_strs {l : List Str} (h : ∀ x, x ∈ l → Tx x) : SeqAt.shaped (.list (l.map PyData.str)) = true := by
  show (PyData.canLayAll0 (l.map PyData.str) && decide (PyData.depthAll (l.map PyData.str) + 1 ≤ 64)) = true
  rw [lay_strs h, depth_strs]
  rfl
theorem beq_str (x k : Str) : (x == k) = decide (x = k) := by
  by_cases h : x = k
  · rw [h]; simp
  · rw [decide_eq_false h]
    cases q : x == k with
    | false => rfl
    | true => exact absurd (eq_of_beq q) h
theorem eqv_strs : ∀ l m : List Str, PyData.eqv (.list (l.map PyData.str)) (.list (m.map PyData.str)) = decide (l = m)
  | [], [] => rfl
  | [], _ :: _ => rfl
  | _ :: _, [] => rfl
  | x :: l, y :: m => by
    show ((x == y) && PyData.eqvAll (l.map PyData.str) (m.map PyData.str)) = _
    have ih : PyData.eqvAll (l.map PyData.str) (m.map PyData.str) = decide (l = m) := eqv_strs l m
    rw [ih, beq_str]
    by_cases h1 : x = y
    · by_cases h2 : l = m
      · rw [h1, h2]; simp
      · rw [decide_eq_false h2, decide_eq_false (fun e => h2 (List.cons.inj e).2), Bool.and_false]
    · rw [decide_eq_false h1, decide_eq_false (fun e => h1 (List.cons.inj e).1), Bool.false_and]
theorem dp_strs {K : PySem.W.Frag} {H : Hp} : ∀ l : List Str, DpAll K H (l.map V.str) (l.map PyData.str)
  | [] => .nil
  | x :: l => .cons (.str x) (dp_strs l)
def rEqSs (K : PySem.W.Frag) (ne : Bool) : R2 := fun x y H Q => ∃ (a b : Addr) (l m : List Str), x = .ref a ∧ y = .ref b ∧ SqL K H a (l.map V.str) ∧ SqL K H b (m.map V.str) ∧ (∀ z, z ∈ l → Tx z) ∧ (∀ z, z ∈ m → Tx z) ∧ Q (.bl (if ne then !decide (l = m) else decide (l = m))) H
section
variable {X : Cx}
theorem op_eqSs (hu : X.A.units + 64 < cLine) : OpR X (compareOp .Eq) (rEqSs X.K false) := by
  intro pins s σ H x y v u Q I rx ry h
  obtain ⟨a, b, l, m, rfl, rfl, hl, hm, t1, t2, q⟩ := h
  refine op_eqD hu pins s σ H _ _ v u Q I rx ry ⟨_, _, .lst hl (dp_strs l), .lst hm (dp_strs m), shaped_strs t1, shaped_strs t2, ?_⟩
  rw [eqv_strs]
  exact q
theorem op_neSs (hu : X.A.units + 64 < cLine) : OpR X (compareOp .NotEq) (rEqSs X.K true) := by
  intro pins s σ H x y v u Q I rx ry h
  obtain ⟨a, b, l, m, rfl, rfl, hl, hm, t1, t2, q⟩ := h
  refine op_neD hu pins s σ H _ _ v u Q I rx ry ⟨_, _, .lst hl (dp_strs l), .lst hm (dp_strs m), shaped_strs t1, shaped_strs t2, ?_⟩
  rw [eqv_strs]
  exact q
/-- a dict against an empty one -/
def rEqD0 : R2 := fun x y H Q => ∃ a b ks, x = .ref a ∧ y = .ref b ∧ H a = some (.dK ks) ∧ H b = some (.dK []) ∧ Q (.bl ks.isEmpty) H
theorem op_eqD0 (hu : X.A.units < cLine) : OpR X (compareOp .Eq) rEqD0 := by
  intro pins s σ H x y v u Q I rx ry h
  obtain ⟨a, b, ks, rfl, rfl, ea, eb, q⟩ := h
  obtain rfl : v = Value.ref a := rx
  obtain rfl : u = Value.ref b := ry
  obtain ⟨_, ya, va, ra, da⟩ := (show ObjOk X.prog X.w H s.heap a (.dK ks) from I.hok a _ ea)
  obtain ⟨_, yb, vb, rb, db⟩ := (show ObjOk X.prog X.w H s.heap b (.dK []) from I.hok b _ eb)
  have hb : vb.length = 0 := by rw [← rb.length]; rfl
  have hab : ks.length = va.length := ra.length
  refine PySem.W.keq_eq (knd := mixKind X.prog X.w) (r := true) ya yb da db hu (fun hl => hits_all rb (ks := []) ?_ (fun p h => absurd h List.not_mem_nil)) (fin_bl I q ?_)
  · rw [hb] at hl
    have e : va = [] := List.eq_nil_of_length_eq_zero hl
    rw [e]
    exact Paired.nil
  · rw [hb, Bool.and_true]
    cases ks with
    | nil =>
      rw [← hab]; rfl
    | cons k r =>
      rw [← hab]; rfl
end
/-! ### marks and numbers -/
def letters : List Nat := List.range' 97 26
def figures : List Nat := List.range' 48 10
def lettS : Str := ⟨letters.toArray⟩
def figS : Str := ⟨figures.toArray⟩
def kept : List Str := ["word", "skip", "rule", "top", "bar"]
def nameP (x : Str) : Bool := !decide (x ∈ kept) && (decide (1 ≤ x.length) && (decide (x.length ≤ 8) && x.cps.toList.all fun c => decide (c ∈ letters)))
def markP (x : Str) : Bool := decide (x = ".") || nameP x
def numP (x : Str) : Bool := decide (1 ≤ x.length) && (decide (x.length ≤ 4) && ((x.cps.toList.all fun c => decide (c ∈ figures)) && (decide (x = "0") || !decide (x.cps.toList.head? = some 48))))
/-- a number's figures -/
def nS (n : Nat) : Str := PySem.Str.ofString (toString (n : Int))
def digL (n : Nat) : List Nat := (Nat.toDigits 10 n).map Char.toNat
theorem nS_signs (n : Nat) : (nS n).cps.toList = digL n := PySem.W.KIN.signs_num n
theorem dig1 : ∀ a : Fin 10, digL a.1 = [48 + a.1] := by decide +kernel
theorem dig2 : ∀ a b : Fin 10, a ≠ 0 → digL (10 * a.1 + b.1) = [48 + a.1, 48 + b.1] := by decide +kernel
theorem dig3 : ∀ a b c : Fin 10, a ≠ 0 → digL (100 * a.1 + 10 * b.1 + c.1) = [48 + a.1, 48 + b.1, 48 + c.1] := by decide +kernel
theorem dig4 : ∀ a b c d : Fin 10, a ≠ 0 → digL (1000 * a.1 + 100 * b.1 + 10 * c.1 + d.1) = [48 + a.1, 48 + b.1, 48 + c.1, 48 + d.1] := by decide +kernel
theorem nS_inj {n m : Nat} (hn : n < 10 ^ 10) (hm : m < 10 ^ 10) (h : nS n = nS m) : n = m := by
  have a := PySem.W.KIN.num_reads (n := (n : Int)) (by omega) (by omega)
  have b := PySem.W.KIN.num_reads (n := (m : Int)) (by omega) (by omega)
  have h' : PySem.Str.ofString (toString (n : Int)) = PySem.Str.ofString (toString (m : Int)) := h
  rw [h', b] at a
  injection a with a
  omega
end Ka
/-! tables as texts: plain functions, and that they undo each other -/
namespace Ka
open PySem PySem.Spec PyProof.Rows L2 Ty
theorem fig_mem {c : Nat} : c ∈ figures ↔ 48 ≤ c ∧ c ≤ 57 := by
  unfold figures
  rw [List.mem_range'_1]
  omega
theorem let_mem {c : Nat} : c ∈ letters ↔ 97 ≤ c ∧ c ≤ 122 := by
  unfold letters
  rw [List.mem_range'_1]
  omega
theorem str_ext {x y : Str} (h : x.cps.toList = y.cps.toList) : x = y := str_of_list h
theorem zero_list : ("0" : Str).cps.toList = [48] := by decide +kernel
/-- a number's figures: of one to four signs, without a needless nought ahead -/
theorem nS_cases {n : Nat} (h : n < 10000) : (∃ a : Fin 10, n = a.1) ∨ (∃ a b : Fin 10, a ≠ 0 ∧ n = 10 * a.1 + b.1) ∨ (∃ a b c : Fin 10, a ≠ 0 ∧ n = 100 * a.1 + 10 * b.1 + c.1) ∨ ∃ a b c d : Fin 10, a ≠ 0 ∧ n = 1000 * a.1 + 100 * b.1 + 10 * c.1 + d.1 := by
  have nz : ∀ {k : Nat} (hk : k < 10), 0 < k → (⟨k, hk⟩ : Fin 10) ≠ 0 := fun hk h0 e => by
    have := congrArg Fin.val e
    simp at this
    omega
  by_cases h1 : n < 10
  · exact .inl ⟨⟨n, h1⟩, rfl⟩
  by_cases h2 : n < 100
  · have q1 : n / 10 < 10 := by omega
    have q2 : n % 10 < 10 := by omega
    exact .inr (.inl ⟨⟨n / 10, q1⟩, ⟨n % 10, q2⟩, nz q1 (by omega), by show n = 10 * (n / 10) + n % 10; omega⟩)
  by_cases h3 : n < 1000
  · have q1 : n / 100 < 10 := by omega
    have q2 : n / 10 % 10 < 10 := by omega
    have q3 : n % 10 < 10 := by omega
    exact .inr (.inr (.inl ⟨⟨n / 100, q1⟩, ⟨n / 10 % 10, q2⟩, ⟨n % 10, q3⟩, nz q1 (by omega), by show n = 100 * (n / 100) + 10 * (n / 10 % 10) + n % 10; omega⟩))
  · have q1 : n / 1000 < 10 := by omega
    have q2 : n / 100 % 10 < 10 := by omega
    have q3 : n / 10 % 10 < 10 := by omega
    have q4 : n % 10 < 10 := by omega
    exact .inr (.inr (.inr ⟨⟨n / 1000, q1⟩, ⟨n / 100 % 10, q2⟩, ⟨n / 10 % 10, q3⟩, ⟨n % 10, q4⟩, nz q1 (by omega), by show n = 1000 * (n / 1000) + 100 * (n / 100 % 10) + 10 * (n / 10 % 10) + n % 10; omega⟩))
theorem numP_list {x : Str} : numP x = true ↔ (1 ≤ x.cps.toList.length ∧ x.cps.toList.length ≤ 4 ∧ (∀ c, c ∈ x.cps.toList → 48 ≤ c ∧ c ≤ 57) ∧ (x.cps.toList = [48] ∨ x.cps.toList.head? ≠ some 48)) := by
  have hl : x.cps.toList.length = x.length := Array.length_toList
  have h0 : x = "0" ↔ x.cps.toList = [48] := ⟨fun e => by rw [e]; exact zero_list, fun e => str_ext (e.trans zero_list.symm)⟩
  unfold numP
  simp only [Bool.and_eq_true, Bool.or_eq_true, decide_eq_true_eq, Bool.not_eq_true', decide_eq_false_iff_not, List.all_eq_true, fig_mem, hl, h0]
  
theorem digL_ok {n : Nat} (h : n < 10000) : 1 ≤ (digL n).length ∧ (digL n).length ≤ 4 ∧ (∀ c, c ∈ digL n → 48 ≤ c ∧ c ≤ 57) ∧ (digL n = [48] ∨ (digL n).head? ≠ some 48) := by
  rcases nS_cases h with ⟨a, e⟩ | ⟨a, b, n0, e⟩ | ⟨a, b, c, n0, e⟩ | ⟨a, b, c, d, n0, e⟩
  · rw [e, dig1]
    have := a.2
    refine ⟨by simp, by simp, fun c hc => ?_, ?_⟩
    · rw [List.mem_singleton.mp hc]; omega
    · by_cases z : a.1 = 0
      · left; rw [z]
      · right; simp; exact fun q => z (by rw [q]; rfl)
  all_goals
    have na : 0 < a.1 := Nat.pos_of_ne_zero fun z => n0 (Fin.ext z)
    have ha := a.2
    have hb := b.2
  · rw [e, dig2 _ _ n0]
    refine ⟨by simp, by simp, fun c hc => ?_, .inr (by simp; omega)⟩
    simp only [List.mem_cons, List.not_mem_nil, or_false] at hc
    rcases hc with r | r <;> rw [r] <;> omega
  · have hc := c.2
    rw [e, dig3 _ _ _ n0]
    refine ⟨by simp, by simp, fun c hc => ?_, .inr (by simp; omega)⟩
    simp only [List.mem_cons, List.not_mem_nil, or_false] at hc
    rcases hc with r | r | r <;> rw [r] <;> omega
  · have hc := c.2
    have hd := d.2
    rw [e, dig4 _ _ _ _ n0]
    refine ⟨by simp, by simp, fun c hc => ?_, .inr (by simp; omega)⟩
    simp only [List.mem_cons, List.not_mem_nil, or_false] at hc
    rcases hc with r | r | r | r <;> rw [r] <;> omega
theorem numP_nS {n : Nat} (h : n < 10000) : numP (nS n) = true := by
  rw [numP_list, nS_signs]
  exact digL_ok h
theorem nS_ex {x : Str} (h : numP x = true) : ∃ n, n < 10000 ∧ x = nS n := by
  rw [numP_list] at h
  obtain ⟨h1, h2, h3, h4⟩ := h
  have fin : ∀ c, 48 ≤ c ∧ c ≤ 57 → ∃ a : Fin 10, c = 48 + a.1 := fun c hc => ⟨⟨c - 48, by omega⟩, by show c = 48 + (c - 48); omega⟩
  have done : ∀ n, n < 10000 → x.cps.toList = digL n → ∃ n, n < 10000 ∧ x = nS n := fun n hn e => ⟨n, hn, str_ext (e.trans (nS_signs n).symm)⟩
  match e : x.cps.toList, h1, h2, h3, h4 with
  | [], h1, _, _, _ => exact absurd h1 (by decide)
  | [c1], _, _, h3, _ =>
    obtain ⟨a, rfl⟩ := fin c1 (h3 c1 (by simp))
    exact done a.1 (by have := a.2; omega) (e.trans (dig1 a).symm)
  | [c1, c2], _, _, h3, h4 =>
    obtain ⟨a, rfl⟩ := fin c1 (h3 c1 (by simp))
    obtain ⟨b, rfl⟩ := fin c2 (h3 c2 (by simp))
    have n0 : a ≠ 0 := fun z => by subst z; simp at h4
    exact done (10 * a.1 + b.1) (by have := a.2; have := b.2; omega) (e.trans (dig2 a b n0).symm)
  | [c1, c2, c3], _, _, h3, h4 =>
    obtain ⟨a, rfl⟩ := fin c1 (h3 c1 (by simp))
    obtain ⟨b, rfl⟩ := fin c2 (h3 c2 (by simp))
    obtain ⟨c, rfl⟩ := fin c3 (h3 c3 (by simp))
    have n0 : a ≠ 0 := fun z => by subst z; simp at h4
    exact done (100 * a.1 + 10 * b.1 + c.1) (by have := a.2; have := b.2; have := c.2; omega) (e.trans (dig3 a b c n0).symm)
  | [c1, c2, c3, c4], _, _, h3, h4 =>
    obtain ⟨a, rfl⟩ := fin c1 (h3 c1 (by simp))
    obtain ⟨b, rfl⟩ := fin c2 (h3 c2 (by simp))
    obtain ⟨c, rfl⟩ := fin c3 (h3 c3 (by simp))
    obtain ⟨d, rfl⟩ := fin c4 (h3 c4 (by simp))
    have n0 : a ≠ 0 := fun z => by subst z; simp at h4
    exact done (1000 * a.1 + 100 * b.1 + 10 * c.1 + d.1) (by have := a.2; have := b.2; have := c.2; have := d.2; omega) (e.trans (dig4 a b c d n0).symm)
  | _ :: _ :: _ :: _ :: _ :: _, _, h2, _, _ => simp at h2
def numV (x : Str) : Nat := ((PySem.intText? x).getD 0).toNat
theorem read_nS {n : Nat} (h : n < 10000) : PySem.intText? (nS n) = some (n : Int) := PySem.W.KIN.num_reads (n := (n : Int)) (by omega) (by omega)
theorem numV_nS {n : Nat} (h : n < 10000) : numV (nS n) = n := by
  unfold numV
  rw [read_nS h]
  rfl
theorem numV_of {x : Str} (h : numP x = true) : PySem.intText? x = some (numV x : Int) ∧ nS (numV x) = x ∧ numV x < 10000 := by
  obtain ⟨n, hn, rfl⟩ := nS_ex h
  rw [numV_nS hn]
  exact ⟨read_nS hn, rfl, hn⟩
/-! ### tables -/
inductive Deed
  | go (n : Nat)
  | by (a : Str) (n : Nat) (b : Str)
  | done
abbrev Item := Str × Nat × List Str
abbrev State := List Item × List (Str × Deed)
abbrev Table := List State
def deedW : Deed → List Str
  | .go n => ["go", nS n]
  | .by a n b => ["by", a, nS n, b]
  | .done => ["done"]
def itemW (i : Item) : List Str := "item" :: i.1 :: nS i.2.1 :: i.2.2
def onW (p : Str × Deed) : List Str := "on" :: p.1 :: deedW p.2
def stateW (k : Nat) : List Str := ["state", nS k]
def row (ws : List Str) : Str := Txt.join " " ws
def stateRows (k : Nat) (st : State) : List Str := row (stateW k) :: (st.1.map fun i => row (itemW i)) ++ st.2.map fun p => row (onW p)
def rowsFrom : Nat → Table → List Str
  | _, [] => []
  | k, st :: T => stateRows k st ++ rowsFrom (k + 1) T
def textT (T : Table) : Str := Txt.join "\n" (rowsFrom 0 T)
def ins (p : Str × Deed) : List (Str × Deed) → List (Str × Deed)
  | [] => [p]
  | q :: r => if ltS q.1 p.1 = true then q :: ins p r else p :: q :: r
def sortD : List (Str × Deed) → List (Str × Deed)
  | [] => []
  | p :: r => ins p (sortD r)
def sortT (T : Table) : Table := T.map fun st => (st.1, sortD st.2)
/-! ### reading -/
def itemOf : List Str → Option Item
  | l :: d :: as => if (markP l && numP d && as.all markP) = true then some (l, numV d, as) else none
  | _ => none
def deedOf (ws : List Str) : Option Deed :=
  if ws = ([("done" : Str)]) then some .done else
  match ws with
  | [w, n] => if (decide (w = "go") && numP n) = true then some (.go (numV n)) else none
  | [w, a, n, b] => if (decide (w = "by") && markP a && numP n && markP b) = true then some (.by a (numV n) b) else none
  | _ => none
def onOf : List Str → List (Str × Deed) → Option (Str × Deed)
  | k :: ws, ds => if (markP k && !ds.any fun p => !ltS p.1 k) = true then (deedOf ws).map fun d => (k, d) else none
  | [], _ => none
def stepO : Table → Str → List Str → Option Table
  | [], _, _ => none
  | (is, ds) :: R', w, ws =>
    if w = "item" then (if ds = [] then (itemOf ws).map fun i => (is ++ [i], ds) :: R' else none)
    else if w = "on" then (onOf ws ds).map fun p => (is, ds ++ [p]) :: R'
    else none
theorem stepO_cons {is : List Item} {ds : List (Str × Deed)} {R' : Table} {w : Str} {ws : List Str} : stepO ((is, ds) :: R') w ws =
    (if w = "item" then (if ds = [] then (itemOf ws).map fun i => (is ++ [i], ds) :: R' else none)
    else if w = "on" then (onOf ws ds).map fun p => (is, ds ++ [p]) :: R'
    else none) := rfl
def stepW (R : Table) (w : Str) (ws : List Str) : Option Table :=
  if w = "state" then (if ws = [nS R.length] then some (([], []) :: R) else none) else stepO R w ws
/-- one more row; what was read is kept backwards -/
def stepR (R : Table) (r : Str) : Option Table :=
  match Txt.split r " " with
  | [] => none
  | w :: ws => stepW R w ws
def readR : List Str → Nat → Table → Sum Table Nat
  | [], _, R => .inl R.reverse
  | r :: rs, n, R => match stepR R r with
    | none => .inr n
    | some R' => readR rs (n + 1) R'
def readT (x : Str) : Sum Table Nat := readR (Txt.split x "\n") 0 []
end Ka
namespace Ka
open PySem PySem.Spec PyProof.Rows L2 Ty
/-- a word of a row -/
def Wd (x : Str) : Prop := ∀ c, c ∈ x.cps.toList → 33 ≤ c ∧ c < 128
theorem Wd.of {x : Str} (h : (x.cps.toList.all fun c => decide (33 ≤ c) && decide (c < 128)) = true) : Wd x := fun c hc => by
  have := List.all_eq_true.mp h c hc
  simpa using this
theorem wd_mark {x : Str} (h : markP x = true) : Wd x := by
  unfold markP at h
  rw [Bool.or_eq_true] at h
  rcases h with h | h
  · rw [of_decide_eq_true h]
    exact Wd.of (by decide +kernel)
  · unfold nameP at h
    simp only [Bool.and_eq_true, List.all_eq_true, decide_eq_true_eq] at h
    intro c hc
    have := let_mem.mp (h.2.2.2 c hc)
    omega
theorem wd_nS' (n : Nat) : Wd (nS n) := fun c hc => by
  by_cases h : c = 45 ∨ ¬ (c < 48 ∨ 57 < c)
  · omega
  · exact absurd hc (PyProof.Rows.int_text_free' c (by omega) (n : Int))
theorem wd_numP {x : Str} (h : numP x = true) : Wd x := fun c hc => by
  have := (numP_list.mp h).2.2.1 c hc
  omega
theorem mark_ne {x : Str} (h : markP x = true) : 1 ≤ x.length ∧ x.length ≤ 8 := by
  unfold markP at h
  rw [Bool.or_eq_true] at h
  rcases h with h | h
  · rw [of_decide_eq_true h]
    exact ⟨by decide +kernel, by decide +kernel⟩
  · unfold nameP at h
    simp only [Bool.and_eq_true, List.all_eq_true, decide_eq_true_eq] at h
    exact ⟨h.2.1, h.2.2.1⟩
def VI (i : Item) : Prop := markP i.1 = true ∧ i.2.1 < 10000 ∧ ∀ a, a ∈ i.2.2 → markP a = true
def VD : Deed → Prop
  | .go n => n < 10000
  | .by a n b => markP a = true ∧ n < 10000 ∧ markP b = true
  | .done => True
def Asc (ds : List (Str × Deed)) : Prop := ds.Pairwise fun p q => ltS p.1 q.1 = true
structure VS (st : State) : Prop where
  items : ∀ i, i ∈ st.1 → VI i
  deeds : ∀ p, p ∈ st.2 → markP p.1 = true ∧ VD p.2
  nodup : (st.2.map (·.1)).Nodup
def VT (T : Table) : Prop := ∀ st, st ∈ T → VS st
def AT (T : Table) : Prop := ∀ st, st ∈ T → Asc st.2
theorem wd_lits : Wd "item" ∧ Wd "on" ∧ Wd "state" ∧ Wd "go" ∧ Wd "by" ∧ Wd "done" := ⟨Wd.of (by decide +kernel), Wd.of (by decide +kernel), Wd.of (by decide +kernel), Wd.of (by decide +kernel), Wd.of (by decide +kernel), Wd.of (by decide +kernel)⟩
theorem wd_item {i : Item} (h : VI i) : ∀ w, w ∈ itemW i → Wd w := fun w hw => by
  unfold itemW at hw
  rcases List.mem_cons.mp hw with e | hw
  · rw [e]; exact wd_lits.1
  rcases List.mem_cons.mp hw with e | hw
  · rw [e]; exact wd_mark h.1
  rcases List.mem_cons.mp hw with e | hw
  · rw [e]; exact wd_nS' _
  · exact wd_mark (h.2.2 w hw)
theorem wd_deed {d : Deed} (h : VD d) : ∀ w, w ∈ deedW d → Wd w := fun w hw => by
  cases d with
  | go n =>
    simp only [deedW, List.mem_cons, List.not_mem_nil, or_false] at hw
    rcases hw with e | e <;> rw [e]
    · exact wd_lits.2.2.2.1
    · exact wd_nS' _
  | «by» a n b =>
    simp only [deedW, List.mem_cons, List.not_mem_nil, or_false] at hw
    rcases hw with e | e | e | e <;> rw [e]
    · exact wd_lits.2.2.2.2.1
    · exact wd_mark h.1
    · exact wd_nS' _
    · exact wd_mark h.2.2
  | done =>
    simp only [deedW, List.mem_cons, List.not_mem_nil, or_false] at hw
    rw [hw]
    exact wd_lits.2.2.2.2.2
theorem wd_on {p : Str × Deed} (h : markP p.1 = true ∧ VD p.2) : ∀ w, w ∈ onW p → Wd w := fun w hw => by
  unfold onW at hw
  rcases List.mem_cons.mp hw with e | hw
  · rw [e]; exact wd_lits.2.1
  rcases List.mem_cons.mp hw with e | hw
  · rw [e]; exact wd_mark h.1
  · exact wd_deed h.2 w hw
theorem wd_state (k : Nat) : ∀ w, w ∈ stateW k → Wd w := fun w hw => by
  simp only [stateW, List.mem_cons, List.not_mem_nil, or_false] at hw
  rcases hw with e | e <;> rw [e]
  · exact wd_lits.2.2.1
  · exact wd_nS' _
theorem tl_is (x : Str) : TL.tl x = x.cps.toList := rfl
theorem tl_blank : TL.tl " " = [32] := by decide +kernel
theorem tl_feed : TL.tl "\n" = [10] := by decide +kernel
theorem split_row {ws : List Str} (h0 : ws ≠ []) (h : ∀ w, w ∈ ws → Wd w) : Txt.split (row ws) " " = ws :=
  TL.split_join (s := 32) (S := []) tl_blank (by decide +kernel) h0 fun p hp hm => by
    have := h p hp 32 hm
    omega
theorem row_split (r : Str) : row (Txt.split r " ") = r := by
  unfold row
  rw [TL.join_eq]
  exact StrLaws.join_split r " "
theorem mem_join {y : Str} {c : Nat} : ∀ {l : List Str}, c ∈ (Str.join y l).cps.toList → c ∈ y.cps.toList ∨ ∃ p, p ∈ l ∧ c ∈ p.cps.toList
  | [], h => by
    exact absurd h (by show c ∉ (Str.empty).cps.toList; simp [Str.empty])
  | [x], h => .inr ⟨x, List.mem_singleton.mpr rfl, h⟩
  | x :: z :: r, h => by
    have h' : c ∈ (x ++ y ++ Str.join y (z :: r)).cps.toList := h
    rw [Str.cps_append, Array.toList_append, Str.cps_append, Array.toList_append, List.mem_append, List.mem_append] at h'
    rcases h' with (h' | h') | h'
    · exact .inr ⟨x, List.mem_cons_self, h'⟩
    · exact .inl h'
    · rcases mem_join h' with q | ⟨p, hp, q⟩
      · exact .inl q
      · exact .inr ⟨p, List.mem_cons_of_mem _ hp, q⟩
theorem row_low {ws : List Str} (h : ∀ w, w ∈ ws → Wd w) : ∀ c, c ∈ (row ws).cps.toList → 32 ≤ c ∧ c < 128 := fun c hc => by
  unfold row at hc
  rw [TL.join_eq] at hc
  rcases mem_join hc with q | ⟨p, hp, q⟩
  · have e : (" " : Str).cps.toList = [32] := tl_blank
    rw [e] at q
    rw [List.mem_singleton.mp q]
    omega
  · have := h p hp c q
    omega
theorem split_text {l : List Str} (h0 : l ≠ []) (h : ∀ r, r ∈ l → 10 ∉ r.cps.toList) : Txt.split (Txt.join "\n" l) "\n" = l :=
  TL.split_join (s := 10) (S := []) tl_feed (by decide +kernel) h0 h
theorem text_split (x : Str) : Txt.join "\n" (Txt.split x "\n") = x := by
  rw [TL.join_eq]
  exact StrLaws.join_split x "\n"
/-! ### one row -/
theorem numV_numP {n : Nat} (h : n < 10000) : numP (nS n) = true ∧ numV (nS n) = n := ⟨numP_nS h, numV_nS h⟩
theorem itemOf_w {i : Item} (h : VI i) : itemOf (i.1 :: nS i.2.1 :: i.2.2) = some i := by
  obtain ⟨l, d, as⟩ := i
  obtain ⟨h1, h2, h3⟩ := h
  show (if (markP l && numP (nS d) && as.all markP) = true then some (l, numV (nS d), as) else none) = _
  have h1' : markP l = true := h1
  rw [h1', numP_nS h2, numV_nS h2, if_pos]
  rw [List.all_eq_true.mpr h3]
  rfl
theorem lit_ne : ("go" : Str) ≠ "done" ∧ ("by" : Str) ≠ "done" ∧ ("item" : Str) ≠ "state" ∧ ("on" : Str) ≠ "state" ∧ ("on" : Str) ≠ "item" := by decide +kernel
theorem deedOf_w {d : Deed} (h : VD d) : deedOf (deedW d) = some d := by
  cases d with
  | go n =>
    have h' : n < 10000 := h
    unfold deedOf deedW
    rw [if_neg (fun e => by cases e)]
    show (if (decide (("go" : Str) = "go") && numP (nS n)) = true then some (Deed.go (numV (nS n))) else none) = _
    rw [numP_nS h', numV_nS h', decide_eq_true rfl]
    rfl
  | «by» a n b =>
    obtain ⟨h1, h2, h3⟩ := h
    unfold deedOf deedW
    rw [if_neg (fun e => by cases e)]
    show (if (decide (("by" : Str) = "by") && markP a && numP (nS n) && markP b) = true then some (Deed.by a (numV (nS n)) b) else none) = _
    rw [numP_nS h2, numV_nS h2, decide_eq_true rfl, h1, h3]
    rfl
  | done =>
    unfold deedOf deedW
    rw [if_pos rfl]
theorem onOf_w {p : Str × Deed} {ds : List (Str × Deed)} (h : markP p.1 = true ∧ VD p.2) (hs : ∀ q, q ∈ ds → ltS q.1 p.1 = true) : onOf (p.1 :: deedW p.2) ds = some p := by
  show (if (markP p.1 && !ds.any fun q => !ltS q.1 p.1) = true then (deedOf (deedW p.2)).map fun d => (p.1, d) else none) = _
  have e : (ds.any fun q => !ltS q.1 p.1) = false := by
    rw [List.any_eq_false]
    intro q hq
    rw [hs q hq]
    simp
  rw [e, h.1, deedOf_w h.2]
  rfl
theorem step_state (R : Table) : stepR R (row (stateW R.length)) = some (([], []) :: R) := by
  unfold stepR
  rw [split_row (by simp [stateW]) (wd_state _)]
  show (if ("state" : Str) = "state" then _ else _) = _
  rw [if_pos rfl, if_pos rfl]
theorem step_item {R : Table} {is : List Item} {i : Item} (h : VI i) : stepR ((is, []) :: R) (row (itemW i)) = some ((is ++ [i], []) :: R) := by
  unfold stepR
  rw [split_row (by simp [itemW]) (wd_item h)]
  show (if ("item" : Str) = "state" then _ else _) = _
  rw [if_neg lit_ne.2.2.1]
  rw [stepO_cons, if_pos rfl, if_pos rfl, itemOf_w h]
  rfl
theorem step_on {R : Table} {is : List Item} {ds : List (Str × Deed)} {p : Str × Deed} (h : markP p.1 = true ∧ VD p.2) (hs : ∀ q, q ∈ ds → ltS q.1 p.1 = true) : stepR ((is, ds) :: R) (row (onW p)) = some ((is, ds ++ [p]) :: R) := by
  unfold stepR
  rw [split_row (by simp [onW]) (wd_on h)]
  show (if ("on" : Str) = "state" then _ else _) = _
  rw [if_neg lit_ne.2.2.2.1]
  rw [stepO_cons, if_neg lit_ne.2.2.2.2, if_pos rfl, onOf_w h hs]
  rfl
theorem read_cons {r : Str} {rs : List Str} {n : Nat} {R R' : Table} (h : stepR R r = some R') : readR (r :: rs) n R = readR rs (n + 1) R' := by
  show (match stepR R r with | none => Sum.inr n | some R' => readR rs (n + 1) R') = _
  rw [h]
theorem read_items : ∀ (l : List Item) (is : List Item) (R : Table) (rest : List Str) (n : Nat), (∀ i, i ∈ l → VI i) →
    readR ((l.map fun i => row (itemW i)) ++ rest) n ((is, []) :: R) = readR rest (n + l.length) ((is ++ l, []) :: R)
  | [], is, R, rest, n, _ => by rw [List.append_nil]; rfl
  | i :: l, is, R, rest, n, h => by
    rw [List.map_cons, List.cons_append, read_cons (step_item (h i List.mem_cons_self)), read_items l (is ++ [i]) R rest (n + 1) fun j hj => h j (List.mem_cons_of_mem _ hj), List.append_assoc, List.length_cons]
    congr 1
    omega
theorem read_deeds : ∀ (l ds : List (Str × Deed)) (is : List Item) (R : Table) (rest : List Str) (n : Nat), (∀ p, p ∈ l → markP p.1 = true ∧ VD p.2) → Asc (ds ++ l) →
    readR ((l.map fun p => row (onW p)) ++ rest) n ((is, ds) :: R) = readR rest (n + l.length) ((is, ds ++ l) :: R)
  | [], ds, is, R, rest, n, _, _ => by rw [List.append_nil]; rfl
  | p :: l, ds, is, R, rest, n, h, ha => by
    have hs : ∀ q, q ∈ ds → ltS q.1 p.1 = true := fun q hq => (List.pairwise_append.mp ha).2.2 q hq p List.mem_cons_self
    have ha' : Asc ((ds ++ [p]) ++ l) := by rw [List.append_assoc]; exact ha
    rw [List.map_cons, List.cons_append, read_cons (step_on (h p List.mem_cons_self) hs), read_deeds l (ds ++ [p]) is R rest (n + 1) (fun j hj => h j (List.mem_cons_of_mem _ hj)) ha', List.append_assoc, List.length_cons]
    congr 1
    omega
theorem read_state {st : State} {R : Table} {rest : List Str} {n : Nat} (h : VS st) (ha : Asc st.2) : readR (stateRows R.length st ++ rest) n R = readR rest (n + (stateRows R.length st).length) (st :: R) := by
  obtain ⟨is, ds⟩ := st
  unfold stateRows
  have e1 := read_items is [] R ((ds.map fun p => row (onW p)) ++ rest) (n + 1) h.items
  have e2 := read_deeds ds [] is R rest (n + 1 + is.length) h.deeds ha
  rw [List.nil_append] at e1 e2
  rw [List.cons_append, List.cons_append, List.append_assoc, read_cons (step_state R), e1, e2]
  simp only [List.length_cons, List.length_append, List.length_map]
  congr 1
  omega
theorem read_from : ∀ (T R : Table) (rest : List Str) (n : Nat), VT T → AT T → readR (rowsFrom R.length T ++ rest) n R = readR rest (n + (rowsFrom R.length T).length) (T.reverse ++ R)
  | [], R, rest, n, _, _ => rfl
  | st :: T, R, rest, n, h, ha => by
    have h1 := h st List.mem_cons_self
    have a1 := ha st List.mem_cons_self
    show readR ((stateRows R.length st ++ rowsFrom (R.length + 1) T) ++ rest) n R = readR rest (n + (stateRows R.length st ++ rowsFrom (R.length + 1) T).length) _
    rw [List.append_assoc, read_state h1 a1]
    have ih := read_from T (st :: R) rest (n + (stateRows R.length st).length) (fun s hs => h s (List.mem_cons_of_mem _ hs)) fun s hs => ha s (List.mem_cons_of_mem _ hs)
    rw [List.length_cons] at ih
    rw [ih, List.length_append, List.reverse_cons, List.append_assoc]
    congr 1
    omega
theorem rows_ne {k : Nat} {st : State} {T : Table} : rowsFrom k (st :: T) ≠ [] := by
  show stateRows k st ++ _ ≠ []
  unfold stateRows
  simp
theorem rows_wd : ∀ (T : Table) (k : Nat), VT T → ∀ r, r ∈ rowsFrom k T → ∃ ws, r = row ws ∧ ws ≠ [] ∧ ∀ w, w ∈ ws → Wd w
  | [], k, _, r, hr => by cases hr
  | st :: T, k, h, r, hr => by
    have h1 := h st List.mem_cons_self
    have hr' : r ∈ stateRows k st ++ rowsFrom (k + 1) T := hr
    rcases List.mem_append.mp hr' with q | q
    · unfold stateRows at q
      rcases List.mem_append.mp q with q | q
      · rcases List.mem_cons.mp q with e | q
        · exact ⟨_, e, by simp [stateW], wd_state k⟩
        · obtain ⟨i, hi, e⟩ := List.mem_map.mp q
          exact ⟨_, e.symm, by simp [itemW], wd_item (h1.items i hi)⟩
      · obtain ⟨p, hp, e⟩ := List.mem_map.mp q
        exact ⟨_, e.symm, by simp [onW], wd_on (h1.deeds p hp)⟩
    · exact rows_wd T (k + 1) (fun s hs => h s (List.mem_cons_of_mem _ hs)) r q
/-- what is written is read -/
theorem read_text {T : Table} (h0 : T ≠ []) (h : VT T) (ha : AT T) : readT (textT T) = .inl T := by
  unfold readT textT
  rw [split_text]
  · have := read_from T [] [] 0 h ha
    rw [List.append_nil, List.append_nil] at this
    exact this.trans (congrArg Sum.inl (List.reverse_reverse T))
  · cases T with
    | nil => exact absurd rfl h0
    | cons st T => exact rows_ne
  · intro r hr hm
    obtain ⟨ws, e, _, hw⟩ := rows_wd T 0 h r hr
    rw [e] at hm
    have := row_low hw 10 hm
    omega
end Ka
namespace Ka
open PySem PySem.Spec PyProof.Rows L2 Ty
/-! ### sorting by key -/
theorem ins_perm (p : Str × Deed) : ∀ l, (ins p l).Perm (p :: l)
  | [] => .refl _
  | q :: r => by
    show (if ltS q.1 p.1 = true then q :: ins p r else p :: q :: r).Perm _
    split
    · exact ((ins_perm p r).cons q).trans (.swap p q r)
    · exact .refl _
theorem sortD_perm : ∀ l, (sortD l).Perm l
  | [] => .refl _
  | p :: r => (ins_perm p (sortD r)).trans ((sortD_perm r).cons p)
theorem ltS_trans {x y z : Str} (h1 : ltS x y = true) (h2 : ltS y z = true) : ltS x z = true :=
  decide_eq_true (List.lt_trans (of_decide_eq_true h1) (of_decide_eq_true h2))
theorem ltS_total {x y : Str} (h : x ≠ y) (h1 : ltS x y = false) : ltS y x = true := by
  cases q : ltS y x with
  | true => rfl
  | false => exact absurd (leS_anti q h1) h
theorem ltS_irrefl (x : Str) : ltS x x = false := decide_eq_false (List.lt_irrefl _)
theorem ins_asc {p : Str × Deed} : ∀ {l}, Asc l → p.1 ∉ l.map (·.1) → Asc (ins p l)
  | [], _, _ => List.pairwise_singleton _ _
  | q :: r, h, hn => by
    have hq := List.pairwise_cons.mp h
    rw [List.map_cons, List.mem_cons] at hn
    show Asc (if ltS q.1 p.1 = true then q :: ins p r else p :: q :: r)
    by_cases c : ltS q.1 p.1 = true
    · rw [if_pos c]
      refine List.pairwise_cons.mpr ⟨fun z hz => ?_, ins_asc hq.2 fun m => hn (.inr m)⟩
      rcases List.mem_cons.mp ((ins_perm p r).mem_iff.mp hz) with e | hz
      · rw [e]; exact c
      · exact hq.1 z hz
    · rw [if_neg c]
      have pq : ltS p.1 q.1 = true := ltS_total (fun e => hn (.inl e.symm)) (Bool.eq_false_iff.mpr c)
      refine List.pairwise_cons.mpr ⟨fun z hz => ?_, h⟩
      rcases List.mem_cons.mp hz with e | hz
      · rw [e]; exact pq
      · exact ltS_trans pq (hq.1 z hz)
theorem sortD_asc : ∀ {l : List (Str × Deed)}, (l.map (·.1)).Nodup → Asc (sortD l)
  | [], _ => List.Pairwise.nil
  | p :: r, h => by
    rw [List.map_cons, List.nodup_cons] at h
    exact ins_asc (sortD_asc h.2) fun m => h.1 (((sortD_perm r).map (·.1)).mem_iff.mp m)
theorem asc_nodup {l : List (Str × Deed)} (h : Asc l) : (l.map (·.1)).Nodup := by
  rw [List.Nodup, List.pairwise_map]
  exact h.imp fun {p q} e z => by
    rw [z, ltS_irrefl] at e
    cases e
theorem sortD_id : ∀ {l : List (Str × Deed)}, Asc l → sortD l = l
  | [], _ => rfl
  | p :: r, h => by
    have hq := List.pairwise_cons.mp h
    show ins p (sortD r) = p :: r
    rw [sortD_id hq.2]
    cases r with
    | nil => rfl
    | cons q r =>
      have : ltS p.1 q.1 = true := hq.1 q List.mem_cons_self
      show (if ltS q.1 p.1 = true then q :: ins p r else p :: q :: r) = _
      rw [ltS_asym this]
      rfl
theorem sorted_unique : ∀ {l m : List Str}, l.Perm m → l.Pairwise leS → m.Pairwise leS → l = m
  | [], m, h, _, _ => (List.Perm.nil_eq h)
  | x :: l, [], h, _, _ => absurd h.length_eq (by simp)
  | x :: l, y :: m, h, hl, hm => by
    have h1 := List.pairwise_cons.mp hl
    have h2 := List.pairwise_cons.mp hm
    have e : x = y := by
      rcases List.mem_cons.mp (h.mem_iff.mp List.mem_cons_self) with e | hx
      · exact e
      · rcases List.mem_cons.mp (h.mem_iff.mpr List.mem_cons_self) with e | hy
        · exact e.symm
        · exact leS_anti (h1.1 y hy) (h2.1 x hx)
    subst e
    rw [sorted_unique (List.Perm.cons_inv h) h1.2 h2.2]
theorem asc_le {l : List (Str × Deed)} (h : Asc l) : (l.map (·.1)).Pairwise leS := List.pairwise_map.mpr (h.imp fun {p q} e => ltS_asym e)
/-- any sorted row of the keys is the row of the sorted deeds' keys -/
theorem keys_sorted {ds : List (Str × Deed)} {ys : List Str} (hn : (ds.map (·.1)).Nodup) (hp : ys.Perm (ds.map (·.1))) (hs : ys.Pairwise leS) : ys = (sortD ds).map (·.1) :=
  sorted_unique (hp.trans ((sortD_perm ds).map (·.1)).symm) hs (asc_le (sortD_asc hn))
theorem vt_sort {T : Table} (h : VT T) : VT (sortT T) := fun st hst => by
  obtain ⟨s, hs, rfl⟩ := List.mem_map.mp hst
  have v := h s hs
  exact ⟨v.items, fun p hp => v.deeds p ((sortD_perm _).mem_iff.mp hp), ((sortD_perm s.2).map (·.1)).nodup_iff.mpr v.nodup⟩
theorem at_sort {T : Table} (h : VT T) : AT (sortT T) := fun st hst => by
  obtain ⟨s, hs, rfl⟩ := List.mem_map.mp hst
  exact sortD_asc (h s hs).nodup
theorem sortT_id {T : Table} (h : AT T) : sortT T = T := by
  unfold sortT
  refine (List.map_congr_left (g := id) fun st hst => ?_).trans (List.map_id T)
  rw [sortD_id (h st hst)]
  rfl
/-! ### what is read is what was written -/
theorem itemOf_ex {ws : List Str} {i : Item} (h : itemOf ws = some i) : VI i ∧ ws = i.1 :: nS i.2.1 :: i.2.2 := by
  match ws, h with
  | [], h => cases h
  | [_], h => cases h
  | l :: d :: as, h =>
    have h' : (if (markP l && numP d && as.all markP) = true then some (l, numV d, as) else none) = some i := h
    by_cases c : (markP l && numP d && as.all markP) = true
    · rw [if_pos c] at h'
      simp only [Bool.and_eq_true] at c
      obtain ⟨⟨c1, c2⟩, c3⟩ := c
      injection h' with h'
      subst h'
      have nv := numV_of c2
      exact ⟨⟨c1, nv.2.2, fun a ha => List.all_eq_true.mp c3 a ha⟩, by show l :: d :: as = l :: nS (numV d) :: as; rw [nv.2.1]⟩
    · rw [if_neg c] at h'
      cases h'
theorem deedOf_ex {ws : List Str} {d : Deed} (h : deedOf ws = some d) : VD d ∧ ws = deedW d := by
  unfold deedOf at h
  by_cases c : ws = [("done" : Str)]
  · rw [if_pos c] at h
    injection h with h
    subst h
    exact ⟨trivial, c⟩
  rw [if_neg c] at h
  match ws, h with
  | [], h => cases h
  | [_], h => cases h
  | [w, n], h =>
    have h' : (if (decide (w = "go") && numP n) = true then some (Deed.go (numV n)) else none) = some d := h
    by_cases c : (decide (w = "go") && numP n) = true
    · rw [if_pos c] at h'
      simp only [Bool.and_eq_true, decide_eq_true_eq] at c
      injection h' with h'
      subst h'
      have nv := numV_of c.2
      exact ⟨nv.2.2, by show [w, n] = [("go" : Str), nS (numV n)]; rw [nv.2.1, c.1]⟩
    · rw [if_neg c] at h'
      cases h'
  | [_, _, _], h => cases h
  | [w, a, n, b], h =>
    have h' : (if (decide (w = "by") && markP a && numP n && markP b) = true then some (Deed.by a (numV n) b) else none) = some d := h
    by_cases c : (decide (w = "by") && markP a && numP n && markP b) = true
    · rw [if_pos c] at h'
      simp only [Bool.and_eq_true, decide_eq_true_eq] at c
      obtain ⟨⟨⟨c1, c2⟩, c3⟩, c4⟩ := c
      injection h' with h'
      subst h'
      have nv := numV_of c3
      exact ⟨⟨c2, nv.2.2, c4⟩, by show [w, a, n, b] = [("by" : Str), a, nS (numV n), b]; rw [nv.2.1, c1]⟩
    · rw [if_neg c] at h'
      cases h'
  | _ :: _ :: _ :: _ :: _ :: _, h => cases h
theorem onOf_ex {ws : List Str} {ds : List (Str × Deed)} {p : Str × Deed} (h : onOf ws ds = some p) : (markP p.1 = true ∧ VD p.2) ∧ ws = p.1 :: deedW p.2 ∧ ∀ q, q ∈ ds → ltS q.1 p.1 = true := by
  match ws, h with
  | [], h => cases h
  | k :: ws, h =>
    have h' : (if (markP k && !ds.any fun p => !ltS p.1 k) = true then (deedOf ws).map fun d => (k, d) else none) = some p := h
    by_cases c : (markP k && !ds.any fun p => !ltS p.1 k) = true
    · rw [if_pos c] at h'
      rw [Bool.and_eq_true] at c
      cases e : deedOf ws with
      | none => rw [e] at h'; cases h'
      | some d =>
        rw [e] at h'
        injection h' with h'
        subst h'
        obtain ⟨v, w⟩ := deedOf_ex e
        refine ⟨⟨c.1, v⟩, by rw [w], fun q hq => ?_⟩
        have c2 := c.2
        rw [Bool.not_eq_true', List.any_eq_false] at c2
        have := c2 q hq
        cases z : ltS q.1 k with
        | true => rfl
        | false => rw [z] at this; exact absurd rfl this
    · rw [if_neg c] at h'
      cases h'
theorem rows_app : ∀ (A B : Table) (k : Nat), rowsFrom k (A ++ B) = rowsFrom k A ++ rowsFrom (k + A.length) B
  | [], B, k => rfl
  | st :: A, B, k => by
    show stateRows k st ++ rowsFrom (k + 1) (A ++ B) = (stateRows k st ++ rowsFrom (k + 1) A) ++ rowsFrom (k + (A.length + 1)) B
    rw [rows_app A B (k + 1), List.append_assoc]
    congr 3
    omega
theorem rows_one (k : Nat) (st : State) : rowsFrom k [st] = stateRows k st := List.append_nil _
theorem rows_rev (st : State) (R : Table) : rowsFrom 0 (st :: R).reverse = rowsFrom 0 R.reverse ++ stateRows R.length st := by
  rw [List.reverse_cons, rows_app, rows_one, Nat.zero_add, List.length_reverse]
theorem step_back {R R' : Table} {r : Str} (h : stepR R r = some R') (v : VT R) (a : AT R) : rowsFrom 0 R'.reverse = rowsFrom 0 R.reverse ++ [r] ∧ VT R' ∧ AT R' := by
  have er := row_split r
  unfold stepR at h
  cases e : Txt.split r " " with
  | nil => rw [e] at h; cases h
  | cons w ws =>
    rw [e] at h er
    replace h : stepW R w ws = some R' := h
    unfold stepW at h
    by_cases c1 : w = "state"
    · rw [if_pos c1] at h
      by_cases c2 : ws = [nS R.length]
      · rw [if_pos c2] at h
        injection h with h
        subst h
        refine ⟨?_, fun st hst => ?_, fun st hst => ?_⟩
        · rw [rows_rev]
          show _ ++ [row (stateW R.length)] = _
          rw [show stateW R.length = w :: ws by rw [c1, c2]; rfl, er]
        · rcases List.mem_cons.mp hst with q | q
          · rw [q]; exact ⟨fun i hi => (by cases hi), fun i hi => (by cases hi), List.nodup_nil⟩
          · exact v st q
        · rcases List.mem_cons.mp hst with q | q
          · rw [q]; exact List.Pairwise.nil
          · exact a st q
      · rw [if_neg c2] at h; cases h
    · rw [if_neg c1] at h
      match R, h, v, a with
      | [], h, _, _ => cases h
      | (is, ds) :: R2, h, v, a =>
        replace h : (if w = "item" then (if ds = [] then (itemOf ws).map fun i => (is ++ [i], ds) :: R2 else none)
          else if w = "on" then (onOf ws ds).map fun p => (is, ds ++ [p]) :: R2
          else none) = some R' := h
        have v1 := v (is, ds) List.mem_cons_self
        have a1 : Asc ds := a (is, ds) List.mem_cons_self
        by_cases c2 : w = "item"
        · rw [if_pos c2] at h
          by_cases c3 : ds = []
          · rw [if_pos c3] at h
            cases ei : itemOf ws with
            | none => rw [ei] at h; cases h
            | some i =>
              rw [ei] at h
              injection h with h
              subst h
              obtain ⟨vi, ew⟩ := itemOf_ex ei
              refine ⟨?_, fun st hst => ?_, fun st hst => ?_⟩
              · rw [rows_rev, rows_rev, List.append_assoc]
                congr 1
                unfold stateRows
                subst c3
                rw [List.map_nil, List.append_nil, List.append_nil, List.map_append]
                show _ :: (_ ++ [row (itemW i)]) = (_ :: _) ++ [r]
                rw [show itemW i = w :: ws by rw [c2, ew]; rfl, er]
                rfl
              · rcases List.mem_cons.mp hst with q | q
                · rw [q]
                  refine ⟨fun j hj => ?_, v1.deeds, v1.nodup⟩
                  rcases List.mem_append.mp hj with hj | hj
                  · exact v1.items j hj
                  · rw [List.mem_singleton.mp hj]; exact vi
                · exact v st (List.mem_cons_of_mem _ q)
              · rcases List.mem_cons.mp hst with q | q
                · rw [q]; exact a1
                · exact a st (List.mem_cons_of_mem _ q)
          · rw [if_neg c3] at h; cases h
        · rw [if_neg c2] at h
          by_cases c3 : w = "on"
          · rw [if_pos c3] at h
            cases eo : onOf ws ds with
            | none => rw [eo] at h; cases h
            | some p =>
              rw [eo] at h
              injection h with h
              subst h
              obtain ⟨vp, ew, hs⟩ := onOf_ex eo
              have a2 : Asc (ds ++ [p]) := List.pairwise_append.mpr ⟨a1, List.pairwise_singleton _ _, fun q hq z hz => by rw [List.mem_singleton.mp hz]; exact hs q hq⟩
              refine ⟨?_, fun st hst => ?_, fun st hst => ?_⟩
              · rw [rows_rev, rows_rev, List.append_assoc]
                congr 1
                unfold stateRows
                rw [List.map_append, List.append_assoc]
                show _ ++ (_ ++ [row (onW p)]) = _ ++ (_ ++ [r])
                rw [show onW p = w :: ws by rw [c3, ew]; rfl, er]
              · rcases List.mem_cons.mp hst with q | q
                · rw [q]
                  refine ⟨v1.items, fun j hj => ?_, asc_nodup a2⟩
                  rcases List.mem_append.mp hj with hj | hj
                  · exact v1.deeds j hj
                  · rw [List.mem_singleton.mp hj]; exact vp
                · exact v st (List.mem_cons_of_mem _ q)
              · rcases List.mem_cons.mp hst with q | q
                · rw [q]; exact a2
                · exact a st (List.mem_cons_of_mem _ q)
          · rw [if_neg c3] at h; cases h
theorem read_back : ∀ (l : List Str) (n : Nat) (R T : Table), VT R → AT R → readR l n R = .inl T → rowsFrom 0 T = rowsFrom 0 R.reverse ++ l ∧ VT T ∧ AT T
  | [], n, R, T, v, a, h => by
    have h' : R.reverse = T := Sum.inl.inj h
    subst h'
    rw [List.append_nil]
    exact ⟨rfl, fun st hst => v st (List.mem_reverse.mp hst), fun st hst => a st (List.mem_reverse.mp hst)⟩
  | r :: l, n, R, T, v, a, h => by
    cases e : stepR R r with
    | none =>
      have : readR (r :: l) n R = .inr n := by
        show (match stepR R r with | none => Sum.inr n | some R' => readR l (n + 1) R') = _
        rw [e]
      rw [this] at h
      cases h
    | some R' =>
      rw [read_cons e] at h
      obtain ⟨e1, v1, a1⟩ := step_back e v a
      obtain ⟨e2, v2, a2⟩ := read_back l (n + 1) R' T v1 a1 h
      exact ⟨by rw [e2, e1, List.append_assoc]; rfl, v2, a2⟩
/-- what is read is what was written -/
theorem text_read {x : Str} {T : Table} (h : readT x = .inl T) : textT T = x ∧ rowsFrom 0 T = Txt.split x "\n" ∧ VT T ∧ AT T := by
  obtain ⟨e, v, a⟩ := read_back _ 0 [] T (fun st hst => (by cases hst)) (fun st hst => (by cases hst)) h
  have e' : rowsFrom 0 T = Txt.split x "\n" := e
  exact ⟨by unfold textT; rw [e']; exact text_split x, e', v, a⟩
end Ka
namespace Ka
open PySem PySem.Spec PyProof.Rows L2 Ty
/-! ### the law's own reading: how many states, and the last word -/
def lastK (ds : List (Str × Deed)) : Str := match ds.getLast? with
  | none => Str.empty
  | some p => p.1
def absR : Table → Nat × Option Str
  | [] => (0, none)
  | (is, ds) :: R => (R.length + 1, some (lastK ds))
def onL : Option Str → List Str → Option Str
  | some l, k :: ws => if (markP k && ltS l k && (deedOf ws).isSome) = true then some k else none
  | _, _ => none
def stepL (c : Nat) (last : Option Str) (w : Str) (ws : List Str) : Option (Nat × Option Str) :=
  if w = "state" then (if ws = [nS c] then some (c + 1, some Str.empty) else none)
  else if w = "item" then (if ((itemOf ws).isSome && decide (last = some Str.empty)) = true then some (c, last) else none)
  else if w = "on" then (onL last ws).map fun k => (c, some k)
  else none
def wrongL : List Str → Nat → Nat × Option Str → Option Nat
  | [], _, _ => none
  | r :: rs, n, s => match Txt.split r " " with
    | [] => some n
    | w :: ws => match stepL s.1 s.2 w ws with
      | none => some n
      | some s' => wrongL rs (n + 1) s'
theorem absR_len (R : Table) : (absR R).1 = R.length := by
  cases R with
  | nil => rfl
  | cons st R => rfl
theorem ltS_empty {k : Str} (h : markP k = true) : ltS Str.empty k = true := by
  have := (mark_ne h).1
  have hl : k.cps.toList.length = k.length := Array.length_toList
  unfold ltS
  rw [decide_eq_true_eq]
  show ([] : List Nat) < k.cps.toList
  cases e : k.cps.toList with
  | nil => rw [e] at hl; simp at hl; omega
  | cons c cs => exact List.nil_lt_cons c cs
theorem lastK_snoc (ds : List (Str × Deed)) (p : Str × Deed) : lastK (ds ++ [p]) = p.1 := by
  unfold lastK
  rw [List.getLast?_concat]
theorem empty_mark {k : Str} (h : markP k = true) : k ≠ Str.empty := fun e => by
  have := (mark_ne h).1
  rw [e] at this
  exact absurd this (by decide)
theorem lastK_empty {ds : List (Str × Deed)} (h : ∀ p, p ∈ ds → markP p.1 = true) : lastK ds = Str.empty ↔ ds = [] := by
  rcases List.eq_nil_or_concat ds with e | ⟨l, p, e⟩
  · subst e
    exact ⟨fun _ => rfl, fun _ => rfl⟩
  · subst e
    rw [List.concat_eq_append, lastK_snoc]
    refine ⟨fun e => absurd e (empty_mark (h p (by simp))), fun e => by simp at e⟩
theorem any_last {ds : List (Str × Deed)} {k : Str} (a : Asc ds) (hk : markP k = true) : (!ds.any fun p => !ltS p.1 k) = ltS (lastK ds) k := by
  rcases List.eq_nil_or_concat ds with e | ⟨l, p, e⟩
  · subst e
    exact (ltS_empty hk).symm
  · subst e
    rw [List.concat_eq_append] at a ⊢
    rw [lastK_snoc, List.any_append]
    have h2 := (List.pairwise_append.mp a).2.2
    cases z : ltS p.1 k with
    | true =>
      have e1 : (l.any fun p => !ltS p.1 k) = false := by
        rw [List.any_eq_false]
        intro q hq
        rw [ltS_trans (h2 q hq p (by simp)) z]
        simp
      rw [e1]
      simp [z]
    | false => simp [z]
theorem abs_step {R : Table} {w : Str} {ws : List Str} (v : VT R) (a : AT R) : stepL (absR R).1 (absR R).2 w ws = (stepW R w ws).map absR := by
  unfold stepL stepW
  rw [absR_len]
  by_cases c1 : w = "state"
  · rw [if_pos c1, if_pos c1]
    by_cases c2 : ws = [nS R.length]
    · rw [if_pos c2, if_pos c2]
      rfl
    · rw [if_neg c2, if_neg c2]
      rfl
  rw [if_neg c1, if_neg c1]
  cases R with
  | nil =>
    show (if w = "item" then (if ((itemOf ws).isSome && decide ((none : Option Str) = some Str.empty)) = true then _ else none) else if w = "on" then (onL none ws).map _ else none) = none
    rw [decide_eq_false (fun e => by cases e), Bool.and_false]
    have : onL none ws = none := rfl
    rw [this]
    simp
  | cons st R =>
    obtain ⟨is, ds⟩ := st
    rw [stepO_cons]
    have v1 := v (is, ds) List.mem_cons_self
    have a1 : Asc ds := a (is, ds) List.mem_cons_self
    by_cases c2 : w = "item"
    · rw [if_pos c2, if_pos c2]
      show (if ((itemOf ws).isSome && decide (some (lastK ds) = some Str.empty)) = true then some (R.length + 1, some (lastK ds)) else none) = _
      have e : decide (some (lastK ds) = some Str.empty) = decide (ds = []) := by
        by_cases c : ds = []
        · rw [decide_eq_true c, decide_eq_true]
          rw [(lastK_empty fun p hp => (v1.deeds p hp).1).mpr c]
        · rw [decide_eq_false c, decide_eq_false]
          intro e
          injection e with e
          exact c ((lastK_empty fun p hp => (v1.deeds p hp).1).mp e)
      rw [e]
      by_cases c : ds = []
      · rw [if_pos c, decide_eq_true c, Bool.and_true]
        cases itemOf ws with
        | none => rfl
        | some i => rfl
      · rw [if_neg c, decide_eq_false c, Bool.and_false]
        rfl
    · rw [if_neg c2, if_neg c2]
      by_cases c3 : w = "on"
      · rw [if_pos c3, if_pos c3]
        show (onL (some (lastK ds)) ws).map (fun k => (R.length + 1, some k)) = _
        cases ws with
        | nil => rfl
        | cons k ws =>
          show (if (markP k && ltS (lastK ds) k && (deedOf ws).isSome) = true then some k else none).map _ = ((if (markP k && !ds.any fun p => !ltS p.1 k) = true then (deedOf ws).map fun d => (k, d) else none).map fun p => (is, ds ++ [p]) :: R).map absR
          by_cases m : markP k = true
          · rw [any_last a1 m, m, Bool.true_and]
            cases z : ltS (lastK ds) k with
            | false => simp
            | true =>
              rw [Bool.true_and]
              cases deedOf ws with
              | none => rfl
              | some d =>
                show some (R.length + 1, some k) = some (R.length + 1, some (lastK (ds ++ [(k, d)])))
                rw [lastK_snoc]
          · rw [Bool.eq_false_iff.mpr m]
            simp
      · rw [if_neg c3, if_neg c3]
        rfl
def badOf : Sum Table Nat → Option Nat
  | .inl _ => none
  | .inr n => some n
theorem abs_read : ∀ (l : List Str) (n : Nat) (R : Table), VT R → AT R → wrongL l n (absR R) = badOf (readR l n R)
  | [], _, _, _, _ => rfl
  | r :: l, n, R, v, a => by
    show (match Txt.split r " " with
      | [] => some n
      | w :: ws => match stepL (absR R).1 (absR R).2 w ws with
        | none => some n
        | some s' => wrongL l (n + 1) s') = badOf (match stepR R r with | none => Sum.inr n | some R' => readR l (n + 1) R')
    have sb := @step_back R
    unfold stepR at sb ⊢
    cases e : Txt.split r " " with
    | nil => rfl
    | cons w ws =>
      show (match stepL (absR R).1 (absR R).2 w ws with
        | none => some n
        | some s' => wrongL l (n + 1) s') = badOf (match stepW R w ws with | none => Sum.inr n | some R' => readR l (n + 1) R')
      rw [abs_step v a]
      cases e2 : stepW R w ws with
      | none => rfl
      | some R' =>
        obtain ⟨_, v2, a2⟩ := sb (R' := R') (r := r) (by rw [e]; exact e2) v a
        exact abs_read l (n + 1) R' v2 a2
theorem wrong_read (x : Str) : wrongL (Txt.split x "\n") 0 (0, none) = badOf (readT x) :=
  abs_read _ 0 [] (fun st hst => (by cases hst)) (fun st hst => (by cases hst))
/-! ### sizes -/
def sumL (l : List Str) : Nat := (l.map (·.length)).sum
theorem len_app (x y : Str) : (x ++ y).length = x.length + y.length := by
  show (x ++ y).cps.size = x.cps.size + y.cps.size
  rw [Str.cps_append, Array.size_append]
theorem len_join (y : Str) : ∀ {l : List Str}, l ≠ [] → sumL l + l.length * y.length = (Txt.join y l).length + y.length := by
  have main : ∀ {l : List Str}, l ≠ [] → sumL l + l.length * y.length = (Str.join y l).length + y.length := by
    intro l
    induction l with
    | nil => intro h; exact absurd rfl h
    | cons x l ih =>
      intro _
      cases l with
      | nil =>
        show x.length + 0 + (0 + 1) * y.length = x.length + y.length
        omega
      | cons z r =>
        have ih' := ih (by simp)
        have e : (Str.join y (x :: z :: r)).length = x.length + y.length + (Str.join y (z :: r)).length := by
          show ((x ++ y) ++ Str.join y (z :: r)).length = _
          rw [len_app, len_app]
        have e2 : sumL (x :: z :: r) = x.length + sumL (z :: r) := rfl
        rw [e, e2, List.length_cons, Nat.succ_mul]
        omega
  intro l h
  rw [TL.join_eq]
  exact main h
theorem len_row {ws : List Str} (h : ws ≠ []) : sumL ws + ws.length = (row ws).length + 1 := by
  have := len_join (" " : Str) h
  have e : (" " : Str).length = 1 := by decide +kernel
  rw [e, Nat.mul_one] at this
  exact this
theorem sumL_mem {l : List Str} {x : Str} (h : x ∈ l) : x.length ≤ sumL l := by
  induction l with
  | nil => cases h
  | cons y l ih =>
    have e : sumL (y :: l) = y.length + sumL l := rfl
    rcases List.mem_cons.mp h with q | q
    · rw [e, q]; omega
    · have := ih q; omega
theorem sumL_app (l m : List Str) : sumL (l ++ m) = sumL l + sumL m := by
  unfold sumL
  rw [List.map_append, List.sum_append]
def Sz (T : Table) : Prop := sumL (rowsFrom 0 T) + (rowsFrom 0 T).length ≤ 100000
theorem split_ne (x y : Str) (h : y.length ≠ 0) : Txt.split x y ≠ [] := by
  intro e
  have := StrLaws.join_split x y
  rw [e] at this
  have e2 : Txt.split (Str.empty) y = [Str.empty] := by
    unfold Txt.split
    rw [if_pos]
    rw [Bool.or_eq_true]
    left
    rw [decide_eq_true_eq]
    show 0 < y.length
    omega
  have hx : x = Str.empty := this.symm
  rw [hx, e2] at e
  cases e
theorem sz_read {x : Str} {T : Table} (h : readT x = .inl T) (hx : x.length < 100000) : Sz T := by
  obtain ⟨e1, e2, _, _⟩ := text_read h
  have hn : ("\n" : Str).length = 1 := by decide +kernel
  have hne := split_ne x "\n" (by rw [hn]; decide)
  unfold Sz
  have := len_join ("\n" : Str) hne
  rw [hn, Nat.mul_one, text_split] at this
  rw [e2]
  omega
end Ka
namespace Ka
open PySem PySem.Spec PyProof.Rows L2 Ty
/-- whether a text is such a one -/
def spB (p : Str → Bool) : Sp := fun vs H Q _ => ∃ x : Str, vs = [.str x] ∧ x.length ≤ 16000000 ∧ ∀ H', Same H H' → Q (.bl (p x)) H'
theorem inV_strs {x : Str} : ∀ {l : List Str}, inV (.str x) (l.map V.str) = decide (x ∈ l)
  | [] => by simp [inV]
  | y :: l => by
    have ih := inV_strs (x := x) (l := l)
    unfold inV at ih ⊢
    rw [List.map_cons, List.any_cons, ih]
    have e : eqV (V.str y) (V.str x) = decide (x = y) := by
      show (y == x) = _
      rw [beq_str]
      by_cases h : x = y
      · rw [h]
      · rw [decide_eq_false h, decide_eq_false fun e => h e.symm]
    rw [e]
    simp [List.mem_cons, Bool.or_eq_true]
theorem all_flat : ∀ l : List Str, (l.map V.str).all flatV = true
  | [] => rfl
  | _ :: l => by rw [List.map_cons, List.all_cons, all_flat l]; rfl
theorem dec_str (x y : Str) : decide (V.str x = V.str y) = decide (x = y) := by
  by_cases h : x = y
  · rw [h]; simp
  · rw [decide_eq_false h, decide_eq_false fun e => h (V.str.inj e)]
theorem eL : ("abcdefghijklmnopqrstuvwxyz" : Str) = lettS := by decide +kernel
theorem eF : ("0123456789" : Str) = figS := by decide +kernel
theorem scName : FnScope ["thing", "sign"] ["thing"] (defScope sName) := ⟨rfl, rfl, rfl, by decide +kernel, rfl, by decide +kernel, by decide +kernel⟩
theorem scMark : FnScope ["word"] ["word"] (defScope sMark) := ⟨rfl, rfl, rfl, by decide +kernel, rfl, by decide +kernel, by decide +kernel⟩
theorem scNumber : FnScope ["word", "sign"] ["word"] (defScope sNumber) := ⟨rfl, rfl, rfl, by decide +kernel, rfl, by decide +kernel, by decide +kernel⟩
theorem scLMark : FnScope ["word", "letters", "sign"] ["word"] (defScope lIsMark) := ⟨rfl, rfl, rfl, by decide +kernel, rfl, by decide +kernel, by decide +kernel⟩
theorem scLNumber : FnScope ["word", "sign"] ["word"] (defScope lIsNumber) := ⟨rfl, rfl, rfl, by decide +kernel, rfl, by decide +kernel, by decide +kernel⟩
section
variable {P : Program} {w : World} {K : PySem.W.Frag} {mg : Str → Option Value} {base : Heap} {f g dK : Addr} {fd gd : FuncData} {t1 t2 : Tok}
theorem ok_name (F : Fun K "is_name" "is_name" sName f fd) (mL : mg "LETTERS" = some (.str lettS t1)) (mN : mg "LONGEST" = some (.int 8 t2)) (mK : mg "KEPT" = some (.ref dK)) (hK : ∀ H, SqT K H dK (kept.map V.str))
    (mi : mg "isinstance" = none) (ms : mg "str" = none) (ml : mg "len" = none) (ma : mg "all" = none) : FnOk P w K mg base CX0 1 f fd ["thing"] (spB nameP) := by
  refine F.ok scName (fun vs H Q E h => ?_) (fun cdv A outer s H vs Q E hr h => ?_)
  · obtain ⟨x, rfl, _⟩ := h
    rfl
  obtain ⟨x, rfl, hx, q⟩ := h
  refine ⟨_, pss_cons (ps_if (PW.pt (pw_or (pt_not (pt_val (pe_callB call_isi rfl mi (by decide +kernel) (pa_cons (pv 0) (pa_cons (pe_bltn rfl ms (by decide +kernel) (show RelV (.ty "str") (.type "str") from rfl)) pa_nil)))))
      (pw_or (pt_not (pt_chain op_le op_le pe_int (pe_callB call_len_str rfl ml PySem.boot_len (pa_cons (pv 0) pa_nil)) (pe_glob rfl mN (show RelV (.int 8) (.int 8 t2) from ⟨_, rfl⟩))))
      (pw_or1 (pt_cmpR op_in_seq (pv 0) (pe_glob rfl mK (show RelV (.ref dK) (.ref dK) from rfl)) rfl)))))
      (pss_one (ps_ret pe_bl)) pss_nil)
    (pss_one (ps_ret (pe_callB (cr_all rfl) rfl ma (by decide +kernel) (pa_cons
        (pe_lc (own := [("sign", 1)]) (g := gName 1) (tt := tYes) rfl scName.nd (pi_str (pv 0)) (blkOk_by (N := ["thing", "sign"]) (sc := defScope sName) (by decide +kernel)) (fun _ _ _ _ _ => pg_name (i := 1) scName.nd rfl (Or.inl rfl)) (fun _ _ _ _ _ => pts_nil)
          (fun _ _ _ _ _ => pe_cmpR op_in_sign (pv 1) (pe_glob rfl mL (show RelV (.str lettS) (.str lettS t1) from ⟨_, rfl⟩)) rfl)) pa_nil)))), ?_⟩
  have rp : Rep 0 H (.str x) (.str x) := .str x
  have hl : x.cps.toList.length = x.cps.size := Array.length_toList
  refine ⟨_, rfl, .str x, .ty "str", _, _, _, rfl, .ty _, rp.ty, kit_s K (.str x), _, rfl, ?_⟩
  refine iteF ?_
  refine ⟨_, rfl, x, rfl, by rw [sizeLine_eq]; omega, _, _, rfl, rfl, _, rfl, ?_⟩
  have bad : nameP x = false → Q (.bl false) H := fun e => by
    have := q H (fun b o h => h)
    rw [e] at this
    exact this
  by_cases h1 : 1 ≤ x.length
  · rw [decide_eq_true (show (1 : Int) ≤ ((x.length : Nat) : Int) by omega)]
    refine iteT ⟨_, _, rfl, rfl, _, rfl, ?_⟩
    by_cases h2 : x.length ≤ 8
    · rw [decide_eq_true (show ((x.length : Nat) : Int) ≤ 8 by omega)]
      refine iteF ?_
      refine ⟨_, rfl, dK, _, rfl, .inr (hK _), rfl, all_flat _, _, rfl, ?_⟩
      rw [if_neg Bool.false_ne_true, inV_strs]
      by_cases h3 : x ∈ kept
      · rw [decide_eq_true h3]
        exact iteT (bad (by unfold nameP; rw [decide_eq_true h3]; rfl))
      · rw [decide_eq_false h3]
        refine iteF ?_
        have e2 : nameP x = x.cps.toList.all fun c => decide (c ∈ letters) := by
          unfold nameP
          rw [decide_eq_false h3, decide_eq_true h1, decide_eq_true h2]
          rfl
        refine ⟨_, rfl, x, rfl, fun D hD => ?_⟩
        refine lc_it walk_str (fun i H' => Acc H D (((x.cps.toList.take i).map fun c => decide (c ∈ letters)).map V.bl) H') (.nil hD) (fun _ _ _ _ => trivial) (fun i y H1 H2 hi p z => ?_) (fun H1 p => ?_)
        · obtain ⟨rfl, c, hc, rfl⟩ := z
          refine ⟨rfl, ?_⟩
          simp only [tYes, ↓reduceIte]
          refine ⟨_, rfl, c, lettS, rfl, rfl, _, p.2, ?_, ?_⟩
          · rw [List.length_map, List.length_map, List.length_take, hl, sizeLine_eq]; show min i x.length < _; omega
          · have h2 := p.push hD (.bl (decide (c ∈ letters)))
            have h3 : x.cps.toList[i]? = some c := by rw [Array.getElem?_toList]; exact hc
            rw [List.take_add_one, h3, Option.toList_some, List.map_append, List.map_append]
            exact h2
        · refine ⟨D, _, rfl, SqL.of p.2, ?_⟩
          rw [List.take_of_length_le (by rw [hl]; exact Nat.le_refl _)]
          have ea : (x.cps.toList.map fun c => decide (c ∈ letters)).all id = x.cps.toList.all fun c => decide (c ∈ letters) := by
            rw [List.all_map]; rfl
          rw [ea]
          rw [← e2]
          exact q H1 p.1
    · rw [decide_eq_false (show ¬ ((x.length : Nat) : Int) ≤ 8 by omega)]
      exact iteT (bad (by unfold nameP; rw [decide_eq_false h2]; simp))
  · rw [decide_eq_false (show ¬ (1 : Int) ≤ ((x.length : Nat) : Int) by omega)]
    refine iteF ⟨_, rfl, ?_⟩
    exact iteT (bad (by unfold nameP; rw [decide_eq_false h1]; simp))
theorem ok_mark (F : Fun K "is_mark" "is_mark" sMark f fd) (G : FnOk P w K mg base CX0 1 g gd ["thing"] (spB nameP)) (bG : Binds K gd ["thing"] []) (kG : PySem.W.keepIn K (.ref g) = true) (mG : mg "is_name" = some (.ref g)) (mE : mg "END" = some (.str "." t1)) :
    FnOk P w K mg base CX0 2 f fd ["word"] (spB markP) := by
  refine F.ok scMark (fun vs H Q E h => ?_) (fun cdv A outer s H vs Q E hr h => ?_)
  · obtain ⟨x, rfl, _⟩ := h
    rfl
  obtain ⟨x, rfl, hx, q⟩ := h
  refine ⟨_, pss_one (ps_ret (pe_or (pe_cmpR op_eq (pv 0) (pe_glob rfl mE (show RelV (.str ".") (.str "." t1) from ⟨_, rfl⟩)) (nomark _)) (pe_one (pe_call G hr rfl mG kG bG .nil pass0 (pa_cons (pv 0) pa_nil))))), ?_⟩
  refine ⟨_, rfl, rfl, _, rfl, ?_⟩
  rw [dec_str]
  by_cases h : x = "."
  · rw [decide_eq_true h]
    refine iteT ?_
    have := q H (fun b o h => h)
    unfold markP at this
    rw [decide_eq_true h] at this
    exact this
  · rw [decide_eq_false h]
    refine iteF ⟨_, rfl, x, rfl, hx, fun H' s' => ?_⟩
    have := q H' s'
    unfold markP at this
    rw [decide_eq_false h, Bool.false_or] at this
    exact this
theorem dec_head {x : Str} {c : Nat} (h : x.cps.toList[0]? = some c) : decide (x.cps.toList.head? = some 48) = decide ((⟨#[c]⟩ : Str) = "0") := by
  rw [List.head?_eq_getElem?, h]
  have e : ("0" : Str) = ⟨#[48]⟩ := by decide +kernel
  rw [e]
  by_cases z : c = 48
  · rw [z]; simp
  · rw [decide_eq_false (fun q => z (Option.some.inj q)), decide_eq_false]
    intro q
    injection q with q
    have := congrArg Array.toList q
    simp at this
    exact z this
theorem cut_one {x : Str} {c : Nat} (h1 : 1 ≤ x.length) (h : x.cps.toList[0]? = some c) : cutS x none (some 1) = ⟨#[c]⟩ := by
  unfold cutS
  rw [show (some (1 : Int)) = some (((1 : Nat) : Nat) : Int) from rfl, HT.sIx_nat, Nat.min_eq_left h1]
  show (⟨((x.cps.toList.drop 0).take (1 - 0)).toArray⟩ : Str) = _
  rw [List.drop_zero]
  cases e : x.cps.toList with
  | nil => rw [e] at h; cases h
  | cons a l =>
    rw [e] at h
    injection h with h
    rw [h]
    rfl
theorem ok_number (F : Fun K "is_number" "is_number" sNumber f fd) (mF : mg "FIGURES" = some (.str figS t1)) (ml : mg "len" = none) (ma : mg "all" = none) : FnOk P w K mg base CX0 1 f fd ["word"] (spB numP) := by
  refine F.ok scNumber (fun vs H Q E h => ?_) (fun cdv A outer s H vs Q E hr h => ?_)
  · obtain ⟨x, rfl, _⟩ := h
    rfl
  obtain ⟨x, rfl, hx, q⟩ := h
  refine ⟨_, pss_cons (ps_if (PW.pt (pw_or (pt_not (pt_chain op_le op_le pe_int (pe_callB call_len_str rfl ml PySem.boot_len (pa_cons (pv 0) pa_nil)) pe_int))
      (pw_or1 (pt_not (pt_val (pe_callB (cr_all rfl) rfl ma (by decide +kernel) (pa_cons
        (pe_lc (own := [("sign", 1)]) (g := gName 1) (tt := tYes) rfl scNumber.nd (pi_str (pv 0)) (blkOk_by (N := ["word", "sign"]) (sc := defScope sNumber) (by decide +kernel)) (fun _ _ _ _ _ => pg_name (i := 1) scNumber.nd rfl (Or.inl rfl)) (fun _ _ _ _ _ => pts_nil)
          (fun _ _ _ _ _ => pe_cmpR op_in_sign (pv 1) (pe_glob rfl mF (show RelV (.str figS) (.str figS t1) from ⟨_, rfl⟩)) rfl)) pa_nil)))))))
      (pss_one (ps_ret pe_bl)) pss_nil)
    (pss_one (ps_ret (pe_or (pe_cmpR op_eq (pv 0) pe_str (nomark _)) (pe_one (pe_cmpR op_ne (pe_ix ix_str (pv 0) pe_int (fun _ _ => rfl)) pe_str (nomark _)))))), ?_⟩
  have hl : x.cps.toList.length = x.cps.size := Array.length_toList
  refine ⟨_, rfl, x, rfl, by rw [sizeLine_eq]; omega, _, _, rfl, rfl, _, rfl, ?_⟩
  have bad : ∀ H', Same H H' → numP x = false → Q (.bl false) H' := fun H' s' e => by
    have := q H' s'
    rw [e] at this
    exact this
  by_cases h1 : 1 ≤ x.length
  · rw [decide_eq_true (show (1 : Int) ≤ ((x.length : Nat) : Int) by omega)]
    refine iteT ⟨_, _, rfl, rfl, _, rfl, ?_⟩
    by_cases h2 : x.length ≤ 4
    · rw [decide_eq_true (show ((x.length : Nat) : Int) ≤ 4 by omega)]
      refine iteF ?_
      refine ⟨_, rfl, x, rfl, fun D hD => ?_⟩
      refine lc_it walk_str (fun i H' => Acc H D (((x.cps.toList.take i).map fun c => decide (c ∈ figures)).map V.bl) H') (.nil hD) (fun _ _ _ _ => trivial) (fun i y H1 H2 hi p z => ?_) (fun H1 p => ?_)
      · obtain ⟨rfl, c, hc, rfl⟩ := z
        refine ⟨rfl, ?_⟩
        simp only [tYes, ↓reduceIte]
        refine ⟨_, rfl, c, figS, rfl, rfl, _, p.2, ?_, ?_⟩
        · rw [List.length_map, List.length_map, List.length_take, hl, sizeLine_eq]; show min i x.length < _; omega
        · have h2 := p.push hD (.bl (decide (c ∈ figures)))
          have h3 : x.cps.toList[i]? = some c := by rw [Array.getElem?_toList]; exact hc
          rw [List.take_add_one, h3, Option.toList_some, List.map_append, List.map_append]
          exact h2
      · refine ⟨D, _, rfl, SqL.of p.2, ?_⟩
        rw [List.take_of_length_le (by rw [hl]; exact Nat.le_refl _)]
        have ea : (x.cps.toList.map fun c => decide (c ∈ figures)).all id = x.cps.toList.all fun c => decide (c ∈ figures) := by
          rw [List.all_map]; rfl
        rw [ea]
        refine ⟨_, rfl, ?_⟩
        have e2 : numP x = ((x.cps.toList.all fun c => decide (c ∈ figures)) && (decide (x = "0") || !decide (x.cps.toList.head? = some 48))) := by
          unfold numP
          rw [decide_eq_true h1, decide_eq_true h2]
          rfl
        cases ef : x.cps.toList.all fun c => decide (c ∈ figures) with
        | false =>
          rw [ef, Bool.false_and] at e2
          exact iteT (bad H1 p.1 e2)
        | true =>
          rw [ef, Bool.true_and] at e2
          refine iteF ⟨_, rfl, rfl, _, rfl, ?_⟩
          rw [dec_str]
          have qq := q H1 p.1
          rw [e2] at qq
          by_cases h0 : x = "0"
          · rw [decide_eq_true h0] at qq ⊢
            exact iteT qq
          · rw [decide_eq_false h0] at qq ⊢
            refine iteF ?_
            have h3 : 0 < x.cps.toList.length := by rw [hl]; exact h1
            have h4 : x.cps.toList[0]? = some x.cps.toList[0] := List.getElem?_eq_getElem h3
            refine ⟨_, rfl, x, 0, x.cps.toList[0], rfl, rfl, by rw [sizeLine_eq]; omega, ?_, rfl, ?_⟩
            · unfold atI ixN
              rw [if_pos (Int.le_refl 0), if_pos (by omega)]
              exact h4
            · rw [dec_str, ← dec_head h4]
              exact qq
    · rw [decide_eq_false (show ¬ ((x.length : Nat) : Int) ≤ 4 by omega)]
      exact iteT (bad H (fun b o h => h) (by unfold numP; rw [decide_eq_false h2]; simp))
  · rw [decide_eq_false (show ¬ (1 : Int) ≤ ((x.length : Nat) : Int) by omega)]
    refine iteF ⟨_, rfl, ?_⟩
    exact iteT (bad H (fun b o h => h) (by unfold numP; rw [decide_eq_false h1]; simp))
theorem ok_lnumber (F : Fun K "_law_is_number" "_law_is_number" lIsNumber f fd) (ml : mg "len" = none) (ma : mg "all" = none) : FnOk P w K mg base CX0 1 f fd ["word"] (spB numP) := by
  refine F.ok scLNumber (fun vs H Q E h => ?_) (fun cdv A outer s H vs Q E hr h => ?_)
  · obtain ⟨x, rfl, _⟩ := h
    rfl
  obtain ⟨x, rfl, hx, q⟩ := h
  refine ⟨_, pss_cons (ps_if (PW.pt (pw_or (pt_not (pt_chain op_lt op_lt pe_int (pe_callB call_len_str rfl ml PySem.boot_len (pa_cons (pv 0) pa_nil)) pe_int))
      (pw_or1 (pt_not (pt_val (pe_callB (cr_all rfl) rfl ma (by decide +kernel) (pa_cons
        (pe_lc (own := [("sign", 1)]) (g := gName 1) (tt := tYes) rfl scLNumber.nd (pi_str (pv 0)) (blkOk_by (N := ["word", "sign"]) (sc := defScope lIsNumber) (by decide +kernel)) (fun _ _ _ _ _ => pg_name (i := 1) scLNumber.nd rfl (Or.inl rfl)) (fun _ _ _ _ _ => pts_nil)
          (fun _ _ _ _ _ => pe_cmpR op_in_sign (pv 1) pe_str rfl)) pa_nil)))))))
      (pss_one (ps_ret pe_bl)) pss_nil)
    (pss_one (ps_ret (pe_or (pe_cmpR op_eq (pv 0) pe_str (nomark _)) (pe_one (pe_cmpR op_ne (pe_slice sl_str (pv 0) po_none (po_some pe_int)) pe_str (nomark _)))))), ?_⟩
  have hl : x.cps.toList.length = x.cps.size := Array.length_toList
  refine ⟨_, rfl, x, rfl, by rw [sizeLine_eq]; omega, _, _, rfl, rfl, _, rfl, ?_⟩
  have bad : ∀ H', Same H H' → numP x = false → Q (.bl false) H' := fun H' s' e => by
    have := q H' s'
    rw [e] at this
    exact this
  by_cases h1 : 1 ≤ x.length
  · rw [decide_eq_true (show (0 : Int) < ((x.length : Nat) : Int) by omega)]
    refine iteT ⟨_, _, rfl, rfl, _, rfl, ?_⟩
    by_cases h2 : x.length ≤ 4
    · rw [decide_eq_true (show ((x.length : Nat) : Int) < 5 by omega)]
      refine iteF ?_
      refine ⟨_, rfl, x, rfl, fun D hD => ?_⟩
      refine lc_it walk_str (fun i H' => Acc H D (((x.cps.toList.take i).map fun c => decide (c ∈ figures)).map V.bl) H') (.nil hD) (fun _ _ _ _ => trivial) (fun i y H1 H2 hi p z => ?_) (fun H1 p => ?_)
      · obtain ⟨rfl, c, hc, rfl⟩ := z
        refine ⟨rfl, ?_⟩
        simp only [tYes, ↓reduceIte]
        refine ⟨_, rfl, c, figS, rfl, congrArg V.str eF, _, p.2, ?_, ?_⟩
        · rw [List.length_map, List.length_map, List.length_take, hl, sizeLine_eq]; show min i x.length < _; omega
        · have h2 := p.push hD (.bl (decide (c ∈ figures)))
          have h3 : x.cps.toList[i]? = some c := by rw [Array.getElem?_toList]; exact hc
          rw [List.take_add_one, h3, Option.toList_some, List.map_append, List.map_append]
          exact h2
      · refine ⟨D, _, rfl, SqL.of p.2, ?_⟩
        rw [List.take_of_length_le (by rw [hl]; exact Nat.le_refl _)]
        have ea : (x.cps.toList.map fun c => decide (c ∈ figures)).all id = x.cps.toList.all fun c => decide (c ∈ figures) := by
          rw [List.all_map]; rfl
        rw [ea]
        refine ⟨_, rfl, ?_⟩
        have e2 : numP x = ((x.cps.toList.all fun c => decide (c ∈ figures)) && (decide (x = "0") || !decide (x.cps.toList.head? = some 48))) := by
          unfold numP
          rw [decide_eq_true h1, decide_eq_true h2]
          rfl
        cases ef : x.cps.toList.all fun c => decide (c ∈ figures) with
        | false =>
          rw [ef, Bool.false_and] at e2
          exact iteT (bad H1 p.1 e2)
        | true =>
          rw [ef, Bool.true_and] at e2
          refine iteF ⟨_, rfl, rfl, _, rfl, ?_⟩
          rw [dec_str]
          have qq := q H1 p.1
          rw [e2] at qq
          by_cases h0 : x = "0"
          · rw [decide_eq_true h0] at qq ⊢
            exact iteT qq
          · rw [decide_eq_false h0] at qq ⊢
            refine iteF ?_
            have h3 : 0 < x.cps.toList.length := by rw [hl]; exact h1
            have h4 : x.cps.toList[0]? = some x.cps.toList[0] := List.getElem?_eq_getElem h3
            refine ⟨_, rfl, _, rfl, x, rfl, by rw [sizeLine_eq]; omega, rfl, ?_⟩
            rw [dec_str, show cutS x none (some 1) = ⟨#[x.cps.toList[0]]⟩ from cut_one h1 h4, ← dec_head h4]
            exact qq
    · rw [decide_eq_false (show ¬ ((x.length : Nat) : Int) < 5 by omega)]
      exact iteT (bad H (fun b o h => h) (by unfold numP; rw [decide_eq_false h2]; simp))
  · rw [decide_eq_false (show ¬ (0 : Int) < ((x.length : Nat) : Int) by omega)]
    refine iteF ⟨_, rfl, ?_⟩
    exact iteT (bad H (fun b o h => h) (by unfold numP; rw [decide_eq_false h1]; simp))
theorem ok_lmark (F : Fun K "_law_is_mark" "_law_is_mark" lIsMark f fd) (ml : mg "len" = none) (ma : mg "all" = none) : FnOk P w K mg base CX0 1 f fd ["word"] (spB markP) := by
  refine F.ok scLMark (fun vs H Q E h => ?_) (fun cdv A outer s H vs Q E hr h => ?_)
  · obtain ⟨x, rfl, _⟩ := h
    rfl
  obtain ⟨x, rfl, hx, q⟩ := h
  refine ⟨_, pss_cons (ps_set (i := 1) scLMark.nd rfl (.inr rfl) pe_str)
    (pss_cons (ps_if (PW.pt (pw_or (pt_cmpR op_eq (pv 0) pe_str (nomark _)) (pw_or1 (pt_cmpR op_in_seq (pv 0) (pe_lst (pa_cons pe_str (pa_cons pe_str (pa_cons pe_str (pa_cons pe_str (pa_cons pe_str pa_nil)))))) rfl))))
      (pss_one (ps_ret (pe_cmpR op_eq (pv 0) pe_str (nomark _)))) pss_nil)
    (pss_one (ps_ret (pe_and (pe_chain op_lt op_lt pe_int (pe_callB call_len_str rfl ml PySem.boot_len (pa_cons (pv 0) pa_nil)) pe_int) (pe_one (pe_callB (cr_all rfl) rfl ma (by decide +kernel) (pa_cons
        (pe_lc (own := [("sign", 2)]) (g := gName 2) (tt := tYes) rfl scLMark.nd (pi_str (pv 0)) (blkOk_by (N := ["word", "letters", "sign"]) (sc := defScope lIsMark) (by decide +kernel)) (fun _ _ _ _ _ => pg_name (i := 2) scLMark.nd rfl (Or.inl rfl)) (fun _ _ _ _ _ => pts_nil)
          (fun _ _ _ _ _ => pe_cmpR op_in_sign (pv 2) (pv 1) rfl)) pa_nil))))))), ?_⟩
  have hl : x.cps.toList.length = x.cps.size := Array.length_toList
  refine ⟨_, rfl, rfl, _, rfl, ?_⟩
  rw [dec_str]
  by_cases h : x = "."
  · rw [decide_eq_true h]
    refine iteT ⟨_, rfl, rfl, ?_⟩
    rw [dec_str, decide_eq_true h]
    have := q H (fun b o h => h)
    unfold markP at this
    rw [decide_eq_true h] at this
    exact this
  rw [decide_eq_false h]
  have em : markP x = nameP x := by
    unfold markP
    rw [decide_eq_false h, Bool.false_or]
  rw [em] at q
  refine iteF ⟨_, rfl, (by show 5 ≤ sizeLine; decide), fun p0 hp0 => ?_⟩
  have s0 : Same H (upd H p0 (.lst (kept.map V.str))) := same_new hp0 _
  have bad : nameP x = false → Q (.bl false) (upd H p0 (.lst (kept.map V.str))) := fun e => by
    have := q _ s0
    rw [e] at this
    exact this
  refine ⟨p0, kept.map V.str, rfl, .inl (SqL.of upd_same), rfl, all_flat _, _, rfl, ?_⟩
  rw [if_neg Bool.false_ne_true, inV_strs]
  by_cases h3 : x ∈ kept
  · rw [decide_eq_true h3]
    refine iteT ⟨_, rfl, rfl, ?_⟩
    rw [dec_str, decide_eq_false h]
    exact bad (by unfold nameP; rw [decide_eq_true h3]; rfl)
  rw [decide_eq_false h3]
  refine iteF ⟨_, rfl, x, rfl, by rw [sizeLine_eq]; omega, _, _, rfl, rfl, _, rfl, ?_⟩
  by_cases h1 : 1 ≤ x.length
  · rw [decide_eq_true (show (0 : Int) < ((x.length : Nat) : Int) by omega)]
    refine iteT ⟨_, _, rfl, rfl, _, rfl, ?_⟩
    by_cases h2 : x.length ≤ 8
    · rw [decide_eq_true (show ((x.length : Nat) : Int) < 9 by omega)]
      refine iteT ?_
      have e2 : nameP x = x.cps.toList.all fun c => decide (c ∈ letters) := by
        unfold nameP
        rw [decide_eq_false h3, decide_eq_true h1, decide_eq_true h2]
        rfl
      refine ⟨_, rfl, x, rfl, fun D hD => ?_⟩
      refine lc_it walk_str (fun i H' => Acc _ D (((x.cps.toList.take i).map fun c => decide (c ∈ letters)).map V.bl) H') (.nil hD) (fun _ _ _ _ => trivial) (fun i y H1 H2 hi p z => ?_) (fun H1 p => ?_)
      · obtain ⟨rfl, c, hc, rfl⟩ := z
        refine ⟨rfl, ?_⟩
        simp only [tYes, ↓reduceIte]
        refine ⟨_, rfl, _, rfl, c, lettS, rfl, congrArg V.str eL, _, p.2, ?_, ?_⟩
        · rw [List.length_map, List.length_map, List.length_take, hl, sizeLine_eq]; show min i x.length < _; omega
        · have h2 := p.push hD (.bl (decide (c ∈ letters)))
          have h3 : x.cps.toList[i]? = some c := by rw [Array.getElem?_toList]; exact hc
          rw [List.take_add_one, h3, Option.toList_some, List.map_append, List.map_append]
          exact h2
      · refine ⟨D, _, rfl, SqL.of p.2, ?_⟩
        rw [List.take_of_length_le (by rw [hl]; exact Nat.le_refl _)]
        have ea : (x.cps.toList.map fun c => decide (c ∈ letters)).all id = x.cps.toList.all fun c => decide (c ∈ letters) := by
          rw [List.all_map]; rfl
        rw [ea]
        rw [← e2]
        exact q H1 (s0.trans p.1)
    · rw [decide_eq_false (show ¬ ((x.length : Nat) : Int) < 9 by omega)]
      exact iteF (bad (by unfold nameP; rw [decide_eq_false h2]; simp))
  · rw [decide_eq_false (show ¬ (0 : Int) < ((x.length : Nat) : Int) by omega)]
    exact iteF ⟨_, rfl, iteF (bad (by unfold nameP; rw [decide_eq_false h1]; simp))⟩
end
end Ka
namespace Ka
open PySem PySem.Spec PyProof.Rows L2 Ty
/-- [p(w) for w in ws], ws a list of texts -/
theorem lc_all {K : PySem.W.Frag} {a D : Addr} {ws : List Str} {H1 : Hp} {te : TE} {σ : L2.St} {i : Nat} {p : Str → Bool} {Qd : Hp → Prop} (hD : H1 D = none) (ha : H1 a = some (.lst (ws.map V.str))) (hz : ws.length < sizeLine)
    (hk : ∀ v : V, wipe ((wipe σ [i]).set i (some v)) [i] = wipe σ [i])
    (he : ∀ w, w ∈ ws → ∀ (H2 : Hp) (Q : VK), (∀ H3, Same H2 H3 → Q (.bl (p w)) H3) → te ((wipe σ [i]).set i (some (.str w))) H2 Q) (hd : ∀ H, Acc H1 D ((ws.map p).map V.bl) H → Qd H) :
    ∃ W : Nat → Nat → Hp → Prop, (∃ m, W 0 m (upd H1 D (.lst []))) ∧ ∀ n m H, W n m H →
      ((Itl K a).stop n H ∧ Qd H) ∨ ((Itl K a).go n H ∧ ∃ Nx : Hp → Prop, (∀ H', Nx H' → ∃ m', m' < m ∧ W (n + 1) m' H') ∧ ∀ x H', (Itl K a).yld n H x H' → gName i x (wipe σ [i]) H' fun σ2 H2 => wipe σ2 [i] = wipe σ [i] ∧ tYes σ2 H2 fun b H3 =>
        if b = true then te σ2 H3 fun y H4 => ∃ acc, H4 D = some (.lst acc) ∧ acc.length < sizeLine ∧ Nx (upd H4 D (.lst (acc ++ [y]))) else Nx H3) := by
  refine lc_list (xs := ws.map V.str) (fun n H' => Acc H1 D (((ws.take n).map p).map V.bl) H') (.nil hD) (fun n H' _ A => SqL.of (A.1 _ _ ha)) (fun n x H' hx A => ?_) (fun H' A => ?_)
  · rw [List.getElem?_map] at hx
    cases e : ws[n]? with
    | none => rw [e] at hx; cases hx
    | some w =>
      rw [e] at hx
      injection hx with hx
      subst hx
      refine ⟨hk _, ?_⟩
      simp only [tYes, ↓reduceIte]
      refine he w (List.mem_of_getElem? e) H' _ fun H3 s3 => ?_
      refine ⟨_, s3 _ _ A.2, ?_, ?_⟩
      · rw [List.length_map, List.length_map, List.length_take]
        omega
      · have h2 := (A.same s3).push hD (.bl (p w))
        rw [List.take_add_one, e, Option.toList_some, List.map_append, List.map_append]
        exact h2
  · rw [List.length_map, List.take_length] at A
    exact hd H' A
/-- the words of a row -/
def Ws (ws : List Str) : Prop := ws.length ≤ 100000 ∧ ∀ w, w ∈ ws → Tx w
theorem Ws.len {ws : List Str} (h : Ws ws) : ws.length < sizeLine := by rw [sizeLine_eq]; have := h.1; omega
theorem Tx.at {x : Str} (t : Tx x) : x.length ≤ 16000000 := by have := t.few; omega
def RI (H : Hp) (v : V) (i : Item) : Prop := ∃ a b, v = .ref a ∧ H a = some (.tup [.str i.1, .int (i.2.1 : Nat), .ref b]) ∧ H b = some (.tup (i.2.2.map V.str))
def deedV : Deed → List V
  | .go n => [.str "go", .int (n : Nat)]
  | .by a n b => [.str "by", .str a, .int (n : Nat), .str b]
  | .done => [.str "done"]
def RD (H : Hp) (v : V) (d : Deed) : Prop := ∃ a, v = .ref a ∧ H a = some (.tup (deedV d))
theorem RI.same {H H' : Hp} {v : V} {i : Item} (r : RI H v i) (s : Same H H') : RI H' v i := by
  obtain ⟨a, b, e, h1, h2⟩ := r
  exact ⟨a, b, e, s _ _ h1, s _ _ h2⟩
theorem RD.same {H H' : Hp} {v : V} {d : Deed} (r : RD H v d) (s : Same H H') : RD H' v d := by
  obtain ⟨a, e, h1⟩ := r
  exact ⟨a, e, s _ _ h1⟩
def spItem : Sp := fun vs H Q _ => ∃ (a : Addr) (ws : List Str), vs = [.ref a] ∧ H a = some (.lst (ws.map V.str)) ∧ Ws ws ∧
  (itemOf ws = none → ∀ H', Same H H' → Q .non H') ∧ ∀ i, itemOf ws = some i → ∀ v H', Same H H' → RI H' v i → Q v H'
def spDeed : Sp := fun vs H Q _ => ∃ (a : Addr) (ws : List Str), vs = [.ref a] ∧ H a = some (.lst (ws.map V.str)) ∧ Ws ws ∧
  (deedOf ws = none → ∀ H', Same H H' → Q .non H') ∧ ∀ d, deedOf ws = some d → ∀ v H', Same H H' → RD H' v d → Q v H'
def spLDeed : Sp := fun vs H Q _ => ∃ (a : Addr) (ws : List Str), vs = [.ref a] ∧ H a = some (.lst (ws.map V.str)) ∧ Ws ws ∧ ∀ H', Same H H' → Q (.bl (deedOf ws).isSome) H'
theorem scItem : FnScope ["words", "label", "dot", "ahead", "word"] ["words"] (defScope sItem) := ⟨rfl, rfl, rfl, by decide +kernel, rfl, by decide +kernel, by decide +kernel⟩
theorem scDeed : FnScope ["words"] ["words"] (defScope sDeed) := ⟨rfl, rfl, rfl, by decide +kernel, rfl, by decide +kernel, by decide +kernel⟩
theorem scLDeed : FnScope ["words"] ["words"] (defScope lIsDeed) := ⟨rfl, rfl, rfl, by decide +kernel, rfl, by decide +kernel, by decide +kernel⟩
theorem at0 {α : Type} {x : α} {xs : List α} : atI (x :: xs) 0 = some x := at_zero
theorem at1 {α : Type} {x y : α} {xs : List α} : atI (x :: y :: xs) 1 = some y := by
  have : (1 : Int) < (((x :: y :: xs).length : Nat) : Int) := by rw [List.length_cons, List.length_cons]; omega
  unfold atI ixN
  rw [if_pos (by decide), if_pos this]
  rfl
theorem at2 {α : Type} {x y z : α} {xs : List α} : atI (x :: y :: z :: xs) 2 = some z := by
  have : (2 : Int) < (((x :: y :: z :: xs).length : Nat) : Int) := by rw [List.length_cons, List.length_cons, List.length_cons]; omega
  unfold atI ixN
  rw [if_pos (by decide), if_pos this]
  rfl
theorem at3 {α : Type} {x y z u : α} {xs : List α} : atI (x :: y :: z :: u :: xs) 3 = some u := by
  have : (3 : Int) < (((x :: y :: z :: u :: xs).length : Nat) : Int) := by rw [List.length_cons, List.length_cons, List.length_cons, List.length_cons]; omega
  unfold atI ixN
  rw [if_pos (by decide), if_pos this]
  rfl
theorem all_id {ws : List Str} {p : Str → Bool} : (ws.map p).all id = ws.all p := by
  rw [List.all_map]; rfl
section
variable {P : Program} {w : World} {K : PySem.W.Frag} {mg : Str → Option Value} {base : Heap} {f g1 g2 : Addr} {fd gd1 gd2 : FuncData} {t1 t2 : Tok}
theorem ok_item (F : Fun K "item_of" "item_of" sItem f fd) (M : FnOk P w K mg base CX0 2 g1 gd1 ["word"] (spB markP)) (bM : Binds K gd1 ["word"] []) (kM : PySem.W.keepIn K (.ref g1) = true) (mM : mg "is_mark" = some (.ref g1))
    (N : FnOk P w K mg base CX0 1 g2 gd2 ["word"] (spB numP)) (bN : Binds K gd2 ["word"] []) (kN : PySem.W.keepIn K (.ref g2) = true) (mN : mg "is_number" = some (.ref g2))
    (ml : mg "len" = none) (ma : mg "all" = none) (mi : mg "int" = none) (mt : mg "tuple" = none) : FnOk P w K mg base CX0 3 f fd ["words"] spItem := by
  refine F.ok scItem (fun vs H Q E h => ?_) (fun cdv A outer s H vs Q E hr h => ?_)
  · obtain ⟨a, ws, rfl, _⟩ := h
    rfl
  obtain ⟨a, ws, rfl, ha, hw, q1, q2⟩ := h
  refine ⟨_, pss_cons (ps_if (PW.pt (pw_or (pt_cmpR op_lt (pe_callB call_len_seq rfl ml PySem.boot_len (pa_cons (pv 0) pa_nil)) pe_int (nomark _))
      (pw_or (pt_not (pt_val (pe_call M hr rfl mM kM bM .nil pass0 (pa_cons (pe_ix ix_list (pv 0) pe_int (fun _ _ => rfl)) pa_nil))))
      (pw_or1 (pt_not (pt_val (pe_call N (hr.mono (by decide)) rfl mN kN bN .nil pass0 (pa_cons (pe_ix ix_list (pv 0) pe_int (fun _ _ => rfl)) pa_nil))))))))
      (pss_one (ps_ret pe_non)) pss_nil)
    (pss_cons (ps_asg (pv 0) (pg_starL2 rfl (pg_name (i := 1) scItem.nd rfl (.inl rfl)) (pg_name (i := 2) scItem.nd rfl (.inl rfl)) (pg_name (i := 3) scItem.nd rfl (.inl rfl))))
    (pss_cons (ps_if (pt_not (pt_val (pe_callB (cr_all rfl) rfl ma (by decide +kernel) (pa_cons
        (pe_lc (own := [("word", 4)]) (g := gName 4) (tt := tYes) rfl scItem.nd (pi_list (pv 3)) (blkOk_by (N := ["words", "label", "dot", "ahead", "word"]) (sc := defScope sItem) (by decide +kernel)) (fun _ _ _ _ _ => pg_name (i := 4) scItem.nd rfl (Or.inl rfl)) (fun _ _ _ _ _ => pts_nil)
          (fun _ _ _ _ _ => pe_call M hr rfl mM kM bM .nil pass0 (pa_cons (pv 4) pa_nil))) pa_nil)))) (pss_one (ps_ret pe_non)) pss_nil)
    (pss_one (ps_ret (pe_tup (pa_cons (pv 1) (pa_cons (pe_callTy call_int_str rfl mi (by decide +kernel) (pa_cons (pv 2) pa_nil)) (pa_cons (pe_callTy call_tuple_of rfl mt (by decide +kernel) (pa_cons (pv 3) pa_nil)) pa_nil)))))))), ?_⟩
  have tx := hw.2
  refine ⟨_, rfl, a, _, rfl, .inl (SqL.of ha), _, _, rfl, rfl, _, rfl, ?_⟩
  have none_of : ∀ H', Same H H' → itemOf ws = none → Q .non H' := fun H' s' e => q1 e H' s'
  match ws, ha, hw, q1, q2, tx, none_of with
  | [], ha, hw, q1, q2, tx, none_of => exact iteT (none_of H same_refl rfl)
  | [_], ha, hw, q1, q2, tx, none_of => exact iteT (none_of H same_refl rfl)
  | l :: d :: as, ha, hw, q1, q2, tx, none_of =>
    have e0 : decide ((((l :: d :: as).map V.str).length : Int) < 2) = false := decide_eq_false (by simp; omega)
    rw [e0]
    have hl := tx l (by simp)
    have hd := tx d (by simp)
    have hi : itemOf (l :: d :: as) = if (markP l && numP d && as.all markP) = true then some (l, numV d, as) else none := rfl
    refine iteF ⟨_, rfl, a, _, _, _, rfl, rfl, SqL.of ha, at0, l, rfl, hl.at, fun H1 s1 => ⟨_, rfl, ?_⟩⟩
    cases c1 : markP l with
    | false => exact iteT (none_of H1 s1 (by rw [hi, c1]; rfl))
    | true =>
    refine iteF ⟨_, rfl, a, _, _, _, rfl, rfl, SqL.of (s1 _ _ ha), at1, d, rfl, hd.at, fun H2 s2 => ⟨_, rfl, ?_⟩⟩
    have s02 := s1.trans s2
    cases c2 : numP d with
    | false => exact iteT (none_of H2 s02 (by rw [hi, c2, Bool.and_false]; rfl))
    | true =>
    refine iteF ⟨_, rfl, a, _, _, _, rfl, SqL.of (s02 _ _ ha), fun D hD => ?_⟩
    have sD := same_new hD (.lst (as.map V.str))
    have s03 := s02.trans sD
    refine ⟨_, rfl, D, rfl, ⟨_, SqL.of upd_same⟩, fun D2 hD2 => ?_⟩
    have tas : ∀ w, w ∈ as → Tx w := fun w h => tx w (by simp [h])
    have las : as.length < sizeLine := by have := hw.len; simp at this; omega
    refine lc_all (p := markP) (i := 4) hD2 upd_same las (fun v => rfl) (fun w hw H4 Q4 q4 => ?_) (fun H4 A => ?_)
    · exact ⟨_, rfl, w, rfl, (tas w hw).at, fun H5 s5 => q4 H5 s5⟩
    · refine ⟨D2, _, rfl, SqL.of A.2, ?_⟩
      rw [all_id]
      have s04 := s03.trans A.1
      refine ⟨_, rfl, ?_⟩
      cases c3 : as.all markP with
      | false => exact iteT (none_of H4 s04 (by rw [hi, c3, Bool.and_false]; rfl))
      | true =>
        have nv := numV_of c2
        have ld : d.length ≤ 4 := by
          have := (numP_list.mp c2).2.1
          have hl : d.cps.toList.length = d.length := Array.length_toList
          omega
        refine iteF ⟨_, rfl, _, rfl, d, _, rfl, nv.1, by omega, _, rfl, D, _, rfl, .inl ⟨SqL.of (A.1 _ _ upd_same), fun b hb => ⟨by show 3 ≤ sizeLine; decide, fun c hc => ?_⟩⟩⟩
        have s5 := same_new hb (.tup (as.map V.str))
        have s6 := same_new hc (.tup [.str l, .int (numV d : Nat), .ref b])
        refine q2 (l, numV d, as) (by rw [hi, c1, c2, c3]; rfl) (.ref c) _ ((s04.trans s5).trans s6) ⟨c, b, rfl, upd_same, s6 _ _ upd_same⟩
end
end Ka
namespace Ka
open PySem PySem.Spec PyProof.Rows L2 Ty
theorem tx_lit {x : Str} (h : (decide (x.length ≤ 100000) && x.cps.toList.all fun c => decide (c < 128)) = true) : Tx x := by
  rw [Bool.and_eq_true] at h
  exact ⟨of_decide_eq_true h.1, fun c hc => of_decide_eq_true (List.all_eq_true.mp h.2 c hc)⟩
theorem tx_one {x : Str} (t : Tx x) : ∀ z, z ∈ [x] → Tx z := fun z hz => by rw [List.mem_singleton.mp hz]; exact t
theorem tx_done : Tx "done" := tx_lit (by decide +kernel)
theorem tx_go : Tx "go" := tx_lit (by decide +kernel)
theorem tx_by : Tx "by" := tx_lit (by decide +kernel)
theorem deed_done : deedOf ["done"] = some .done := by
  unfold deedOf
  rw [if_pos rfl]
theorem deed_two {w n : Str} : deedOf [w, n] = if (decide (w = "go") && numP n) = true then some (.go (numV n)) else none := by
  unfold deedOf
  rw [if_neg (fun e => by cases e)]
theorem deed_four {w a n b : Str} : deedOf [w, a, n, b] = if (decide (w = "by") && markP a && numP n && markP b) = true then some (.by a (numV n) b) else none := by
  unfold deedOf
  rw [if_neg (fun e => by cases e)]
theorem deed_none {ws : List Str} (h1 : ws ≠ [("done" : Str)]) (h2 : ws.length ≠ 2) (h4 : ws.length ≠ 4) : deedOf ws = none := by
  unfold deedOf
  rw [if_neg h1]
  match ws, h2, h4 with
  | [], _, _ => rfl
  | [_], _, _ => rfl
  | [_, _], h, _ => exact absurd rfl h
  | [_, _, _], _, _ => rfl
  | [_, _, _, _], _, h => exact absurd rfl h
  | _ :: _ :: _ :: _ :: _ :: _, _, _ => rfl
theorem dec_int (n m : Int) : decide (V.int n = V.int m) = decide (n = m) := by
  by_cases h : n = m
  · rw [h]; simp
  · rw [decide_eq_false h, decide_eq_false fun e => h (V.int.inj e)]
theorem dec_len {ws : List Str} {n : Nat} : decide (V.int (((ws.map V.str).length : Nat) : Int) = V.int (n : Int)) = decide (ws.length = n) := by
  rw [dec_int, List.length_map]
  by_cases h : ws.length = n
  · rw [h]; simp
  · rw [decide_eq_false h, decide_eq_false]
    omega
theorem list_two {α : Type} {l : List α} (h : l.length = 2) : ∃ a b, l = [a, b] := by
  match l, h with
  | [a, b], _ => exact ⟨a, b, rfl⟩
theorem list_four {α : Type} {l : List α} (h : l.length = 4) : ∃ a b c d, l = [a, b, c, d] := by
  match l, h with
  | [a, b, c, d], _ => exact ⟨a, b, c, d, rfl⟩
theorem num_short {d : Str} (h : numP d = true) : d.length ≤ 640 := by
  have := (numP_list.mp h).2.1
  have hl : d.cps.toList.length = d.length := Array.length_toList
  omega
section
variable {P : Program} {w : World} {K : PySem.W.Frag} {mg : Str → Option Value} {base : Heap} {f g1 g2 : Addr} {fd gd1 gd2 : FuncData} {t1 t2 : Tok}
theorem ok_deed (F : Fun K "deed_of" "deed_of" sDeed f fd) (M : FnOk P w K mg base CX0 2 g1 gd1 ["word"] (spB markP)) (bM : Binds K gd1 ["word"] []) (kM : PySem.W.keepIn K (.ref g1) = true) (mM : mg "is_mark" = some (.ref g1))
    (N : FnOk P w K mg base CX0 1 g2 gd2 ["word"] (spB numP)) (bN : Binds K gd2 ["word"] []) (kN : PySem.W.keepIn K (.ref g2) = true) (mN : mg "is_number" = some (.ref g2))
    (ml : mg "len" = none) (mi : mg "int" = none) : FnOk P w K mg base CX0 3 f fd ["words"] spDeed := by
  refine F.ok scDeed (fun vs H Q E h => ?_) (fun cdv A outer s H vs Q E hr h => ?_)
  · obtain ⟨a, ws, rfl, _⟩ := h
    rfl
  obtain ⟨a, ws, rfl, ha, hw, q1, q2⟩ := h
  have hu := hr.units
  refine ⟨_, pss_cons (ps_if (pt_cmpR (op_eqSs hu) (pv 0) (pe_lst (pa_cons pe_str pa_nil)) (nomark _)) (pss_one (ps_ret (pe_tup (pa_cons pe_str pa_nil)))) pss_nil)
    (pss_cons (ps_if (PW.pt (pw_and (pt_cmpR op_eq (pe_callB call_len_seq rfl ml PySem.boot_len (pa_cons (pv 0) pa_nil)) pe_int (nomark _)) (pw_and (pt_cmpR op_eq (pe_ix ix_list (pv 0) pe_int (fun _ _ => rfl)) pe_str (nomark _)) (pw_and1 (pt_val (pe_call N (hr.mono (by decide)) rfl mN kN bN .nil pass0 (pa_cons (pe_ix ix_list (pv 0) pe_int (fun _ _ => rfl)) pa_nil)))))))
      (pss_one (ps_ret (pe_tup (pa_cons pe_str (pa_cons (pe_callTy call_int_str rfl mi (by decide +kernel) (pa_cons (pe_ix ix_list (pv 0) pe_int (fun _ _ => rfl)) pa_nil)) pa_nil))))) pss_nil)
    (pss_cons (ps_if (PW.pt (pw_or (pt_cmpR op_ne (pe_callB call_len_seq rfl ml PySem.boot_len (pa_cons (pv 0) pa_nil)) pe_int (nomark _)) (pw_or (pt_cmpR op_ne (pe_ix ix_list (pv 0) pe_int (fun _ _ => rfl)) pe_str (nomark _))
        (pw_or (pt_not (pt_val (pe_call M hr rfl mM kM bM .nil pass0 (pa_cons (pe_ix ix_list (pv 0) pe_int (fun _ _ => rfl)) pa_nil)))) (pw_or1 (pt_not (pt_val (pe_call N (hr.mono (by decide)) rfl mN kN bN .nil pass0 (pa_cons (pe_ix ix_list (pv 0) pe_int (fun _ _ => rfl)) pa_nil)))))))))
      (pss_one (ps_ret pe_non)) pss_nil)
    (pss_one (ps_ret (pe_ifExp (pt_val (pe_call M hr rfl mM kM bM .nil pass0 (pa_cons (pe_ix ix_list (pv 0) pe_int (fun _ _ => rfl)) pa_nil)))
      (pe_tup (pa_cons pe_str (pa_cons (pe_ix ix_list (pv 0) pe_int (fun _ _ => rfl)) (pa_cons (pe_callTy call_int_str rfl mi (by decide +kernel) (pa_cons (pe_ix ix_list (pv 0) pe_int (fun _ _ => rfl)) pa_nil)) (pa_cons (pe_ix ix_list (pv 0) pe_int (fun _ _ => rfl)) pa_nil))))) pe_non))))), ?_⟩
  have tx := hw.2
  have none_of : ∀ H', Same H H' → deedOf ws = none → Q .non H' := fun H' s' e => q1 e H' s'
  refine ⟨_, rfl, (by show 1 ≤ sizeLine; decide), fun p0 hp0 => ?_⟩
  have s0 := same_new hp0 (.lst [.str "done"])
  have ha0 := s0 _ _ ha
  refine ⟨a, p0, ws, ["done"], rfl, rfl, SqL.of ha0, SqL.of upd_same, tx, tx_one tx_done, _, rfl, ?_⟩
  rw [if_neg Bool.false_ne_true]
  by_cases h1 : ws = [("done" : Str)]
  · rw [decide_eq_true h1]
    refine iteT ⟨by show 1 ≤ sizeLine; decide, fun c hc => ?_⟩
    subst h1
    exact q2 .done deed_done (.ref c) _ (s0.trans (same_new hc _)) ⟨c, rfl, upd_same⟩
  rw [decide_eq_false h1]
  refine iteF ⟨_, rfl, a, _, rfl, .inl (SqL.of ha0), rfl, _, rfl, ?_⟩
  rw [show (2 : Int) = ((2 : Nat) : Int) from rfl, dec_len]
  by_cases h2 : ws.length = 2
  · rw [decide_eq_true h2]
    obtain ⟨x, n, rfl⟩ := list_two h2
    refine iteT ⟨_, rfl, a, _, _, _, rfl, rfl, SqL.of ha0, at0, rfl, _, rfl, ?_⟩
    rw [dec_str]
    have hn := tx n (by simp)
    have fall : ∀ {H'}, Same H H' → deedOf [x, n] = none → _ := fun {H'} s' e => none_of H' s' e
    by_cases hx : x = "go"
    · rw [decide_eq_true hx]
      refine iteT ⟨_, rfl, a, _, _, _, rfl, rfl, SqL.of ha0, at1, n, rfl, hn.at, fun H1 s1 => ⟨_, rfl, ?_⟩⟩
      have s01 := s0.trans s1
      have ha1 := s01 _ _ ha
      cases c : numP n with
      | true =>
        have nv := numV_of c
        refine iteT ⟨_, rfl, a, _, _, _, rfl, rfl, SqL.of ha1, at1, n, _, rfl, nv.1, num_short c, by show 2 ≤ sizeLine; decide, fun d hd => ?_⟩
        exact q2 (.go (numV n)) (by rw [deed_two, c, decide_eq_true hx]; rfl) (.ref d) _ (s01.trans (same_new hd _)) ⟨d, rfl, upd_same⟩
      | false =>
        refine iteF ⟨_, rfl, a, _, rfl, .inl (SqL.of ha1), rfl, _, rfl, ?_⟩
        exact iteT (none_of _ s01 (by rw [deed_two, c, Bool.and_false]; rfl))
    · rw [decide_eq_false hx]
      refine iteF ⟨_, rfl, a, _, rfl, .inl (SqL.of ha0), rfl, _, rfl, ?_⟩
      exact iteT (none_of _ s0 (by rw [deed_two, decide_eq_false hx]; rfl))
  rw [decide_eq_false h2]
  refine iteF ⟨_, rfl, a, _, rfl, .inl (SqL.of ha0), rfl, _, rfl, ?_⟩
  rw [show (4 : Int) = ((4 : Nat) : Int) from rfl, dec_len]
  by_cases h4 : ws.length = 4
  · rw [decide_eq_true h4]
    obtain ⟨x, y, n, z, rfl⟩ := list_four h4
    have hy := tx y (by simp)
    have hn := tx n (by simp)
    have hz := tx z (by simp)
    refine iteF ⟨_, rfl, a, _, _, _, rfl, rfl, SqL.of ha0, at0, rfl, _, rfl, ?_⟩
    rw [dec_str]
    by_cases hx : x = "by"
    · rw [decide_eq_true hx]
      refine iteF ⟨_, rfl, a, _, _, _, rfl, rfl, SqL.of ha0, at1, y, rfl, hy.at, fun H1 s1 => ⟨_, rfl, ?_⟩⟩
      have s01 := s0.trans s1
      have ha1 := s01 _ _ ha
      cases c1 : markP y with
      | false => exact iteT (none_of _ s01 (by rw [deed_four, c1, Bool.and_false]; rfl))
      | true =>
      refine iteF ⟨_, rfl, a, _, _, _, rfl, rfl, SqL.of ha1, at2, n, rfl, hn.at, fun H2 s2 => ⟨_, rfl, ?_⟩⟩
      have s02 := s01.trans s2
      have ha2 := s02 _ _ ha
      cases c2 : numP n with
      | false => exact iteT (none_of _ s02 (by rw [deed_four, c2, Bool.and_false]; rfl))
      | true =>
      have nv := numV_of c2
      refine iteF ⟨_, rfl, a, _, _, _, rfl, rfl, SqL.of ha2, at3, z, rfl, hz.at, fun H3 s3 => ⟨_, rfl, ?_⟩⟩
      have s03 := s02.trans s3
      have ha3 := s03 _ _ ha
      cases c3 : markP z with
      | false => exact iteF (none_of _ s03 (by rw [deed_four, c3, Bool.and_false]; rfl))
      | true =>
      refine iteT ⟨_, rfl, a, _, _, _, rfl, rfl, SqL.of ha3, at1, _, rfl, a, _, _, _, rfl, rfl, SqL.of ha3, at2, n, _, rfl, nv.1, num_short c2, _, rfl, a, _, _, _, rfl, rfl, SqL.of ha3, at3, by show 4 ≤ sizeLine; decide, fun d hd => ?_⟩
      exact q2 (.by y (numV n) z) (by rw [deed_four, c1, c2, c3, decide_eq_true hx]; rfl) (.ref d) _ (s03.trans (same_new hd _)) ⟨d, rfl, upd_same⟩
    · rw [decide_eq_false hx]
      exact iteT (none_of _ s0 (by rw [deed_four, decide_eq_false hx]; rfl))
  · rw [decide_eq_false h4]
    exact iteT (none_of _ s0 (deed_none h1 h2 h4))
end
end Ka
namespace Ka
open PySem PySem.Spec PyProof.Rows L2 Ty
theorem cut_one_list (ws : List Str) : cutV (ws.map V.str) none (some 1) = (ws.take 1).map V.str := by
  rw [show (some (1 : Int)) = some (((1 : Nat) : Nat) : Int) from rfl, cut_to, List.map_take]
theorem tx_take {ws : List Str} (h : ∀ w, w ∈ ws → Tx w) (n : Nat) : ∀ w, w ∈ ws.take n → Tx w := fun w hw => h w (List.mem_of_mem_take hw)
theorem take_one {ws : List Str} {x : Str} (h : ws.take 1 = [x]) : ∃ r, ws = x :: r := by
  cases ws with
  | nil => cases h
  | cons y r =>
    injection h with h
    exact ⟨r, by rw [h]⟩
theorem deed_go {r : List Str} (h : r.length ≠ 1) : deedOf ("go" :: r) = none := by
  match r, h with
  | [], _ => rfl
  | [_], h => exact absurd rfl h
  | [_, _], _ => rfl
  | [a, n, b], _ =>
    rw [deed_four, decide_eq_false (by decide +kernel)]
    rfl
  | _ :: _ :: _ :: _ :: _, _ => rfl
theorem deed_other {ws : List Str} (h1 : ws ≠ [("done" : Str)]) (h2 : ws.take 1 ≠ [("go" : Str)]) (h3 : ws.take 1 ≠ [("by" : Str)]) : deedOf ws = none := by
  unfold deedOf
  rw [if_neg h1]
  match ws, h2, h3 with
  | [], _, _ => rfl
  | [_], _, _ => rfl
  | [w, n], h2, _ =>
    have : w ≠ "go" := fun e => h2 (by rw [e]; rfl)
    show (if (decide (w = "go") && numP n) = true then _ else none) = none
    rw [decide_eq_false this]
    rfl
  | [_, _, _], _, _ => rfl
  | [w, a, n, b], _, h3 =>
    have : w ≠ "by" := fun e => h3 (by rw [e]; rfl)
    show (if (decide (w = "by") && markP a && numP n && markP b) = true then _ else none) = none
    rw [decide_eq_false this]
    rfl
  | _ :: _ :: _ :: _ :: _ :: _, _, _ => rfl
theorem deed_by {r : List Str} (h : r.length ≠ 3) : deedOf ("by" :: r) = none := by
  match r, h with
  | [], _ => rfl
  | [n], h =>
    rw [deed_two, decide_eq_false (by decide +kernel)]
    rfl
  | [_, _], _ => rfl
  | [_, _, _], h => exact absurd rfl h
  | _ :: _ :: _ :: _ :: _, _ => rfl
section
variable {P : Program} {w : World} {K : PySem.W.Frag} {mg : Str → Option Value} {base : Heap} {f g1 g2 : Addr} {fd gd1 gd2 : FuncData} {t1 t2 : Tok}
theorem ok_ldeed (F : Fun K "_law_is_deed" "_law_is_deed" lIsDeed f fd) (M : FnOk P w K mg base CX0 1 g1 gd1 ["word"] (spB markP)) (bM : Binds K gd1 ["word"] []) (kM : PySem.W.keepIn K (.ref g1) = true) (mM : mg "_law_is_mark" = some (.ref g1))
    (N : FnOk P w K mg base CX0 1 g2 gd2 ["word"] (spB numP)) (bN : Binds K gd2 ["word"] []) (kN : PySem.W.keepIn K (.ref g2) = true) (mN : mg "_law_is_number" = some (.ref g2))
    (ml : mg "len" = none) : FnOk P w K mg base CX0 2 f fd ["words"] spLDeed := by
  refine F.ok scLDeed (fun vs H Q E h => ?_) (fun cdv A outer s H vs Q E hr h => ?_)
  · obtain ⟨a, ws, rfl, _⟩ := h
    rfl
  obtain ⟨a, ws, rfl, ha, hw, q⟩ := h
  have hu := hr.units
  refine ⟨_, pss_cons (ps_if (pt_cmpR (op_eqSs hu) (pv 0) (pe_lst (pa_cons pe_str pa_nil)) (nomark _)) (pss_one (ps_ret pe_bl)) pss_nil)
    (pss_cons (ps_if (pt_cmpR (op_eqSs hu) (pe_slice sl_list (pv 0) po_none (po_some pe_int)) (pe_lst (pa_cons pe_str pa_nil)) (nomark _))
      (pss_one (ps_ret (pe_and (pe_cmpR op_eq (pe_callB call_len_seq rfl ml PySem.boot_len (pa_cons (pv 0) pa_nil)) pe_int (nomark _)) (pe_one (pe_call N hr rfl mN kN bN .nil pass0 (pa_cons (pe_ix ix_list (pv 0) pe_int (fun _ _ => rfl)) pa_nil)))))) pss_nil)
    (pss_cons (ps_if (PW.pt (pw_or (pt_cmpR (op_neSs hu) (pe_slice sl_list (pv 0) po_none (po_some pe_int)) (pe_lst (pa_cons pe_str pa_nil)) (nomark _)) (pw_or (pt_cmpR op_ne (pe_callB call_len_seq rfl ml PySem.boot_len (pa_cons (pv 0) pa_nil)) pe_int (nomark _))
        (pw_or1 (pt_not (pt_val (pe_call N hr rfl mN kN bN .nil pass0 (pa_cons (pe_ix ix_list (pv 0) pe_int (fun _ _ => rfl)) pa_nil))))))))
      (pss_one (ps_ret pe_bl)) pss_nil)
    (pss_one (ps_ret (pe_and (pe_call M hr rfl mM kM bM .nil pass0 (pa_cons (pe_ix ix_list (pv 0) pe_int (fun _ _ => rfl)) pa_nil)) (pe_one (pe_call M hr rfl mM kM bM .nil pass0 (pa_cons (pe_ix ix_list (pv 0) pe_int (fun _ _ => rfl)) pa_nil)))))))), ?_⟩
  have tx := hw.2
  have res : ∀ (b : Bool) H', Same H H' → (deedOf ws).isSome = b → Q (.bl b) H' := fun b H' s' e => by
    have := q H' s'
    rw [e] at this
    exact this
  refine ⟨_, rfl, (by show 1 ≤ sizeLine; decide), fun p0 hp0 => ?_⟩
  have s0 := same_new hp0 (.lst [.str "done"])
  have ha0 := s0 _ _ ha
  refine ⟨a, p0, ws, ["done"], rfl, rfl, SqL.of ha0, SqL.of upd_same, tx, tx_one tx_done, _, rfl, ?_⟩
  rw [if_neg Bool.false_ne_true]
  by_cases h1 : ws = [("done" : Str)]
  · rw [decide_eq_true h1]
    exact iteT (res true _ s0 (by rw [h1, deed_done]; rfl))
  rw [decide_eq_false h1]
  refine iteF ⟨_, rfl, _, rfl, a, _, rfl, SqL.of ha0, fun p1 hp1 => ?_⟩
  rw [cut_one_list]
  have s1 := same_new hp1 (.lst ((ws.take 1).map V.str))
  have s01 := s0.trans s1
  refine ⟨(by show 1 ≤ sizeLine; decide), fun p2 hp2 => ?_⟩
  have s2 := same_new hp2 (.lst [.str "go"])
  have s02 := s01.trans s2
  have ha2 := s02 _ _ ha
  refine ⟨p1, p2, ws.take 1, ["go"], rfl, rfl, SqL.of (s2 _ _ upd_same), SqL.of upd_same, tx_take tx 1, tx_one tx_go, _, rfl, ?_⟩
  rw [if_neg Bool.false_ne_true]
  by_cases h2 : ws.take 1 = [("go" : Str)]
  · rw [decide_eq_true h2]
    obtain ⟨r, e⟩ := take_one h2
    refine iteT ⟨_, rfl, a, _, rfl, .inl (SqL.of ha2), rfl, _, rfl, ?_⟩
    rw [show (2 : Int) = ((2 : Nat) : Int) from rfl, dec_len]
    by_cases hl : ws.length = 2
    · rw [decide_eq_true hl]
      obtain ⟨x, n, e2⟩ := list_two hl
      subst e2
      injection h2 with h2
      refine iteT ⟨_, rfl, a, _, _, _, rfl, rfl, SqL.of ha2, at1, n, rfl, (tx n (by simp)).at, fun H3 s3 => ?_⟩
      refine res (numP n) H3 (s02.trans s3) ?_
      rw [deed_two, decide_eq_true h2, Bool.true_and]
      cases numP n <;> rfl
    · rw [decide_eq_false hl]
      refine iteF (res false _ s02 ?_)
      rw [e, deed_go (by rw [e] at hl; simpa using hl)]
      rfl
  rw [decide_eq_false h2]
  refine iteF ⟨_, rfl, _, rfl, a, _, rfl, SqL.of ha2, fun p3 hp3 => ?_⟩
  rw [cut_one_list]
  have s3 := same_new hp3 (.lst ((ws.take 1).map V.str))
  have s03 := s02.trans s3
  refine ⟨(by show 1 ≤ sizeLine; decide), fun p4 hp4 => ?_⟩
  have s4 := same_new hp4 (.lst [.str "by"])
  have s04 := s03.trans s4
  have ha4 := s04 _ _ ha
  refine ⟨p3, p4, ws.take 1, ["by"], rfl, rfl, SqL.of (s4 _ _ upd_same), SqL.of upd_same, tx_take tx 1, tx_one tx_by, _, rfl, ?_⟩
  rw [if_pos rfl]
  by_cases h3 : ws.take 1 = [("by" : Str)]
  · rw [decide_eq_true h3]
    obtain ⟨r, e⟩ := take_one h3
    refine iteF ⟨_, rfl, a, _, rfl, .inl (SqL.of ha4), rfl, _, rfl, ?_⟩
    rw [show (4 : Int) = ((4 : Nat) : Int) from rfl, dec_len]
    by_cases hl : ws.length = 4
    · rw [decide_eq_true hl]
      obtain ⟨x, y, n, z, e2⟩ := list_four hl
      subst e2
      injection h3 with h3
      refine iteF ⟨_, rfl, a, _, _, _, rfl, rfl, SqL.of ha4, at2, n, rfl, (tx n (by simp)).at, fun H5 s5 => ⟨_, rfl, ?_⟩⟩
      have s05 := s04.trans s5
      have ha5 := s05 _ _ ha
      cases c2 : numP n with
      | false => exact iteT (res false _ s05 (by rw [deed_four, c2, Bool.and_false]; rfl))
      | true =>
      refine iteF ⟨_, rfl, a, _, _, _, rfl, rfl, SqL.of ha5, at1, y, rfl, (tx y (by simp)).at, fun H6 s6 => ⟨_, rfl, ?_⟩⟩
      have s06 := s05.trans s6
      have ha6 := s06 _ _ ha
      cases c1 : markP y with
      | false => exact iteF (res false _ s06 (by rw [deed_four, c1, Bool.and_false]; rfl))
      | true =>
      refine iteT ⟨_, rfl, a, _, _, _, rfl, rfl, SqL.of ha6, at3, z, rfl, (tx z (by simp)).at, fun H7 s7 => ?_⟩
      refine res (markP z) H7 (s06.trans s7) ?_
      rw [deed_four, decide_eq_true h3, c1, c2]
      cases markP z <;> rfl
    · rw [decide_eq_false hl]
      refine iteT (res false _ s04 ?_)
      rw [e, deed_by (by rw [e] at hl; simpa using hl)]
      rfl
  · rw [decide_eq_false h3]
    exact iteT (res false _ s04 (by rw [deed_other h1 h2 h3]; rfl))
end
end Ka
namespace Ka
open PySem PySem.Spec PyProof.Rows L2 Ty
/-- any list against an empty one -/
def rEqL0 (ne : Bool) : R2 := fun x y H Q => ∃ (a b : Addr) (xs : List V), x = .ref a ∧ y = .ref b ∧ H a = some (.lst xs) ∧ H b = some (.lst []) ∧ Q (.bl (if ne then !xs.isEmpty else xs.isEmpty)) H
section
variable {X : Cx}
theorem op_eqL0 (hu : X.A.units + 64 < cLine) : OpR X (compareOp .Eq) (rEqL0 false) := by
  intro pins s σ H x y v u Q I rx ry h
  obtain ⟨a, b, xs, rfl, rfl, ha, hb, q⟩ := h
  cases xs with
  | nil =>
    exact op_eqD hu pins s σ H _ _ v u Q I rx ry ⟨.list [], .list [], .lst (SqL.of ha) .nil, .lst (SqL.of hb) .nil, rfl, rfl, q⟩
  | cons z zs =>
    obtain rfl : v = Value.ref a := rx
    obtain rfl : u = Value.ref b := ry
    obtain ⟨hz1, its, n1, rv1, ho1⟩ := I.hok a _ ha
    obtain ⟨hz2, its2, n2, rv2, ho2⟩ := I.hok b _ hb
    have l1 : its.length = zs.length + 1 := by rw [← rv1.length, List.length_cons]
    have l2 : its2.length = 0 := by rw [← rv2.length, List.length_nil]
    refine PySem.P.eq_list_lengths ho1 ho2 ?_ (by omega) ⟨.bl false, H, I, rfl, q⟩
    rw [List.size_toArray, List.size_toArray, l1, l2]
    exact bne_iff_ne.mpr (by omega)
end
end Ka
namespace Ka
open PySem PySem.Spec PyProof.Rows L2 Ty
theorem scRow : FnScope ["states", "deeds", "row", "word", "words", "item", "symbol", "rest", "deed", "other"] ["states", "deeds", "row"] (defScope sRow) := ⟨rfl, rfl, rfl, by decide +kernel, rfl, by decide +kernel, by decide +kernel⟩
def RK (H : Hp) (kv : Key × V) (p : Str × Deed) : Prop := kv.1 = Sum.inr p.1 ∧ RD H kv.2 p.2
/-- what was read so far, backwards: the lists of items and the dicts of deeds -/
def RowsR (H : Hp) : List Addr → List Addr → Table → Prop
  | [], [], [] => True
  | p :: ps, q :: qs, st :: R => (∃ vs, H p = some (.lst vs) ∧ Paired (RI H) vs st.1) ∧ (∃ kvs, H q = some (.dK kvs) ∧ Paired (RK H) kvs st.2) ∧ RowsR H ps qs R
  | _, _, _ => False
structure Rd0 (a b : Addr) (H0 H : Hp) (R : Table) (ps qs : List Addr) : Prop where
  ha : H a = some (.lst (ps.reverse.map V.ref))
  hb : H b = some (.lst (qs.reverse.map V.ref))
  rows : RowsR H ps qs R
  nd : (a :: b :: ps).Nodup
  nq : qs.Nodup
  old : Same H0 H
  na : H0 a = none
  nb : H0 b = none
  np : ∀ p, p ∈ ps → H0 p = none
  nqs : ∀ q, q ∈ qs → H0 q = none
def Rdg (a b : Addr) (H0 H : Hp) (R : Table) : Prop := ∃ ps qs, Rd0 a b H0 H R ps qs
theorem paired_imp {α β : Type} {P Q : α → β → Prop} (f : ∀ x y, P x y → Q x y) : ∀ {l : List α} {m : List β}, Paired P l m → Paired Q l m
  | _, _, .nil => .nil
  | _, _, .cons h t => .cons (f _ _ h) (paired_imp f t)
theorem paired_snoc {α β : Type} {P : α → β → Prop} : ∀ {l : List α} {m : List β} {x : α} {y : β}, Paired P l m → P x y → Paired P (l ++ [x]) (m ++ [y])
  | _, _, _, _, .nil, h => .cons h .nil
  | _, _, _, _, .cons h t, h2 => .cons h (paired_snoc t h2)
theorem RowsR.keep {H H' : Hp} : ∀ {ps qs : List Addr} {R : Table}, RowsR H ps qs R → (∀ p, p ∈ ps → ∀ o, H p = some o → H' p = some o) → (∀ q, q ∈ qs → ∀ o, H q = some o → H' q = some o) →
    (∀ c xs, H c = some (.tup xs) → H' c = some (.tup xs)) → RowsR H' ps qs R
  | [], [], [], _, _, _, _ => trivial
  | p :: ps, q :: qs, st :: R, h, k1, k2, k3 => by
    obtain ⟨⟨vs, e1, r1⟩, ⟨kvs, e2, r2⟩, h⟩ := h
    have ri : ∀ v i, RI H v i → RI H' v i := fun v i r => by
      obtain ⟨x, y, e, f1, f2⟩ := r
      exact ⟨x, y, e, k3 _ _ f1, k3 _ _ f2⟩
    have rk : ∀ kv p, RK H kv p → RK H' kv p := fun kv p r => by
      obtain ⟨e, x, e', f⟩ := r
      exact ⟨e, x, e', k3 _ _ f⟩
    exact ⟨⟨vs, k1 p (by simp) _ e1, paired_imp ri r1⟩, ⟨kvs, k2 q (by simp) _ e2, paired_imp rk r2⟩, RowsR.keep h (fun p' hp => k1 p' (by simp [hp])) (fun q' hq => k2 q' (by simp [hq])) k3⟩
  | [], [], _ :: _, h, _, _, _ => h.elim
  | [], _ :: _, _, h, _, _, _ => by cases h
  | _ :: _, [], _, h, _, _, _ => by cases h
  | _ :: _, _ :: _, [], h, _, _, _ => by cases h
theorem Rd0.same {a b : Addr} {H0 H H' : Hp} {R : Table} {ps qs : List Addr} (r : Rd0 a b H0 H R ps qs) (s : Same H H') : Rd0 a b H0 H' R ps qs :=
  ⟨s _ _ r.ha, s _ _ r.hb, r.rows.keep (fun p _ o e => s _ _ e) (fun p _ o e => s _ _ e) (fun c xs e => s _ _ e), r.nd, r.nq, r.old.trans s, r.na, r.nb, r.np, r.nqs⟩
theorem RowsR.len {H : Hp} : ∀ {ps qs : List Addr} {R : Table}, RowsR H ps qs R → ps.length = R.length ∧ qs.length = R.length
  | [], [], [], _ => ⟨rfl, rfl⟩
  | p :: ps, q :: qs, st :: R, h => by
    have := RowsR.len h.2.2
    simp only [List.length_cons]
    omega
  | [], [], _ :: _, h => h.elim
  | [], _ :: _, _, h => by cases h
  | _ :: _, [], _, h => by cases h
  | _ :: _, _ :: _, [], h => by cases h
theorem RowsR.lst {H : Hp} : ∀ {ps qs : List Addr} {R : Table}, RowsR H ps qs R → (∀ p, p ∈ ps → ∃ vs, H p = some (.lst vs)) ∧ ∀ q, q ∈ qs → ∃ kvs, H q = some (.dK kvs)
  | [], [], [], _ => ⟨fun p h => (by cases h), fun p h => (by cases h)⟩
  | p :: ps, q :: qs, st :: R, h => by
    obtain ⟨⟨vs, e1, r1⟩, ⟨kvs, e2, r2⟩, h⟩ := h
    have ih := RowsR.lst h
    refine ⟨fun x hx => ?_, fun x hx => ?_⟩
    · rcases List.mem_cons.mp hx with e | hx
      · rw [e]; exact ⟨vs, e1⟩
      · exact ih.1 x hx
    · rcases List.mem_cons.mp hx with e | hx
      · rw [e]; exact ⟨kvs, e2⟩
      · exact ih.2 x hx
  | [], [], _ :: _, h => h.elim
  | [], _ :: _, _, h => by cases h
  | _ :: _, [], _, h => by cases h
  | _ :: _, _ :: _, [], h => by cases h
/-- a new state: two fresh objects, both lists one longer -/
theorem Rd0.state {a b : Addr} {H0 H : Hp} {R : Table} {ps qs : List Addr} {p q : Addr} (r : Rd0 a b H0 H R ps qs) (hp : H p = none) (hq : (upd (upd H p (.lst [])) a (.lst ((ps.reverse ++ [p]).map V.ref))) q = none) :
    Rd0 a b H0 (upd (upd (upd (upd H p (.lst [])) a (.lst ((ps.reverse ++ [p]).map V.ref))) q (.dK [])) b (.lst ((qs.reverse ++ [q]).map V.ref))) (([], []) :: R) (p :: ps) (q :: qs) := by
  have pa : p ≠ a := fun e => by rw [e, r.ha] at hp; cases hp
  have pb : p ≠ b := fun e => by rw [e, r.hb] at hp; cases hp
  have nd := r.nd
  have ab : a ≠ b := fun e => by rw [e] at nd; simp at nd
  have qa : q ≠ a := fun e => by rw [e, upd_same] at hq; cases hq
  have qp : q ≠ p := fun e => by rw [e, upd_ne pa, upd_same] at hq; cases hq
  have hqH : H q = none := by rw [upd_ne qa, upd_ne qp] at hq; exact hq
  have qb : q ≠ b := fun e => by rw [e, r.hb] at hqH; cases hqH
  have keep : ∀ c o, c ≠ a → c ≠ b → H c = some o → (upd (upd (upd (upd H p (.lst [])) a (.lst ((ps.reverse ++ [p]).map V.ref))) q (.dK [])) b (.lst ((qs.reverse ++ [q]).map V.ref))) c = some o := fun c o ca cb e => by
    rw [upd_ne cb, upd_ne (ne_of_none e hqH), upd_ne ca, upd_ne (ne_of_none e hp)]
    exact e
  have hnp : ∀ x, x ∈ ps → x ≠ a ∧ x ≠ b := fun x hx => ⟨fun e => (by rw [e] at hx; simp [hx] at nd), fun e => (by rw [e] at hx; simp [hx] at nd)⟩
  have hnq : ∀ x, x ∈ qs → x ≠ a ∧ x ≠ b := fun x hx => by
    obtain ⟨kvs, e⟩ := r.rows.lst.2 x hx
    exact ⟨fun z => (by rw [z, r.ha] at e; cases e), fun z => (by rw [z, r.hb] at e; cases e)⟩
  refine ⟨?_, ?_, ⟨⟨[], ?_, .nil⟩, ⟨[], ?_, .nil⟩, r.rows.keep (fun x hx o e => keep x o (hnp x hx).1 (hnp x hx).2 e) (fun x hx o e => keep x o (hnq x hx).1 (hnq x hx).2 e) fun c xs e => keep c _ (fun z => by rw [z, r.ha] at e; cases e) (fun z => by rw [z, r.hb] at e; cases e) e⟩, ?_, ?_, ?_, r.na, r.nb, ?_, ?_⟩
  · rw [upd_ne ab, upd_ne (Ne.symm qa), upd_same, List.reverse_cons]
  · rw [upd_same, List.reverse_cons]
  · rw [upd_ne pb, upd_ne (Ne.symm qp), upd_ne pa, upd_same]
  · rw [upd_ne qb, upd_same]
  · have hpn : p ∉ ps := fun h => by
      obtain ⟨vs, e⟩ := r.rows.lst.1 p h
      rw [hp] at e; cases e
    simp only [List.nodup_cons, List.mem_cons, not_or] at nd ⊢
    exact ⟨⟨nd.1.1, Ne.symm pa, nd.1.2⟩, ⟨Ne.symm pb, nd.2.1⟩, hpn, nd.2.2⟩
  · refine List.nodup_cons.mpr ⟨fun h => ?_, r.nq⟩
    obtain ⟨kvs, e⟩ := r.rows.lst.2 q h
    rw [hqH] at e; cases e
  · intro c o e
    exact keep c o (fun z => by rw [z, r.na] at e; cases e) (fun z => by rw [z, r.nb] at e; cases e) (r.old c o e)
  · intro x hx
    rcases List.mem_cons.mp hx with e | hx
    · rw [e]
      cases z : H0 p with
      | none => rfl
      | some o => rw [r.old p o z] at hp; cases hp
    · exact r.np x hx
  · intro x hx
    rcases List.mem_cons.mp hx with e | hx
    · rw [e]
      cases z : H0 q with
      | none => rfl
      | some o => rw [r.old q o z] at hqH; cases hqH
    · exact r.nqs x hx
/-- one more item of the last state -/
theorem Rd0.item {a b : Addr} {H0 H : Hp} {is : List Item} {ds : List (Str × Deed)} {R : Table} {p : Addr} {ps qs : List Addr} (r : Rd0 a b H0 H ((is, ds) :: R) (p :: ps) qs) {vs : List V} (e : H p = some (.lst vs)) {v : V} {i : Item} (hv : RI H v i) :
    Rd0 a b H0 (upd H p (.lst (vs ++ [v]))) ((is ++ [i], ds) :: R) (p :: ps) qs := by
  have nd := r.nd
  have pa : a ≠ p := fun z => by rw [z] at nd; simp at nd
  have pb : b ≠ p := fun z => by rw [z] at nd; simp at nd
  have hnp : ∀ x, x ∈ ps → x ≠ p := fun x hx z => by rw [z] at hx; simp [hx] at nd
  cases qs with
  | nil => exact r.rows.elim
  | cons q qs =>
    obtain ⟨⟨vs', e1, r1⟩, ⟨kvs, e2, r2⟩, h⟩ := r.rows
    have e1' : H p = some (.lst vs') := e1
    rw [e] at e1'
    injection e1' with e1'
    injection e1' with e1'
    subst e1'
    have lq := r.rows.lst.2
    have keep : ∀ c o, c ≠ p → H c = some o → (upd H p (.lst (vs ++ [v]))) c = some o := fun c o n h => by rw [upd_ne n]; exact h
    have kt : ∀ c xs, H c = some (.tup xs) → (upd H p (.lst (vs ++ [v]))) c = some (.tup xs) := fun c xs h => keep c _ (fun z => by rw [z, e] at h; cases h) h
    have ri : ∀ u j, RI H u j → RI (upd H p (.lst (vs ++ [v]))) u j := fun u j r => by
      obtain ⟨x, y, e, f1, f2⟩ := r
      exact ⟨x, y, e, kt _ _ f1, kt _ _ f2⟩
    have rk : ∀ kv z, RK H kv z → RK (upd H p (.lst (vs ++ [v]))) kv z := fun kv z r => by
      obtain ⟨e, x, e', f⟩ := r
      exact ⟨e, x, e', kt _ _ f⟩
    have nq : ∀ x, x ∈ q :: qs → x ≠ p := fun x hx z => by
      obtain ⟨kv, e3⟩ := lq x hx
      rw [z, e] at e3; cases e3
    have r1' : Paired (RI (upd H p (.lst (vs ++ [v])))) (vs ++ [v]) (is ++ [i]) := paired_snoc (paired_imp ri r1) (ri v i hv)
    refine ⟨keep _ _ pa r.ha, keep _ _ pb r.hb, ⟨⟨_, upd_same, r1'⟩, ⟨kvs, keep _ _ (nq q (by simp)) e2, paired_imp rk r2⟩, h.keep (fun x hx o e => keep x o (hnp x hx) e) (fun x hx o e => keep x o (nq x (by simp [hx])) e) kt⟩, nd, r.nq, ?_, r.na, r.nb, r.np, r.nqs⟩
    intro c o h0
    exact keep c o (fun z => by rw [z, r.np p (by simp)] at h0; cases h0) (r.old c o h0)
/-- one more deed of the last state -/
theorem Rd0.deed {a b : Addr} {H0 H : Hp} {is : List Item} {ds : List (Str × Deed)} {R : Table} {q : Addr} {ps qs : List Addr} (r : Rd0 a b H0 H ((is, ds) :: R) ps (q :: qs)) {kvs : List (Key × V)} (e : H q = some (.dK kvs)) {k : Str} {v : V} {d : Deed} (hv : RD H v d) :
    Rd0 a b H0 (upd H q (.dK (kvs ++ [(Sum.inr k, v)]))) ((is, ds ++ [(k, d)]) :: R) ps (q :: qs) := by
  cases ps with
  | nil => exact r.rows.elim
  | cons p ps =>
    obtain ⟨⟨vs, e1, r1⟩, ⟨kvs', e2, r2⟩, h⟩ := r.rows
    have e2' : H q = some (.dK kvs') := e2
    rw [e] at e2'
    injection e2' with e2'
    injection e2' with e2'
    subst e2'
    have lp := r.rows.lst.1
    have keep : ∀ c o, c ≠ q → H c = some o → (upd H q (.dK (kvs ++ [(Sum.inr k, v)]))) c = some o := fun c o n h => by rw [upd_ne n]; exact h
    have kt : ∀ c xs, H c = some (.tup xs) → (upd H q (.dK (kvs ++ [(Sum.inr k, v)]))) c = some (.tup xs) := fun c xs h => keep c _ (fun z => by rw [z, e] at h; cases h) h
    have ri : ∀ u i, RI H u i → RI (upd H q (.dK (kvs ++ [(Sum.inr k, v)]))) u i := fun v i r => by
      obtain ⟨x, y, e, f1, f2⟩ := r
      exact ⟨x, y, e, kt _ _ f1, kt _ _ f2⟩
    have rk : ∀ kv z, RK H kv z → RK (upd H q (.dK (kvs ++ [(Sum.inr k, v)]))) kv z := fun kv z r => by
      obtain ⟨e, x, e', f⟩ := r
      exact ⟨e, x, e', kt _ _ f⟩
    have np : ∀ x, x ∈ p :: ps → x ≠ q := fun x hx z => by
      obtain ⟨kv, e3⟩ := lp x hx
      rw [z, e] at e3; cases e3
    have hnq : ∀ x, x ∈ qs → x ≠ q := fun x hx z => by
      have := (List.nodup_cons.mp r.nq).1
      rw [z] at hx
      exact this hx
    have aq : a ≠ q := fun z => by
      have := r.ha
      rw [z, e] at this; cases this
    have bq : b ≠ q := fun z => by
      have := r.hb
      rw [z, e] at this; cases this
    have r2' : Paired (RK (upd H q (.dK (kvs ++ [(Sum.inr k, v)])))) (kvs ++ [(Sum.inr k, v)]) (ds ++ [(k, d)]) := paired_snoc (paired_imp rk r2) (rk (Sum.inr k, v) (k, d) ⟨rfl, hv⟩)
    refine ⟨keep _ _ aq r.ha, keep _ _ bq r.hb, ⟨⟨_, keep _ _ (np p (by simp)) e1, paired_imp ri r1⟩, ⟨_, upd_same, r2'⟩, h.keep (fun x hx o e => keep x o (np x (by simp [hx])) e) (fun x hx o e => keep x o (hnq x hx) e) kt⟩, r.nd, r.nq, ?_, r.na, r.nb, r.np, r.nqs⟩
    intro c o h0
    exact keep c o (fun z => by rw [z, r.nqs q (by simp)] at h0; cases h0) (r.old c o h0)
end Ka
set_option maxHeartbeats 2000000
namespace Ka
open PySem PySem.Spec PyProof.Rows L2 Ty
theorem at_last {α : Type} {x : α} {xs : List α} : atI (xs ++ [x]) (-1) = some x := by
  unfold atI ixN
  have h : ¬ (0 : Int) ≤ -1 := by decide
  have h2 : -(((xs ++ [x]).length : Nat) : Int) ≤ -1 := by rw [List.length_append, List.length_singleton]; omega
  rw [if_neg h, if_pos h2]
  have e : ((-1 : Int) + (((xs ++ [x]).length : Nat) : Int)).toNat = xs.length := by rw [List.length_append, List.length_singleton]; omega
  rw [e]
  show (xs ++ [x])[xs.length]? = some x
  simp
theorem join_mem {y : Str} {c : Nat} : ∀ {l : List Str} {p : Str}, p ∈ l → c ∈ p.cps.toList → c ∈ (Str.join y l).cps.toList
  | [x], p, hp, hc => by
    rw [List.mem_singleton.mp hp] at hc
    exact hc
  | x :: z :: r, p, hp, hc => by
    have e : (Str.join y (x :: z :: r)) = x ++ y ++ Str.join y (z :: r) := rfl
    rw [e, Str.cps_append, Array.toList_append, Str.cps_append, Array.toList_append, List.mem_append, List.mem_append]
    rcases List.mem_cons.mp hp with q | q
    · rw [q] at hc
      exact .inl (.inl hc)
    · exact .inr (join_mem q hc)
theorem ws_row {r : Str} (t : Tx r) (h : r.length ≤ 99990) : Ws (Txt.split r " ") := by
  have hn : (" " : Str).length = 1 := by decide +kernel
  have hne := split_ne r " " (by rw [hn]; decide)
  have hl := len_row hne
  rw [row_split] at hl
  refine ⟨by omega, fun w hw => ⟨?_, fun c hc => t.low c ?_⟩⟩
  · have := sumL_mem hw
    omega
  · have := join_mem (y := " ") hw hc
    rw [StrLaws.join_split] at this
    exact this
theorem paired_get {α β : Type} {P : α → β → Prop} : ∀ {l : List α} {m : List β}, Paired P l m → ∀ (i : Nat) (x : α), l[i]? = some x → ∃ y, m[i]? = some y ∧ P x y
  | _, _, .nil, i, x, h => by simp at h
  | _, _, .cons r t, 0, x, h => by
    simp at h
    subst h
    exact ⟨_, rfl, r⟩
  | _, _, .cons r t, i + 1, x, h => by
    obtain ⟨y, e, p⟩ := paired_get t i x (by simpa using h)
    exact ⟨y, by simpa using e, p⟩
theorem log_small {n : Nat} (h : n ≤ 1000000) : ((n : Int)).natAbs.log2 < 1920 := by
  have h2 : ((n : Int)).natAbs < 2 ^ 20 := by
    have : (2 : Nat) ^ 20 = 1048576 := by decide
    omega
  have := PySem.Flt.log2_lt_of (by decide) h2
  omega
theorem nS_len {n : Nat} (h : n ≤ 1000000) : (nS n).length ≤ 10 := PySem.W.KT.len_num (n := (n : Int)) (by omega) (by omega)
theorem tx_nS {n : Nat} (h : n ≤ 1000000) : Tx (nS n) := ⟨by have := nS_len h; omega, fun c hc => (wd_nS' n c hc).2⟩
def Bd (R : Table) : Prop := R.length ≤ 200000 ∧ ∀ st, st ∈ R → st.1.length ≤ 200000 ∧ st.2.length ≤ 200000
def spRow : Sp := fun vs H Q _ => ∃ (a b : Addr) (H0 : Hp) (R : Table) (r : Str), vs = [.ref a, .ref b, .str r] ∧ Rdg a b H0 H R ∧ Tx r ∧ r.length ≤ 99990 ∧ Bd R ∧ VT R ∧
  (stepR R r = none → ∀ H', Same H0 H' → Q (.bl false) H') ∧ ∀ R', stepR R r = some R' → ∀ H', Rdg a b H0 H' R' → Q (.bl true) H'
section
variable {P : Program} {w : World} {K : PySem.W.Frag} {mg : Str → Option Value} {base : Heap} {f g1 g2 g3 : Addr} {fd gd1 gd2 gd3 : FuncData} {t1 t2 : Tok}
theorem ok_row (F : Fun K "take_row" "take_row" sRow f fd) (M : FnOk P w K mg base CX0 2 g1 gd1 ["word"] (spB markP)) (bM : Binds K gd1 ["word"] []) (kM : PySem.W.keepIn K (.ref g1) = true) (mM : mg "is_mark" = some (.ref g1))
    (GI : FnOk P w K mg base CX0 3 g2 gd2 ["words"] spItem) (bI : Binds K gd2 ["words"] []) (kI : PySem.W.keepIn K (.ref g2) = true) (mI : mg "item_of" = some (.ref g2))
    (GD : FnOk P w K mg base CX0 3 g3 gd3 ["words"] spDeed) (bD : Binds K gd3 ["words"] []) (kD : PySem.W.keepIn K (.ref g3) = true) (mD : mg "deed_of" = some (.ref g3))
    (ml : mg "len" = none) (ms : mg "str" = none) : FnOk P w K mg base CX0 4 f fd ["states", "deeds", "row"] spRow := by
  refine F.ok scRow (fun vs H Q E h => ?_) (fun cdv A outer s H vs Q E hr h => ?_)
  · obtain ⟨a, b, H0, R, r, rfl, _⟩ := h
    rfl
  obtain ⟨a, b, H0, R, r, rfl, rd, tr, hlr, bd, vt, q1, q2⟩ := h
  have hu := hr.units
  refine ⟨_, pss_cons (ps_asg (pe_split (pv 2) pe_str) (pg_starL1 rfl (pg_name (i := 3) scRow.nd rfl (.inl rfl)) (pg_name (i := 4) scRow.nd rfl (.inl rfl))))
    (pss_cons (ps_if (pt_cmpR op_eq (pv 3) pe_str (nomark _))
      (pss_cons (ps_expr (pe_bm PySem.F.plainAttrs_list PySem.F.slot_list_append PySem.F.type_list_append mt_append (pv 0) (pa_cons (pe_lst pa_nil) pa_nil)))
      (pss_cons (ps_expr (pe_bm PySem.F.plainAttrs_list PySem.F.slot_list_append PySem.F.type_list_append mt_append (pv 1) (pa_cons pe_dnewK pa_nil)))
      (pss_one (ps_ret (pe_cmpR (op_eqSs hu) (pv 4) (pe_lst (pa_cons (pe_callTy call_str_int rfl ms (by decide +kernel) (pa_cons (pe_op op_sub (pe_callB call_len_seq rfl ml PySem.boot_len (pa_cons (pv 0) pa_nil)) pe_int) pa_nil)) pa_nil)) (nomark _)))))) pss_nil)
    (pss_cons (ps_if (pt_cmpR (op_eqL0 hu) (pv 0) (pe_lst pa_nil) (nomark _)) (pss_one (ps_ret pe_bl)) pss_nil)
    (pss_cons (ps_if (pt_cmpR op_eq (pv 3) pe_str (nomark _))
      (pss_cons (ps_set (i := 5) scRow.nd rfl (.inl rfl) (pe_call GI hr rfl mI kI bI .nil pass0 (pa_cons (pv 4) pa_nil)))
      (pss_cons (ps_expr (pe_bm PySem.F.plainAttrs_list PySem.F.slot_list_append PySem.F.type_list_append mt_append (pe_ix ix_list (pv 0) (pe_un un_neg pe_int) (fun _ _ => rfl)) (pa_cons (pv 5) pa_nil)))
      (pss_one (ps_ret (pe_and (pe_cmpR op_notN (pv 5) pe_non (nomark _)) (pe_one (pe_cmpR (op_eqD0 (Nat.lt_of_le_of_lt (Nat.le_add_right _ 64) hu)) (pe_ix ix_list (pv 1) (pe_un un_neg pe_int) (fun _ _ => rfl)) pe_dnewK (nomark _)))))))) pss_nil)
    (pss_cons (ps_if (PW.pt (pw_or (pt_cmpR op_ne (pv 3) pe_str (nomark _)) (pw_or (pt_cmpR (op_eqL0 hu) (pv 4) (pe_lst pa_nil) (nomark _))
        (pw_or1 (pt_not (pt_val (pe_call M (hr.mono (by decide)) rfl mM kM bM .nil pass0 (pa_cons (pe_ix ix_list (pv 4) pe_int (fun _ _ => rfl)) pa_nil))))))))
      (pss_one (ps_ret pe_bl)) pss_nil)
    (pss_cons (ps_asg (pv 4) (pg_starL1 rfl (pg_name (i := 6) scRow.nd rfl (.inr rfl)) (pg_name (i := 7) scRow.nd rfl (.inl rfl))))
    (pss_cons (ps_set (i := 8) scRow.nd rfl (.inl rfl) (pe_call GD hr rfl mD kD bD .nil pass0 (pa_cons (pv 7) pa_nil)))
    (pss_cons (ps_if (PW.pt (pw_or (pt_cmpR op_isN (pv 8) pe_non (nomark _)) (pw_or1 (pt_cmpR (op_neSs hu) (pe_lock (pe_lc (own := [("other", 9)]) (g := gName 9) (tt := tTest _) rfl scRow.nd (pi_keys (pe_ix ix_list (pv 1) (pe_un un_neg pe_int) (fun _ _ => rfl)))
          (blkOk_by (N := ["states", "deeds", "row", "word", "words", "item", "symbol", "rest", "deed", "other"]) (sc := defScope sRow) (by decide +kernel)) (fun _ _ _ _ _ => pg_name (i := 9) scRow.nd rfl (Or.inl rfl)) (fun _ _ _ _ _ => pts_one (pt_cmpR op_ge_str (pv 9) (pv 6) (nomark _)))
          (fun _ _ _ _ _ => pv 9))) (pe_lst pa_nil) (nomark _)))))
      (pss_one (ps_ret pe_bl)) pss_nil)
    (pss_cons (ps_dput (Nat.lt_of_le_of_lt (Nat.add_le_add_left (by decide : 1 ≤ 64) _) hu) (pe_ix ix_list (pv 1) (pe_un un_neg pe_int) (fun _ _ => rfl)) (pv 6) (pv 8) rfl)
    (pss_one (ps_ret pe_bl)))))))))), ?_⟩
  obtain ⟨ps, qs, rd⟩ := rd
  have hw := ws_row tr hlr
  have hne := split_ne r " " (by rw [show (" " : Str).length = 1 by decide +kernel]; decide)
  have hst : stepR R r = (match Txt.split r " " with | [] => none | w :: ws => stepW R w ws) := rfl
  cases es : Txt.split r " " with
  | nil => exact absurd es hne
  | cons w ws =>
  rw [es] at hw hst
  replace hst : stepR R r = stepW R w ws := hst
  have lR := rd.rows.len
  have tw : ∀ x, x ∈ ws → Tx x := fun x hx => hw.2 x (List.mem_cons_of_mem _ hx)
  have hw' : Ws ws := ⟨by have := hw.1; rw [List.length_cons] at this; omega, tw⟩
  refine ⟨_, rfl, ⟨_, rfl⟩, r, " ", rfl, rfl, by decide +kernel, by rw [sizeLine_eq]; omega, fun p0 hp0 => ?_⟩
  rw [es]
  refine ⟨p0, .str w, ws.map V.str, rfl, SqL.of upd_same, fun D hD => ?_⟩
  have s1 := (same_new hp0 (.lst ((w :: ws).map V.str))).trans (same_new hD (.lst (ws.map V.str)))
  have rd1 := rd.same s1
  have hD1 : (upd (upd H p0 (.lst ((w :: ws).map V.str))) D (.lst (ws.map V.str))) D = some (.lst (ws.map V.str)) := upd_same
  have DL : ∀ x o, H x = some o → x ≠ D := fun x o e => ne_of_none (same_new hp0 _ _ _ e) hD
  generalize eH1 : upd (upd H p0 (.lst ((w :: ws).map V.str))) D (.lst (ws.map V.str)) = H1 at s1 rd1 hD1
  have gH1 : upd (upd H p0 (HO.lst (List.map V.str (w :: ws)))) D (HO.lst (List.map V.str ws)) = H1 := eH1
  try rw [gH1]
  refine ⟨_, rfl, rfl, _, rfl, ?_⟩
  rw [dec_str]
  by_cases c1 : w = "state"
  · rw [decide_eq_true c1]
    refine iteT ⟨_, rfl, .inl ⟨rfl, _, SqL.of rd1.ha⟩, (by show 0 ≤ sizeLine; decide), fun p hp => ⟨a, _, _, rfl, rfl, same_new hp _ _ _ rd1.ha, ?_, ?_⟩⟩
    · rw [List.length_map, List.length_reverse, sizeLine_eq]; have := bd.1; omega
    have ea : ps.reverse.map V.ref ++ [V.ref p] = (ps.reverse ++ [p]).map V.ref := by rw [List.map_append]; rfl
    rw [ea]
    have pa : p ≠ a := fun e => by rw [e, rd1.ha] at hp; cases hp
    have pb : p ≠ b := fun e => by rw [e, rd1.hb] at hp; cases hp
    have nd := rd1.nd
    have ab : b ≠ a := fun e => by rw [e] at nd; simp at nd
    have hb2 : (upd (upd H1 p (.lst [])) a (.lst ((ps.reverse ++ [p]).map V.ref))) b = some (.lst (qs.reverse.map V.ref)) := by
      rw [upd_ne ab, upd_ne (Ne.symm pb)]; exact rd1.hb
    refine ⟨_, rfl, .inl ⟨rfl, _, SqL.of hb2⟩, fun q hq => ⟨b, _, _, rfl, rfl, same_new hq _ _ _ hb2, ?_, ?_⟩⟩
    · rw [List.length_map, List.length_reverse, sizeLine_eq]; have := bd.1; omega
    have eb : qs.reverse.map V.ref ++ [V.ref q] = (qs.reverse ++ [q]).map V.ref := by rw [List.map_append]; rfl
    rw [eb]
    have rd2 := rd1.state hp hq
    have qa : q ≠ a := fun e => by rw [e, upd_same] at hq; cases hq
    have qp : q ≠ p := fun e => by rw [e, upd_ne pa, upd_same] at hq; cases hq
    have Dp : D ≠ p := ne_of_none hD1 hp
    have Da : D ≠ a := Ne.symm (DL _ _ rd.ha)
    have Db : D ≠ b := Ne.symm (DL _ _ rd.hb)
    have hqH : H1 q = none := by rw [upd_ne qa, upd_ne qp] at hq; exact hq
    have Dq : D ≠ q := ne_of_none hD1 hqH
    have hD2 : (upd (upd (upd (upd H1 p (.lst [])) a (.lst ((ps.reverse ++ [p]).map V.ref))) q (.dK [])) b (.lst ((qs.reverse ++ [q]).map V.ref))) D = some (.lst (ws.map V.str)) := by
      rw [upd_ne Db, upd_ne Dq, upd_ne Da, upd_ne Dp]; exact hD1
    generalize eH2 : upd (upd (upd (upd H1 p (.lst [])) a (.lst ((ps.reverse ++ [p]).map V.ref))) q (.dK [])) b (.lst ((qs.reverse ++ [q]).map V.ref)) = H2 at rd2 hD2
    have haa := rd2.ha
    rw [List.reverse_cons] at haa
    have el : ((((ps.reverse ++ [p]).map V.ref).length : Nat) : Int) - 1 = ((R.length : Nat) : Int) := by
      rw [List.length_map, List.length_append, List.length_reverse, List.length_singleton, lR.1]
      omega
    refine ⟨_, rfl, _, rfl, a, _, rfl, .inl (SqL.of haa), _, _, rfl, rfl, ((R.length : Nat) : Int), congrArg (fun z => [V.int z]) el, log_small (by have := bd.1; omega), (by show 1 ≤ sizeLine; decide), fun p5 hp5 => ?_⟩
    have s5 := same_new hp5 (.lst [.str (nS R.length)])
    refine ⟨D, p5, ws, [nS R.length], rfl, rfl, SqL.of (s5 _ _ hD2), SqL.of upd_same, tw, tx_one (tx_nS (by have := bd.1; omega)), ?_⟩
    rw [if_neg Bool.false_ne_true]
    have rd3 := rd2.same s5
    by_cases c2 : ws = [nS R.length]
    · rw [decide_eq_true c2]
      exact q2 _ (by rw [hst]; unfold stepW; rw [if_pos c1, if_pos c2]) _ ⟨_, _, rd3⟩
    · rw [decide_eq_false c2]
      exact q1 (by rw [hst]; unfold stepW; rw [if_pos c1, if_neg c2]) _ rd3.old
  rw [decide_eq_false c1]
  refine iteF ⟨_, rfl, (by show 0 ≤ sizeLine; decide), fun p6 hp6 => ?_⟩
  have rd2 := rd1.same (same_new hp6 (.lst []))
  have hD2 : (upd H1 p6 (.lst [])) D = some (.lst (ws.map V.str)) := same_new hp6 _ _ _ hD1
  refine ⟨a, p6, _, rfl, rfl, rd2.ha, upd_same, _, rfl, ?_⟩
  rw [if_neg Bool.false_ne_true]
  generalize upd H1 p6 (.lst []) = H2 at rd2 hD2
  have hst1 : stepR R r = stepO R w ws := by rw [hst]; unfold stepW; rw [if_neg c1]
  match R, ps, qs, rd, rd2, lR, hst1, bd, vt, q1, q2 with
  | [], [], [], rd, rd2, lR, hst1, bd, vt, q1, q2 => exact iteT (q1 hst1 _ rd2.old)
  | [], _ :: _, _, rd, rd2, lR, hst1, bd, vt, q1, q2 => exact absurd lR.1 (by simp)
  | [], [], _ :: _, rd, rd2, lR, hst1, bd, vt, q1, q2 => exact absurd lR.2 (by simp)
  | _ :: _, [], _, rd, rd2, lR, hst1, bd, vt, q1, q2 => exact absurd lR.1 (by simp)
  | _ :: _, _ :: _, [], rd, rd2, lR, hst1, bd, vt, q1, q2 => exact absurd lR.2 (by simp)
  | (is, ds) :: R, p1 :: ps, z1 :: qs, rd, rd2, lR, hst1, bd, vt, q1, q2 =>
  rw [stepO_cons] at hst1
  have eA : ((p1 :: ps).reverse.map V.ref) = ps.reverse.map V.ref ++ [V.ref p1] := by rw [List.reverse_cons, List.map_append]; rfl
  have eB : ((z1 :: qs).reverse.map V.ref) = qs.reverse.map V.ref ++ [V.ref z1] := by rw [List.reverse_cons, List.map_append]; rfl
  have en : ((p1 :: ps).reverse.map V.ref).isEmpty = false := by rw [eA]; simp
  rw [en]
  refine iteF ⟨_, rfl, rfl, _, rfl, ?_⟩
  rw [dec_str]
  have bds := bd.2 (is, ds) List.mem_cons_self
  by_cases c2 : w = "item"
  · rw [decide_eq_true c2]
    rw [if_pos c2] at hst1
    refine iteT ⟨_, rfl, D, ws, rfl, hD2, hw', fun en H3 s3 => ?_, fun i ei v H3 s3 ri => ?_⟩
    · have rd3 := rd2.same s3
      obtain ⟨⟨vs, e1, r1⟩, _⟩ := rd3.rows
      have ha3 := rd3.ha
      rw [eA] at ha3
      have lvs : vs.length = is.length := Paired.length r1
      refine ⟨_, rfl, _, rfl, a, _, _, _, rfl, rfl, SqL.of ha3, at_last, .inl ⟨rfl, _, SqL.of e1⟩, _, rfl, p1, vs, _, rfl, rfl, e1, by rw [sizeLine_eq]; have := bds.1; have h2 : (is, ds).1.length = is.length := rfl; omega, ?_⟩
      refine ⟨_, rfl, rfl, _, rfl, ?_⟩
      refine ite2 (fun c => absurd c (by simp)) (fun _ => ?_)
      refine q1 (by rw [hst1, en]; split <;> rfl) _ fun x o h0 => ?_
      rw [upd_ne (fun z => by rw [z, rd3.np p1 (by simp)] at h0; cases h0)]
      exact rd3.old x o h0
    · have rd3 := rd2.same s3
      obtain ⟨⟨vs, e1, r1⟩, ⟨kvs, e2, r2⟩, _⟩ := rd3.rows
      have ha3 := rd3.ha
      rw [eA] at ha3
      have lvs : vs.length = is.length := Paired.length r1
      have lks : kvs.length = ds.length := Paired.length r2
      refine ⟨_, rfl, _, rfl, a, _, _, _, rfl, rfl, SqL.of ha3, at_last, .inl ⟨rfl, _, SqL.of e1⟩, _, rfl, p1, vs, _, rfl, rfl, e1, by rw [sizeLine_eq]; have := bds.1; have h2 : (is, ds).1.length = is.length := rfl; omega, ?_⟩
      have rd4 := rd3.item e1 ri
      have hb4 := rd4.hb
      rw [eB] at hb4
      obtain ⟨z, z2, ev, _⟩ := ri
      subst ev
      refine ⟨_, rfl, rfl, _, rfl, ?_⟩
      refine ite2 (fun _ => ?_) (fun c => absurd rfl c)
      obtain ⟨_, ⟨kvs4, e4, r4⟩, _⟩ := rd4.rows
      have lks4 : kvs4.length = ds.length := Paired.length r4
      refine ⟨_, rfl, _, rfl, b, _, _, _, rfl, rfl, SqL.of hb4, at_last, fun p7 hp7 => ⟨z1, p7, kvs4, rfl, rfl, same_new hp7 _ _ _ e4, upd_same, ?_⟩⟩
      have rd5 := rd4.same (same_new hp7 (.dK []))
      by_cases c3 : ds = []
      · subst c3
        have : kvs4 = [] := List.eq_nil_of_length_eq_zero lks4
        subst this
        exact q2 _ (by rw [hst1, if_pos rfl, ei]; rfl) _ ⟨_, _, rd5⟩
      · have : kvs4.isEmpty = false := by
          cases kvs4 with
          | nil => exact absurd (List.eq_nil_of_length_eq_zero lks4.symm) c3
          | cons x l => rfl
        rw [this]
        exact q1 (by rw [hst1, if_neg c3]) _ rd5.old
  rw [decide_eq_false c2]
  rw [if_neg c2] at hst1
  refine ⟨_, rfl, rfl, _, rfl, ?_⟩
  rw [dec_str]
  by_cases c3 : w = "on"
  case neg =>
    rw [decide_eq_false c3]
    rw [if_neg c3] at hst1
    exact iteT (q1 hst1 _ rd2.old)
  rw [decide_eq_true c3]
  rw [if_pos c3] at hst1
  refine iteF ⟨_, rfl, (by show 0 ≤ sizeLine; decide), fun p8 hp8 => ?_⟩
  have rd3 := rd2.same (same_new hp8 (.lst []))
  have hD3 : (upd H2 p8 (.lst [])) D = some (.lst (ws.map V.str)) := same_new hp8 _ _ _ hD2
  refine ⟨D, p8, _, rfl, rfl, hD3, upd_same, _, rfl, ?_⟩
  rw [if_neg Bool.false_ne_true]
  generalize upd H2 p8 (.lst []) = H3 at rd3 hD3
  cases ws with
  | nil => exact iteT (q1 hst1 _ rd3.old)
  | cons k ws =>
  have tk := tw k (by simp)
  have ho : onOf (k :: ws) ds = if (markP k && !ds.any fun p => !ltS p.1 k) = true then (deedOf ws).map fun d => (k, d) else none := rfl
  refine iteF ⟨_, rfl, D, _, _, _, rfl, rfl, SqL.of hD3, at0, k, rfl, tk.at, fun H4 s4 => ⟨_, rfl, ?_⟩⟩
  have rd4 := rd3.same s4
  have hD4 := s4 _ _ hD3
  cases cm : markP k with
  | false => exact iteT (q1 (by rw [hst1, ho, cm]; rfl) _ rd4.old)
  | true =>
  refine iteF ⟨_, rfl, D, .str k, ws.map V.str, rfl, SqL.of hD4, fun D2 hD2 => ?_⟩
  have rd5 := rd4.same (same_new hD2 (.lst (ws.map V.str)))
  have tw2 : ∀ x, x ∈ ws → Tx x := fun x hx => tw x (List.mem_cons_of_mem _ hx)
  have hw2 : Ws ws := ⟨by have := hw'.1; rw [List.length_cons] at this; omega, tw2⟩
  refine ⟨_, rfl, D2, ws, rfl, upd_same, hw2, fun en H6 s6 => ?_, fun d ed v H6 s6 rv => ?_⟩
  · refine ⟨_, rfl, rfl, _, rfl, ?_⟩
    refine ite2 (fun _ => ?_) (fun c => absurd rfl c)
    exact q1 (by rw [hst1, ho, en, cm]; simp) _ (rd5.same s6).old
  · have rd6 := rd5.same s6
    obtain ⟨_, ⟨kvs, e2, r2⟩, _⟩ := rd6.rows
    have lks : kvs.length = ds.length := Paired.length r2
    have hb6 := rd6.hb
    rw [eB] at hb6
    have rv' := rv
    obtain ⟨z, ez, _⟩ := rv'
    subst ez
    refine ⟨_, rfl, rfl, _, rfl, ?_⟩
    refine ite2 (fun c => absurd c (by simp)) (fun _ => ?_)
    have bz : b ≠ z1 := fun q => by rw [q, e2] at hb6; cases hb6
    refine ⟨z1, .dK kvs, e2, trivial, fun od => ?_⟩
    refine ⟨_, rfl, _, rfl, b, _, _, _, rfl, rfl, SqL.of ((upd_ne bz).trans hb6), at_last, z1, od, rfl, .inl ⟨kvs, upd_same, fun D3 hD3 => ?_⟩⟩
    have kat : ∀ i kk vv, kvs[i]? = some (kk, vv) → ∃ p : Str × Deed, ds[i]? = some p ∧ kk = Sum.inr p.1 := fun i kk vv e => by
      obtain ⟨p, e3, e4⟩ := paired_get r2 i _ e
      exact ⟨p, e3, e4.1⟩
    let fil : List (Str × Deed) → List Str := fun l => (l.map (·.1)).filter fun o => !ltS o k
    refine lc_it walk_keys (fun i H' => Acc (upd H6 z1 (.frz od (.dK kvs))) D3 ((fil (ds.take i)).map V.str) H') (.nil hD3) (fun i H' _ A => A.1 _ _ upd_same) (fun i y H7 H8 hi A y1 => ?_) (fun H7 A => ?_)
    · obtain ⟨rfl, kk, vv, ek, rfl⟩ := y1
      obtain ⟨p, ep, rfl⟩ := kat i kk vv ek
      refine ⟨rfl, _, rfl, _, rfl, _, _, rfl, rfl, _, rfl, ?_⟩
      have et : fil (ds.take (i + 1)) = fil (ds.take i) ++ (if (!ltS p.1 k) = true then [p.1] else []) := by
        show ((ds.take (i + 1)).map (·.1)).filter _ = _
        rw [List.take_add_one, ep, Option.toList_some, List.map_append, List.filter_append]
        congr 1
        show [p.1].filter _ = _
        by_cases c : (!ltS p.1 k) = true
        · rw [if_pos c, List.filter_cons_of_pos (by exact c)]; rfl
        · rw [if_neg c, List.filter_cons_of_neg (by exact c)]; rfl
      have ec : (!decide (p.1.cps.toList < k.cps.toList)) = !ltS p.1 k := rfl
      show (if (!ltS p.1 k) = true then _ else _)
      by_cases c : (!ltS p.1 k) = true
      · rw [if_pos c]
        rw [if_pos c] at et
        refine ⟨_, rfl, _, A.2, ?_, ?_⟩
        · have hz : (fil (ds.take i)).length ≤ ds.length := Nat.le_trans (List.length_filter_le _ _) (by rw [List.length_map, List.length_take]; omega)
          have h2 : (is, ds).2.length = ds.length := rfl
          have := bds.2
          rw [List.length_map, sizeLine_eq]
          omega
        · rw [et, List.map_append]
          exact A.push hD3 (.str p.1)
      · rw [if_neg c]
        rw [if_neg c, List.append_nil] at et
        rw [et]
        exact A
    · rw [lks, List.take_length] at A
      refine ⟨A.1 _ _ upd_same, (by show 0 ≤ sizeLine; decide), fun p9 hp9 => ?_⟩
      have D3z : D3 ≠ z1 := fun q => by rw [q, upd_same] at hD3; cases hD3
      have hD37 : (upd H7 z1 (.dK kvs)) D3 = some (.lst ((fil ds).map V.str)) := by rw [upd_ne D3z]; exact A.2
      have s8 : Same H6 (upd H7 z1 (.dK kvs)) := fun x o e => by
        by_cases q : x = z1
        · rw [q, e2] at e
          rw [q, upd_same]
          exact e
        · rw [upd_ne q]
          exact A.1 _ _ (by rw [upd_ne q]; exact e)
      have s9 := same_new hp9 (.lst [])
      have rd9 := (rd6.same s8).same s9
      have tf : ∀ x, x ∈ fil ds → Tx x := fun x hx => by
        obtain ⟨p, hp, rfl⟩ := List.mem_map.mp (List.mem_filter.mp hx).1
        have m := ((vt (is, ds) List.mem_cons_self).deeds p hp).1
        exact ⟨by have := (mark_ne m).2; omega, fun c hc => (wd_mark m c hc).2⟩
      refine ⟨D3, p9, fil ds, [], rfl, rfl, SqL.of (s9 _ _ hD37), SqL.of upd_same, tf, (fun x hx => by cases hx), _, rfl, ?_⟩
      rw [if_pos rfl]
      have ef : fil ds = [] ↔ (!ds.any fun p => !ltS p.1 k) = true := by
        show (ds.map (·.1)).filter _ = [] ↔ _
        rw [List.filter_eq_nil_iff, Bool.not_eq_true', List.any_eq_false]
        constructor
        · exact fun h p hp => h p.1 (List.mem_map.mpr ⟨p, hp, rfl⟩)
        · intro h x hx
          obtain ⟨p, hp, rfl⟩ := List.mem_map.mp hx
          exact h p hp
      by_cases cf : fil ds = []
      · rw [decide_eq_true cf]
        have e9 : (upd (upd H7 z1 (.dK kvs)) p9 (.lst [])) z1 = some (.dK kvs) := s9 _ _ upd_same
        have hb9 := rd9.hb
        rw [eB] at hb9
        have nk : valV kvs (Sum.inr k) = none := by
          have h1 := valV_any (Sum.inr k : Key) kvs
          cases hv : valV kvs (Sum.inr k : Key) with
          | none => rfl
          | some x =>
            rw [hv] at h1
            obtain ⟨kv, hm, hk⟩ := List.any_eq_true.mp h1
            obtain ⟨i, hi⟩ := List.getElem?_of_mem hm
            obtain ⟨p, e3, e4⟩ := paired_get r2 i _ hi
            have h3 := List.any_eq_false.mp (Bool.not_eq_true' _ ▸ ef.mp cf) p (List.mem_of_getElem? e3)
            have h4 := of_decide_eq_true hk
            rw [e4.1] at h4
            injection h4 with h4
            rw [h4, ltS_irrefl] at h3
            exact absurd rfl h3
        refine iteF ⟨_, rfl, _, rfl, _, rfl, b, _, _, _, rfl, rfl, SqL.of hb9, at_last, _, rfl, z1, _, rfl, DPut.k (k := Sum.inr k) e9 (by rw [sizeLine_eq]; have := bds.2; have h2 : (is, ds).2.length = ds.length := rfl; omega), ?_⟩
        rw [putK_new _ nk]
        have rdF := rd9.deed e9 (k := k) (rv.same (s8.trans s9))
        exact q2 _ (by rw [hst1, ho, cm, ef.mp cf, ed]; rfl) _ ⟨_, _, rdF⟩
      · rw [decide_eq_false cf]
        refine iteT (q1 ?_ _ rd9.old)
        rw [hst1, ho, cm]
        rw [Bool.true_and, if_neg (fun h => cf (ef.mpr h))]
        rfl
end
end Ka
set_option maxHeartbeats 2000000
namespace Ka
open PySem PySem.Spec PyProof.Rows L2 Ty
def RIs (H : Hp) (x : V) (st : State) : Prop := ∃ p vs, x = .ref p ∧ H p = some (.tup vs) ∧ Paired (RI H) vs st.1
def RDs (H : Hp) (y : V) (st : State) : Prop := ∃ p kvs, y = .ref p ∧ H p = some (.dK kvs) ∧ Paired (RK H) kvs st.2
def RTab (H : Hp) (v : V) (T : Table) : Prop := ∃ a b c xs ys, v = .ref a ∧ H a = some (.tup [.ref b, .ref c]) ∧ H b = some (.tup xs) ∧ H c = some (.tup ys) ∧ Paired (RIs H) xs T ∧ Paired (RDs H) ys T
theorem RK.same {H H' : Hp} {kv : Key × V} {p : Str × Deed} (r : RK H kv p) (s : Same H H') : RK H' kv p := ⟨r.1, r.2.same s⟩
theorem RIs.same {H H' : Hp} {x : V} {st : State} (r : RIs H x st) (s : Same H H') : RIs H' x st := by
  obtain ⟨p, vs, e, h, q⟩ := r
  exact ⟨p, vs, e, s _ _ h, paired_imp (fun _ _ r => r.same s) q⟩
theorem RDs.same {H H' : Hp} {x : V} {st : State} (r : RDs H x st) (s : Same H H') : RDs H' x st := by
  obtain ⟨p, vs, e, h, q⟩ := r
  exact ⟨p, vs, e, s _ _ h, paired_imp (fun _ _ r => r.same s) q⟩
theorem RTab.same {H H' : Hp} {v : V} {T : Table} (r : RTab H v T) (s : Same H H') : RTab H' v T := by
  obtain ⟨a, b, c, xs, ys, e, h1, h2, h3, p1, p2⟩ := r
  exact ⟨a, b, c, xs, ys, e, s _ _ h1, s _ _ h2, s _ _ h3, paired_imp (fun _ _ r => r.same s) p1, paired_imp (fun _ _ r => r.same s) p2⟩
theorem RowsR.fwd {H : Hp} : ∀ {ps qs : List Addr} {R : Table}, RowsR H ps qs R →
    Paired (fun p (st : State) => ∃ vs, H p = some (.lst vs) ∧ Paired (RI H) vs st.1) ps.reverse R.reverse ∧ Paired (RDs H) (qs.reverse.map V.ref) R.reverse
  | [], [], [], _ => ⟨.nil, .nil⟩
  | p :: ps, q :: qs, st :: R, h => by
    obtain ⟨h1, ⟨kvs, h2, h3⟩, h⟩ := h
    have ih := RowsR.fwd h
    rw [List.reverse_cons, List.reverse_cons, List.reverse_cons, List.map_append]
    exact ⟨paired_snoc ih.1 h1, paired_snoc ih.2 ⟨q, kvs, rfl, h2, h3⟩⟩
  | [], [], _ :: _, h => h.elim
  | [], _ :: _, _, h => by cases h
  | _ :: _, [], _, h => by cases h
  | _ :: _, _ :: _, [], h => by cases h
theorem raise_row {K : PySem.W.Frag} {C : Addr} {H H1 : Hp} {v : V} {E : XK} (T : OexC K C) (no : PySem.W.findIn K (.ref C) "row" = some none) (s : Same H H1) (q : ∀ dd H', H dd = none → Same H H' → H' dd = some (.xd [("row", v)]) → E (.ref C) (some dd) H') :
    [v].length ≤ 1000 ∧ ∀ a, H1 a = none → spInit K C (.ref a :: ([v] ++ [])) (upd H1 a (exo a C none))
      (fun u H2 => u = .non ∧ ∃ (d : Addr) (fs : List (Str × V)), H2 a = some (exo a C (some d)) ∧ H2 d = some (exd d fs) ∧ H1 d = none ∧ E (.ref C) (some d) (upd (del H2 a) d (.xd fs))) (fun _ _ _ => False) := by
  refine ⟨(by show 1 ≤ 1000; decide), fun a ha => ⟨a, v, rfl, T, no, upd_same, fun d hd hne => ⟨rfl, d, [("row", v)], upd_same, ?_, ?_, ?_⟩⟩⟩
  · rw [upd_ne hne]; exact upd_same
  · rw [upd_ne hne] at hd; exact hd
  · rw [upd_ne hne] at hd
    refine q d _ ?_ (fun b o e => ?_) upd_same
    · cases e : H d with
      | none => rfl
      | some o => rw [s _ _ e] at hd; cases hd
    · have e1 := s b o e
      rw [upd_ne (ne_of_none e1 hd), del_ne (ne_of_none e1 ha), upd_ne (ne_of_none e1 ha), upd_ne (ne_of_none e1 hd), upd_ne (ne_of_none e1 ha)]
      exact e1
/-- no more than n of anything -/
def Bn (n : Nat) (R : Table) : Prop := R.length ≤ n ∧ ∀ st, st ∈ R → st.1.length ≤ n ∧ st.2.length ≤ n
theorem bn_step {n : Nat} {R R' : Table} {r : Str} (h : Bn n R) (e : stepR R r = some R') : Bn (n + 1) R' := by
  have up : ∀ st, st ∈ R → st.1.length ≤ n + 1 ∧ st.2.length ≤ n + 1 := fun st hs => by have := h.2 st hs; omega
  have h1 := h.1
  unfold stepR at e
  split at e
  · cases e
  · rename_i w ws _
    unfold stepW at e
    split at e
    · split at e
      · injection e with e
        subst e
        refine ⟨by rw [List.length_cons]; omega, fun st hs => ?_⟩
        rcases List.mem_cons.mp hs with q | q
        · rw [q]; exact ⟨Nat.zero_le _, Nat.zero_le _⟩
        · exact up st q
      · cases e
    · cases R with
      | nil => cases e
      | cons s0 R2 =>
        obtain ⟨is, ds⟩ := s0
        rw [stepO_cons] at e
        have h0 : is.length ≤ n ∧ ds.length ≤ n := h.2 (is, ds) List.mem_cons_self
        split at e
        · split at e
          · cases ei : itemOf ws with
            | none => rw [ei] at e; cases e
            | some i =>
              rw [ei] at e
              injection e with e
              subst e
              refine ⟨by rw [List.length_cons] at h1 ⊢; omega, fun st hs => ?_⟩
              rcases List.mem_cons.mp hs with q | q
              · rw [q]
                show (is ++ [i]).length ≤ n + 1 ∧ ds.length ≤ n + 1
                rw [List.length_append, List.length_singleton]
                omega
              · exact up st (List.mem_cons_of_mem _ q)
          · cases e
        · split at e
          · cases ei : onOf ws ds with
            | none => rw [ei] at e; cases e
            | some i =>
              rw [ei] at e
              injection e with e
              subst e
              refine ⟨by rw [List.length_cons] at h1 ⊢; omega, fun st hs => ?_⟩
              rcases List.mem_cons.mp hs with q | q
              · rw [q]
                show is.length ≤ n + 1 ∧ (ds ++ [i]).length ≤ n + 1
                rw [List.length_append, List.length_singleton]
                omega
              · exact up st (List.mem_cons_of_mem _ q)
          · cases e
/-- the dicts of deeds that stand there are new ones -/
def NewD (H H' : Hp) (v : V) : Prop := ∀ a b c ys, v = .ref a → H' a = some (.tup [.ref b, .ref c]) → H' c = some (.tup ys) → ∀ q, V.ref q ∈ ys → H q = none
def spRead (C : Addr) : Sp := fun vs H Q E => ∃ x : Str, vs = [.str x] ∧ Tx x ∧ x.length ≤ 99900 ∧
  (∀ T, readT x = .inl T → ∀ v H', Same H H' → RTab H' v T → NewD H H' v → Q v H') ∧
  (∀ n : Nat, readT x = .inr n → ∀ dd H', H dd = none → Same H H' → H' dd = some (.xd [("row", .int (n : Nat))]) → E (.ref C) (some dd) H')
theorem scRead : FnScope ["text", "states", "deeds", "number", "row", "items"] ["text"] (defScope sRead) := ⟨rfl, rfl, rfl, by decide +kernel, rfl, by decide +kernel, by decide +kernel⟩
theorem tx_rows {x : Str} (t : Tx x) (h : x.length ≤ 99900) : (Txt.split x "\n").length ≤ 99901 ∧ ∀ r, r ∈ Txt.split x "\n" → Tx r ∧ r.length ≤ 99990 := by
  have hn : ("\n" : Str).length = 1 := by decide +kernel
  have hne := split_ne x "\n" (by rw [hn]; decide)
  have hl := len_join ("\n" : Str) hne
  rw [text_split, hn, Nat.mul_one] at hl
  refine ⟨by omega, fun w hw => ?_⟩
  have h1 := sumL_mem hw
  refine ⟨⟨by omega, fun c hc => t.low c ?_⟩, by omega⟩
  have := join_mem (y := "\n") hw hc
  rw [StrLaws.join_split] at this
  exact this
end Ka
set_option maxHeartbeats 2000000
namespace Ka
open PySem PySem.Spec PyProof.Rows L2 Ty
theorem RIs.tup {H H' : Hp} {x : V} {st : State} (r : RIs H x st) (k : ∀ c xs, H c = some (.tup xs) → H' c = some (.tup xs)) : RIs H' x st := by
  obtain ⟨p, vs, e, h, q⟩ := r
  refine ⟨p, vs, e, k _ _ h, paired_imp (fun v i r => ?_) q⟩
  obtain ⟨x, y, e, f1, f2⟩ := r
  exact ⟨x, y, e, k _ _ f1, k _ _ f2⟩
/-- tuple(a list) -/
def rTupOf (K : PySem.W.Frag) : List V → Hp → VK → Prop := fun xs H Q => ∃ p ys, xs = [.ref p] ∧ ((SqL K H p ys ∧ ∀ l, H l = none → Q (.ref l) (upd H l (.tup ys))) ∨ (SqT K H p ys ∧ Q (.ref p) H))
section
variable {P : Program} {w : World} {K : PySem.W.Frag} {mg : Str → Option Value} {base : Heap} {f g C fI : Addr} {fd gd fdI : FuncData}
theorem ok_read (F : Fun K "read_table" "read_table" sRead f fd) (G : FnOk P w K mg base CX0 4 g gd ["states", "deeds", "row"] spRow) (bG : Binds K gd ["states", "deeds", "row"] []) (kG : PySem.W.keepIn K (.ref g) = true) (mG : mg "take_row" = some (.ref g))
    (T : OexC K C) (no : PySem.W.findIn K (.ref C) "row" = some none) (iC : PySem.W.findIn K (.ref C) "__init__" = some (some (.ref fI))) (tI : PySem.W.typeIn K (.ref fI) = some (.type "function")) (GI : FnOk P w K mg base CX0 1 fI fdI ["self", "row"] (spInit K C)) (bI : Binds K fdI ["self", "row"] []) (mC : mg "NoTable" = some (.ref C))
    (me : mg "enumerate" = none) (mt : mg "tuple" = none) : FnOk P w K mg base (L2.CX P w) 5 f fd ["text"] (spRead C) := by
  refine F.okX scRead (fun vs H Q E h => ?_) (fun cdv A outer s H vs Q E hr h => ?_)
  · obtain ⟨x, rfl, _⟩ := h
    rfl
  obtain ⟨x, rfl, tx, hx, q1, q2⟩ := h
  refine ⟨_, pss_cons (ps_set (i := 1) scRead.nd rfl (.inl rfl) (pe_lst pa_nil))
    (pss_cons (ps_set (i := 2) scRead.nd rfl (.inl rfl) (pe_lst pa_nil))
    (pss_cons (ps_for (passes_of rfl) rfl (pi_enum rfl me (pa_cons (pe_split (pv 0) pe_str) pa_nil)) (pg_tup rfl (pgs_cons (pg_name (i := 3) scRead.nd rfl (Or.inl rfl)) (pgs_cons (pg_name (i := 4) scRead.nd rfl (Or.inl rfl)) pgs_nil)))
      (pss_one (ps_if (pt_not (pt_val (pe_call G hr rfl mG kG bG .nil pass0 (pa_cons (pv 1) (pa_cons (pv 2) (pa_cons (pv 4) pa_nil))))))
        (pss_one (ps_raise rfl (takes_of rfl rfl rfl rfl) (pmk_oex T iC tI GI (hr.mono (by decide)) bI .nil pass0 rfl mC (pa_cons (pv 3) pa_nil)))) pss_nil)))
    (pss_one (ps_ret (pe_tup (pa_cons (pe_callTy call_tuple_of rfl mt (by decide +kernel) (pa_cons
        (pe_lc (own := [("items", 5)]) (g := gName 5) (tt := tYes) rfl scRead.nd (pi_list (pv 1)) (blkOk_by (N := ["text", "states", "deeds", "number", "row", "items"]) (sc := defScope sRead) (by decide +kernel)) (fun _ _ _ _ _ => pg_name (i := 5) scRead.nd rfl (Or.inl rfl)) (fun _ _ _ _ _ => pts_nil)
          (fun _ _ _ _ _ => pe_callTy (show CallR _ (.type "tuple") (rTupOf K) from call_tuple_of) rfl mt (by decide +kernel) (pa_cons (pv 5) pa_nil))) pa_nil))
      (pa_cons (pe_callTy call_tuple_of rfl mt (by decide +kernel) (pa_cons (pv 2) pa_nil)) pa_nil))))))), ?_⟩
  obtain ⟨hrl, hrt⟩ := tx_rows tx hx
  refine ⟨(by show 0 ≤ sizeLine; decide), fun a ha => ⟨(by show 0 ≤ sizeLine; decide), fun b hb => ?_⟩⟩
  have hab : a ≠ b := ne_of_none upd_same hb
  have hbH : H b = none := by rw [upd_ne (Ne.symm hab)] at hb; exact hb
  refine ⟨_, rfl, ⟨_, rfl⟩, x, "\n", rfl, rfl, by decide +kernel, by rw [sizeLine_eq]; omega, fun l hl => ?_⟩
  generalize erows : Txt.split x "\n" = rows at hrl hrt
  have la : l ≠ a := fun e => by rw [e, upd_ne hab, upd_same] at hl; cases hl
  have lb : l ≠ b := fun e => by rw [e, upd_same] at hl; cases hl
  have hlH : H l = none := by rw [upd_ne lb, upd_ne la] at hl; exact hl
  have sl := same_new hlH (.lst (rows.map V.str))
  refine ⟨l, rows.map V.str, rfl, SqL.of upd_same, ?_⟩
  refine for_it (walk_enum (xs := rows.map V.str)) (fun i σ H' => ∃ R x3 x4 x5, σ = [some (.str x), some (.ref a), some (.ref b), x3, x4, x5] ∧ Rdg a b (upd H l (.lst (rows.map V.str))) H' R ∧
      readT x = readR (rows.drop i) i R ∧ Bn i R ∧ VT R ∧ AT R)
    ⟨[], _, _, _, rfl, ⟨[], [], ?init⟩, (by unfold readT; rw [erows]; rfl), ⟨Nat.zero_le _, fun st hs => (by cases hs)⟩, (fun st hs => by cases hs), (fun st hs => by cases hs)⟩
    (fun i σ H' _ p => ?stands) (fun i u σ H0 H1 hi p z => ?turn) (fun σ H' p => ?done)
  case init =>
    refine ⟨?_, ?_, trivial, by simp [hab], List.nodup_nil, fun c o e => ?_, by rw [upd_ne (Ne.symm la)]; exact ha, by rw [upd_ne (Ne.symm lb)]; exact hbH, (fun p h => by cases h), (fun p h => by cases h)⟩
    · rw [upd_ne (Ne.symm la), upd_ne hab]; exact upd_same
    · rw [upd_ne (Ne.symm lb)]; exact upd_same
    · by_cases c0 : c = l
      · rw [c0, upd_same] at e ⊢; exact e
      · rw [upd_ne c0] at e ⊢
        rw [upd_ne (ne_of_none e hbH), upd_ne (ne_of_none e ha)]
        exact e
  case stands =>
    obtain ⟨R, x3, x4, x5, _, ⟨ps, qs, rd⟩, _⟩ := p
    exact SqL.of (rd.old _ _ upd_same)
  case turn =>
    obtain ⟨R, x3, x4, x5, rfl, ⟨ps, qs, rd⟩, er, bn, vt, at_⟩ := p
    obtain ⟨Tp, iv, v, rfl, hT, rfl, ei, ev⟩ := z
    injection ei with ei
    subst ei
    replace ev : (rows.map V.str)[i]? = some v := ev
    rw [List.getElem?_map] at ev
    rw [List.length_map] at hi
    have hg : rows[i]? = some rows[i] := List.getElem?_eq_getElem hi
    rw [hg] at ev
    injection ev with ev
    subst ev
    obtain ⟨tr, lr⟩ := hrt rows[i] (List.getElem_mem hi)
    have hdrop : rows.drop i = rows[i] :: rows.drop (i + 1) := List.drop_eq_getElem_cons hi
    rw [hdrop] at er
    have rd1 := rd.same (same_new hT (.tup [.int (i : Nat), .str rows[i]]))
    refine ⟨Tp, _, rfl, SqT.of upd_same, rfl, _, _, rfl, _, _, rfl, rfl, ?_⟩
    refine ⟨_, rfl, _, rfl, _, rfl, a, b, _, R, rows[i], rfl, ⟨ps, qs, rd1⟩, tr, lr, ⟨by have := bn.1; omega, fun st hs => by have := bn.2 st hs; omega⟩, vt, fun en H2 s2 => ⟨_, rfl, ?_⟩, fun R' en H2 rd2 => ⟨_, rfl, ?_⟩⟩
    · refine iteT ?_
      refine ⟨_, rfl, raise_row T no (sl.trans s2) (q2 i ?_)⟩
      rw [er]
      show (match stepR R rows[i] with | none => Sum.inr i | some R' => readR (rows.drop (i + 1)) (i + 1) R') = _
      rw [en]
    · refine iteF ?_
      have sb := step_back en vt at_
      exact ⟨R', _, _, _, rfl, rd2, by rw [er, read_cons en], bn_step bn en, sb.2.1, sb.2.2⟩
  case done =>
    obtain ⟨R, x3, x4, x5, rfl, ⟨ps, qs, rd⟩, er, bn, vt, at_⟩ := p
    rw [List.length_map, List.drop_length] at er
    rw [List.length_map] at bn
    have er' : readT x = .inl R.reverse := er
    obtain ⟨fw1, fw2⟩ := rd.rows.fwd
    have lR := rd.rows.len
    have lps : ps.reverse.length ≤ 99901 := by rw [List.length_reverse]; have := bn.1; omega
    refine ⟨_, rfl, a, rfl, ⟨_, SqL.of rd.ha⟩, fun D hD => ?_⟩
    refine lc_list (xs := ps.reverse.map V.ref) (fun i H3 => ∃ ts : List V, Acc H' D ts H3 ∧ ts.length = i ∧ Paired (RIs H3) ts (R.reverse.take i))
      ⟨[], .nil hD, rfl, .nil⟩ (fun i H3 _ A => ?_) (fun i y H3 hy A => ?_) (fun H3 A => ?_)
    · obtain ⟨ts, A, _⟩ := A
      exact SqL.of (A.1 _ _ rd.ha)
    · obtain ⟨ts, A, lt, pt⟩ := A
      rw [List.getElem?_map] at hy
      cases e : ps.reverse[i]? with
      | none => rw [e] at hy; cases hy
      | some p =>
        rw [e] at hy
        injection hy with hy
        subst hy
        obtain ⟨st, est, vs, ep, rp⟩ := paired_get fw1 i p e
        have hi : i < ps.reverse.length := by
          rcases Nat.lt_or_ge i ps.reverse.length with h | h
          · exact h
          · rw [List.getElem?_eq_none h] at e; cases e
        refine ⟨rfl, ?_⟩
        simp only [tYes, ↓reduceIte]
        refine ⟨_, rfl, p, vs, rfl, .inl ⟨SqL.of (A.1 _ _ ep), fun c hc => ?_⟩⟩
        have sc := same_new hc (.tup vs)
        have As := A.same sc
        have kt : ∀ c' xs, (upd H3 c (.tup vs)) c' = some (.tup xs) → (upd (upd H3 c (.tup vs)) D (.lst (ts ++ [.ref c]))) c' = some (.tup xs) := fun c' xs e' => by
          rw [upd_ne (fun q => by rw [q, As.2] at e'; cases e')]
          exact e'
        refine ⟨ts, As.2, by rw [sizeLine_eq]; omega, ts ++ [.ref c], As.push hD (.ref c), by rw [List.length_append, lt]; rfl, ?_⟩
        rw [List.take_add_one, est, Option.toList_some]
        refine paired_snoc (paired_imp (fun _ _ r => (r.same sc).tup kt) pt) ?_
        exact RIs.tup ⟨c, vs, rfl, upd_same, paired_imp (fun _ _ r => (r.same A.1).same sc) rp⟩ kt
    · obtain ⟨ts, A, lt, pt⟩ := A
      have eR : R.reverse.take (ps.reverse.map V.ref).length = R.reverse := by
        rw [List.take_of_length_le]
        rw [List.length_map, List.length_reverse, List.length_reverse]
        omega
      rw [eR] at pt
      refine ⟨D, _, rfl, .inl ⟨SqL.of A.2, fun c1 hc1 => ?_⟩⟩
      have s1 := same_new hc1 (.tup ts)
      refine ⟨_, rfl, b, _, rfl, .inl ⟨SqL.of (s1 _ _ (A.1 _ _ rd.hb)), fun c2 hc2 => ⟨by show 2 ≤ sizeLine; decide, fun c3 hc3 => ?_⟩⟩⟩
      have s2 := same_new hc2 (.tup (qs.reverse.map V.ref))
      have s3 := same_new hc3 (.tup [.ref c1, .ref c2])
      have sA := (A.1.trans s1).trans (s2.trans s3)
      refine q1 _ er' (.ref c3) _ (sl.trans (rd.old.trans sA)) ⟨c3, c1, c2, _, _, rfl, upd_same, s3 _ _ (s2 _ _ upd_same), s3 _ _ upd_same, paired_imp (fun _ _ r => r.same (s1.trans (s2.trans s3))) pt, paired_imp (fun _ _ r => r.same sA) fw2⟩ (fun a' b' c' ys' f1 f2 f3 q hq => ?_)
      injection f1 with f1
      subst f1
      rw [upd_same] at f2
      injection f2 with f2
      injection f2 with f2
      injection f2 with f4 f5
      injection f5 with f5
      injection f5 with f5
      subst f5
      have f6 := s3 _ _ (show (upd (upd H3 c1 (.tup ts)) c2 (.tup (qs.reverse.map V.ref))) c2 = some (.tup (qs.reverse.map V.ref)) from upd_same)
      rw [f6] at f3
      injection f3 with f3
      injection f3 with f3
      subst f3
      obtain ⟨q', hq', e'⟩ := List.mem_map.mp hq
      injection e' with e'
      subst e'
      have n0 := rd.nqs q' (List.mem_reverse.mp hq')
      cases z : H q' with
      | none => rfl
      | some o => rw [sl _ _ z] at n0; cases n0
end
end Ka
set_option maxHeartbeats 2000000
namespace Ka
open PySem PySem.Spec PyProof.Rows L2 Ty
/-- a part, and how it is written -/
def SV (v : V) (x : Str) : Prop := v = .str x ∨ ∃ n : Nat, n ≤ 1000000 ∧ v = .int (n : Nat) ∧ x = nS n
def rStrU : List V → Hp → VK → Prop := fun xs H Q => (∃ i, xs = [.int i] ∧ i.natAbs.log2 < 1920 ∧ Q (.str (toString i)) H) ∨ (∃ a, xs = [.str a] ∧ Q (.str a) H)
theorem call_strU {X : Cx} : CallR X (.type "str") rStrU := CallR.or call_str_int SkE.call_str_str
theorem SV.call {v : V} {x : Str} {H : Hp} {Q : VK} (h : SV v x) (q : Q (.str x) H) : rStrU [v] H Q := by
  rcases h with rfl | ⟨n, hn, rfl, rfl⟩
  · exact .inr ⟨_, rfl, q⟩
  · exact .inl ⟨_, rfl, log_small hn, q⟩
theorem deed_sv {d : Deed} (h : VD d) : Paired SV (deedV d) (deedW d) := by
  cases d with
  | go n =>
    have h' : n < 10000 := h
    exact .cons (.inl rfl) (.cons (.inr ⟨n, by omega, rfl, rfl⟩) .nil)
  | «by» a n b => exact .cons (.inl rfl) (.cons (.inl rfl) (.cons (.inr ⟨n, by have := h.2.1; omega, rfl, rfl⟩) (.cons (.inl rfl) .nil)))
  | done => exact .cons (.inl rfl) .nil
theorem deed_len {d : Deed} (h : VD d) : (deedV d).length ≤ 4 ∧ sumL (deedW d) ≤ 100 := by
  cases d with
  | go n =>
    have h' : n < 10000 := h
    have := nS_len (n := n) (by omega)
    refine ⟨by show 2 ≤ 4; decide, ?_⟩
    have e : sumL (deedW (.go n)) = 2 + ((nS n).length + 0) := rfl
    rw [e]; omega
  | «by» a n b =>
    have := nS_len (n := n) (by have := h.2.1; omega)
    have ha := mark_ne h.1
    have hb := mark_ne h.2.2
    refine ⟨by show 4 ≤ 4; decide, ?_⟩
    have e : sumL (deedW (.by a n b)) = 2 + (a.length + ((nS n).length + (b.length + 0))) := rfl
    rw [e]; omega
  | done => exact ⟨by show 1 ≤ 4; decide, by show 4 + 0 ≤ 100; decide⟩
def spShown : Sp := fun vs H Q _ => ∃ (v : V) (d : Deed), vs = [v] ∧ RD H v d ∧ VD d ∧ ∀ H', Same H H' → Q (.str (row (deedW d))) H'
theorem scShown : FnScope ["deed", "part"] ["deed"] (defScope sShown) := ⟨rfl, rfl, rfl, by decide +kernel, rfl, by decide +kernel, by decide +kernel⟩
section
variable {P : Program} {w : World} {K : PySem.W.Frag} {mg : Str → Option Value} {base : Heap} {f g : Addr} {fd gd : FuncData}
theorem ok_shown (F : Fun K "shown_deed" "shown_deed" sShown f fd) (ms : mg "str" = none) : FnOk P w K mg base CX0 1 f fd ["deed"] spShown := by
  refine F.ok scShown (fun vs H Q E h => ?_) (fun cdv A outer s H vs Q E hr h => ?_)
  · obtain ⟨v, d, rfl, _⟩ := h
    rfl
  obtain ⟨v, d, rfl, ⟨a, rfl, ha⟩, vd, q⟩ := h
  refine ⟨_, pss_one (ps_ret (pe_join pe_str
      (pe_lc (own := [("part", 1)]) (g := gName 1) (tt := tYes) rfl scShown.nd (pi_tup (pv 0)) (blkOk_by (N := ["deed", "part"]) (sc := defScope sShown) (by decide +kernel)) (fun _ _ _ _ _ => pg_name (i := 1) scShown.nd rfl (Or.inl rfl)) (fun _ _ _ _ _ => pts_nil)
          (fun _ _ _ _ _ => pe_callTy (show CallR _ (.type "str") rStrU from call_strU) rfl ms (by decide +kernel) (pa_cons (pv 1) pa_nil))))), ?_⟩
  obtain ⟨dl, ds⟩ := deed_len vd
  have sv := deed_sv vd
  refine ⟨⟨_, rfl⟩, _, rfl, a, rfl, ⟨_, SqT.of ha⟩, fun D hD => ?_⟩
  refine lc_tup (xs := deedV d) (fun i H' => Acc H D (((deedW d).take i).map V.str) H') (.nil hD) (fun i H' _ A => SqT.of (A.1 _ _ ha)) (fun i y H' hy A => ?_) (fun H' A => ?_)
  · obtain ⟨x, ex, hx⟩ := paired_get sv i y hy
    refine ⟨rfl, ?_⟩
    simp only [tYes, ↓reduceIte]
    have fin : ∃ acc, H' D = some (.lst acc) ∧ acc.length < sizeLine ∧ Acc H D (((deedW d).take (i + 1)).map V.str) (upd H' D (.lst (acc ++ [.str x]))) := by
      refine ⟨_, A.2, ?_, ?_⟩
      · have : (deedW d).length = (deedV d).length := (Paired.length sv).symm
        rw [List.length_map, List.length_take, sizeLine_eq]; omega
      · rw [List.take_add_one, ex, Option.toList_some, List.map_append]
        exact A.push hD (.str x)
    rcases hx with rfl | ⟨n, hn, rfl, rfl⟩
    · exact ⟨_, rfl, .inr ⟨_, rfl, fin⟩⟩
    · exact ⟨_, rfl, .inl ⟨_, rfl, log_small hn, fin⟩⟩
  · have el : (deedW d).length = (deedV d).length := (Paired.length sv).symm
    rw [← el, List.take_length] at A
    refine ⟨" ", D, deedW d, rfl, rfl, .inl (SqL.of A.2), ?_, q H' A.1⟩
    have : ((deedW d).map (·.length)).sum = sumL (deedW d) := rfl
    rw [this]
    have hn : (" " : Str).length = 1 := by decide +kernel
    rw [hn]
    omega
end
end Ka
set_option maxHeartbeats 2000000
namespace Ka
open PySem PySem.Spec PyProof.Rows L2 Ty
def spText : Sp := fun vs H Q _ => ∃ (v : V) (T : Table), vs = [v] ∧ RTab H v T ∧ VT T ∧ Sz (sortT T) ∧ T.length ≤ 100000 ∧ ∀ H', Same H H' → Q (.str (textT (sortT T))) H'
theorem scText : FnScope ["table", "rows", "number", "items", "deeds", "label", "dot", "ahead", "symbol"] ["table"] (defScope sText) := ⟨rfl, rfl, rfl, by decide +kernel, rfl, by decide +kernel, by decide +kernel⟩
theorem str_assoc (x y z : Str) : x ++ y ++ z = x ++ (y ++ z) := str_of_list (by
  simp only [Str.cps_append, Array.toList_append, List.append_assoc])
theorem str_nil (x : Str) : Str.empty ++ x = x := str_of_list (by
  rw [Str.cps_append, Array.toList_append]
  rfl)
theorem row_state (k : Nat) : Str.empty ++ "state " ++ nS k = row (stateW k) := by
  have e : ("state " : Str) = "state" ++ " " := by decide +kernel
  unfold row stateW
  rw [TL.join_eq, str_nil, e]
  rfl
theorem row_on (k : Str) (d : Deed) : Str.empty ++ "on " ++ k ++ " " ++ row (deedW d) = row (onW (k, d)) := by
  have e : ("on " : Str) = "on" ++ " " := by decide +kernel
  have h : ∃ x r, deedW d = x :: r := by cases d <;> exact ⟨_, _, rfl⟩
  obtain ⟨x, r, h⟩ := h
  unfold row onW
  rw [TL.join_eq, TL.join_eq, str_nil, e, h]
  show _ = ("on" ++ " " ++ (k ++ " " ++ Str.join " " (x :: r)) : Str)
  simp only [str_assoc]
theorem rk_keys {H : Hp} : ∀ {kvs : List (Key × V)} {ds : List (Str × Deed)}, Paired (RK H) kvs ds → kvs.map (·.1) = (ds.map (·.1)).map Sum.inr
  | _, _, .nil => rfl
  | _, _, .cons h t => by
    rw [List.map_cons, List.map_cons, List.map_cons, rk_keys t, h.1]
theorem rk_get {H : Hp} : ∀ {kvs : List (Key × V)} {ds : List (Str × Deed)}, Paired (RK H) kvs ds → (ds.map (·.1)).Nodup → ∀ p, p ∈ ds → ∃ v, valV kvs (Sum.inr p.1 : Key) = some v ∧ RD H v p.2
  | _, _, .nil, _, p, hp => by cases hp
  | _, _, @Paired.cons _ _ _ kv d kvs ds h t, hn, p, hp => by
    rw [List.map_cons, List.nodup_cons] at hn
    rcases List.mem_cons.mp hp with e | hp
    · subst e
      exact ⟨kv.2, valV_pos h.1, h.2⟩
    · obtain ⟨v, e, r⟩ := rk_get t hn.2 p hp
      refine ⟨v, ?_, r⟩
      rw [valV_neg]
      · exact e
      · rw [h.1]
        intro q
        injection q with q
        exact hn.1 (q ▸ List.mem_map.mpr ⟨p, hp, rfl⟩)
section
variable {P : Program} {w : World} {K : PySem.W.Frag} {mg : Str → Option Value} {base : Heap} {f g : Addr} {fd gd : FuncData}
theorem ok_text (F : Fun K "table_text" "table_text" sText f fd) (G : FnOk P w K mg base CX0 1 g gd ["deed"] spShown) (bG : Binds K gd ["deed"] []) (kG : PySem.W.keepIn K (.ref g) = true) (mG : mg "shown_deed" = some (.ref g))
    (me : mg "enumerate" = none) (mz : mg "zip" = none) (ms : mg "str" = none) (mll : mg "list" = none) (mso : mg "sorted" = none) : FnOk P w K mg base CX0 2 f fd ["table"] spText := by
  refine F.ok scText (fun vs H Q E h => ?_) (fun cdv A outer s H vs Q E hr h => ?_)
  · obtain ⟨v, T, rfl, _⟩ := h
    rfl
  obtain ⟨v, T, rfl, rt, vt, sz, lt, q⟩ := h
  have hu := hr.units
  refine ⟨_, pss_cons (ps_set (i := 1) scText.nd rfl (.inl rfl) (pe_lst pa_nil))
    (pss_cons (ps_for PassesOwn.never rfl (pi_enumZ rfl me rfl mz (pa_cons (pe_ix ix_tup (pv 0) pe_int (fun _ _ => rfl)) (pa_cons (pe_ix ix_tup (pv 0) pe_int (fun _ _ => rfl)) pa_nil)))
        (pg_tup rfl (pgs_cons (pg_name (i := 2) scText.nd rfl (Or.inl rfl)) (pgs_cons (pg_tup rfl (pgs_cons (pg_name (i := 3) scText.nd rfl (Or.inl rfl)) (pgs_cons (pg_name (i := 4) scText.nd rfl (Or.inl rfl)) pgs_nil))) pgs_nil)))
      (pss_cons (ps_expr (pe_bm PySem.F.plainAttrs_list PySem.F.slot_list_append PySem.F.type_list_append mt_append (pv 1) (pa_cons (pe_joined (PJ.cons pe_str (PJ.cons (pe_fmt (pv 2)) PJ.nil))) pa_nil)))
      (pss_cons (ps_for PassesOwn.never rfl (pi_tup (pv 3)) (pg_tup rfl (pgs_cons (pg_name (i := 5) scText.nd rfl (Or.inl rfl)) (pgs_cons (pg_name (i := 6) scText.nd rfl (Or.inl rfl)) (pgs_cons (pg_name (i := 7) scText.nd rfl (Or.inl rfl)) pgs_nil))))
        (pss_one (ps_expr (pe_bm PySem.F.plainAttrs_list PySem.F.slot_list_append PySem.F.type_list_append mt_append (pv 1) (pa_cons (pe_join pe_str (pe_op op_cat (pe_lst (pa_cons pe_str (pa_cons (pv 5) (pa_cons (pe_callTy call_str_int rfl ms (by decide +kernel) (pa_cons (pv 6) pa_nil)) pa_nil)))) (pe_callTy call_list_of rfl mll (by decide +kernel) (pa_cons (pv 7) pa_nil)))) pa_nil)))))
      (pss_one (ps_for PassesOwn.never rfl (pi_list (pe_callB (call_sortedDS rfl) rfl mso (by decide +kernel) (pa_cons (pv 4) pa_nil))) (pg_name (i := 8) scText.nd rfl (Or.inl rfl))
        (pss_one (ps_expr (pe_bm PySem.F.plainAttrs_list PySem.F.slot_list_append PySem.F.type_list_append mt_append (pv 1) (pa_cons (pe_joined (PJ.cons pe_str (PJ.cons (pe_fmt (pv 8)) (PJ.cons pe_str (PJ.cons (pe_fmt (pe_call G hr rfl mG kG bG .nil pass0 (pa_cons (pe_dget (Nat.lt_of_le_of_lt (Nat.add_le_add_left (by decide : 1 ≤ 64) _) hu) (pv 4) (pv 8) (fun _ _ => rfl)) pa_nil))) PJ.nil))))) pa_nil)))))))))
    (pss_one (ps_ret (pe_join pe_str (pv 1))))), ?_⟩
  obtain ⟨a, b, c, xs, ys, rfl, ha, hb, hc, px, py⟩ := rt
  have lx : xs.length = T.length := Paired.length px
  have ly : ys.length = T.length := Paired.length py
  refine ⟨(by show 0 ≤ sizeLine; decide), fun pr hpr => ?_⟩
  have s0 := same_new hpr (.lst [])
  refine ⟨_, rfl, a, _, _, _, rfl, rfl, SqT.of (s0 _ _ ha), at0, _, rfl, a, _, _, _, rfl, rfl, SqT.of (s0 _ _ ha), at1, b, c, xs, ys, rfl, SqT.of (s0 _ _ hb), SqT.of (s0 _ _ hc), ?_⟩
  refine for_it (walk_enumZ lx ly) (fun i σ H' => ∃ x2 x3 x4 x5 x6 x7 x8, σ = [some (.ref a), some (.ref pr), x2, x3, x4, x5, x6, x7, x8] ∧ Same H H' ∧ H' pr = some (.lst ((rowsFrom 0 ((sortT T).take i)).map V.str)))
    ⟨_, _, _, _, _, _, _, rfl, s0, upd_same⟩ (fun i σ H' _ p => ?stands) (fun i u σ H0 H1 hi p z => ?turn) (fun σ H' p => ?done)
  case stands =>
    obtain ⟨_, _, _, _, _, _, _, _, s', _⟩ := p
    exact ⟨SqT.of (s' _ _ hb), SqT.of (s' _ _ hc)⟩
  case done =>
    obtain ⟨x2, x3, x4, x5, x6, x7, x8, rfl, s', e⟩ := p
    have eT : (sortT T).take T.length = sortT T := List.take_of_length_le (by unfold sortT; rw [List.length_map]; exact Nat.le_refl _)
    rw [eT] at e
    refine ⟨⟨_, rfl⟩, _, rfl, "\n", pr, rowsFrom 0 (sortT T), rfl, rfl, .inl (SqL.of e), ?_, q H' s'⟩
    have hn : ("\n" : Str).length = 1 := by decide +kernel
    have e2 : ((rowsFrom 0 (sortT T)).map (·.length)).sum = sumL (rowsFrom 0 (sortT T)) := rfl
    rw [e2, hn]
    have := sz
    unfold Sz at this
    omega
  case turn =>
    obtain ⟨x2, x3, x4, x5, x6, x7, x8, rfl, s', e⟩ := p
    obtain ⟨T1, P1, vx, vy, rfl, hT, hP, hTP, rfl, ex, ey⟩ := z
    obtain ⟨st, est, pi_, vs, rfl, ei, ri⟩ := paired_get px i vx ex
    obtain ⟨st2, est2, qi, kvs, rfl, ed, rk⟩ := paired_get py i vy ey
    rw [est] at est2
    injection est2 with est2
    subst est2
    have vst := vt st (List.mem_of_getElem? est)
    have t1 := same_new hT (.tup [.ref pi_, .ref qi])
    have hP1 : (upd H0 T1 (.tup [.ref pi_, .ref qi])) P1 = none := by rw [upd_ne (Ne.symm hTP)]; exact hP
    have t2 := same_new hP1 (.tup [.int (i : Nat), .ref T1])
    have tS := t1.trans t2
    have hT1 : (upd (upd H0 T1 (.tup [.ref pi_, .ref qi])) P1 (.tup [.int (i : Nat), .ref T1])) T1 = some (.tup [.ref pi_, .ref qi]) := t2 _ _ upd_same
    have hP2 : (upd (upd H0 T1 (.tup [.ref pi_, .ref qi])) P1 (.tup [.int (i : Nat), .ref T1])) P1 = some (.tup [.int (i : Nat), .ref T1]) := upd_same
    generalize upd (upd H0 T1 (.tup [.ref pi_, .ref qi])) P1 (.tup [.int (i : Nat), .ref T1]) = H1 at tS hT1 hP2
    have e1 := tS _ _ e
    have s1 := s'.trans tS
    -- the rows of this state
    have eT : (sortT T)[i]? = some (st.1, sortD st.2) := by unfold sortT; rw [List.getElem?_map, est]; rfl
    have eS : rowsFrom 0 ((sortT T).take (i + 1)) = rowsFrom 0 ((sortT T).take i) ++ stateRows i (st.1, sortD st.2) := by
      rw [List.take_add_one, eT, Option.toList_some, rows_app, rows_one, Nat.zero_add, List.length_take, Nat.min_eq_left]
      unfold sortT
      rw [List.length_map]
      omega
    have eP : ∃ rest, rowsFrom 0 (sortT T) = rowsFrom 0 ((sortT T).take i) ++ (stateRows i (st.1, sortD st.2) ++ rest) := by
      refine ⟨rowsFrom (0 + ((sortT T).take (i + 1)).length) ((sortT T).drop (i + 1)), ?_⟩
      rw [← List.append_assoc, ← eS, ← rows_app, List.take_append_drop]
    obtain ⟨rest, eP⟩ := eP
    have szl : (rowsFrom 0 ((sortT T).take i)).length + (stateRows i (st.1, sortD st.2)).length ≤ 100000 := by
      have := sz
      unfold Sz at this
      rw [eP, List.length_append, List.length_append] at this
      omega
    have szr : ∀ r, r ∈ stateRows i (st.1, sortD st.2) → r.length ≤ 100000 := fun r hr => by
      have := sz
      unfold Sz at this
      have h2 := sumL_mem (l := rowsFrom 0 (sortT T)) (x := r) (by rw [eP]; simp [hr])
      omega
    have lS : (stateRows i (st.1, sortD st.2)).length = 1 + st.1.length + (sortD st.2).length := by
      unfold stateRows
      simp only [List.length_append, List.length_cons, List.length_map]
      omega
    have hpr2 : pr ≠ pr ∨ True := .inr trivial
    refine ⟨P1, _, rfl, SqT.of hP2, rfl, _, _, rfl, _, _, rfl, ⟨T1, _, rfl, SqT.of hT1, rfl, _, _, rfl, _, _, rfl, rfl, rfl, ?_⟩⟩
    have hlog := log_small (n := i) (by omega)
    have l1 : (Str.empty ++ "state " : Str).length = 6 := by decide +kernel
    have l2 := nS_len (n := i) (by omega)
    refine ⟨_, rfl, .inl ⟨rfl, _, SqL.of e1⟩, "state ", rfl, by rw [l1, sizeLine_eq]; decide, _, rfl, .inr ⟨_, rfl, hlog, nS i, rfl, by rw [len_app, l1, sizeLine_eq]; omega, pr, _, _, rfl, rfl, e1, by rw [List.length_map, sizeLine_eq]; omega, ?_⟩⟩
    have fr : ∀ {Hx : Hp} {l : List V}, Same H1 Hx ∨ True → True := fun _ => trivial
    rw [row_state]
    have n0 : ∀ {Hx : Hp}, Hx pr = Hx pr := rfl
    -- what is kept: all that stood at the beginning
    have up : ∀ {Hx : Hp} (l : List V), Same H Hx → Same H (upd Hx pr (.lst l)) := fun {Hx} l sx x o ho => by
      rw [upd_ne (ne_of_none ho hpr)]
      exact sx x o ho
    let B1 := rowsFrom 0 ((sortT T).take i) ++ [row (stateW i)]
    have eB1 : ((rowsFrom 0 ((sortT T).take i)).map V.str) ++ [V.str (row (stateW i))] = B1.map V.str := by
      show _ = (rowsFrom 0 ((sortT T).take i) ++ [row (stateW i)]).map V.str
      rw [List.map_append]; rfl
    rw [eB1]
    have eis : Same H (upd H1 pr (.lst (B1.map V.str))) := up _ s1
    refine ⟨_, rfl, pi_, rfl, ⟨vs, SqT.of (eis _ _ ei)⟩, ?_⟩
    refine for_it (walk_tup (xs := vs)) (fun j σ H' => ∃ x5 x6 x7 x8, σ = [some (.ref a), some (.ref pr), some (.int (i : Nat)), some (.ref pi_), some (.ref qi), x5, x6, x7, x8] ∧ Same H H' ∧ H' pr = some (.lst ((B1 ++ (st.1.take j).map fun z => row (itemW z)).map V.str)))
      ⟨_, _, _, _, rfl, eis, (by rw [List.take_zero, List.map_nil, List.append_nil]; exact upd_same)⟩ (fun j σ H' _ p => ?stands1) (fun j u σ H2 H3 hj p z => ?turn1) (fun σ H' p => ?done1)
    case stands1 =>
      obtain ⟨_, _, _, _, _, s', _⟩ := p
      exact SqT.of (s' _ _ ei)
    case turn1 =>
      obtain ⟨x5, x6, x7, x8, rfl, s', e⟩ := p
      obtain ⟨rfl, hz⟩ := z
      obtain ⟨it, eit, ai, bb, rfl, h1, h2⟩ := paired_get ri j u hz
      have hin : row (itemW it) ∈ stateRows i (st.1, sortD st.2) := by
        unfold stateRows
        have : row (itemW it) ∈ st.1.map fun z => row (itemW z) := List.mem_map.mpr ⟨it, List.mem_of_getElem? eit, rfl⟩
        simp [this]
      have lr := szr _ hin
      have lrow := len_row (ws := itemW it) (by simp [itemW])
      have vit := vst.items it (List.mem_of_getElem? eit)
      have hd := vit.2.1
      have eW : ([V.str "item", V.str it.1, V.str (nS it.2.1)] ++ it.2.2.map V.str) = (itemW it).map V.str := rfl
      have lW : (itemW it).length = 3 + it.2.2.length := by unfold itemW; simp only [List.length_cons]; omega
      refine ⟨ai, _, rfl, SqT.of (s' _ _ h1), rfl, _, _, rfl, _, _, rfl, _, _, rfl, rfl, ?_⟩
      refine ⟨_, rfl, .inl ⟨rfl, _, SqL.of e⟩, ⟨_, rfl⟩, _, rfl, _, rfl, _, rfl, log_small (by omega), (by show 3 ≤ sizeLine; decide), fun q1 hq1 => ⟨_, rfl, bb, _, rfl, .inr (SqT.of (same_new hq1 _ _ _ (s' _ _ h2))), fun q2 hq2 => ?_⟩⟩
      have u1 := same_new hq1 (.lst [V.str "item", V.str it.1, V.str (nS it.2.1)])
      have u2 := same_new hq2 (.lst (it.2.2.map V.str))
      refine ⟨q1, q2, _, _, rfl, rfl, u2 _ _ upd_same, upd_same, (by rw [List.length_map, sizeLine_eq]; show 3 + it.2.2.length ≤ _; omega), fun q3 hq3 => ?_⟩
      have u3 := same_new hq3 (.lst ([V.str "item", V.str it.1, V.str (nS it.2.1)] ++ it.2.2.map V.str))
      have u := (u1.trans u2).trans u3
      have e3 := u _ _ e
      have hn : (" " : Str).length = 1 := by decide +kernel
      have esum : ((itemW it).map (·.length)).sum = sumL (itemW it) := rfl
      refine ⟨" ", q3, itemW it, rfl, rfl, .inl (SqL.of (upd_same.trans (congrArg (fun z => some (HO.lst z)) eW))), (by rw [esum, hn]; omega), ?_⟩
      have lj : ((B1 ++ (st.1.take j).map fun z => row (itemW z)).map V.str).length < sizeLine := by
        show ((rowsFrom 0 ((sortT T).take i) ++ [row (stateW i)] ++ (st.1.take j).map fun z => row (itemW z)).map V.str).length < _
        rw [List.length_map, List.length_append, List.length_append, List.length_map, List.length_take, List.length_singleton, sizeLine_eq]
        omega
      refine ⟨pr, _, _, rfl, rfl, e3, lj, ?_⟩
      refine ⟨_, _, _, _, rfl, up _ (s'.trans u), ?_⟩
      rw [upd_same, List.take_add_one, eit, Option.toList_some]
      simp only [List.map_append, List.append_assoc]
      rfl
    case done1 =>
      obtain ⟨x5, x6, x7, x8, rfl, s', e⟩ := p
      have lvs : vs.length = st.1.length := Paired.length ri
      rw [lvs, List.take_length] at e
      have ekey := rk_keys rk
      refine ⟨_, rfl, qi, kvs, st.2.map (·.1), rfl, .inl (s' _ _ ed), ekey, fun zs p5 hperm hpw hp5 => ?_⟩
      have ezs : zs = (sortD st.2).map (·.1) := keys_sorted vst.nodup hperm hpw
      subst ezs
      have s5 := same_new hp5 (.lst (((sortD st.2).map (·.1)).map V.str))
      have e5 := s5 _ _ e
      have hp5' : (upd H' p5 (.lst (((sortD st.2).map (·.1)).map V.str))) p5 = some (.lst (((sortD st.2).map (·.1)).map V.str)) := upd_same
      have npr : p5 ≠ pr := fun z => by rw [z, e] at hp5; cases hp5
      generalize upd H' p5 (.lst (((sortD st.2).map (·.1)).map V.str)) = H4 at s5 e5 hp5'
      have s4 := s'.trans s5
      let B2 := B1 ++ st.1.map fun z => row (itemW z)
      refine ⟨_, rfl, ⟨_, SqL.of hp5'⟩, ?_⟩
      refine for_it (walk_list (xs := ((sortD st.2).map (·.1)).map V.str)) (fun j σ H5 => ∃ x5 x6 x7 x8, σ = [some (.ref a), some (.ref pr), some (.int (i : Nat)), some (.ref pi_), some (.ref qi), x5, x6, x7, x8] ∧ Same H H5 ∧ H5 p5 = some (.lst (((sortD st.2).map (·.1)).map V.str)) ∧ H5 pr = some (.lst ((B2 ++ ((sortD st.2).take j).map fun z => row (onW z)).map V.str)))
        ⟨_, _, _, _, rfl, s4, hp5', (by rw [List.take_zero, List.map_nil, List.append_nil]; exact e5)⟩ (fun j σ H5 _ p => ?stands2) (fun j u σ H5 H6 hj p z => ?turn2) (fun σ H5 p => ?done2)
      case stands2 =>
        obtain ⟨_, _, _, _, _, _, e6, _⟩ := p
        exact SqL.of e6
      case done2 =>
        obtain ⟨x5, x6, x7, x8, rfl, s6, _, e6⟩ := p
        rw [List.length_map, List.length_map, List.take_length] at e6
        refine ⟨_, _, _, _, _, _, _, rfl, s6, ?_⟩
        rw [e6, eS]
        show some (HO.lst ((rowsFrom 0 ((sortT T).take i) ++ [row (stateW i)] ++ (st.1.map fun z => row (itemW z)) ++ (sortD st.2).map fun z => row (onW z)).map V.str)) = _
        unfold stateRows
        simp only [List.append_assoc, List.cons_append, List.nil_append]
      case turn2 =>
        obtain ⟨x5, x6, x7, x8, rfl, s6, e6, e7⟩ := p
        obtain ⟨rfl, hz⟩ := z
        rw [List.getElem?_map, List.getElem?_map] at hz
        cases ez : (sortD st.2)[j]? with
        | none => rw [ez] at hz; cases hz
        | some p =>
          rw [ez] at hz
          injection hz with hz
          subst hz
          have hpm : p ∈ st.2 := (sortD_perm st.2).mem_iff.mp (List.mem_of_getElem? ez)
          obtain ⟨v, ev, rv⟩ := rk_get rk vst.nodup p hpm
          have vp := vst.deeds p hpm
          have hin : row (onW p) ∈ stateRows i (st.1, sortD st.2) := by
            unfold stateRows
            have : row (onW p) ∈ (sortD st.2).map fun z => row (onW z) := List.mem_map.mpr ⟨p, List.mem_of_getElem? ez, rfl⟩
            simp [this]
          have lr := szr _ hin
          have er := row_on p.1 p.2
          have lk := mark_ne vp.1
          have l3 : (Str.empty ++ "on " : Str).length = 3 := by decide +kernel
          have l1b : (" " : Str).length = 1 := by decide +kernel
          have hk1 : p.1.length ≤ sizeLine := by rw [sizeLine_eq]; omega
          refine ⟨_, rfl, .inl ⟨rfl, _, SqL.of e7⟩, "on ", rfl, by rw [l3, sizeLine_eq]; decide, _, rfl, .inl ⟨_, rfl, hk1, p.1, rfl, by rw [len_app, l3, sizeLine_eq]; omega, " ", rfl, by rw [len_app, len_app, l3, l1b, sizeLine_eq]; omega, ?_⟩⟩
          have hg : DGet H6 qi (kV (Sum.inr p.1)) (some v) := by
            rw [← ev]
            exact DGet.k (s6 _ _ ed)
          refine ⟨_, rfl, _, rfl, qi, v, rfl, hg, v, p.2, rfl, rv.same s6, vp.2, fun H7 s7 => ?_⟩
          have elen : (Str.empty ++ "on " ++ p.1 ++ " " ++ row (deedW p.2)).length = (row (onW p)).length := congrArg Str.length er
          have l5 := elen
          rw [len_app] at l5
          have e8 := s7 _ _ e7
          have lj : ((B2 ++ ((sortD st.2).take j).map fun z => row (onW z)).map V.str).length < sizeLine := by
            show ((rowsFrom 0 ((sortT T).take i) ++ [row (stateW i)] ++ (st.1.map fun z => row (itemW z)) ++ ((sortD st.2).take j).map fun z => row (onW z)).map V.str).length < _
            rw [List.length_map, List.length_append, List.length_append, List.length_append, List.length_map, List.length_map, List.length_take, List.length_singleton, sizeLine_eq]
            omega
          refine .inl ⟨_, rfl, by rw [sizeLine_eq]; omega, _, rfl, by rw [elen, sizeLine_eq]; omega, pr, _, _, rfl, rfl, e8, lj, ?_⟩
          rw [er]
          refine ⟨_, _, _, _, rfl, up _ (s6.trans s7), ?_, ?_⟩
          · rw [upd_ne npr]; exact s7 _ _ e6
          · rw [upd_same, List.take_add_one, ez, Option.toList_some]
            simp only [List.map_append, List.append_assoc]
            rfl
end
end Ka
set_option maxHeartbeats 2000000
namespace Ka
open PySem PySem.Spec PyProof.Rows L2 Ty
def optN : Option Nat → V
  | none => .non
  | some n => .int (n : Nat)
def spWrong : Sp := fun vs H Q _ => ∃ x : Str, vs = [.str x] ∧ Tx x ∧ x.length ≤ 99900 ∧ ∀ H', Same H H' → Q (optN (wrongL (Txt.split x "\n") 0 (0, none))) H'
theorem scWrong : FnScope ["text", "states", "last", "k", "row", "words", "good", "word"] ["text"] (defScope lWrong) := ⟨rfl, rfl, rfl, by decide +kernel, rfl, by decide +kernel, by decide +kernel⟩
section
variable {P : Program} {w : World} {K : PySem.W.Frag} {mg : Str → Option Value} {base : Heap} {f g1 g2 g3 : Addr} {fd gd1 gd2 gd3 : FuncData}
theorem ok_wrong (F : Fun K "_law_wrong_row" "_law_wrong_row" lWrong f fd) (M : FnOk P w K mg base CX0 1 g1 gd1 ["word"] (spB markP)) (bM : Binds K gd1 ["word"] []) (kM : PySem.W.keepIn K (.ref g1) = true) (mM : mg "_law_is_mark" = some (.ref g1))
    (N : FnOk P w K mg base CX0 1 g2 gd2 ["word"] (spB numP)) (bN : Binds K gd2 ["word"] []) (kN : PySem.W.keepIn K (.ref g2) = true) (mN : mg "_law_is_number" = some (.ref g2))
    (D : FnOk P w K mg base CX0 2 g3 gd3 ["words"] spLDeed) (bD : Binds K gd3 ["words"] []) (kD : PySem.W.keepIn K (.ref g3) = true) (mD : mg "_law_is_deed" = some (.ref g3))
    (me : mg "enumerate" = none) (ml : mg "len" = none) (ma : mg "all" = none) (ms : mg "str" = none) : FnOk P w K mg base CX0 3 f fd ["text"] spWrong := by
  refine F.ok scWrong (fun vs H Q E h => ?_) (fun cdv A outer s H vs Q E hr h => ?_)
  · obtain ⟨x, rfl, _⟩ := h
    rfl
  obtain ⟨x, rfl, tx, hx, q⟩ := h
  have hu := hr.units
  refine ⟨_, pss_cons (ps_set (i := 1) scWrong.nd rfl (.inl rfl) pe_int)
    (pss_cons (ps_set (i := 2) scWrong.nd rfl (.inl rfl) pe_non)
    (pss_cons (ps_for PassesOwn.never rfl (pi_enum rfl me (pa_cons (pe_split (pv 0) pe_str) pa_nil)) (pg_tup rfl (pgs_cons (pg_name (i := 3) scWrong.nd rfl (Or.inl rfl)) (pgs_cons (pg_name (i := 4) scWrong.nd rfl (Or.inl rfl)) pgs_nil)))
      (pss_cons (ps_set (i := 5) scWrong.nd rfl (.inl rfl) (pe_split (pv 4) pe_str))
      (pss_one (ps_if (pt_cmpR op_eq (pe_ix ix_list (pv 5) pe_int (fun _ _ => rfl)) pe_str (nomark _))
        (pss_cons (ps_if (pt_cmpR (op_neSs hu) (pe_slice sl_list (pv 5) (po_some pe_int) po_none) (pe_lst (pa_cons (pe_callTy call_str_int rfl ms (by decide +kernel) (pa_cons (pv 1) pa_nil)) pa_nil)) (nomark _)) (pss_one (ps_ret (pv 3))) pss_nil)
        (pss_cons (ps_set (i := 1) scWrong.nd rfl (.inl rfl) (pe_op op_add (pv 1) pe_int))
        (pss_one (ps_set (i := 2) scWrong.nd rfl (.inl rfl) pe_str))))
        (pss_one (ps_if (pt_cmpR op_eq (pe_ix ix_list (pv 5) pe_int (fun _ _ => rfl)) pe_str (nomark _))
          (pss_cons (ps_set (i := 6) scWrong.nd rfl (.inl rfl) (pe_and (pe_cmpR op_gt (pe_callB call_len_seq rfl ml PySem.boot_len (pa_cons (pv 5) pa_nil)) pe_int (nomark _)) (pe_and (pe_call M (hr.mono (by decide)) rfl mM kM bM .nil pass0 (pa_cons (pe_ix ix_list (pv 5) pe_int (fun _ _ => rfl)) pa_nil)) (pe_one (pe_call N (hr.mono (by decide)) rfl mN kN bN .nil pass0 (pa_cons (pe_ix ix_list (pv 5) pe_int (fun _ _ => rfl)) pa_nil))))))
          (pss_one (ps_if (PW.pt (pw_or (pt_not (pt_val (pv 6))) (pw_or (pt_cmpR op_ne (pv 2) pe_str (nomark _)) (pw_or1 (pt_not (pt_val (pe_callB (cr_all rfl) rfl ma (by decide +kernel) (pa_cons
              (pe_lc (own := [("word", 7)]) (g := gName 7) (tt := tYes) rfl scWrong.nd (pi_list (pe_slice sl_list (pv 5) (po_some pe_int) po_none)) (blkOk_by (N := ["text", "states", "last", "k", "row", "words", "good", "word"]) (sc := defScope lWrong) (by decide +kernel)) (fun _ _ _ _ _ => pg_name (i := 7) scWrong.nd rfl (Or.inl rfl)) (fun _ _ _ _ _ => pts_nil)
                (fun _ _ _ _ _ => pe_call M (hr.mono (by decide)) rfl mM kM bM .nil pass0 (pa_cons (pv 7) pa_nil))) pa_nil)))))))) (pss_one (ps_ret (pv 3))) pss_nil)))
          (pss_cons (ps_if (PW.pt (pw_or (pt_cmpR op_ne (pe_ix ix_list (pv 5) pe_int (fun _ _ => rfl)) pe_str (nomark _)) (pw_or (pt_cmpR op_isN (pv 2) pe_non (nomark _)) (pw_or (pt_cmpR op_lt (pe_callB call_len_seq rfl ml PySem.boot_len (pa_cons (pv 5) pa_nil)) pe_int (nomark _)) (pw_or1 (pt_not (pt_val (pe_call M (hr.mono (by decide)) rfl mM kM bM .nil pass0 (pa_cons (pe_ix ix_list (pv 5) pe_int (fun _ _ => rfl)) pa_nil)))))))))
              (pss_one (ps_ret (pv 3))) pss_nil)
          (pss_cons (ps_if (PW.pt (pw_or (pt_cmpR op_le_str (pe_ix ix_list (pv 5) pe_int (fun _ _ => rfl)) (pv 2) (nomark _)) (pw_or1 (pt_not (pt_val (pe_call D hr rfl mD kD bD .nil pass0 (pa_cons (pe_slice sl_list (pv 5) (po_some pe_int) po_none) pa_nil)))))))
              (pss_one (ps_ret (pv 3))) pss_nil)
          (pss_one (ps_set (i := 2) scWrong.nd rfl (.inl rfl) (pe_ix ix_list (pv 5) pe_int (fun _ _ => rfl))))))))))))
    (pss_one (ps_ret pe_non)))), ?_⟩
  obtain ⟨hrl, hrt⟩ := tx_rows tx hx
  refine ⟨_, rfl, ⟨_, rfl⟩, x, "\n", rfl, rfl, by decide +kernel, by rw [sizeLine_eq]; omega, fun l hl => ?_⟩
  generalize Txt.split x "\n" = rows at hrl hrt q
  have sl := same_new hl (.lst (rows.map V.str))
  refine ⟨l, rows.map V.str, rfl, SqL.of upd_same, ?_⟩
  refine for_it (walk_enum (xs := rows.map V.str)) (fun i σ H' => ∃ (c : Nat) (last : Option Str) (x3 x4 x5 x6 x7 : Option V), σ = [some (.str x), some (.int (c : Nat)), some ((last.map V.str).getD .non), x3, x4, x5, x6, x7] ∧ Same H H' ∧ H' l = some (.lst (rows.map V.str)) ∧ c ≤ i ∧
      wrongL rows 0 (0, none) = wrongL (rows.drop i) i (c, last))
    ⟨0, none, _, _, _, _, _, rfl, sl, upd_same, Nat.le_refl _, rfl⟩ (fun i σ H' _ p => ?stands) (fun i u σ H0 H1 hi p z => ?turn) (fun σ H' p => ?done)
  case stands =>
    obtain ⟨_, _, _, _, _, _, _, _, _, e, _⟩ := p
    exact SqL.of e
  case done =>
    obtain ⟨c, last, x3, x4, x5, x6, x7, rfl, s', e, _, er⟩ := p
    rw [List.length_map, List.drop_length] at er
    have := q H' s'
    rw [er] at this
    exact this
  case turn =>
    obtain ⟨c, last, x3, x4, x5, x6, x7, rfl, s', e, lc, er⟩ := p
    obtain ⟨Tp, iv, v, rfl, hT, rfl, ei, ev⟩ := z
    injection ei with ei
    subst ei
    replace ev : (rows.map V.str)[i]? = some v := ev
    rw [List.getElem?_map] at ev
    rw [List.length_map] at hi
    have hg : rows[i]? = some rows[i] := List.getElem?_eq_getElem hi
    rw [hg] at ev
    injection ev with ev
    subst ev
    obtain ⟨tr, lr⟩ := hrt rows[i] (List.getElem_mem hi)
    have hdrop : rows.drop i = rows[i] :: rows.drop (i + 1) := List.drop_eq_getElem_cons hi
    rw [hdrop] at er
    have t1 := same_new hT (.tup [.int (i : Nat), .str rows[i]])
    have hw := ws_row tr lr
    have hne := split_ne rows[i] " " (by rw [show (" " : Str).length = 1 by decide +kernel]; decide)
    have ew : wrongL (rows[i] :: rows.drop (i + 1)) i (c, last) = (match Txt.split rows[i] " " with
      | [] => some i
      | w :: ws => match stepL c last w ws with
        | none => some i
        | some s' => wrongL (rows.drop (i + 1)) (i + 1) s') := rfl
    rw [ew] at er
    refine ⟨Tp, _, rfl, SqT.of upd_same, rfl, _, _, rfl, _, _, rfl, rfl, ?_⟩
    refine ⟨_, rfl, ⟨_, rfl⟩, rows[i], " ", rfl, rfl, by decide +kernel, by rw [sizeLine_eq]; omega, fun p0 hp0 => ?_⟩
    cases es : Txt.split rows[i] " " with
    | nil => exact absurd es hne
    | cons w ws =>
    rw [es] at hw er
    replace er : wrongL rows 0 (0, none) = (match stepL c last w ws with
        | none => some i
        | some s' => wrongL (rows.drop (i + 1)) (i + 1) s') := er
    have t2 := same_new hp0 (.lst ((w :: ws).map V.str))
    have s2 := s'.trans (t1.trans t2)
    have e2 := t2 _ _ (t1 _ _ e)
    have hp : (upd (upd H0 Tp (.tup [.int (i : Nat), .str rows[i]])) p0 (.lst ((w :: ws).map V.str))) p0 = some (.lst ((w :: ws).map V.str)) := upd_same
    generalize upd (upd H0 Tp (.tup [.int (i : Nat), .str rows[i]])) p0 (.lst ((w :: ws).map V.str)) = H2 at s2 e2 hp
    have tw : ∀ z, z ∈ w :: ws → Tx z := hw.2
    have bad : ∀ H', Same H H' → stepL c last w ws = none → Q (.int (i : Nat)) H' := fun H' s3 en => by
      have := q H' s3
      rw [er, en] at this
      exact this
    refine ⟨_, rfl, p0, _, _, _, rfl, rfl, SqL.of hp, at0, rfl, _, rfl, ?_⟩
    rw [dec_str]
    by_cases c1 : w = "state"
    · rw [decide_eq_true c1]
      have ct : cutV ((w :: ws).map V.str) (some 1) none = ws.map V.str := cut_tail
      have hs : stepL c last w ws = if ws = [nS c] then some (c + 1, some Str.empty) else none := by unfold stepL; rw [if_pos c1]
      refine iteT ⟨_, rfl, _, rfl, p0, _, rfl, SqL.of hp, fun p1 hp1 => ?_⟩
      rw [ct]
      have t3 := same_new hp1 (.lst (ws.map V.str))
      refine ⟨_, rfl, _, rfl, log_small (by omega), (by show 1 ≤ sizeLine; decide), fun p2 hp2 => ?_⟩
      have t4 := same_new hp2 (.lst [.str (nS c)])
      have s4 := s2.trans (t3.trans t4)
      refine ⟨p1, p2, ws, [nS c], rfl, rfl, SqL.of (t4 _ _ upd_same), SqL.of upd_same, (fun z hz => tw z (List.mem_cons_of_mem _ hz)), tx_one (tx_nS (by omega)), _, rfl, ?_⟩
      rw [if_pos rfl]
      by_cases c2 : ws = [nS c]
      · rw [decide_eq_true c2]
        rw [if_pos c2] at hs
        refine iteF ⟨_, rfl, _, _, rfl, rfl, ?_⟩
        refine ⟨c + 1, some Str.empty, _, _, _, _, _, rfl, s4, t4 _ _ (t3 _ _ e2), by omega, ?_⟩
        rw [er, hs]
      · rw [decide_eq_false c2]
        rw [if_neg c2] at hs
        exact iteT ⟨_, rfl, bad _ s4 hs⟩
    · rw [decide_eq_false c1]
      refine iteF ⟨_, rfl, p0, _, _, _, rfl, rfl, SqL.of hp, at0, rfl, _, rfl, ?_⟩
      rw [dec_str]
      by_cases c2 : w = "item"
      · rw [decide_eq_true c2]
        have hs : stepL c last w ws = if ((itemOf ws).isSome && decide (last = some Str.empty)) = true then some (c, last) else none := by unfold stepL; rw [if_neg c1, if_pos c2]
        refine iteT ⟨_, rfl, p0, _, rfl, .inl (SqL.of hp), _, _, rfl, rfl, _, rfl, ?_⟩
        match ws, hp, hw, tw, er, bad, hs with
        | [], hp, hw, tw, er, bad, hs =>
          refine iteF ⟨_, rfl, _, rfl, iteT ⟨_, rfl, bad _ s2 ?_⟩⟩
          rw [hs]; rfl
        | [_], hp, hw, tw, er, bad, hs =>
          refine iteF ⟨_, rfl, _, rfl, iteT ⟨_, rfl, bad _ s2 ?_⟩⟩
          rw [hs]; rfl
        | lb :: d :: as, hp, hw, tw, er, bad, hs =>
          have e3 : decide ((2 : Int) < (((w :: lb :: d :: as).map V.str).length : Nat)) = true := decide_eq_true (by simp; omega)
          rw [e3]
          have hit : itemOf (lb :: d :: as) = if (markP lb && numP d && as.all markP) = true then some (lb, numV d, as) else none := rfl
          have tlb := tw lb (by simp)
          have td := tw d (by simp)
          have tas : ∀ z, z ∈ as → Tx z := fun z hz => tw z (by simp [hz])
          refine iteT ⟨_, rfl, p0, _, _, _, rfl, rfl, SqL.of hp, at1, lb, rfl, tlb.at, fun H3 s3 => ⟨_, rfl, ?_⟩⟩
          have s23 := s2.trans s3
          cases m1 : markP lb with
          | false =>
            refine iteF ⟨_, rfl, _, rfl, iteT ⟨_, rfl, bad _ s23 ?_⟩⟩
            rw [hs, hit, m1]; rfl
          | true =>
          refine iteT ⟨_, rfl, p0, _, _, _, rfl, rfl, SqL.of (s3 _ _ hp), at2, d, rfl, td.at, fun H4 s4 => ?_⟩
          have s24 := s23.trans s4
          cases m2 : numP d with
          | false =>
            refine ⟨_, rfl, _, rfl, iteT ⟨_, rfl, bad _ s24 ?_⟩⟩
            rw [hs, hit, m2, Bool.and_false]; rfl
          | true =>
          refine ⟨_, rfl, _, rfl, iteF ?_⟩
          cases last with
          | none =>
            refine ⟨_, rfl, rfl, _, rfl, ite2 (fun _ => ⟨_, rfl, bad _ s24 ?_⟩) (fun c => absurd rfl c)⟩
            rw [hs, decide_eq_false (fun e => by cases e), Bool.and_false]; rfl
          | some la =>
          refine ⟨_, rfl, rfl, _, rfl, ?_⟩
          by_cases c3 : la = Str.empty
          case neg =>
            refine ite2 (fun _ => ⟨_, rfl, bad _ s24 ?_⟩) (fun c => absurd ?_ c)
            · rw [hs, decide_eq_false (fun e => c3 (Option.some.inj e)), Bool.and_false]; rfl
            · show (!decide (V.str la = V.str Str.empty)) = true
              rw [dec_str, decide_eq_false c3]; rfl
          subst c3
          refine ite2 (fun h => absurd h (by rw [decide_eq_true (show (Option.map V.str (some Str.empty)).getD V.non = V.str ("" : Str) from rfl)]; simp)) (fun _ => ?_)
          have ct : cutV ((w :: lb :: d :: as).map V.str) (some 3) none = as.map V.str := by
            rw [show (some (3 : Int)) = some (((3 : Nat) : Nat) : Int) from rfl, cut_from]
            rfl
          refine ⟨_, rfl, _, rfl, p0, _, rfl, SqL.of (s4 _ _ (s3 _ _ hp)), fun p1 hp1 => ?_⟩
          rw [ct]
          have t5 := same_new hp1 (.lst (as.map V.str))
          have s25 := s24.trans t5
          refine ⟨p1, rfl, ⟨_, SqL.of upd_same⟩, fun D2 hD2 => ?_⟩
          have las : as.length < sizeLine := by have := hw.1; simp at this; rw [sizeLine_eq]; omega
          refine lc_all (p := markP) (i := 7) hD2 upd_same las (fun v => rfl) (fun z hz H6 Q6 q6 => ?_) (fun H6 A => ?_)
          · exact ⟨_, rfl, z, rfl, (tas z hz).at, fun H7 s7 => q6 H7 s7⟩
          · refine ⟨D2, _, rfl, SqL.of A.2, ?_⟩
            rw [all_id]
            have s26 := s25.trans A.1
            refine ⟨_, rfl, ?_⟩
            cases m3 : as.all markP with
            | false =>
              refine iteT ⟨_, rfl, bad _ s26 ?_⟩
              rw [hs, hit, m3, Bool.and_false]; rfl
            | true =>
              refine iteF ?_
              refine ⟨c, some Str.empty, _, _, _, _, _, rfl, s26, A.1 _ _ (t5 _ _ (s4 _ _ (s3 _ _ e2))), by omega, ?_⟩
              rw [er, hs, hit, m1, m2, m3]
              rfl
      · rw [decide_eq_false c2]
        refine iteF ?_
        refine ⟨_, rfl, p0, _, _, _, rfl, rfl, SqL.of hp, at0, rfl, _, rfl, ?_⟩
        by_cases c3 : w = "on"
        case neg =>
          refine ite2 (fun _ => ⟨_, rfl, bad _ s2 ?_⟩) (fun c => absurd ?_ c)
          · unfold stepL; rw [if_neg c1, if_neg c2, if_neg c3]
          · show (!decide (V.str w = V.str "on")) = true
            rw [dec_str, decide_eq_false c3]; rfl
        have hs : stepL c last w ws = (onL last ws).map fun k => (c, some k) := by unfold stepL; rw [if_neg c1, if_neg c2, if_pos c3]
        refine ite2 (fun h => absurd h ?_) (fun _ => ?_)
        · show ¬ (!decide (V.str w = V.str "on")) = true
          rw [dec_str, decide_eq_true c3]; simp
        cases last with
        | none =>
          refine ⟨_, rfl, rfl, _, rfl, ite2 (fun _ => ⟨_, rfl, bad _ s2 ?_⟩) (fun h => absurd rfl h)⟩
          rw [hs]; rfl
        | some la =>
        refine ⟨_, rfl, rfl, _, rfl, ite2 (fun h => absurd h (by simp)) (fun _ => ?_)⟩
        refine ⟨_, rfl, p0, _, rfl, .inl (SqL.of hp), _, _, rfl, rfl, _, rfl, ?_⟩
        match ws, hp, hw, tw, er, bad, hs with
        | [], hp, hw, tw, er, bad, hs =>
          refine iteT ⟨_, rfl, bad _ s2 ?_⟩
          rw [hs]; rfl
        | k :: ws, hp, hw, tw, er, bad, hs =>
          have e3 : decide ((((w :: k :: ws).map V.str).length : Nat) < (2 : Int)) = false := decide_eq_false (by simp; omega)
          rw [e3]
          have ho : onL (some la) (k :: ws) = if (markP k && ltS la k && (deedOf ws).isSome) = true then some k else none := rfl
          have tk := tw k (by simp)
          have tws : ∀ z, z ∈ ws → Tx z := fun z hz => tw z (by simp [hz])
          refine iteF ⟨_, rfl, p0, _, _, _, rfl, rfl, SqL.of hp, at1, k, rfl, tk.at, fun H3 s3 => ⟨_, rfl, ?_⟩⟩
          have s23 := s2.trans s3
          cases m1 : markP k with
          | false =>
            refine iteT ⟨_, rfl, bad _ s23 ?_⟩
            rw [hs, ho, m1]; rfl
          | true =>
          refine iteF ⟨_, rfl, p0, _, _, _, rfl, rfl, SqL.of (s3 _ _ hp), at1, _, rfl, _, _, rfl, rfl, _, rfl, ?_⟩
          cases m2 : ltS la k with
          | false =>
            have e4 : (!decide (la.cps.toList < k.cps.toList)) = true := by unfold ltS at m2; rw [m2]; rfl
            rw [e4]
            refine iteT ⟨_, rfl, bad _ s23 ?_⟩
            rw [hs, ho, m1, m2]; rfl
          | true =>
          have e4 : (!decide (la.cps.toList < k.cps.toList)) = false := by unfold ltS at m2; rw [m2]; rfl
          rw [e4]
          refine iteF ⟨_, rfl, _, rfl, p0, _, rfl, SqL.of (s3 _ _ hp), fun p1 hp1 => ?_⟩
          have ct : cutV ((w :: k :: ws).map V.str) (some 2) none = ws.map V.str := by
            rw [show (some (2 : Int)) = some (((2 : Nat) : Nat) : Int) from rfl, cut_from]
            rfl
          rw [ct]
          have t5 := same_new hp1 (.lst (ws.map V.str))
          have s25 := s23.trans t5
          have hws : Ws ws := ⟨by have := hw.1; simp at this; omega, tws⟩
          refine ⟨p1, ws, rfl, upd_same, hws, fun H5 s5 => ⟨_, rfl, ?_⟩⟩
          have s26 := s25.trans s5
          cases m3 : (deedOf ws).isSome with
          | false =>
            refine iteT ⟨_, rfl, bad _ s26 ?_⟩
            rw [hs, ho, m3, Bool.and_false]; rfl
          | true =>
            refine iteF ⟨_, rfl, p0, _, _, _, rfl, rfl, SqL.of (s5 _ _ (t5 _ _ (s3 _ _ hp))), at1, ?_⟩
            refine ⟨c, some k, _, _, _, _, _, rfl, s26, s5 _ _ (t5 _ _ (s3 _ _ e2)), by omega, ?_⟩
            rw [er, hs, ho, m1, m2, m3]
            rfl
end
end Ka
set_option maxHeartbeats 2000000
namespace Ka
open PySem PySem.Spec PyProof.Rows L2 Ty
/-! ### what is drawn: marks, numbers -/
def spDMark : Sp := fun vs H Q _ => ∃ (j : Addr) (C : Nat), vs = [.ref j] ∧ Jar j H C ∧ C ≤ 900000000 ∧ ∀ x H', markP x = true → Jar j H' (C + 12) → Keep j H H' → Q (.str x) H'
def spDNum : Sp := fun vs H Q _ => ∃ (j : Addr) (C : Nat), vs = [.ref j] ∧ Jar j H C ∧ C ≤ 900000000 ∧ ∀ (n : Nat) H', n < 10000 → Jar j H' (C + 12) → Keep j H H' → Q (.int (n : Nat)) H'
theorem scDMark : FnScope ["well", "way", "letters", "called", "sign"] ["well"] (defScope lMark) := ⟨rfl, rfl, rfl, by decide +kernel, rfl, by decide +kernel, by decide +kernel⟩
theorem scDNum : FnScope ["well"] ["well"] (defScope lNumber) := ⟨rfl, rfl, rfl, by decide +kernel, rfl, by decide +kernel, by decide +kernel⟩
theorem lit_len : lettS.cps.toList.length = 26 := by decide +kernel
theorem lit_low : ∀ c, c ∈ letters → c < 128 := by decide +kernel
theorem ones_sumL : ∀ l : List Nat, ((l.map (fun c => (⟨#[c]⟩ : Str))).map (·.length)).sum = l.length := Ty.ones_sum
theorem name_of {l : List Nat} (h1 : 1 ≤ l.length) (h2 : l.length ≤ 8) (h : ∀ c, c ∈ l → c ∈ letters) (hk : (⟨l.toArray⟩ : Str) ∉ kept) : markP ⟨l.toArray⟩ = true := by
  have e : (⟨l.toArray⟩ : Str).length = l.length := List.size_toArray
  have e2 : (⟨l.toArray⟩ : Str).cps.toList = l := rfl
  unfold markP nameP
  rw [e, e2, decide_eq_false hk, decide_eq_true h1, decide_eq_true h2, List.all_eq_true.mpr fun c hc => decide_eq_true (h c hc)]
  simp
theorem mark_lits : markP "." = true ∧ markP "state" = true ∧ markP "on" = true ∧ markP "item" = true := by decide +kernel
section
variable {P : Program} {w : World} {K : PySem.W.Frag} {mg : Str → Option Value} {base : Heap} {f g : Addr} {fd gd : FuncData}
theorem ok_dmark (F : Fun K "_law_mark" "_law_mark" lMark f fd) (G : FnOk P w K mg base CX0 1 g gd ["well", "many"] spDip) (bG : Binds K gd ["well", "many"] []) (kG : PySem.W.keepIn K (.ref g) = true) (mG : mg "_law_dip" = some (.ref g)) (mr : mg "range" = none) :
    FnOk P w K mg base CX0 2 f fd ["well"] spDMark := by
  refine F.ok scDMark (fun vs H Q E h => ?_) (fun cdv A outer s H vs Q E hr h => ?_)
  · obtain ⟨j, C, rfl, _⟩ := h
    rfl
  obtain ⟨j, C, rfl, hj, hC, q⟩ := h
  refine ⟨_, pss_cons (ps_set (i := 1) scDMark.nd rfl (.inl rfl) (pe_call G hr rfl mG kG bG .nil pass0 (pa_cons (pv 0) (pa_cons pe_int pa_nil))))
    (pss_cons (ps_set (i := 2) scDMark.nd rfl (.inr rfl) pe_str)
    (pss_cons (ps_set (i := 3) scDMark.nd rfl (.inl rfl) (pe_join pe_str
        (pe_lc (own := [("sign", 4)]) (g := gName 4) (tt := tYes) rfl scDMark.nd (pi_range1 rfl mr (pa_cons (pe_op op_add pe_int (pe_call G hr rfl mG kG bG .nil pass0 (pa_cons (pv 0) (pa_cons pe_int pa_nil)))) pa_nil)) (blkOk_by (N := ["well", "way", "letters", "called", "sign"]) (sc := defScope lMark) (by decide +kernel)) (fun _ _ _ _ _ => pg_name (i := 4) scDMark.nd rfl (Or.inl rfl)) (fun _ _ _ _ _ => pts_nil)
          (fun _ _ _ _ _ => pe_ix ix_str (pv 2) (pe_call G hr rfl mG kG bG .nil pass0 (pa_cons (pv 0) (pa_cons pe_int pa_nil))) (fun _ _ => rfl)))))
    (pss_cons (ps_if (pt_cmpR op_eq (pv 1) pe_int (nomark _)) (pss_one (ps_ret pe_str)) pss_nil)
    (pss_cons (ps_if (pt_cmpR op_in_seq (pv 3) (pe_lst (pa_cons pe_str (pa_cons pe_str (pa_cons pe_str (pa_cons pe_str (pa_cons pe_str pa_nil)))))) rfl) (pss_one (ps_ret pe_str)) pss_nil)
    (pss_one (ps_ret (pe_ix ix_list (pe_lst (pa_cons pe_str (pa_cons pe_str (pa_cons (pv 3) (pa_cons (pv 3) pa_nil))))) (pe_call G hr rfl mG kG bG .nil pass0 (pa_cons (pv 0) (pa_cons pe_int pa_nil))) (fun _ _ => rfl)))))))), ?_⟩
  refine ⟨_, rfl, j, C, 4, rfl, hj, by omega, by decide, by decide, fun r1 H1 r10 r11 j1 k1 => ?_⟩
  refine ⟨⟨_, rfl⟩, _, rfl, j, _, 8, rfl, j1, by omega, by decide, by decide, fun r2 H2 r20 r21 j2 k2 => ?_⟩
  obtain ⟨sz, hsz, s1, s8⟩ : ∃ sz : Nat, 1 + r2 = (sz : Int) ∧ 1 ≤ sz ∧ sz ≤ 8 := ⟨(1 + r2).toNat, by omega, by omega, by omega⟩
  refine ⟨_, _, rfl, rfl, _, congrArg (fun z => [V.int z]) hsz, by omega, by omega, fun D hD => ?_⟩
  rw [Int.toNat_natCast]
  have Dj := j2.ne hD
  have k12 := k1.trans k2
  refine lc_range (lo := 0) (n := sz) (fun i' H3 => ∃ l : List Nat, H3 D = some (.lst ((l.map fun c => (⟨#[c]⟩ : Str)).map V.str)) ∧ l.length = i' ∧ (∀ c, c ∈ l → c ∈ letters) ∧ Jar j H3 (C + 1 + 1 + i') ∧ Keep j H2 H3) ⟨[], upd_same, rfl, (fun _ h => by cases h), j2.keep (same_new hD _), keep_new hD _⟩ (fun i' H3 hi' p => ?_) (fun H3 p => ?_)
  · obtain ⟨l, ez, lz, oz, jz, kz⟩ := p
    refine ⟨rfl, ?_⟩
    simp only [tYes, ↓reduceIte]
    refine ⟨_, rfl, _, rfl, j, _, 26, rfl, jz, by omega, by decide, by decide, fun r3 H4 r30 r31 j4 k4 => ?_⟩
    obtain ⟨c, c1, c2⟩ := at_in (l := lettS.cps.toList) r30 (by rw [lit_len]; exact r31)
    refine ⟨"abcdefghijklmnopqrstuvwxyz", _, c, rfl, rfl, (by decide +kernel), by rw [eL]; exact c1, _, k4.lst Dj ez, by rw [List.length_map, List.length_map, sizeLine_eq]; omega, l ++ [c], ?_, ?_, ?_, ?_, ?_⟩
    · rw [upd_same, List.map_append, List.map_append]; rfl
    · rw [List.length_append, lz]; rfl
    · intro y hy
      rcases List.mem_append.mp hy with h | h
      · exact oz y h
      · rw [List.mem_singleton.mp h]; exact List.mem_of_getElem? c2
    · obtain ⟨a1, b1, c1, h1, h2⟩ := j4
      exact ⟨a1, b1, c1, by rw [upd_ne (Ne.symm Dj)]; exact h1, h2.1, h2.2.1, by have := h2.2.2; omega⟩
    · intro b o hb ho
      rw [upd_ne (ne_of_none ho hD)]
      exact k4 b o hb (kz b o hb ho)
  obtain ⟨l, ez, lz, oz, jz, kz⟩ := p
  refine ⟨_, D, l.map (fun c => (⟨#[c]⟩ : Str)), rfl, rfl, .inl (SqL.of ez), ?_, ?_⟩
  · rw [ones_sumL]
    show _ + _ * 0 ≤ _
    omega
  rw [Ty.join_one]
  have k3 := k12.trans kz
  have fin : ∀ x H', markP x = true → Jar j H' (C + 1 + 1 + sz + 1) → Keep j H3 H' → Q (.str x) H' := fun x H' m jr k => q x H' m (jr.mono (by omega)) (k3.trans k)
  refine ⟨_, rfl, rfl, _, rfl, ?_⟩
  refine ite2 (fun _ => fin _ _ mark_lits.1 (jz.mono (by omega)) (Keep.of_same same_refl)) (fun _ => ?_)
  refine ⟨_, rfl, (by show 5 ≤ sizeLine; decide), fun p0 hp0 => ?_⟩
  have t0 : Same H3 (upd H3 p0 (.lst (kept.map V.str))) := same_new hp0 _
  refine ⟨p0, kept.map V.str, rfl, .inl (SqL.of upd_same), rfl, all_flat _, _, rfl, ?_⟩
  rw [inV_strs]
  by_cases h3 : (⟨l.toArray⟩ : Str) ∈ kept
  · rw [decide_eq_true h3]
    exact iteT (fin _ _ mark_lits.2.1 ((jz.keep t0).mono (by omega)) (Keep.of_same t0))
  rw [decide_eq_false h3]
  have nm := name_of (by omega) (by omega) oz h3
  refine iteF ⟨_, rfl, _, rfl, (by show 4 ≤ sizeLine; decide), fun p1 hp1 => ?_⟩
  have t1 := same_new hp1 (.lst [.str "on", .str "item", .str ⟨l.toArray⟩, .str ⟨l.toArray⟩])
  have t01 : Same H3 _ := t0.trans t1
  have p1j := (jz.keep t0).ne hp1
  refine ⟨_, rfl, j, _, 4, rfl, jz.keep t01, by omega, by decide, by decide, fun r4 H4 r40 r41 j4 k4 => ?_⟩
  obtain ⟨z, z1, z2⟩ := at_in (l := ([.str "on", .str "item", .str ⟨l.toArray⟩, .str ⟨l.toArray⟩] : List V)) r40 r41
  obtain ⟨x, rfl, hx⟩ : ∃ x : Str, z = .str x ∧ markP x = true := by
    have := List.mem_of_getElem? z2
    simp only [List.mem_cons, List.not_mem_nil, or_false] at this
    rcases this with rfl | rfl | rfl | rfl
    · exact ⟨_, rfl, mark_lits.2.2.1⟩
    · exact ⟨_, rfl, mark_lits.2.2.2⟩
    · exact ⟨_, rfl, nm⟩
    · exact ⟨_, rfl, nm⟩
  exact ⟨p1, _, _, _, rfl, rfl, SqL.of (k4 _ _ p1j upd_same), z1, fin x _ hx j4 ((Keep.of_same t01).trans k4)⟩
theorem ok_dnum (F : Fun K "_law_number" "_law_number" lNumber f fd) (G : FnOk P w K mg base CX0 1 g gd ["well", "many"] spDip) (bG : Binds K gd ["well", "many"] []) (kG : PySem.W.keepIn K (.ref g) = true) (mG : mg "_law_dip" = some (.ref g)) :
    FnOk P w K mg base CX0 2 f fd ["well"] spDNum := by
  refine F.ok scDNum (fun vs H Q E h => ?_) (fun cdv A outer s H vs Q E hr h => ?_)
  · obtain ⟨j, C, rfl, _⟩ := h
    rfl
  obtain ⟨j, C, rfl, hj, hC, q⟩ := h
  refine ⟨_, pss_one (ps_ret (pe_ix ix_list (pe_lst (pa_cons (pe_call G hr rfl mG kG bG .nil pass0 (pa_cons (pv 0) (pa_cons pe_int pa_nil))) (pa_cons (pe_call G hr rfl mG kG bG .nil pass0 (pa_cons (pv 0) (pa_cons pe_int pa_nil))) (pa_cons (pe_call G hr rfl mG kG bG .nil pass0 (pa_cons (pv 0) (pa_cons pe_int pa_nil))) pa_nil))))
    (pe_call G hr rfl mG kG bG .nil pass0 (pa_cons (pv 0) (pa_cons pe_int pa_nil))) (fun _ _ => rfl))), ?_⟩
  refine ⟨_, rfl, j, C, 10, rfl, hj, by omega, by decide, by decide, fun r1 H1 r10 r11 j1 k1 => ?_⟩
  refine ⟨_, rfl, j, _, 200, rfl, j1, by omega, by decide, by decide, fun r2 H2 r20 r21 j2 k2 => ?_⟩
  refine ⟨_, rfl, j, _, 10000, rfl, j2, by omega, by decide, by decide, fun r3 H3 r30 r31 j3 k3 => ?_⟩
  refine ⟨(by show 3 ≤ sizeLine; decide), fun p1 hp1 => ?_⟩
  have t1 := same_new hp1 (.lst [.int r1, .int r2, .int r3])
  have p1j := j3.ne hp1
  refine ⟨_, rfl, j, _, 3, rfl, j3.keep t1, by omega, by decide, by decide, fun r4 H4 r40 r41 j4 k4 => ?_⟩
  obtain ⟨z, z1, z2⟩ := at_in (l := ([.int r1, .int r2, .int r3] : List V)) r40 r41
  obtain ⟨n, rfl, hn⟩ : ∃ n : Nat, z = .int (n : Nat) ∧ n < 10000 := by
    have := List.mem_of_getElem? z2
    simp only [List.mem_cons, List.not_mem_nil, or_false] at this
    rcases this with rfl | rfl | rfl
    · exact ⟨r1.toNat, by rw [Int.toNat_of_nonneg r10], by omega⟩
    · exact ⟨r2.toNat, by rw [Int.toNat_of_nonneg r20], by omega⟩
    · exact ⟨r3.toNat, by rw [Int.toNat_of_nonneg r30], by omega⟩
  exact ⟨p1, _, _, _, rfl, rfl, SqL.of (k4 _ _ p1j upd_same), z1, q n _ hn (j4.mono (by omega)) (k1.trans (k2.trans (k3.trans ((Keep.of_same t1).trans k4))))⟩
end
end Ka
set_option maxHeartbeats 2000000
namespace Ka
open PySem PySem.Spec PyProof.Rows L2 Ty
/-! ### what is drawn: a table -/
def Tk (H H' : Hp) : Prop := ∀ c xs, H c = some (.tup xs) → H' c = some (.tup xs)
def Kt (H H' : Hp) : Prop := Tk H H' ∧ ∀ c ks, H c = some (.dK ks) → H' c = some (.dK ks)
theorem Tk.trans {H H1 H2 : Hp} (a : Tk H H1) (b : Tk H1 H2) : Tk H H2 := fun c xs e => b c xs (a c xs e)
theorem Kt.trans {H H1 H2 : Hp} (a : Kt H H1) (b : Kt H1 H2) : Kt H H2 := ⟨a.1.trans b.1, fun c xs e => b.2 c xs (a.2 c xs e)⟩
theorem Kt.of_same {H H' : Hp} (s : Same H H') : Kt H H' := ⟨fun c xs e => s _ _ e, fun c xs e => s _ _ e⟩
theorem Kt.of_keep {j : Addr} {H H' : Hp} {C : Nat} (jr : Jar j H C) (k : Keep j H H') : Kt H H' := by
  obtain ⟨x, y, z, h, _⟩ := jr
  exact ⟨fun c xs e => k c _ (fun q => by rw [q, h] at e; cases e) e, fun c xs e => k c _ (fun q => by rw [q, h] at e; cases e) e⟩
theorem Kt.lst {H : Hp} {a : Addr} {xs : List V} {o : HO} (e : H a = some (.lst xs)) : Kt H (upd H a o) :=
  ⟨fun c ys h => by rw [upd_ne (fun q => by rw [q, e] at h; cases h)]; exact h, fun c ys h => by rw [upd_ne (fun q => by rw [q, e] at h; cases h)]; exact h⟩
theorem Tk.dct {H : Hp} {a : Addr} {xs : List (Key × V)} {o : HO} (e : H a = some (.dK xs)) : Tk H (upd H a o) :=
  fun c ys h => by rw [upd_ne (fun q => by rw [q, e] at h; cases h)]; exact h
theorem RI.tk {H H' : Hp} {v : V} {i : Item} (r : RI H v i) (k : Tk H H') : RI H' v i := by
  obtain ⟨a, b, e, h1, h2⟩ := r
  exact ⟨a, b, e, k _ _ h1, k _ _ h2⟩
theorem RD.tk {H H' : Hp} {v : V} {d : Deed} (r : RD H v d) (k : Tk H H') : RD H' v d := by
  obtain ⟨a, e, h1⟩ := r
  exact ⟨a, e, k _ _ h1⟩
theorem RK.tk {H H' : Hp} {kv : Key × V} {p : Str × Deed} (r : RK H kv p) (k : Tk H H') : RK H' kv p := ⟨r.1, r.2.tk k⟩
theorem RIs.kt {H H' : Hp} {x : V} {st : State} (r : RIs H x st) (k : Kt H H') : RIs H' x st := by
  obtain ⟨p, vs, e, h, q⟩ := r
  exact ⟨p, vs, e, k.1 _ _ h, paired_imp (fun _ _ r => r.tk k.1) q⟩
theorem RDs.kt {H H' : Hp} {x : V} {st : State} (r : RDs H x st) (k : Kt H H') : RDs H' x st := by
  obtain ⟨p, vs, e, h, q⟩ := r
  exact ⟨p, vs, e, k.2 _ _ h, paired_imp (fun _ _ r => r.tk k.1) q⟩
theorem RTab.kt {H H' : Hp} {v : V} {T : Table} (r : RTab H v T) (k : Kt H H') : RTab H' v T := by
  obtain ⟨a, b, c, xs, ys, e, h1, h2, h3, p1, p2⟩ := r
  exact ⟨a, b, c, xs, ys, e, k.1 _ _ h1, k.1 _ _ h2, k.1 _ _ h3, paired_imp (fun _ _ r => r.kt k) p1, paired_imp (fun _ _ r => r.kt k) p2⟩
theorem _root_.Ty.Jar.upd {j p : Addr} {H : Hp} {C : Nat} {o : HO} (h : Jar j H C) (n : p ≠ j) : Jar j (upd H p o) C := by
  obtain ⟨a, b, c, h1, h2⟩ := h
  exact ⟨a, b, c, by rw [upd_ne (Ne.symm n)]; exact h1, h2⟩
theorem _root_.Ty.Keep.upd {j p : Addr} {H H' : Hp} {o : HO} (k : Keep j H H') (n : H p = none) : Keep j H (upd H' p o) := fun b u nb e => by
  rw [upd_ne (ne_of_none e n)]
  exact k b u nb e
theorem new_back {j p : Addr} {H H' : Hp} (k : Keep j H H') (n : p ≠ j) (h : H' p = none) : H p = none := by
  cases e : H p with
  | none => rfl
  | some o => rw [k p o n e] at h; cases h
theorem paired_map {α β γ δ : Type} {P : α → β → Prop} {Q : γ → δ → Prop} {f : α → γ} {g : β → δ} (h : ∀ x y, P x y → Q (f x) (g y)) : ∀ {l : List α} {m : List β}, Paired P l m → Paired Q (l.map f) (m.map g)
  | _, _, .nil => .nil
  | _, _, .cons a t => .cons (h _ _ a) (paired_map h t)
theorem put_rk {H : Hp} {kvs : List (Key × V)} {ds : List (Str × Deed)} {k : Str} {z : V} {d : Deed} (r : Paired (RK H) kvs ds) (nd : (ds.map (·.1)).Nodup) (hz : RD H z d) :
    ∃ ds', Paired (RK H) (putK kvs (Sum.inr k : Key) z) ds' ∧ ds'.length ≤ ds.length + 1 ∧ (ds'.map (·.1)).Nodup ∧ ∀ p, p ∈ ds' → p ∈ ds ∨ p = (k, d) := by
  unfold putK
  by_cases c : (kvs.any fun kv => decide (kv.1 = (Sum.inr k : Key))) = true
  · rw [if_pos c]
    refine ⟨ds.map fun p => if p.1 = k then (p.1, d) else p, paired_map (fun x y h => ?_) r, by rw [List.length_map]; omega, ?_, fun p hp => ?_⟩
    · have h1 := h.1
      by_cases e : y.1 = k
      · have e2 : x.1 = (Sum.inr k : Key) := by rw [h1, e]
        rw [if_pos e, if_pos e2]
        exact ⟨h1, hz⟩
      · have e2 : ¬ x.1 = (Sum.inr k : Key) := by rw [h1]; intro q; injection q with q; exact e q
        rw [if_neg e, if_neg e2]
        exact h
    · have e : (ds.map fun p => if p.1 = k then (p.1, d) else p).map (·.1) = ds.map (·.1) := by
        rw [List.map_map]
        refine List.map_congr_left fun p _ => ?_
        show (if p.1 = k then (p.1, d) else p).1 = p.1
        split <;> rfl
      rw [e]; exact nd
    · obtain ⟨q, hq, rfl⟩ := List.mem_map.mp hp
      by_cases e : q.1 = k
      · right
        show (if q.1 = k then (q.1, d) else q) = _
        rw [if_pos e, e]
      · left
        show (if q.1 = k then (q.1, d) else q) ∈ ds
        rw [if_neg e]; exact hq
  · rw [if_neg c]
    refine ⟨ds ++ [(k, d)], paired_snoc r ⟨rfl, hz⟩, by rw [List.length_append]; exact Nat.le_refl _, ?_, fun p hp => ?_⟩
    · rw [List.map_append]
      refine List.nodup_append.mpr ⟨nd, by simp, fun x hx y hy e => c ?_⟩
      have hy' : y = k := by simpa using hy
      subst hy'
      subst e
      obtain ⟨p, hp, rfl⟩ := List.mem_map.mp hx
      have : ∃ kv, kv ∈ kvs ∧ kv.1 = (Sum.inr p.1 : Key) := by
        clear nd hy c hx
        induction r with
        | nil => cases hp
        | cons a t ih =>
          rcases List.mem_cons.mp hp with e | e
          · exact ⟨_, List.mem_cons_self, by rw [e]; exact a.1⟩
          · obtain ⟨kv, h1, h2⟩ := ih e
            exact ⟨kv, List.mem_cons_of_mem _ h1, h2⟩
      obtain ⟨kv, h1, h2⟩ := this
      exact List.any_eq_true.mpr ⟨kv, h1, decide_eq_true h2⟩
    · rcases List.mem_append.mp hp with h | h
      · exact .inl h
      · exact .inr (List.mem_singleton.mp h)
structure SmS (st : State) : Prop where
  items : st.1.length ≤ 3
  deeds : st.2.length ≤ 3
  ahead : ∀ i, i ∈ st.1 → i.2.2.length ≤ 3
def spDrawn : Sp := fun vs H Q _ => ∃ (j : Addr) (C : Nat), vs = [.ref j] ∧ Jar j H C ∧ C ≤ 800000000 ∧
  ∀ v T H', RTab H' v T → VT T → (∀ st, st ∈ T → SmS st) → T ≠ [] → T.length ≤ 105 → Jar j H' (C + 50000) → Keep j H H' → Q v H'
theorem scDrawn : FnScope ["well", "states", "deeds", "great", "few", "k", "items", "j", "ahead", "some", "way", "deed", "one"] ["well"] (defScope lDrawn) := ⟨rfl, rfl, rfl, by decide +kernel, rfl, by decide +kernel, by decide +kernel⟩
section
variable {P : Program} {w : World} {K : PySem.W.Frag} {mg : Str → Option Value} {base : Heap} {f g1 g2 g3 : Addr} {fd d1 d2 d3 : FuncData}
theorem ok_drawn (F : Fun K "_law_drawn" "_law_drawn" lDrawn f fd) (G : FnOk P w K mg base CX0 1 g1 d1 ["well", "many"] spDip) (bG : Binds K d1 ["well", "many"] []) (kG : PySem.W.keepIn K (.ref g1) = true) (mG : mg "_law_dip" = some (.ref g1))
    (M : FnOk P w K mg base CX0 2 g2 d2 ["well"] spDMark) (bM : Binds K d2 ["well"] []) (kM : PySem.W.keepIn K (.ref g2) = true) (mM : mg "_law_mark" = some (.ref g2))
    (N : FnOk P w K mg base CX0 2 g3 d3 ["well"] spDNum) (bN : Binds K d3 ["well"] []) (kN : PySem.W.keepIn K (.ref g3) = true) (mN : mg "_law_number" = some (.ref g3))
    (mr : mg "range" = none) (mn : mg "min" = none) (mt : mg "tuple" = none) : FnOk P w K mg base CX0 3 f fd ["well"] spDrawn := by
  refine F.ok scDrawn (fun vs H Q E h => ?_) (fun cdv A outer s H vs Q E hr h => ?_)
  · obtain ⟨j, C, rfl, _⟩ := h
    rfl
  obtain ⟨j, C, rfl, hj, hC, q⟩ := h
  have hu := hr.units
  have G' := G.mono (show 1 ≤ 2 by decide)
  refine ⟨_, pss_cons (ps_set (i := 1) scDrawn.nd rfl (.inl rfl) (pe_lst pa_nil))
    (pss_cons (ps_set (i := 2) scDrawn.nd rfl (.inl rfl) (pe_lst pa_nil))
    (pss_cons (ps_set (i := 3) scDrawn.nd rfl (.inl rfl) (pe_call G' hr rfl mG kG bG .nil pass0 (pa_cons (pv 0) (pa_cons pe_int pa_nil))))
    (pss_cons (ps_set (i := 4) scDrawn.nd rfl (.inl rfl) (pe_ix ix_list (pe_lst (pa_cons (pe_op op_add pe_int (pe_call G' hr rfl mG kG bG .nil pass0 (pa_cons (pv 0) (pa_cons pe_int pa_nil)))) (pa_cons (pe_op op_add pe_int (pe_call G' hr rfl mG kG bG .nil pass0 (pa_cons (pv 0) (pa_cons pe_int pa_nil)))) (pa_cons (pe_op op_add pe_int (pe_call G' hr rfl mG kG bG .nil pass0 (pa_cons (pv 0) (pa_cons pe_int pa_nil)))) pa_nil))))
        (pe_callB (call_min2 rfl) rfl mn (by decide +kernel) (pa_cons (pv 3) (pa_cons pe_int pa_nil))) (fun _ _ => rfl)))
    (pss_cons (ps_for PassesOwn.never rfl (pi_range1 rfl mr (pa_cons (pv 4) pa_nil)) (pg_name (i := 5) scDrawn.nd rfl (Or.inl rfl))
      (pss_cons (ps_set (i := 6) scDrawn.nd rfl (.inl rfl) (pe_lst pa_nil))
      (pss_cons (ps_for PassesOwn.never rfl (pi_range1 rfl mr (pa_cons (pe_call G' hr rfl mG kG bG .nil pass0 (pa_cons (pv 0) (pa_cons pe_int pa_nil))) pa_nil)) (pg_name (i := 7) scDrawn.nd rfl (Or.inl rfl))
        (pss_cons (ps_setLc (i := 8) (own := [("one", 12)]) (g := gName 12) (tt := tYes) rfl scDrawn.nd rfl rfl (sw_true rfl rfl rfl (by decide +kernel)) (pi_range1 rfl mr (pa_cons (pe_call G' hr rfl mG kG bG .nil pass0 (pa_cons (pv 0) (pa_cons pe_int pa_nil))) pa_nil))
          (blkOk_by (N := ["well", "states", "deeds", "great", "few", "k", "items", "j", "ahead", "some", "way", "deed", "one"]) (sc := defScope lDrawn) (by decide +kernel)) (fun _ _ _ _ _ => pg_name (i := 12) scDrawn.nd rfl (Or.inl rfl)) (fun _ _ _ _ _ => pts_nil)
          (fun _ _ _ _ _ => pe_call M hr rfl mM kM bM .nil pass0 (pa_cons (pv 0) pa_nil)))
        (pss_one (ps_expr (pe_bm PySem.F.plainAttrs_list PySem.F.slot_list_append PySem.F.type_list_append mt_append (pv 6) (pa_cons (pe_tup (pa_cons (pe_call M hr rfl mM kM bM .nil pass0 (pa_cons (pv 0) pa_nil)) (pa_cons (pe_call N hr rfl mN kN bN .nil pass0 (pa_cons (pv 0) pa_nil)) (pa_cons (pe_callTy call_tuple_of rfl mt (by decide +kernel) (pa_cons (pv 8) pa_nil)) pa_nil)))) pa_nil))))))
      (pss_cons (ps_set (i := 9) scDrawn.nd rfl (.inl rfl) pe_dnewK)
      (pss_cons (ps_for PassesOwn.never rfl (pi_range1 rfl mr (pa_cons (pe_call G' hr rfl mG kG bG .nil pass0 (pa_cons (pv 0) (pa_cons pe_int pa_nil))) pa_nil)) (pg_name (i := 7) scDrawn.nd rfl (Or.inl rfl))
        (pss_cons (ps_set (i := 10) scDrawn.nd rfl (.inl rfl) (pe_call G' hr rfl mG kG bG .nil pass0 (pa_cons (pv 0) (pa_cons pe_int pa_nil))))
        (pss_cons (ps_set (i := 11) scDrawn.nd rfl (.inl rfl) (pe_lst (pa_cons (pe_tup (pa_cons pe_str (pa_cons (pe_call N hr rfl mN kN bN .nil pass0 (pa_cons (pv 0) pa_nil)) pa_nil)))
          (pa_cons (pe_tup (pa_cons pe_str (pa_cons (pe_call M hr rfl mM kM bM .nil pass0 (pa_cons (pv 0) pa_nil)) (pa_cons (pe_call N hr rfl mN kN bN .nil pass0 (pa_cons (pv 0) pa_nil)) (pa_cons (pe_call M hr rfl mM kM bM .nil pass0 (pa_cons (pv 0) pa_nil)) pa_nil)))))
          (pa_cons (pe_tup (pa_cons pe_str pa_nil)) pa_nil)))))
        (pss_one (ps_dput (Nat.lt_of_le_of_lt (Nat.add_le_add_left (by decide : 1 ≤ 64) _) hu) (pv 9) (pe_call M hr rfl mM kM bM .nil pass0 (pa_cons (pv 0) pa_nil)) (pe_ix ix_list (pv 11) (pv 10) (fun _ _ => rfl)) rfl)))))
      (pss_cons (ps_expr (pe_bm PySem.F.plainAttrs_list PySem.F.slot_list_append PySem.F.type_list_append mt_append (pv 1) (pa_cons (pe_callTy call_tuple_of rfl mt (by decide +kernel) (pa_cons (pv 6) pa_nil)) pa_nil)))
      (pss_one (ps_expr (pe_bm PySem.F.plainAttrs_list PySem.F.slot_list_append PySem.F.type_list_append mt_append (pv 2) (pa_cons (pv 9) pa_nil))))))))))
    (pss_one (ps_ret (pe_tup (pa_cons (pe_callTy call_tuple_of rfl mt (by decide +kernel) (pa_cons (pv 1) pa_nil)) (pa_cons (pe_callTy call_tuple_of rfl mt (by decide +kernel) (pa_cons (pv 2) pa_nil)) pa_nil))))))))), ?_⟩
  refine ⟨(by show 0 ≤ sizeLine; decide), fun a ha => ⟨(by show 0 ≤ sizeLine; decide), fun b hb => ?_⟩⟩
  have hab : a ≠ b := ne_of_none upd_same hb
  have hbH : H b = none := by rw [upd_ne (Ne.symm hab)] at hb; exact hb
  have aj := hj.ne ha
  have bj := hj.ne hbH
  have jA : Jar j (upd (upd H a (.lst [])) b (.lst [])) C := (hj.upd aj).upd bj
  have kA : Keep j H (upd (upd H a (.lst [])) b (.lst [])) := ((Keep.refl).upd ha).upd hbH
  have eA : (upd (upd H a (.lst [])) b (.lst [])) a = some (.lst []) := by rw [upd_ne hab]; exact upd_same
  have eB : (upd (upd H a (.lst [])) b (.lst [])) b = some (.lst []) := upd_same
  generalize upd (upd H a (.lst [])) b (.lst []) = HA at jA kA eA eB
  refine ⟨_, rfl, j, C, 16, rfl, jA, by omega, by decide, by decide, fun g0 H1 g00 g01 j1 k1 => ?_⟩
  refine ⟨_, rfl, j, _, 9, rfl, j1, by omega, by decide, by decide, fun r2 H2 r20 r21 j2 k2 => ⟨_, _, rfl, rfl, ?_⟩⟩
  refine ⟨_, rfl, j, _, 6, rfl, j2, by omega, by decide, by decide, fun r3 H3 r30 r31 j3 k3 => ⟨_, _, rfl, rfl, ?_⟩⟩
  refine ⟨_, rfl, j, _, 4, rfl, j3, by omega, by decide, by decide, fun r4 H4 r40 r41 j4 k4 => ⟨_, _, rfl, rfl, ?_⟩⟩
  refine ⟨(by show 3 ≤ sizeLine; decide), fun pl hpl => ?_⟩
  have t5 := same_new hpl (.lst [.int (96 + r2), .int (9 + r3), .int (1 + r4)])
  have hm : ∃ m : Int, m = (if (2 : Int) < g0 then (2 : Int) else g0) ∧ 0 ≤ m ∧ m < 3 := ⟨_, rfl, by split <;> omega, by split <;> omega⟩
  obtain ⟨m, em, m0, m3⟩ := hm
  obtain ⟨z, z1, z2⟩ := at_in (l := ([.int (96 + r2), .int (9 + r3), .int (1 + r4)] : List V)) m0 m3
  obtain ⟨n, rfl, n1, n105⟩ : ∃ n : Nat, z = .int (n : Int) ∧ 1 ≤ n ∧ n ≤ 105 := by
    have := List.mem_of_getElem? z2
    simp only [List.mem_cons, List.not_mem_nil, or_false] at this
    rcases this with rfl | rfl | rfl
    · exact ⟨(96 + r2).toNat, by rw [Int.toNat_of_nonneg (by omega)], by omega, by omega⟩
    · exact ⟨(9 + r3).toNat, by rw [Int.toNat_of_nonneg (by omega)], by omega, by omega⟩
    · exact ⟨(1 + r4).toNat, by rw [Int.toNat_of_nonneg (by omega)], by omega, by omega⟩
  refine ⟨_, rfl, _, _, rfl, pl, _, m, _, rfl, congrArg V.int em.symm, SqL.of upd_same, z1, ?_⟩
  have k5 : Keep j HA (upd H4 pl (.lst [.int (96 + r2), .int (9 + r3), .int (1 + r4)])) := k1.trans (k2.trans (k3.trans (k4.trans (Keep.of_same t5))))
  have j5 := j4.keep t5
  have a5 := k5 _ _ aj eA
  have b5 := k5 _ _ bj eB
  have kH5 := kA.trans k5
  generalize upd H4 pl (.lst [.int (96 + r2), .int (9 + r3), .int (1 + r4)]) = H5 at j5 a5 b5 kH5
  refine ⟨_, rfl, _, rfl, by omega, by omega, ?_⟩
  rw [Int.toNat_natCast]
  refine for_range (lo := 0) (n := n) (fun i σ H' => ∃ (xs ys : List V) (T : Table) (x5 x6 x7 x8 x9 x10 x11 x12 : Option V), σ = [some (.ref j), some (.ref a), some (.ref b), some (.int g0), some (.int (n : Int)), x5, x6, x7, x8, x9, x10, x11, x12] ∧
      H' a = some (.lst xs) ∧ H' b = some (.lst ys) ∧ Paired (RIs H') xs T ∧ Paired (RDs H') ys T ∧ T.length = i ∧ VT T ∧ (∀ st, st ∈ T → SmS st) ∧ Jar j H' (C + 4 + 400 * i) ∧ Keep j H H')
    ⟨[], [], [], _, _, _, _, _, _, _, _, rfl, a5, b5, .nil, .nil, rfl, (fun _ h => by cases h), (fun _ h => by cases h), j5, kH5⟩ (fun i σ H0 hi p => ?turn) (fun σ H' p => ?done)
  case done =>
    obtain ⟨xs, ys, T, x5, x6, x7, x8, x9, x10, x11, x12, rfl, ea, eb, px, py, lT, vt, sm, jr, kp⟩ := p
    refine ⟨_, rfl, a, _, rfl, .inl ⟨SqL.of ea, fun c1 hc1 => ?_⟩⟩
    have s1 := same_new hc1 (.tup xs)
    refine ⟨_, rfl, b, _, rfl, .inl ⟨SqL.of (s1 _ _ eb), fun c2 hc2 => ⟨by show 2 ≤ sizeLine; decide, fun c3 hc3 => ?_⟩⟩⟩
    have s2 := same_new hc2 (.tup ys)
    have s3 := same_new hc3 (.tup [.ref c1, .ref c2])
    have sA := s1.trans (s2.trans s3)
    refine q (.ref c3) T _ ⟨c3, c1, c2, xs, ys, rfl, upd_same, s3 _ _ (s2 _ _ upd_same), s3 _ _ upd_same, paired_imp (fun _ _ r => r.same sA) px, paired_imp (fun _ _ r => r.same sA) py⟩ vt sm (fun e => by rw [e] at lT; simp at lT; omega) (by omega) ((jr.keep sA).mono (by omega)) (kp.trans (Keep.of_same sA))
  case turn =>
    obtain ⟨xs, ys, T, x5, x6, x7, x8, x9, x10, x11, x12, rfl, ea, eb, px, py, lT, vt, sm, jr, kp⟩ := p
    refine ⟨(by show 0 ≤ sizeLine; decide), fun p hp => ?_⟩
    have pj := jr.ne hp
    have t1 := same_new hp (.lst [])
    refine ⟨_, rfl, j, _, 4, rfl, jr.keep t1, by omega, by decide, by decide, fun r1 H1' r10 r11 j1' k1' => ⟨_, rfl, by omega, by omega, ?_⟩⟩
    have ep1 := k1' _ _ pj (show (upd H0 p (.lst [])) p = some (.lst []) from upd_same)
    refine for_range (lo := 0) (n := r1.toNat) (fun i' σ H' => ∃ (vs : List V) (is : List Item) (y5 y7 y8 y12 : Option V), σ = [some (.ref j), some (.ref a), some (.ref b), some (.int g0), some (.int (n : Int)), y5, some (.ref p), y7, y8, x9, x10, x11, y12] ∧
        H' p = some (.lst vs) ∧ Paired (RI H') vs is ∧ is.length = i' ∧ (∀ i, i ∈ is → VI i ∧ i.2.2.length ≤ 3) ∧ Jar j H' (C + 4 + 400 * i + 1 + 61 * i') ∧ Keep j H0 H')
      ⟨[], [], _, _, _, _, rfl, ep1, .nil, rfl, (fun _ h => by cases h), j1'.mono (by omega), (Keep.of_same t1).trans k1'⟩ (fun i' σ H2' hi' p' => ?turn1) (fun σ H2' p' => ?done1)
    case turn1 =>
      obtain ⟨vs, is, y5, y7, y8, y12, rfl, ep, pv_, li, vi, jr2, kp2⟩ := p'
      refine ⟨_, rfl, j, _, 4, rfl, jr2, by omega, by decide, by decide, fun r3' H3' r30' r31' j3' k3' => ⟨_, rfl, by omega, by omega, fun D hD => ?_⟩⟩
      have Dj := j3'.ne hD
      refine lc_range (lo := 0) (n := r3'.toNat) (fun i'' H4' => ∃ as : List Str, H4' D = some (.lst (as.map V.str)) ∧ as.length = i'' ∧ (∀ x, x ∈ as → markP x = true) ∧ Jar j H4' (C + 4 + 400 * i + 1 + 61 * i' + 1 + 12 * i'') ∧ Keep j H3' H4')
        ⟨[], upd_same, rfl, (fun _ h => by cases h), j3'.upd Dj, (Keep.refl).upd hD⟩ (fun i'' H4' hi'' p'' => ?_) (fun H4' p'' => ?_)
      · obtain ⟨as, eD, la, ma, ja, kpa⟩ := p''
        refine ⟨rfl, ?_⟩
        simp only [tYes, ↓reduceIte]
        refine ⟨_, rfl, j, _, rfl, ja, by omega, fun x H6 mx j6 k6 => ?_⟩
        refine ⟨_, k6 _ _ Dj eD, by rw [List.length_map, sizeLine_eq]; omega, as ++ [x], ?_, ?_, ?_, ?_, ?_⟩
        · rw [upd_same, List.map_append]; rfl
        · rw [List.length_append, la]; rfl
        · exact fun y hy => (List.mem_append.mp hy).elim (ma y) (fun h => by rw [List.mem_singleton.mp h]; exact mx)
        · exact (j6.mono (by omega)).upd Dj
        · exact (kpa.trans k6).upd hD
      obtain ⟨as, eD, la, ma, ja, kpa⟩ := p''
      have k24 := k3'.trans kpa
      refine ⟨_, rfl, .inl ⟨rfl, _, SqL.of (k24 _ _ pj ep)⟩, ?_⟩
      refine ⟨_, rfl, j, _, rfl, ja, by omega, fun x H6 mx j6 k6 => ?_⟩
      refine ⟨_, rfl, j, _, rfl, j6, by omega, fun n7 H7 mn7 j7 k7 => ?_⟩
      have k27 := k24.trans (k6.trans k7)
      refine ⟨_, rfl, D, _, rfl, .inl ⟨SqL.of (k7 _ _ Dj (k6 _ _ Dj eD)), fun b8 hb8 => ⟨by show 3 ≤ sizeLine; decide, fun c9 hc9 => ?_⟩⟩⟩
      have s8 := same_new hb8 (.tup (as.map V.str))
      have s9 := same_new hc9 (.tup [.str x, .int (n7 : Nat), .ref b8])
      have k29 : Keep j H2' _ := k27.trans (Keep.of_same (s8.trans s9))
      have ep9 := k29 _ _ pj ep
      refine ⟨p, _, _, rfl, rfl, ep9, ?_, ?_⟩
      · have := Paired.length pv_
        rw [sizeLine_eq]; omega
      have kt9 := Kt.of_keep jr2 k29
      have ktp := Kt.lst (o := .lst (vs ++ [.ref c9])) ep9
      refine ⟨_, is ++ [(x, n7, as)], _, _, _, _, rfl, upd_same, paired_snoc (paired_imp (fun _ _ r => r.tk (kt9.trans ktp).1) pv_) (RI.tk ⟨c9, b8, rfl, upd_same, s9 _ _ upd_same⟩ ktp.1), by rw [List.length_append, li]; rfl, fun i hi => ?_, ?_, ?_⟩
      · rcases List.mem_append.mp hi with h | h
        · exact vi i h
        · rw [List.mem_singleton.mp h]
          exact ⟨⟨mx, mn7, ma⟩, by show as.length ≤ 3; omega⟩
      · exact (((j7.keep s8).keep s9).mono (by omega)).upd pj
      · exact (kp2.trans k29).upd hp
    case done1 =>
      obtain ⟨vs, is, y5, y7, y8, y12, rfl, ep, pv_, li, vi, jr2, kp2⟩ := p'
      refine fun d hd => ?_
      have dj := jr2.ne hd
      have t3 := same_new hd (.dK [])
      refine ⟨_, rfl, j, _, 4, rfl, jr2.keep t3, by omega, by decide, by decide, fun r5 H5' r50 r51 j5' k5' => ⟨_, rfl, by omega, by omega, ?_⟩⟩
      have ed5 := k5' _ _ dj (show (upd H2' d (.dK [])) d = some (.dK []) from upd_same)
      refine for_range (lo := 0) (n := r5.toNat) (fun i' σ H' => ∃ (kvs : List (Key × V)) (ds : List (Str × Deed)) (z5 z7 z10 z11 : Option V), σ = [some (.ref j), some (.ref a), some (.ref b), some (.int g0), some (.int (n : Int)), z5, some (.ref p), z7, y8, some (.ref d), z10, z11, y12] ∧
          H' d = some (.dK kvs) ∧ Paired (RK H') kvs ds ∧ ds.length ≤ i' ∧ (ds.map (·.1)).Nodup ∧ (∀ p, p ∈ ds → markP p.1 = true ∧ VD p.2) ∧ Jar j H' (C + 4 + 400 * i + 1 + 183 + 1 + 61 * i') ∧ Keep j H2' H')
        ⟨[], [], _, _, _, _, rfl, ed5, .nil, Nat.le_refl _, List.nodup_nil, (fun _ h => by cases h), j5'.mono (by omega), (Keep.of_same t3).trans k5'⟩ (fun i' σ H6 hi' p' => ?turn2) (fun σ H6 p' => ?done2)
      case turn2 =>
        obtain ⟨kvs, ds, z5, z7, z10, z11, rfl, ed, pk, ld, nd, vd, j6, k6⟩ := p'
        refine ⟨_, rfl, j, _, 3, rfl, j6, by omega, by decide, by decide, fun r7 H7 r70 r71 j7 k7 => ?_⟩
        refine ⟨_, rfl, j, _, rfl, j7, by omega, fun n8 H8 mn8 j8 k8 => ⟨by show 2 ≤ sizeLine; decide, fun c1 hc1 => ?_⟩⟩
        have s1 := same_new hc1 (.tup [.str "go", .int (n8 : Nat)])
        refine ⟨_, rfl, j, _, rfl, j8.keep s1, by omega, fun x9 H9 mx9 j9 k9 => ?_⟩
        refine ⟨_, rfl, j, _, rfl, j9, by omega, fun n10 H10 mn10 j10 k10 => ?_⟩
        refine ⟨_, rfl, j, _, rfl, j10, by omega, fun x11 H11 mx11 j11 k11 => ⟨by show 4 ≤ sizeLine; decide, fun c2 hc2 => ?_⟩⟩
        have s2 := same_new hc2 (.tup [.str "by", .str x9, .int (n10 : Nat), .str x11])
        refine ⟨by show 1 ≤ sizeLine; decide, fun c3 hc3 => ?_⟩
        have s3 := same_new hc3 (.tup [.str "done"])
        refine ⟨by show 3 ≤ sizeLine; decide, fun l hl => ?_⟩
        have s4 := same_new hl (.lst [.ref c1, .ref c2, .ref c3])
        have j12 := ((j11.keep s2).keep s3).keep s4
        have k12 : Keep j H6 _ := k7.trans (k8.trans ((Keep.of_same s1).trans (k9.trans (k10.trans (k11.trans (Keep.of_same (s2.trans (s3.trans s4))))))))
        have rd1 : RD _ (.ref c1) (.go n8) := RD.tk ⟨c1, rfl, show (upd H8 c1 (.tup [.str "go", .int (n8 : Nat)])) c1 = _ from upd_same⟩ (Kt.of_keep (j8.keep s1) (k9.trans (k10.trans (k11.trans (Keep.of_same (s2.trans (s3.trans s4))))))).1
        have rd2 : RD _ (.ref c2) (.by x9 n10 x11) := RD.tk ⟨c2, rfl, show (upd H11 c2 (.tup [.str "by", .str x9, .int (n10 : Nat), .str x11])) c2 = _ from upd_same⟩ (Kt.of_same (s3.trans s4)).1
        have rd3 : RD _ (.ref c3) .done := RD.tk ⟨c3, rfl, show (upd (upd H11 c2 (.tup [.str "by", .str x9, .int (n10 : Nat), .str x11])) c3 (.tup [.str "done"])) c3 = _ from upd_same⟩ (Kt.of_same s4).1
        have el : (upd (upd (upd H11 c2 (.tup [.str "by", .str x9, .int (n10 : Nat), .str x11])) c3 (.tup [.str "done"])) l (.lst [.ref c1, .ref c2, .ref c3])) l = some (.lst [.ref c1, .ref c2, .ref c3]) := upd_same
        generalize (upd (upd (upd H11 c2 (.tup [.str "by", .str x9, .int (n10 : Nat), .str x11])) c3 (.tup [.str "done"])) l (.lst [.ref c1, .ref c2, .ref c3])) = H12 at j12 k12 rd1 rd2 rd3 el
        obtain ⟨y, y1, y2⟩ := at_in (l := ([.ref c1, .ref c2, .ref c3] : List V)) r70 r71
        obtain ⟨dd, rdd, vdd⟩ : ∃ dd, RD H12 y dd ∧ VD dd := by
          have := List.mem_of_getElem? y2
          simp only [List.mem_cons, List.not_mem_nil, or_false] at this
          rcases this with rfl | rfl | rfl
          · exact ⟨_, rd1, mn8⟩
          · exact ⟨_, rd2, mx9, mn10, mx11⟩
          · exact ⟨_, rd3, trivial⟩
        refine ⟨_, rfl, _, rfl, l, _, _, _, rfl, rfl, SqL.of el, y1, ?_⟩
        refine ⟨_, rfl, _, rfl, j, _, rfl, j12, by omega, fun k H13 mk j13 k13 => ?_⟩
        have ed13 := k13 _ _ dj (k12 _ _ dj ed)
        have lk := Paired.length pk
        refine ⟨d, _, rfl, DPut.k (k := Sum.inr k) ed13 (by rw [sizeLine_eq]; omega), ?_⟩
        have tk6 := (Kt.of_keep j6 (k12.trans k13)).1
        have tkd := Tk.dct (o := .dK (putK kvs (Sum.inr k : Key) y)) ed13
        obtain ⟨ds', pk', ld', nd', mem'⟩ := put_rk (k := k) (paired_imp (fun _ _ r => r.tk tk6) pk) nd (rdd.tk (Kt.of_keep j12 k13).1)
        refine ⟨_, ds', _, _, _, _, rfl, upd_same, paired_imp (fun _ _ r => r.tk tkd) pk', by omega, nd', fun p hp => ?_, (j13.mono (by omega)).upd dj, ((k6.trans k12).trans k13).upd hd⟩
        rcases mem' p hp with h | h
        · exact vd p h
        · rw [h]; exact ⟨mk, vdd⟩
      case done2 =>
        obtain ⟨kvs, ds, z5, z7, z10, z11, rfl, ed, pk, ld, nd, vd, j6, k6⟩ := p'
        have k06 := kp2.trans k6
        have ea6 := k06 _ _ aj ea
        have eb6 := k06 _ _ bj eb
        have ep6 := k6 _ _ pj ep
        have lx := Paired.length px
        have ly := Paired.length py
        refine ⟨_, rfl, .inl ⟨rfl, _, SqL.of ea6⟩, _, rfl, p, _, rfl, .inl ⟨SqL.of ep6, fun t ht => ?_⟩⟩
        have s7 := same_new ht (.tup vs)
        refine ⟨a, _, _, rfl, rfl, s7 _ _ ea6, by rw [sizeLine_eq]; omega, ?_⟩
        have eb8 : (upd (upd H6 t (.tup vs)) a (.lst (xs ++ [.ref t]))) b = some (.lst ys) := by rw [upd_ne (Ne.symm hab)]; exact s7 _ _ eb6
        refine ⟨_, rfl, .inl ⟨rfl, _, SqL.of eb8⟩, _, rfl, b, _, _, rfl, rfl, eb8, by rw [sizeLine_eq]; omega, ?_⟩
        have ktE : Kt H6 (upd (upd (upd H6 t (.tup vs)) a (.lst (xs ++ [.ref t]))) b (.lst (ys ++ [.ref d]))) := (Kt.of_same s7).trans ((Kt.lst (s7 _ _ ea6)).trans (Kt.lst eb8))
        have kt0 := (Kt.of_keep jr k06).trans ktE
        have tj := j6.ne ht
        refine ⟨_, _, T ++ [(is, ds)], _, _, _, _, _, _, _, _, rfl, by rw [upd_ne hab]; exact upd_same, upd_same, paired_snoc (paired_imp (fun _ _ r => r.kt kt0) px) ?_, paired_snoc (paired_imp (fun _ _ r => r.kt kt0) py) ?_, by rw [List.length_append, lT]; rfl, fun st hst => ?_, fun st hst => ?_, ?_, ?_⟩
        · refine ⟨t, vs, rfl, ?_, paired_imp (fun _ _ r => (r.tk (Kt.of_keep jr2 k6).1).tk ktE.1) pv_⟩
          exact ((Kt.lst (s7 _ _ ea6)).trans (Kt.lst eb8)).1 _ _ upd_same
        · exact ⟨d, kvs, rfl, ktE.2 _ _ ed, paired_imp (fun _ _ r => r.tk ktE.1) pk⟩
        · rcases List.mem_append.mp hst with h | h
          · exact vt st h
          · rw [List.mem_singleton.mp h]
            exact ⟨fun i hi => (vi i hi).1, vd, nd⟩
        · rcases List.mem_append.mp hst with h | h
          · exact sm st h
          · rw [List.mem_singleton.mp h]
            exact ⟨by show is.length ≤ 3; omega, by show ds.length ≤ 3; omega, fun i hi => (vi i hi).2⟩
        · exact (((j6.mono (by omega)).upd tj).upd aj).upd bj
        · have kk : Keep j H H6 := kp.trans k06
          exact ((kk.upd (new_back kk tj ht)).upd ha).upd hbH
end
end Ka
set_option maxHeartbeats 2000000
namespace Ka
open PySem PySem.Spec PyProof.Rows L2 Ty
theorem scWritten : FnScope ["table", "rows", "k", "label", "dot", "ahead", "symbol", "part"] ["table"] (defScope lWritten) := ⟨rfl, rfl, rfl, by decide +kernel, rfl, by decide +kernel, by decide +kernel⟩
theorem row_state' (k : Nat) : "state " ++ nS k = row (stateW k) := by
  rw [← row_state, str_nil]
theorem kV_keys {H : Hp} {kvs : List (Key × V)} {ds : List (Str × Deed)} (r : Paired (RK H) kvs ds) : (kvs.map fun kv => kV kv.1) = (ds.map (·.1)).map V.str := by
  have e := rk_keys r
  have : (kvs.map fun kv => kV kv.1) = (kvs.map (·.1)).map kV := by rw [List.map_map]; rfl
  rw [this, e, List.map_map]
  rfl
section
variable {P : Program} {w : World} {K : PySem.W.Frag} {mg : Str → Option Value} {base : Heap} {f g : Addr} {fd gd : FuncData}
theorem ok_written (F : Fun K "_law_written" "_law_written" lWritten f fd)
    (ml : mg "len" = none) (mr : mg "range" = none) (ms : mg "str" = none) (mll : mg "list" = none) (mso : mg "sorted" = none) : FnOk P w K mg base CX0 1 f fd ["table"] spText := by
  refine F.ok scWritten (fun vs H Q E h => ?_) (fun cdv A outer s H vs Q E hr h => ?_)
  · obtain ⟨v, T, rfl, _⟩ := h
    rfl
  obtain ⟨v, T, rfl, rt, vt, sz, lt, q⟩ := h
  have hu := hr.units
  refine ⟨_, pss_cons (ps_set (i := 1) scWritten.nd rfl (.inl rfl) (pe_lst pa_nil))
    (pss_cons (ps_for PassesOwn.never rfl (pi_range1 rfl mr (pa_cons (pe_callB call_len_seq rfl ml PySem.boot_len (pa_cons (pe_ix ix_tup (pv 0) pe_int (fun _ _ => rfl)) pa_nil)) pa_nil)) (pg_name (i := 2) scWritten.nd rfl (Or.inl rfl))
      (pss_cons (ps_expr (pe_bm PySem.F.plainAttrs_list PySem.F.slot_list_append PySem.F.type_list_append mt_append (pv 1) (pa_cons (pe_op op_add_str pe_str (pe_callTy call_str_int rfl ms (by decide +kernel) (pa_cons (pv 2) pa_nil))) pa_nil)))
      (pss_cons (ps_for PassesOwn.never rfl (pi_tup (pe_ix ix_tup (pe_ix ix_tup (pv 0) pe_int (fun _ _ => rfl)) (pv 2) (fun _ _ => rfl))) (pg_tup rfl (pgs_cons (pg_name (i := 3) scWritten.nd rfl (Or.inl rfl)) (pgs_cons (pg_name (i := 4) scWritten.nd rfl (Or.inl rfl)) (pgs_cons (pg_name (i := 5) scWritten.nd rfl (Or.inl rfl)) pgs_nil))))
        (pss_one (ps_expr (pe_bm PySem.F.plainAttrs_list PySem.F.slot_list_append PySem.F.type_list_append mt_append (pv 1) (pa_cons (pe_join pe_str (pe_op op_cat (pe_lst (pa_cons pe_str (pa_cons (pv 3) (pa_cons (pe_callTy call_str_int rfl ms (by decide +kernel) (pa_cons (pv 4) pa_nil)) pa_nil)))) (pe_callTy call_list_of rfl mll (by decide +kernel) (pa_cons (pv 5) pa_nil)))) pa_nil)))))
      (pss_one (ps_for PassesOwn.never rfl (pi_list (pe_callB cr_sortedS rfl mso (by decide +kernel) (pa_cons (pe_callTy (call_list_dK rfl) rfl mll (by decide +kernel) (pa_cons (pe_ix ix_tup (pe_ix ix_tup (pv 0) pe_int (fun _ _ => rfl)) (pv 2) (fun _ _ => rfl)) pa_nil)) pa_nil))) (pg_name (i := 6) scWritten.nd rfl (Or.inl rfl))
        (pss_one (ps_expr (pe_bm PySem.F.plainAttrs_list PySem.F.slot_list_append PySem.F.type_list_append mt_append (pv 1) (pa_cons (pe_join pe_str (pe_op op_cat (pe_lst (pa_cons pe_str (pa_cons (pv 6) pa_nil)))
          (pe_lc (own := [("part", 7)]) (g := gName 7) (tt := tYes) rfl scWritten.nd (pi_tup (pe_dget (Nat.lt_of_le_of_lt (Nat.add_le_add_left (by decide : 1 ≤ 64) _) hu) (pe_ix ix_tup (pe_ix ix_tup (pv 0) pe_int (fun _ _ => rfl)) (pv 2) (fun _ _ => rfl)) (pv 6) (fun _ _ => rfl))) (blkOk_by (N := ["table", "rows", "k", "label", "dot", "ahead", "symbol", "part"]) (sc := defScope lWritten) (by decide +kernel)) (fun _ _ _ _ _ => pg_name (i := 7) scWritten.nd rfl (Or.inl rfl)) (fun _ _ _ _ _ => pts_nil)
            (fun _ _ _ _ _ => pe_callTy (show CallR _ (.type "str") rStrU from call_strU) rfl ms (by decide +kernel) (pa_cons (pv 7) pa_nil))))) pa_nil)))))))))
    (pss_one (ps_ret (pe_join pe_str (pv 1))))), ?_⟩
  obtain ⟨a, b, c, xs, ys, rfl, ha, hb, hc, px, py⟩ := rt
  have lx : xs.length = T.length := Paired.length px
  have ly : ys.length = T.length := Paired.length py
  refine ⟨(by show 0 ≤ sizeLine; decide), fun pr hpr => ?_⟩
  have s0 := same_new hpr (.lst [])
  refine ⟨_, rfl, a, _, _, _, rfl, rfl, SqT.of (s0 _ _ ha), at0, b, _, rfl, .inr (SqT.of (s0 _ _ hb)), _, rfl, by omega, by omega, ?_⟩
  rw [Int.toNat_natCast]
  refine for_range (lo := 0) (n := xs.length) (fun i σ H' => ∃ x2 x3 x4 x5 x6 x7, σ = [some (.ref a), some (.ref pr), x2, x3, x4, x5, x6, x7] ∧ Same H H' ∧ H' pr = some (.lst ((rowsFrom 0 ((sortT T).take i)).map V.str)))
    ⟨_, _, _, _, _, _, rfl, s0, upd_same⟩ (fun i σ H1 hi p => ?turn) (fun σ H' p => ?done)
  case done =>
    obtain ⟨x2, x3, x4, x5, x6, x7, rfl, s', e⟩ := p
    have eT : (sortT T).take xs.length = sortT T := List.take_of_length_le (by unfold sortT; rw [List.length_map, lx]; exact Nat.le_refl _)
    rw [eT] at e
    refine ⟨⟨_, rfl⟩, _, rfl, "\n", pr, rowsFrom 0 (sortT T), rfl, rfl, .inl (SqL.of e), ?_, q H' s'⟩
    have hn : ("\n" : Str).length = 1 := by decide +kernel
    have e2 : ((rowsFrom 0 (sortT T)).map (·.length)).sum = sumL (rowsFrom 0 (sortT T)) := rfl
    rw [e2, hn]
    have := sz
    unfold Sz at this
    omega
  case turn =>
    obtain ⟨x2, x3, x4, x5, x6, x7, rfl, s1, e1⟩ := p
    have ezi : (0 + (i : Int)) = (i : Int) := Int.zero_add _
    rw [ezi]
    have ex : xs[i]? = some xs[i] := List.getElem?_eq_getElem hi
    have ey : ys[i]? = some (ys[i]'(by omega)) := List.getElem?_eq_getElem (by omega)
    generalize xs[i] = vx at ex
    generalize ys[i]'(by omega) = vy at ey
    obtain ⟨st, est, pi_, vs, rfl, ei, ri⟩ := paired_get px i vx ex
    obtain ⟨st2, est2, qi, kvs, rfl, ed, rk⟩ := paired_get py i vy ey
    rw [est] at est2
    injection est2 with est2
    subst est2
    have vst := vt st (List.mem_of_getElem? est)
    -- the rows of this state
    have eT : (sortT T)[i]? = some (st.1, sortD st.2) := by unfold sortT; rw [List.getElem?_map, est]; rfl
    have eS : rowsFrom 0 ((sortT T).take (i + 1)) = rowsFrom 0 ((sortT T).take i) ++ stateRows i (st.1, sortD st.2) := by
      rw [List.take_add_one, eT, Option.toList_some, rows_app, rows_one, Nat.zero_add, List.length_take, Nat.min_eq_left]
      unfold sortT
      rw [List.length_map]
      omega
    have eP : ∃ rest, rowsFrom 0 (sortT T) = rowsFrom 0 ((sortT T).take i) ++ (stateRows i (st.1, sortD st.2) ++ rest) := by
      refine ⟨rowsFrom (0 + ((sortT T).take (i + 1)).length) ((sortT T).drop (i + 1)), ?_⟩
      rw [← List.append_assoc, ← eS, ← rows_app, List.take_append_drop]
    obtain ⟨rest, eP⟩ := eP
    have szl : (rowsFrom 0 ((sortT T).take i)).length + (stateRows i (st.1, sortD st.2)).length ≤ 100000 := by
      have := sz
      unfold Sz at this
      rw [eP, List.length_append, List.length_append] at this
      omega
    have szr : ∀ r, r ∈ stateRows i (st.1, sortD st.2) → r.length ≤ 100000 := fun r hr => by
      have := sz
      unfold Sz at this
      have h2 := sumL_mem (l := rowsFrom 0 (sortT T)) (x := r) (by rw [eP]; simp [hr])
      omega
    have lS : (stateRows i (st.1, sortD st.2)).length = 1 + st.1.length + (sortD st.2).length := by
      unfold stateRows
      simp only [List.length_append, List.length_cons, List.length_map]
      omega
    have hlog := log_small (n := i) (by omega)
    have l1 : ("state " : Str).length = 6 := by decide +kernel
    have l2 := nS_len (n := i) (by omega)
    refine ⟨_, rfl, .inl ⟨rfl, _, SqL.of e1⟩, _, rfl, _, rfl, hlog, _, _, rfl, rfl, by rw [l1, sizeLine_eq]; show 6 + (nS i).length ≤ _; omega, pr, _, _, rfl, rfl, e1, by rw [List.length_map, sizeLine_eq]; omega, ?_⟩
    rw [show ("state " ++ PySem.Str.ofString (toString (i : Int)) : Str) = row (stateW i) from row_state' i]
    -- what is kept: all that stood at the beginning
    have up : ∀ {Hx : Hp} (l : List V), Same H Hx → Same H (upd Hx pr (.lst l)) := fun {Hx} l sx x o ho => by
      rw [upd_ne (ne_of_none ho hpr)]
      exact sx x o ho
    let B1 := rowsFrom 0 ((sortT T).take i) ++ [row (stateW i)]
    have eB1 : ((rowsFrom 0 ((sortT T).take i)).map V.str) ++ [V.str (row (stateW i))] = B1.map V.str := by
      show _ = (rowsFrom 0 ((sortT T).take i) ++ [row (stateW i)]).map V.str
      rw [List.map_append]; rfl
    rw [eB1]
    have eis : Same H (upd H1 pr (.lst (B1.map V.str))) := up _ s1
    refine ⟨_, rfl, a, _, _, _, rfl, rfl, SqT.of (eis _ _ ha), at0, _, rfl, b, _, _, _, rfl, rfl, SqT.of (eis _ _ hb), atI_nat ex, pi_, rfl, ⟨vs, SqT.of (eis _ _ ei)⟩, ?_⟩
    refine for_it (walk_tup (xs := vs)) (fun j σ H' => ∃ x3 x4 x5 x6 x7, σ = [some (.ref a), some (.ref pr), some (.int (i : Nat)), x3, x4, x5, x6, x7] ∧ Same H H' ∧ H' pr = some (.lst ((B1 ++ (st.1.take j).map fun z => row (itemW z)).map V.str)))
      ⟨_, _, _, _, _, rfl, eis, (by rw [List.take_zero, List.map_nil, List.append_nil]; exact upd_same)⟩ (fun j σ H' _ p => ?stands1) (fun j u σ H2 H3 hj p z => ?turn1) (fun σ H' p => ?done1)
    case stands1 =>
      obtain ⟨_, _, _, _, _, _, s', _⟩ := p
      exact SqT.of (s' _ _ ei)
    case turn1 =>
      obtain ⟨x3, x4, x5, x6, x7, rfl, s', e⟩ := p
      obtain ⟨rfl, hz⟩ := z
      obtain ⟨it, eit, ai, bb, rfl, h1, h2⟩ := paired_get ri j u hz
      have hin : row (itemW it) ∈ stateRows i (st.1, sortD st.2) := by
        unfold stateRows
        have : row (itemW it) ∈ st.1.map fun z => row (itemW z) := List.mem_map.mpr ⟨it, List.mem_of_getElem? eit, rfl⟩
        simp [this]
      have lr := szr _ hin
      have lrow := len_row (ws := itemW it) (by simp [itemW])
      have vit := vst.items it (List.mem_of_getElem? eit)
      have hd := vit.2.1
      have eW : ([V.str "item", V.str it.1, V.str (nS it.2.1)] ++ it.2.2.map V.str) = (itemW it).map V.str := rfl
      have lW : (itemW it).length = 3 + it.2.2.length := by unfold itemW; simp only [List.length_cons]; omega
      refine ⟨ai, _, rfl, SqT.of (s' _ _ h1), rfl, _, _, rfl, _, _, rfl, _, _, rfl, rfl, ?_⟩
      refine ⟨_, rfl, .inl ⟨rfl, _, SqL.of e⟩, ⟨_, rfl⟩, _, rfl, _, rfl, _, rfl, log_small (by omega), (by show 3 ≤ sizeLine; decide), fun q1 hq1 => ⟨_, rfl, bb, _, rfl, .inr (SqT.of (same_new hq1 _ _ _ (s' _ _ h2))), fun q2 hq2 => ?_⟩⟩
      have u1 := same_new hq1 (.lst [V.str "item", V.str it.1, V.str (nS it.2.1)])
      have u2 := same_new hq2 (.lst (it.2.2.map V.str))
      refine ⟨q1, q2, _, _, rfl, rfl, u2 _ _ upd_same, upd_same, (by rw [List.length_map, sizeLine_eq]; show 3 + it.2.2.length ≤ _; omega), fun q3 hq3 => ?_⟩
      have u3 := same_new hq3 (.lst ([V.str "item", V.str it.1, V.str (nS it.2.1)] ++ it.2.2.map V.str))
      have u := (u1.trans u2).trans u3
      have e3 := u _ _ e
      have hn : (" " : Str).length = 1 := by decide +kernel
      have esum : ((itemW it).map (·.length)).sum = sumL (itemW it) := rfl
      refine ⟨" ", q3, itemW it, rfl, rfl, .inl (SqL.of (upd_same.trans (congrArg (fun z => some (HO.lst z)) eW))), (by rw [esum, hn]; omega), ?_⟩
      have lj : ((B1 ++ (st.1.take j).map fun z => row (itemW z)).map V.str).length < sizeLine := by
        show ((rowsFrom 0 ((sortT T).take i) ++ [row (stateW i)] ++ (st.1.take j).map fun z => row (itemW z)).map V.str).length < _
        rw [List.length_map, List.length_append, List.length_append, List.length_map, List.length_take, List.length_singleton, sizeLine_eq]
        omega
      refine ⟨pr, _, _, rfl, rfl, e3, lj, ?_⟩
      refine ⟨_, _, _, _, _, rfl, up _ (s'.trans u), ?_⟩
      rw [upd_same, List.take_add_one, eit, Option.toList_some]
      simp only [List.map_append, List.append_assoc]
      rfl
    case done1 =>
      obtain ⟨x3, x4, x5, x6, x7, rfl, s', e⟩ := p
      have lvs : vs.length = st.1.length := Paired.length ri
      rw [lvs, List.take_length] at e
      have ekey := rk_keys rk
      refine ⟨_, rfl, a, _, _, _, rfl, rfl, SqT.of (s' _ _ ha), at1, _, rfl, c, _, _, _, rfl, rfl, SqT.of (s' _ _ hc), atI_nat ey, qi, kvs, rfl, s' _ _ ed, fun p4 hp4 => ?_⟩
      rw [kV_keys rk]
      have s45 := same_new hp4 (.lst ((st.2.map (·.1)).map V.str))
      refine ⟨p4, st.2.map (·.1), rfl, SqL.of upd_same, fun zs p5 hperm hpw hp5' => ?_⟩
      have ezs : zs = (sortD st.2).map (·.1) := keys_sorted vst.nodup hperm hpw
      subst ezs
      have hp5 : H' p5 = none := by
        cases e0 : H' p5 with
        | none => rfl
        | some o => rw [s45 _ _ e0] at hp5'; cases hp5'
      have s5 := s45.trans (same_new hp5' (.lst (((sortD st.2).map (·.1)).map V.str)))
      have e5 := s5 _ _ e
      have hp5' : (upd (upd H' p4 (.lst ((st.2.map (·.1)).map V.str))) p5 (.lst (((sortD st.2).map (·.1)).map V.str))) p5 = some (.lst (((sortD st.2).map (·.1)).map V.str)) := upd_same
      have npr : p5 ≠ pr := fun z => by rw [z, e] at hp5; cases hp5
      generalize upd (upd H' p4 (.lst ((st.2.map (·.1)).map V.str))) p5 (.lst (((sortD st.2).map (·.1)).map V.str)) = H4 at s5 e5 hp5'
      have s4 := s'.trans s5
      let B2 := B1 ++ st.1.map fun z => row (itemW z)
      refine ⟨p5, rfl, ⟨_, SqL.of hp5'⟩, ?_⟩
      refine for_it (walk_list (xs := ((sortD st.2).map (·.1)).map V.str)) (fun j σ H5 => ∃ x3 x4 x5 x6 x7, σ = [some (.ref a), some (.ref pr), some (.int (i : Nat)), x3, x4, x5, x6, x7] ∧ Same H H5 ∧ H5 p5 = some (.lst (((sortD st.2).map (·.1)).map V.str)) ∧ H5 pr = some (.lst ((B2 ++ ((sortD st.2).take j).map fun z => row (onW z)).map V.str)))
        ⟨_, _, _, _, _, rfl, s4, hp5', (by rw [List.take_zero, List.map_nil, List.append_nil]; exact e5)⟩ (fun j σ H5 _ p => ?stands2) (fun j u σ H5 H6 hj p z => ?turn2) (fun σ H5 p => ?done2)
      case stands2 =>
        obtain ⟨_, _, _, _, _, _, _, e6, _⟩ := p
        exact SqL.of e6
      case done2 =>
        obtain ⟨x3, x4, x5, x6, x7, rfl, s6, _, e6⟩ := p
        rw [List.length_map, List.length_map, List.take_length] at e6
        refine ⟨_, _, _, _, _, _, rfl, s6, ?_⟩
        rw [e6, eS]
        show some (HO.lst ((rowsFrom 0 ((sortT T).take i) ++ [row (stateW i)] ++ (st.1.map fun z => row (itemW z)) ++ (sortD st.2).map fun z => row (onW z)).map V.str)) = _
        unfold stateRows
        simp only [List.append_assoc, List.cons_append, List.nil_append]
      case turn2 =>
        obtain ⟨x3, x4, x5, x6, x7, rfl, s6, e6, e7⟩ := p
        obtain ⟨rfl, hz⟩ := z
        rw [List.getElem?_map, List.getElem?_map] at hz
        cases ez : (sortD st.2)[j]? with
        | none => rw [ez] at hz; cases hz
        | some p =>
          rw [ez] at hz
          injection hz with hz
          subst hz
          have hpm : p ∈ st.2 := (sortD_perm st.2).mem_iff.mp (List.mem_of_getElem? ez)
          obtain ⟨v, ev, rv⟩ := rk_get rk vst.nodup p hpm
          have vp := vst.deeds p hpm
          have hin : row (onW p) ∈ stateRows i (st.1, sortD st.2) := by
            unfold stateRows
            have : row (onW p) ∈ (sortD st.2).map fun z => row (onW z) := List.mem_map.mpr ⟨p, List.mem_of_getElem? ez, rfl⟩
            simp [this]
          have lr := szr _ hin
          have lk := mark_ne vp.1
          have hg : DGet H6 qi (kV (Sum.inr p.1)) (some v) := by
            rw [← ev]
            exact DGet.k (s6 _ _ ed)
          obtain ⟨aa, rfl, haa⟩ := rv
          have sv := deed_sv vp.2
          obtain ⟨dl, dsz⟩ := deed_len vp.2
          refine ⟨_, rfl, .inl ⟨rfl, _, SqL.of e7⟩, ⟨_, rfl⟩, _, rfl, (by show 2 ≤ sizeLine; decide), fun q1 hq1 => ?_⟩
          have u1 := same_new hq1 (.lst [V.str "on", V.str p.1])
          have s61 := s6.trans u1
          have hg1 : DGet (upd H6 q1 (.lst [V.str "on", V.str p.1])) qi (kV (Sum.inr p.1)) (some (.ref aa)) := by
            rw [← ev]
            exact DGet.k (s61 _ _ ed)
          refine ⟨_, rfl, a, _, _, _, rfl, rfl, SqT.of (s61 _ _ ha), at1, _, rfl, c, _, _, _, rfl, rfl, SqT.of (s61 _ _ hc), atI_nat ey, _, rfl, qi, _, rfl, hg1, aa, rfl, ⟨_, SqT.of (s61 _ _ haa)⟩, fun D hD => ?_⟩
          have lwv : (deedW p.2).length = (deedV p.2).length := (Paired.length sv).symm
          refine lc_tup (xs := deedV p.2) (fun i H' => Acc (upd H6 q1 (.lst [V.str "on", V.str p.1])) D (((deedW p.2).take i).map V.str) H') (.nil hD) (fun i H' _ A => SqT.of (A.1 _ _ (s61 _ _ haa))) (fun i y H' hy A => ?_) (fun H7 A => ?_)
          · obtain ⟨x, ex, hx⟩ := paired_get sv i y hy
            refine ⟨rfl, ?_⟩
            simp only [tYes, ↓reduceIte]
            have fin : ∃ acc, H' D = some (.lst acc) ∧ acc.length < sizeLine ∧ Acc (upd H6 q1 (.lst [V.str "on", V.str p.1])) D (((deedW p.2).take (i + 1)).map V.str) (upd H' D (.lst (acc ++ [.str x]))) := by
              refine ⟨_, A.2, ?_, ?_⟩
              · rw [List.length_map, List.length_take, sizeLine_eq]; omega
              · rw [List.take_add_one, ex, Option.toList_some, List.map_append]
                exact A.push hD (.str x)
            rcases hx with rfl | ⟨n, hn, rfl, rfl⟩
            · exact ⟨_, rfl, .inr ⟨_, rfl, fin⟩⟩
            · exact ⟨_, rfl, .inl ⟨_, rfl, log_small hn, fin⟩⟩
          rw [← lwv, List.take_length] at A
          have eW : ([V.str "on", V.str p.1] ++ (deedW p.2).map V.str) = (onW p).map V.str := rfl
          refine ⟨q1, D, _, _, rfl, rfl, A.1 _ _ upd_same, A.2, (by rw [List.length_map, sizeLine_eq]; show 2 + (deedW p.2).length ≤ _; omega), fun q3 hq3 => ?_⟩
          have u3 := same_new hq3 (.lst ([V.str "on", V.str p.1] ++ (deedW p.2).map V.str))
          have u : Same H6 _ := (u1.trans A.1).trans u3
          have e8 := u _ _ e7
          have hn : (" " : Str).length = 1 := by decide +kernel
          have lrow := len_row (ws := onW p) (by simp [onW])
          have esum : ((onW p).map (·.length)).sum = sumL (onW p) := rfl
          have lW : (onW p).length = 2 + (deedW p.2).length := by unfold onW; simp only [List.length_cons]; omega
          refine ⟨" ", q3, onW p, rfl, rfl, .inl (SqL.of (upd_same.trans (congrArg (fun z => some (HO.lst z)) eW))), (by rw [esum, hn]; omega), ?_⟩
          have lj : ((B2 ++ ((sortD st.2).take j).map fun z => row (onW z)).map V.str).length < sizeLine := by
            show ((rowsFrom 0 ((sortT T).take i) ++ [row (stateW i)] ++ (st.1.map fun z => row (itemW z)) ++ ((sortD st.2).take j).map fun z => row (onW z)).map V.str).length < _
            rw [List.length_map, List.length_append, List.length_append, List.length_append, List.length_map, List.length_map, List.length_take, List.length_singleton, sizeLine_eq]
            omega
          refine ⟨pr, _, _, rfl, rfl, e8, lj, ?_⟩
          refine ⟨_, _, _, _, _, rfl, up _ (s6.trans u), ?_, ?_⟩
          · rw [upd_ne npr]; exact u _ _ e6
          · rw [upd_same, List.take_add_one, ez, Option.toList_some]
            simp only [List.map_append, List.append_assoc]
            rfl
end
end Ka
set_option maxHeartbeats 2000000
namespace Ka
open PySem PySem.Spec PyProof.Rows L2 Ty
/-! ### a text spoilt -/
theorem len_list (x : Str) : x.cps.toList.length = x.length := Array.length_toList
theorem cutS_to {x : Str} {n : Nat} : (cutS x none (some (n : Int))).cps.toList = x.cps.toList.take n := by
  unfold cutS
  rw [HT.sIx_nat]
  show (x.cps.toList.drop 0).take (min n x.length - 0) = _
  rw [List.drop_zero, Nat.sub_zero]
  have := len_list x
  by_cases h : n ≤ x.length
  · rw [Nat.min_eq_left h]
  · rw [Nat.min_eq_right (by omega), List.take_of_length_le (by omega), List.take_of_length_le (by omega)]
theorem cutS_from {x : Str} {n : Nat} : (cutS x (some (n : Int)) none).cps.toList = x.cps.toList.drop n := by
  unfold cutS
  rw [HT.sIx_nat]
  show (x.cps.toList.drop (min n x.length)).take (x.length - min n x.length) = _
  have := len_list x
  rw [List.take_of_length_le (by rw [List.length_drop]; omega)]
  by_cases h : n ≤ x.length
  · rw [Nat.min_eq_left h]
  · rw [Nat.min_eq_right (by omega), List.drop_eq_nil_of_le (by omega), List.drop_eq_nil_of_le (by omega)]
theorem cutS_to_len {x : Str} {n : Nat} (h : n ≤ x.length) : (cutS x none (some (n : Int))).length = n := by
  rw [← len_list, cutS_to, List.length_take, len_list]; omega
theorem cutS_from_len {x : Str} {n : Nat} : (cutS x (some (n : Int)) none).length = x.length - n := by
  rw [← len_list, cutS_from, List.length_drop, len_list]
def Lw (x : Str) : Prop := ∀ c, c ∈ x.cps.toList → c < 128
theorem Lw.app {x y : Str} (a : Lw x) (b : Lw y) : Lw (x ++ y) := fun c hc => by
  rw [Str.cps_append, Array.toList_append] at hc
  exact (List.mem_append.mp hc).elim (a c) (b c)
theorem lw_to {x : Str} (a : Lw x) {n : Nat} : Lw (cutS x none (some (n : Int))) := fun c hc => by
  rw [cutS_to] at hc
  exact a c (List.mem_of_mem_take hc)
theorem lw_from {x : Str} (a : Lw x) {n : Nat} : Lw (cutS x (some (n : Int)) none) := fun c hc => by
  rw [cutS_from] at hc
  exact a c (List.mem_of_mem_drop hc)
theorem sumL_pick {R : List Str} {o : Nat} (h : o < R.length) : sumL (R.take o ++ R.drop (o + 1)) + R[o].length = sumL R := by
  have e : R = R.take o ++ (R[o] :: R.drop (o + 1)) := by
    rw [← List.drop_eq_getElem_cons h, List.take_append_drop]
  have e2 : sumL R = sumL (R.take o ++ (R[o] :: R.drop (o + 1))) := congrArg sumL e
  rw [e2, sumL_app, sumL_app]
  have : sumL (R[o] :: R.drop (o + 1)) = R[o].length + sumL (R.drop (o + 1)) := rfl
  omega
theorem join_sub {x y : Str} {W l : List Str} (hy : y.length = 1) (ly : Lw y) (t : Tx x) (hW : Txt.join y W = x) (hn : W ≠ []) (hm : ∀ w, w ∈ l → w ∈ W) (hs : sumL l ≤ sumL W) (hl : l.length ≤ W.length) :
    Lw (Txt.join y l) ∧ (Txt.join y l).length ≤ x.length := by
  constructor
  · intro c hc
    rw [TL.join_eq] at hc
    rcases mem_join hc with h | ⟨p, hp, h⟩
    · exact ly c h
    · refine t.low c ?_
      rw [← hW, TL.join_eq]
      exact join_mem (hm p hp) h
  · have e1 := len_join y hn
    rw [hW, hy, Nat.mul_one] at e1
    by_cases h0 : l = []
    · rw [h0]
      show 0 ≤ _
      exact Nat.zero_le _
    · have e2 := len_join y h0
      rw [hy, Nat.mul_one] at e2
      omega
abbrev sgn : Str := " .\n0123456789abcdef\
  ghijklmnopqrstuvwxyz-A"
theorem sgn_low : Lw sgn := by unfold Lw; decide +kernel
theorem sgn_len : sgn.cps.toList.length = 41 ∧ sgn.length = 41 := by decide +kernel
theorem lw_one {c : Nat} (h : c < 128) : Lw ⟨#[c]⟩ := fun d hd => by rw [List.mem_singleton.mp (show d ∈ [c] from hd)]; exact h
def spSpoilt : Sp := fun vs H Q _ => ∃ (j : Addr) (C : Nat) (x : Str), vs = [.ref j, .str x] ∧ Jar j H C ∧ C ≤ 900000000 ∧ Tx x ∧ x.length ≤ 99000 ∧
  ∀ y H', Tx y → y.length ≤ x.length + 1 → Jar j H' (C + 6) → Keep j H H' → Q (.str y) H'
theorem scSpoilt : FnScope ["well", "text", "way", "spot", "signs", "sign", "words", "rows", "one", "other", "aside", "left"] ["well", "text"] (defScope lSpoilt) := ⟨rfl, rfl, rfl, by decide +kernel, rfl, by decide +kernel, by decide +kernel⟩
section
variable {P : Program} {w : World} {K : PySem.W.Frag} {mg : Str → Option Value} {base : Heap} {f g : Addr} {fd gd : FuncData}
theorem ok_spoilt (F : Fun K "_law_spoilt" "_law_spoilt" lSpoilt f fd) (G : FnOk P w K mg base CX0 1 g gd ["well", "many"] spDip) (bG : Binds K gd ["well", "many"] []) (kG : PySem.W.keepIn K (.ref g) = true) (mG : mg "_law_dip" = some (.ref g)) (ml : mg "len" = none) :
    FnOk P w K mg base CX0 2 f fd ["well", "text"] spSpoilt := by
  refine F.ok scSpoilt (fun vs H Q E h => ?_) (fun cdv A outer s H vs Q E hr h => ?_)
  · obtain ⟨j, C, x, rfl, _⟩ := h
    rfl
  obtain ⟨j, C, x, rfl, hj, hC, tx, hx, q⟩ := h
  refine ⟨_, pss_cons (ps_set (i := 2) scSpoilt.nd rfl (.inl rfl) (pe_call G hr rfl mG kG bG .nil pass0 (pa_cons (pv 0) (pa_cons pe_int pa_nil))))
    (pss_cons (ps_set (i := 3) scSpoilt.nd rfl (.inl rfl) (pe_call G hr rfl mG kG bG .nil pass0 (pa_cons (pv 0) (pa_cons (pe_op op_add (pe_callB call_len_str rfl ml PySem.boot_len (pa_cons (pv 1) pa_nil)) pe_int) pa_nil))))
    (pss_cons (ps_set (i := 4) scSpoilt.nd rfl (.inl rfl) pe_str)
    (pss_cons (ps_set (i := 5) scSpoilt.nd rfl (.inl rfl) (pe_ix ix_str (pv 4) (pe_call G hr rfl mG kG bG .nil pass0 (pa_cons (pv 0) (pa_cons (pe_callB call_len_str rfl ml PySem.boot_len (pa_cons (pv 4) pa_nil)) pa_nil))) (fun _ _ => rfl)))
    (pss_cons (ps_set (i := 6) scSpoilt.nd rfl (.inl rfl) (pe_split (pv 1) pe_str))
    (pss_cons (ps_set (i := 7) scSpoilt.nd rfl (.inl rfl) (pe_split (pv 1) pe_str))
    (pss_cons (ps_set (i := 8) scSpoilt.nd rfl (.inl rfl) (pe_call G hr rfl mG kG bG .nil pass0 (pa_cons (pv 0) (pa_cons (pe_callB call_len_seq rfl ml PySem.boot_len (pa_cons (pv 6) pa_nil)) pa_nil))))
    (pss_cons (ps_set (i := 9) scSpoilt.nd rfl (.inl rfl) (pe_call G hr rfl mG kG bG .nil pass0 (pa_cons (pv 0) (pa_cons (pe_callB call_len_seq rfl ml PySem.boot_len (pa_cons (pv 7) pa_nil)) pa_nil))))
    (pss_cons (ps_set (i := 10) scSpoilt.nd rfl (.inl rfl) (pe_call G hr rfl mG kG bG .nil pass0 (pa_cons (pv 0) (pa_cons (pe_callB call_len_seq rfl ml PySem.boot_len (pa_cons (pv 7) pa_nil)) pa_nil))))
    (pss_cons (ps_if (pt_cmpR op_eq (pv 2) pe_int (nomark _)) (pss_one (ps_ret (pv 1))) pss_nil)
    (pss_cons (ps_if (pt_cmpR op_eq (pv 2) pe_int (nomark _)) (pss_one (ps_ret (pe_op op_add_str (pe_slice sl_str (pv 1) po_none (po_some (pv 3))) (pe_slice sl_str (pv 1) (po_some (pe_op op_add (pv 3) pe_int)) po_none)))) pss_nil)
    (pss_cons (ps_if (pt_cmpR op_eq (pv 2) pe_int (nomark _)) (pss_one (ps_ret (pe_op op_add_str (pe_op op_add_str (pe_slice sl_str (pv 1) po_none (po_some (pv 3))) (pv 5)) (pe_slice sl_str (pv 1) (po_some (pe_op op_add (pv 3) pe_int)) po_none)))) pss_nil)
    (pss_cons (ps_if (pt_cmpR op_eq (pv 2) pe_int (nomark _)) (pss_one (ps_ret (pe_op op_add_str (pe_op op_add_str (pe_slice sl_str (pv 1) po_none (po_some (pv 3))) (pv 5)) (pe_slice sl_str (pv 1) (po_some (pv 3)) po_none)))) pss_nil)
    (pss_cons (ps_if (pt_cmpR op_eq (pv 2) pe_int (nomark _)) (pss_one (ps_ret (pe_join pe_str (pe_op op_cat (pe_slice sl_list (pv 6) po_none (po_some (pv 8))) (pe_slice sl_list (pv 6) (po_some (pe_op op_add (pv 8) pe_int)) po_none))))) pss_nil)
    (pss_cons (ps_if (pt_cmpR op_eq (pv 2) pe_int (nomark _)) (pss_one (ps_ret (pe_slice sl_str (pv 1) po_none (po_some (pv 3))))) pss_nil)
    (pss_cons (ps_set (i := 11) scSpoilt.nd rfl (.inl rfl) (pe_op op_cat (pe_slice sl_list (pv 7) po_none (po_some (pv 9))) (pe_slice sl_list (pv 7) (po_some (pe_op op_add (pv 9) pe_int)) po_none)))
    (pss_one (ps_ret (pe_join pe_str (pe_op op_cat (pe_op op_cat (pe_slice sl_list (pv 11) po_none (po_some (pv 10))) (pe_lst (pa_cons (pe_ix ix_list (pv 7) (pv 9) (fun _ _ => rfl)) pa_nil))) (pe_slice sl_list (pv 11) (po_some (pv 10)) po_none)))))))))))))))))))), ?_⟩
  have hsz : x.length ≤ sizeLine := by rw [sizeLine_eq]; omega
  have lx : Lw x := tx.low
  refine ⟨_, rfl, j, C, 7, rfl, hj, by omega, by decide, by decide, fun r1 H1 r10 r11 j1 k1 => ?_⟩
  refine ⟨_, rfl, _, rfl, x, rfl, hsz, _, _, rfl, rfl, j, _, _, rfl, j1, by omega, by omega, by omega, fun r2 H2 r20 r21 j2 k2 => ?_⟩
  obtain ⟨n, rfl, hn⟩ : ∃ n : Nat, r2 = (n : Int) ∧ n ≤ x.length := ⟨r2.toNat, by omega, by omega⟩
  refine ⟨_, rfl, _, rfl, _, rfl, sgn, rfl, (by decide +kernel), j, _, _, rfl, j2, by omega, (by rw [sgn_len.2]; decide), (by rw [sgn_len.2]; decide), fun r3 H3 r30 r31 j3 k3 => ?_⟩
  obtain ⟨c, c1, c2⟩ := at_in (l := sgn.cps.toList) r30 (by rw [sgn_len.1]; rw [sgn_len.2] at r31; exact r31)
  refine ⟨sgn, _, c, rfl, rfl, (by decide +kernel), c1, ?_⟩
  have lc : Lw ⟨#[c]⟩ := lw_one (sgn_low c (List.mem_of_getElem? c2))
  have hb1 : (" " : Str).length = 1 := by decide +kernel
  have hb2 : ("\n" : Str).length = 1 := by decide +kernel
  have lb1 : Lw " " := by unfold Lw; decide +kernel
  have lb2 : Lw "\n" := by unfold Lw; decide +kernel
  refine ⟨_, rfl, ⟨_, rfl⟩, x, " ", rfl, rfl, by decide +kernel, by rw [sizeLine_eq]; omega, fun pw hpw => ?_⟩
  refine ⟨_, rfl, ⟨_, rfl⟩, x, "\n", rfl, rfl, by decide +kernel, by rw [sizeLine_eq]; omega, fun pr hpr => ?_⟩
  have W0 := split_ne x " " (by rw [hb1]; decide)
  have R0 := split_ne x "\n" (by rw [hb2]; decide)
  have WJ : Txt.join " " (Txt.split x " ") = x := row_split x
  have RJ : Txt.join "\n" (Txt.split x "\n") = x := text_split x
  have Wl := len_join (" " : Str) W0
  have Rl := len_join ("\n" : Str) R0
  rw [WJ, hb1, Nat.mul_one] at Wl
  rw [RJ, hb2, Nat.mul_one] at Rl
  generalize Txt.split x " " = W at *
  generalize Txt.split x "\n" = R at *
  have Wp : 0 < W.length := List.length_pos_iff.mpr W0
  have Rp : 0 < R.length := List.length_pos_iff.mpr R0
  have s4 := same_new hpw (.lst (W.map V.str))
  have s5 := same_new hpr (.lst (R.map V.str))
  have pwj := j3.ne hpw
  have j5 := (j3.keep s4).keep s5
  have prj := (j3.keep s4).ne hpr
  have ew := s5 _ _ (show (upd H3 pw (.lst (W.map V.str))) pw = some (.lst (W.map V.str)) from upd_same)
  have er : (upd (upd H3 pw (.lst (W.map V.str))) pr (.lst (R.map V.str))) pr = some (.lst (R.map V.str)) := upd_same
  have k5 : Keep j H (upd (upd H3 pw (.lst (W.map V.str))) pr (.lst (R.map V.str))) := k1.trans (k2.trans (k3.trans (Keep.of_same (s4.trans s5))))
  generalize upd (upd H3 pw (.lst (W.map V.str))) pr (.lst (R.map V.str)) = H5 at j5 ew er k5
  have lW : ((W.map V.str).length : Int) = (W.length : Int) := by rw [List.length_map]
  have lR : ((R.map V.str).length : Int) = (R.length : Int) := by rw [List.length_map]
  refine ⟨_, rfl, _, rfl, pw, _, rfl, .inl (SqL.of ew), j, _, _, rfl, j5, by omega, by omega, by omega, fun r6 H6 r60 r61 j6 k6 => ?_⟩
  refine ⟨_, rfl, _, rfl, pr, _, rfl, .inl (SqL.of (k6 _ _ prj er)), j, _, _, rfl, j6, by omega, by omega, by omega, fun r7 H7 r70 r71 j7 k7 => ?_⟩
  refine ⟨_, rfl, _, rfl, pr, _, rfl, .inl (SqL.of (k7 _ _ prj (k6 _ _ prj er))), j, _, _, rfl, j7, by omega, by omega, by omega, fun r8 H8 r80 r81 j8 k8 => ?_⟩
  have k68 := k6.trans (k7.trans k8)
  have ew8 := k68 _ _ pwj ew
  have er8 := k68 _ _ prj er
  have kH8 := k5.trans k68
  clear k1 k2 k3 k5 k6 k7 k8 j1 j2 j3 j5 j6 j7 ew er s4 s5 k68
  obtain ⟨a, rfl, ha⟩ : ∃ n : Nat, r6 = (n : Int) ∧ n < W.length := ⟨r6.toNat, by omega, by omega⟩
  obtain ⟨o, rfl, ho⟩ : ∃ n : Nat, r7 = (n : Int) ∧ n < R.length := ⟨r7.toNat, by omega, by omega⟩
  obtain ⟨m, rfl, hm⟩ : ∃ n : Nat, r8 = (n : Int) ∧ n < R.length := ⟨r8.toNat, by omega, by omega⟩
  have fin : ∀ y H', Lw y → y.length ≤ x.length + 1 → Same H8 H' → Q (.str y) H' := fun y H' ly hy s' =>
    q y H' ⟨by omega, ly⟩ hy ((j8.keep s').mono (by omega)) (kH8.trans (Keep.of_same s'))
  have l1 := cutS_to_len hn
  have l2 : (cutS x (some (((n + 1 : Nat)) : Int)) none).length = x.length - (n + 1) := cutS_from_len
  have l3 : (cutS x (some ((n : Nat) : Int)) none).length = x.length - n := cutS_from_len
  have lo : (⟨#[c]⟩ : Str).length = 1 := rfl
  have en : ((n : Int) + 1) = ((n + 1 : Nat) : Int) := by omega
  have ea : ((a : Int) + 1) = ((a + 1 : Nat) : Int) := by omega
  have eo : ((o : Int) + 1) = ((o + 1 : Nat) : Int) := by omega
  refine ⟨_, rfl, rfl, _, rfl, ite2 (fun _ => ⟨_, rfl, fin x _ lx (by omega) same_refl⟩) (fun _ => ?_)⟩
  refine ⟨_, rfl, rfl, _, rfl, ite2 (fun _ => ?_) (fun _ => ?_)⟩
  · refine ⟨_, rfl, _, rfl, _, rfl, x, rfl, hsz, _, rfl, _, rfl, _, _, rfl, rfl, _, rfl, x, rfl, hsz, _, _, rfl, rfl, ?_, ?_⟩
    all_goals rw [en]
    · rw [l1, l2, sizeLine_eq]; omega
    · exact fin _ _ ((lw_to lx).app (lw_from lx)) (by rw [len_app, l1, l2]; omega) same_refl
  refine ⟨_, rfl, rfl, _, rfl, ite2 (fun _ => ?_) (fun _ => ?_)⟩
  · refine ⟨_, rfl, _, rfl, _, rfl, x, rfl, hsz, _, rfl, _, _, rfl, rfl, ?_, _, rfl, _, rfl, _, _, rfl, rfl, _, rfl, x, rfl, hsz, _, _, rfl, rfl, ?_, ?_⟩
    · rw [l1, lo, sizeLine_eq]; omega
    · rw [en, len_app, l1, l2, lo, sizeLine_eq]; omega
    · rw [en]
      exact fin _ _ (((lw_to lx).app lc).app (lw_from lx)) (by rw [len_app, len_app, l1, l2, lo]; omega) same_refl
  refine ⟨_, rfl, rfl, _, rfl, ite2 (fun _ => ?_) (fun _ => ?_)⟩
  · refine ⟨_, rfl, _, rfl, _, rfl, x, rfl, hsz, _, rfl, _, _, rfl, rfl, ?_, _, rfl, _, rfl, _, rfl, x, rfl, hsz, _, _, rfl, rfl, ?_, ?_⟩
    · rw [l1, lo, sizeLine_eq]; omega
    · rw [len_app, l1, l3, lo, sizeLine_eq]; omega
    · exact fin _ _ (((lw_to lx).app lc).app (lw_from lx)) (by rw [len_app, len_app, l1, l3, lo]; omega) same_refl
  refine ⟨_, rfl, rfl, _, rfl, ite2 (fun _ => ?_) (fun _ => ?_)⟩
  · have e1 : cutV (W.map V.str) none (some (a : Int)) = (W.take a).map V.str := by rw [cut_to, List.map_take]
    have e2 : cutV (W.map V.str) (some ((a : Int) + 1)) none = (W.drop (a + 1)).map V.str := by rw [ea, cut_from, List.map_drop]
    have ll : ((W.take a).map V.str).length + ((W.drop (a + 1)).map V.str).length ≤ W.length := by
      rw [List.length_map, List.length_map, List.length_take, List.length_drop]; omega
    refine ⟨⟨_, rfl⟩, _, rfl, _, rfl, _, rfl, pw, _, rfl, SqL.of ew8, fun p1 hp1 => ?_⟩
    rw [e1]
    have t1 := same_new hp1 (.lst ((W.take a).map V.str))
    refine ⟨_, rfl, _, rfl, _, _, rfl, rfl, _, rfl, pw, _, rfl, SqL.of (t1 _ _ ew8), fun p2 hp2 => ?_⟩
    rw [e2]
    have t2 := same_new hp2 (.lst ((W.drop (a + 1)).map V.str))
    refine ⟨p1, p2, _, _, rfl, rfl, t2 _ _ upd_same, upd_same, (by rw [sizeLine_eq]; omega), fun p3 hp3 => ?_⟩
    have t3 := same_new hp3 (.lst ((W.take a).map V.str ++ (W.drop (a + 1)).map V.str))
    have e3 : (W.take a).map V.str ++ (W.drop (a + 1)).map V.str = (W.take a ++ W.drop (a + 1)).map V.str := by rw [List.map_append]
    have sp := sumL_pick ha
    have lt : (W.take a ++ W.drop (a + 1)).length ≤ W.length := by rw [List.length_append, List.length_take, List.length_drop]; omega
    have jS := join_sub (l := W.take a ++ W.drop (a + 1)) hb1 lb1 tx WJ W0 (fun w hw => (List.mem_append.mp hw).elim List.mem_of_mem_take List.mem_of_mem_drop) (by omega) lt
    refine ⟨" ", p3, W.take a ++ W.drop (a + 1), rfl, rfl, .inl (SqL.of (by rw [upd_same, e3])), ?_, fin _ _ jS.1 (by omega) ((t1.trans t2).trans t3)⟩
    have : ((W.take a ++ W.drop (a + 1)).map (·.length)).sum = sumL (W.take a ++ W.drop (a + 1)) := rfl
    rw [this, hb1]
    omega
  refine ⟨_, rfl, rfl, _, rfl, ite2 (fun _ => ?_) (fun _ => ?_)⟩
  · refine ⟨_, rfl, _, rfl, _, rfl, x, rfl, hsz, ?_⟩
    exact fin _ _ (lw_to lx) (by rw [l1]; omega) same_refl
  have e1 : cutV (R.map V.str) none (some (o : Int)) = (R.take o).map V.str := by rw [cut_to, List.map_take]
  have e2 : cutV (R.map V.str) (some ((o : Int) + 1)) none = (R.drop (o + 1)).map V.str := by rw [eo, cut_from, List.map_drop]
  have ll : ((R.take o).map V.str).length + ((R.drop (o + 1)).map V.str).length ≤ R.length := by
    rw [List.length_map, List.length_map, List.length_take, List.length_drop]; omega
  refine ⟨_, rfl, _, rfl, _, rfl, pr, _, rfl, SqL.of er8, fun p1 hp1 => ?_⟩
  rw [e1]
  have t1 := same_new hp1 (.lst ((R.take o).map V.str))
  refine ⟨_, rfl, _, rfl, _, _, rfl, rfl, _, rfl, pr, _, rfl, SqL.of (t1 _ _ er8), fun p2 hp2 => ?_⟩
  rw [e2]
  have t2 := same_new hp2 (.lst ((R.drop (o + 1)).map V.str))
  refine ⟨p1, p2, _, _, rfl, rfl, t2 _ _ upd_same, upd_same, (by rw [sizeLine_eq]; omega), fun pl hpl => ?_⟩
  have t3 := same_new hpl (.lst ((R.take o).map V.str ++ (R.drop (o + 1)).map V.str))
  have e3 : (R.take o).map V.str ++ (R.drop (o + 1)).map V.str = (R.take o ++ R.drop (o + 1)).map V.str := by rw [List.map_append]
  have t13 := (t1.trans t2).trans t3
  have el : (upd (upd (upd H8 p1 (.lst ((R.take o).map V.str))) p2 (.lst ((R.drop (o + 1)).map V.str))) pl (.lst ((R.take o).map V.str ++ (R.drop (o + 1)).map V.str))) pl = some (.lst ((R.take o ++ R.drop (o + 1)).map V.str)) := by rw [upd_same, e3]
  have er9 := t13 _ _ er8
  generalize (upd (upd (upd H8 p1 (.lst ((R.take o).map V.str))) p2 (.lst ((R.drop (o + 1)).map V.str))) pl (.lst ((R.take o).map V.str ++ (R.drop (o + 1)).map V.str))) = H9 at t13 el er9
  have sp := sumL_pick ho
  have lL : (R.take o ++ R.drop (o + 1)).length + 1 = R.length := by rw [List.length_append, List.length_take, List.length_drop]; omega
  have mL : ∀ w, w ∈ R.take o ++ R.drop (o + 1) → w ∈ R := fun w hw => (List.mem_append.mp hw).elim List.mem_of_mem_take List.mem_of_mem_drop
  generalize R.take o ++ R.drop (o + 1) = L at sp lL mL el
  refine ⟨⟨_, rfl⟩, _, rfl, _, rfl, _, rfl, pl, _, rfl, SqL.of el, fun p4 hp4 => ?_⟩
  have f1 : cutV (L.map V.str) none (some (m : Int)) = (L.take m).map V.str := by rw [cut_to, List.map_take]
  have f2 : cutV (L.map V.str) (some (m : Int)) none = (L.drop m).map V.str := by rw [cut_from, List.map_drop]
  rw [f1]
  have u1 := same_new hp4 (.lst ((L.take m).map V.str))
  have eRo : (R.map V.str)[o]? = some (.str R[o]) := by rw [List.getElem?_map, List.getElem?_eq_getElem ho]; rfl
  refine ⟨_, rfl, _, rfl, pr, _, _, _, rfl, rfl, SqL.of (u1 _ _ er9), atI_nat eRo, (by show 1 ≤ sizeLine; decide), fun p5 hp5 => ?_⟩
  have u2 := same_new hp5 (.lst [.str R[o]])
  refine ⟨p4, p5, _, _, rfl, rfl, u2 _ _ upd_same, upd_same, (by rw [List.length_map, List.length_take, sizeLine_eq]; show _ + 1 ≤ _; omega), fun p6 hp6 => ?_⟩
  have u3 := same_new hp6 (.lst ((L.take m).map V.str ++ [.str R[o]]))
  refine ⟨_, rfl, _, rfl, _, rfl, pl, _, rfl, SqL.of (((u1.trans u2).trans u3) _ _ el), fun p7 hp7 => ?_⟩
  rw [f2]
  have u4 := same_new hp7 (.lst ((L.drop m).map V.str))
  refine ⟨p6, p7, _, _, rfl, rfl, u4 _ _ upd_same, upd_same, (by rw [List.length_append, List.length_map, List.length_map, List.length_take, List.length_drop, sizeLine_eq]; show _ + 1 + _ ≤ _; omega), fun p8 hp8 => ?_⟩
  have u5 := same_new hp8 (.lst ((L.take m).map V.str ++ [.str R[o]] ++ (L.drop m).map V.str))
  have e5 : (L.take m).map V.str ++ [.str R[o]] ++ (L.drop m).map V.str = (L.take m ++ [R[o]] ++ L.drop m).map V.str := by rw [List.map_append, List.map_append]; rfl
  have sl : sumL (L.take m ++ [R[o]] ++ L.drop m) = sumL R := by
    have e6 : sumL L = sumL (L.take m) + sumL (L.drop m) := by rw [← sumL_app, List.take_append_drop]
    have e7 : sumL [R[o]] = R[o].length := Nat.add_zero _
    rw [sumL_app, sumL_app, e7]
    omega
  have ll2 : (L.take m ++ [R[o]] ++ L.drop m).length = R.length := by
    rw [List.length_append, List.length_append, List.length_take, List.length_drop, List.length_singleton]; omega
  have jS := join_sub (l := L.take m ++ [R[o]] ++ L.drop m) hb2 lb2 tx RJ R0 (fun w hw => by
    rcases List.mem_append.mp hw with h | h
    · rcases List.mem_append.mp h with h | h
      · exact mL w (List.mem_of_mem_take h)
      · rw [List.mem_singleton.mp h]; exact List.getElem_mem ho
    · exact mL w (List.mem_of_mem_drop h)) (by omega) (by omega)
  refine ⟨"\n", p8, L.take m ++ [R[o]] ++ L.drop m, rfl, rfl, .inl (SqL.of (by rw [upd_same, e5])), ?_, fin _ _ jS.1 (by omega) (t13.trans (u1.trans (u2.trans (u3.trans (u4.trans u5)))))⟩
  have : ((L.take m ++ [R[o]] ++ L.drop m).map (·.length)).sum = sumL (L.take m ++ [R[o]] ++ L.drop m) := rfl
  rw [this, hb2, sl]
  omega
end
end Ka
set_option maxHeartbeats 2000000
namespace Ka
open PySem PySem.Spec PyProof.Rows L2 Ty
/-! ### alike things -/
def Flt (v w : V) : Prop := (∃ x, v = .str x ∧ w = .str x) ∨ ∃ i, v = .int i ∧ w = .int i
def AlkT (H : Hp) : Nat → V → V → Prop
  | 0, _, _ => False
  | n + 1, v, w => Flt v w ∨ ∃ a b xs ys, v = .ref a ∧ w = .ref b ∧ H a = some (.tup xs) ∧ H b = some (.tup ys) ∧ xs.length ≤ 1000 ∧ Paired (AlkT H n) xs ys
def AlkD (H : Hp) (n : Nat) (v w : V) : Prop := ∃ (a b : Addr) (kvs kws : List (Key × V)) (ks ms : List Str), v = .ref a ∧ w = .ref b ∧ H a = some (.dK kvs) ∧ H b = some (.dK kws) ∧ (kvs.map fun kv => kV kv.1) = ks.map V.str ∧ (kws.map fun kv => kV kv.1) = ms.map V.str ∧
  ks.Perm ms ∧ (∀ k, k ∈ ks → Tx k) ∧ ks.length ≤ 1000 ∧ ∀ k, k ∈ ms → ∃ x y, valV kvs (Sum.inr k : Key) = some x ∧ valV kws (Sum.inr k : Key) = some y ∧ AlkT H n x y
def Alk (H : Hp) : Nat → V → V → Prop
  | 0, _, _ => False
  | n + 1, v, w => Flt v w ∨ (∃ a b xs ys, v = .ref a ∧ w = .ref b ∧ H a = some (.tup xs) ∧ H b = some (.tup ys) ∧ xs.length ≤ 1000 ∧ Paired (Alk H n) xs ys) ∨ AlkD H n v w
theorem AlkT.tk {H H' : Hp} (k : Tk H H') : ∀ {n : Nat} {v w : V}, AlkT H n v w → AlkT H' n v w
  | 0, _, _, h => h
  | n + 1, v, w, h => by
    rcases h with h | ⟨a, b, xs, ys, e1, e2, h1, h2, h3, p⟩
    · exact .inl h
    · exact .inr ⟨a, b, xs, ys, e1, e2, k _ _ h1, k _ _ h2, h3, paired_imp (fun x y r => AlkT.tk k r) p⟩
theorem AlkD.kt {H H' : Hp} (k : Kt H H') {n : Nat} {v w : V} (h : AlkD H n v w) : AlkD H' n v w := by
  obtain ⟨a, b, kvs, kws, ks, ms, e1, e2, h1, h2, h3, h4, h5, h6, h7, h8⟩ := h
  exact ⟨a, b, kvs, kws, ks, ms, e1, e2, k.2 _ _ h1, k.2 _ _ h2, h3, h4, h5, h6, h7, fun z hz => by
    obtain ⟨x, y, f1, f2, f3⟩ := h8 z hz
    exact ⟨x, y, f1, f2, f3.tk k.1⟩⟩
theorem Alk.kt {H H' : Hp} (k : Kt H H') : ∀ {n : Nat} {v w : V}, Alk H n v w → Alk H' n v w
  | 0, _, _, h => h
  | n + 1, v, w, h => by
    rcases h with h | ⟨a, b, xs, ys, e1, e2, h1, h2, h3, p⟩ | h
    · exact .inl h
    · exact .inr (.inl ⟨a, b, xs, ys, e1, e2, k.1 _ _ h1, k.1 _ _ h2, h3, paired_imp (fun x y r => Alk.kt k r) p⟩)
    · exact .inr (.inr (h.kt k))
theorem AlkT.alk {H : Hp} : ∀ {n : Nat} {v w : V}, AlkT H n v w → Alk H n v w
  | 0, _, _, h => h
  | n + 1, v, w, h => by
    rcases h with h | ⟨a, b, xs, ys, e1, e2, h1, h2, h3, p⟩
    · exact .inl h
    · exact .inr (.inl ⟨a, b, xs, ys, e1, e2, h1, h2, h3, paired_imp (fun x y r => AlkT.alk r) p⟩)
def spAlike (n : Nat) : Sp := fun vs H Q _ => ∃ v w, vs = [v, w] ∧ Alk H n v w ∧ ∀ H', Same H H' → Q (.bl true) H'
theorem scAlike : FnScope ["found", "wanted", "key", "one", "other"] ["found", "wanted"] (defScope lAlike) := ⟨rfl, rfl, rfl, by decide +kernel, rfl, by decide +kernel, by decide +kernel⟩
theorem alike_zero {P : Program} {w : World} {K : PySem.W.Frag} {mg : Str → Option Value} {base : Heap} {f : Addr} {fd : FuncData} {ps : List Str} : FnOk P w K mg base CX0 1 f fd ps (spAlike 0) := by
  have no : ∀ vs H Q E, ¬ spAlike 0 vs H Q E := fun vs H Q E h => by
    obtain ⟨v, u, _, h, _⟩ := h
    exact h
  exact ⟨fun vs H Q E h => absurd h (no vs H Q E), fun A outer s H args us vs Q E _ _ _ _ h => absurd h (no vs H Q E)⟩
theorem walk_zipT {K : PySem.W.Frag} {a b : Addr} {xs ys : List V} {n : Nat} (hn : n = xs.length) (hm : ys.length = xs.length) : Walk (RZ.ItzT K a b) n (fun H => SqT K H a xs ∧ SqT K H b ys) (YPair (fun i => xs[i]?) (fun i => ys[i]?)) := by
  subst hn
  refine ⟨fun i _ hi q => ?_, fun _ q => ⟨xs, ys, q.1, q.2, by omega⟩, fun i H v H' _ q y => ?_⟩
  · have h2 : i < ys.length := by omega
    exact ⟨xs, ys, xs[i], ys[i], q.1, q.2, by simp [hi], by simp [h2]⟩
  · obtain ⟨T, x, z, h1, h2, h3, h4, h5⟩ := y
    exact ⟨T, x, z, h1, h2, h3, h4 xs q.1, h5 ys q.2⟩
theorem all_true (n : Nat) : (List.replicate n true).all id = true := by
  rw [List.all_eq_true]
  intro b hb
  rw [(List.mem_replicate.mp hb).2]; rfl
theorem paired_two {α β : Type} {P : α → β → Prop} {l : List α} {m : List β} (h : Paired P l m) {i : Nat} {x : α} {y : β} (hx : l[i]? = some x) (hy : m[i]? = some y) : P x y := by
  obtain ⟨z, hz, p⟩ := paired_get h i x hx
  rw [hz] at hy
  injection hy with hy
  rw [← hy]; exact p
section
variable {P : Program} {w : World} {K : PySem.W.Frag} {mg : Str → Option Value} {base : Heap} {f : Addr} {fd : FuncData}
theorem ok_alike {n : Nat} (F : Fun K "_law_alike" "_law_alike" lAlike f fd) (G : FnOk P w K mg base CX0 (n + 1) f fd ["found", "wanted"] (spAlike n)) (bF : Binds K fd ["found", "wanted"] []) (mF : mg "_law_alike" = some (.ref f))
    (mi : mg "isinstance" = none) (ms : mg "str" = none) (mn : mg "int" = none) (mb : mg "bool" = none) (md : mg "dict" = none) (mt : mg "tuple" = none) (mso : mg "sorted" = none) (mll : mg "list" = none) (ml : mg "len" = none) (ma : mg "all" = none) (mz : mg "zip" = none) :
    FnOk P w K mg base CX0 (n + 2) f fd ["found", "wanted"] (spAlike (n + 1)) := by
  refine F.ok scAlike (fun vs H Q E h => ?_) (fun cdv A outer s H vs Q E hr h => ?_)
  · obtain ⟨v, u, rfl, _⟩ := h
    rfl
  obtain ⟨v, u, rfl, hA, q⟩ := h
  have hu := hr.units
  have kS := F.kp
  refine ⟨_, pss_cons (ps_if (pt_val (pe_callB call_isi rfl mi (by decide +kernel) (pa_cons (pv 1) (pa_cons (pe_bltn rfl ms (by decide +kernel) (show RelV (.ty "str") (.type "str") from rfl)) pa_nil))))
      (pss_one (ps_ret (pe_and (pe_callB call_isi rfl mi (by decide +kernel) (pa_cons (pv 0) (pa_cons (pe_bltn rfl ms (by decide +kernel) (show RelV (.ty "str") (.type "str") from rfl)) pa_nil))) (pe_one (pe_cmpR op_eq (pv 0) (pv 1) (nomark _)))))) pss_nil)
    (pss_cons (ps_if (pt_val (pe_callB call_isi rfl mi (by decide +kernel) (pa_cons (pv 1) (pa_cons (pe_bltn rfl mn (by decide +kernel) (show RelV (.ty "int") (.type "int") from rfl)) pa_nil))))
      (pss_one (ps_ret (pe_and (pe_callB call_isi rfl mi (by decide +kernel) (pa_cons (pv 0) (pa_cons (pe_bltn rfl mn (by decide +kernel) (show RelV (.ty "int") (.type "int") from rfl)) pa_nil)))
        (pe_and (pe_not (pe_callB call_isi rfl mi (by decide +kernel) (pa_cons (pv 0) (pa_cons (pe_bltn rfl mb (by decide +kernel) (show RelV (.ty "bool") (.type "bool") from rfl)) pa_nil)))) (pe_one (pe_cmpR op_eq (pv 0) (pv 1) (nomark _))))))) pss_nil)
    (pss_cons (ps_if (pt_val (pe_callB call_isi rfl mi (by decide +kernel) (pa_cons (pv 1) (pa_cons (pe_bltn rfl md (by decide +kernel) (show RelV (.ty "dict") (.type "dict") from rfl)) pa_nil))))
      (pss_cons (ps_if (PW.pt (pw_or (pt_not (pt_val (pe_callB call_isi rfl mi (by decide +kernel) (pa_cons (pv 0) (pa_cons (pe_bltn rfl md (by decide +kernel) (show RelV (.ty "dict") (.type "dict") from rfl)) pa_nil)))))
          (pw_or1 (pt_cmpR (op_neSs hu) (pe_callB cr_sortedS rfl mso (by decide +kernel) (pa_cons (pe_callTy (call_list_dK rfl) rfl mll (by decide +kernel) (pa_cons (pv 0) pa_nil)) pa_nil)) (pe_callB cr_sortedS rfl mso (by decide +kernel) (pa_cons (pe_callTy (call_list_dK rfl) rfl mll (by decide +kernel) (pa_cons (pv 1) pa_nil)) pa_nil)) (nomark _)))))
        (pss_one (ps_ret pe_bl)) pss_nil)
      (pss_one (ps_ret (pe_callB (cr_all rfl) rfl ma (by decide +kernel) (pa_cons (pe_lock
        (pe_lc (own := [("key", 2)]) (g := gName 2) (tt := tYes) rfl scAlike.nd (pi_keys (pv 1)) (blkOk_by (N := ["found", "wanted", "key", "one", "other"]) (sc := defScope lAlike) (by decide +kernel)) (fun _ _ _ _ _ => pg_name (i := 2) scAlike.nd rfl (Or.inl rfl)) (fun _ _ _ _ _ => pts_nil)
          (fun _ _ _ _ _ => pe_call G hr rfl mF kS bF .nil pass0 (pa_cons (pe_dget (Nat.lt_of_le_of_lt (Nat.add_le_add_left (by decide : 1 ≤ 64) _) hu) (pv 0) (pv 2) (fun _ _ => rfl)) (pa_cons (pe_dget (Nat.lt_of_le_of_lt (Nat.add_le_add_left (by decide : 1 ≤ 64) _) hu) (pv 1) (pv 2) (fun _ _ => rfl)) pa_nil))))) pa_nil))))) pss_nil)
    (pss_cons (ps_if (PW.pt (pw_or (pt_not (pt_val (pe_callB call_isi rfl mi (by decide +kernel) (pa_cons (pv 0) (pa_cons (pe_bltn rfl mt (by decide +kernel) (show RelV (.ty "tuple") (.type "tuple") from rfl)) pa_nil)))))
        (pw_or1 (pt_cmpR op_ne (pe_callB call_len_seq rfl ml PySem.boot_len (pa_cons (pv 0) pa_nil)) (pe_callB call_len_seq rfl ml PySem.boot_len (pa_cons (pv 1) pa_nil)) (nomark _)))))
      (pss_one (ps_ret pe_bl)) pss_nil)
    (pss_one (ps_ret (pe_callB (cr_all rfl) rfl ma (by decide +kernel) (pa_cons
        (pe_lc (own := [("one", 3), ("other", 4)]) (g := gTup K 2 (gCons (gName 3) (gCons (gName 4) gNil))) (tt := tYes) rfl scAlike.nd (RZ.pi_zipA rfl mz (pa_cons (pv 0) (pa_cons (pv 1) pa_nil))) (blkOk_by (N := ["found", "wanted", "key", "one", "other"]) (sc := defScope lAlike) (by decide +kernel)) (fun _ _ _ _ _ => pg_tup rfl (pgs_cons (pg_name (i := 3) scAlike.nd rfl (Or.inl rfl)) (pgs_cons (pg_name (i := 4) scAlike.nd rfl (Or.inl rfl)) pgs_nil))) (fun _ _ _ _ _ => pts_nil)
          (fun _ _ _ _ _ => pe_call G hr rfl mF kS bF .nil pass0 (pa_cons (pv 3) (pa_cons (pv 4) pa_nil)))) pa_nil))))))), ?_⟩
  rcases hA with (⟨x, rfl, rfl⟩ | ⟨i, rfl, rfl⟩) | ⟨a, b, xs, ys, rfl, rfl, ha, hb, hl, hp⟩ | ⟨a, b, kvs, kws, ks, ms', rfl, rfl, ha, hb, ek, em, pm, txk, lk, hv⟩
  · -- texts
    refine ⟨_, rfl, .str x, .ty "str", _, _, _, rfl, .ty _, .base (.str x), kit_ty (show kitB "str" "str" = some true by decide +kernel), _, rfl, iteT ?_⟩
    refine ⟨_, rfl, .str x, .ty "str", _, _, _, rfl, .ty _, .base (.str x), kit_ty (show kitB "str" "str" = some true by decide +kernel), _, rfl, iteT ⟨_, rfl, _, rfl, rfl, ?_⟩⟩
    rw [decide_eq_true rfl]
    exact q H same_refl
  · -- numbers
    refine ⟨_, rfl, .int i, .ty "str", _, _, _, rfl, .ty _, .base (.int i), kit_ty (show kitB "int" "str" = some false by decide +kernel), _, rfl, iteF ?_⟩
    refine ⟨_, rfl, .int i, .ty "int", _, _, _, rfl, .ty _, .base (.int i), kit_ty (show kitB "int" "int" = some true by decide +kernel), _, rfl, iteT ?_⟩
    refine ⟨_, rfl, .int i, .ty "int", _, _, _, rfl, .ty _, .base (.int i), kit_ty (show kitB "int" "int" = some true by decide +kernel), _, rfl, iteT ?_⟩
    refine ⟨_, rfl, .int i, .ty "bool", _, _, _, rfl, .ty _, .base (.int i), kit_ty (show kitB "int" "bool" = some false by decide +kernel), _, rfl, _, rfl, iteT ⟨_, rfl, _, rfl, rfl, ?_⟩⟩
    rw [decide_eq_true rfl]
    exact q H same_refl
  · -- tuples
    have lxy : ys.length = xs.length := (Paired.length hp).symm
    refine ⟨_, rfl, .ref b, .ty "str", _, _, _, rfl, .ty _, .base (.tup hb), kit_ty (show kitB "tuple" "str" = some false by decide +kernel), _, rfl, iteF ?_⟩
    refine ⟨_, rfl, .ref b, .ty "int", _, _, _, rfl, .ty _, .base (.tup hb), kit_ty (show kitB "tuple" "int" = some false by decide +kernel), _, rfl, iteF ?_⟩
    refine ⟨_, rfl, .ref b, .ty "dict", _, _, _, rfl, .ty _, .base (.tup hb), kit_ty (show kitB "tuple" "dict" = some false by decide +kernel), _, rfl, iteF ?_⟩
    refine ⟨_, rfl, .ref a, .ty "tuple", _, _, _, rfl, .ty _, .base (.tup ha), kit_ty (show kitB "tuple" "tuple" = some true by decide +kernel), _, rfl, iteF ?_⟩
    refine ⟨_, rfl, a, _, rfl, .inr (SqT.of ha), _, rfl, b, _, rfl, .inr (SqT.of hb), rfl, _, rfl, ?_⟩
    rw [lxy, decide_eq_true rfl]
    refine iteF ?_
    refine ⟨_, rfl, _, rfl, a, b, xs, ys, rfl, .inr ⟨SqT.of ha, SqT.of hb, fun D hD => ?_⟩⟩
    refine lc_it (walk_zipT rfl lxy) (fun i H' => Acc H D ((List.replicate i true).map V.bl) H') (.nil hD) (fun i H' _ A => ⟨SqT.of (A.1 _ _ ha), SqT.of (A.1 _ _ hb)⟩) (fun i z H0 H1 hi A y => ?_) (fun H1 A => ?_)
    · obtain ⟨Tp, x, y, rfl, hT, rfl, ex, ey⟩ := y
      have tT := same_new hT (.tup [x, y])
      refine ⟨Tp, _, rfl, SqT.of upd_same, rfl, _, _, rfl, _, _, rfl, rfl, rfl, ?_⟩
      simp only [tYes, ↓reduceIte]
      have s1 : Same H (upd H0 Tp (.tup [x, y])) := A.1.trans tT
      refine ⟨_, rfl, _, rfl, x, y, rfl, (paired_two hp ex ey).kt (Kt.of_same s1), fun H2 s2 => ?_⟩
      have A2 := (A.same tT).same s2
      refine ⟨_, A2.2, ?_, ?_⟩
      · rw [List.length_map, List.length_replicate, sizeLine_eq]; omega
      · have := A2.push hD (.bl true)
        rw [List.replicate_succ', List.map_append]
        exact this
    · refine ⟨D, _, rfl, SqL.of A.2, ?_⟩
      rw [all_true]
      exact q H1 A.1
  · -- dicts
    refine ⟨_, rfl, .ref b, .ty "str", _, _, _, rfl, .ty _, .base (.dK hb), kit_ty (show kitB "dict" "str" = some false by decide +kernel), _, rfl, iteF ?_⟩
    refine ⟨_, rfl, .ref b, .ty "int", _, _, _, rfl, .ty _, .base (.dK hb), kit_ty (show kitB "dict" "int" = some false by decide +kernel), _, rfl, iteF ?_⟩
    refine ⟨_, rfl, .ref b, .ty "dict", _, _, _, rfl, .ty _, .base (.dK hb), kit_ty (show kitB "dict" "dict" = some true by decide +kernel), _, rfl, iteT ?_⟩
    refine ⟨_, rfl, .ref a, .ty "dict", _, _, _, rfl, .ty _, .base (.dK ha), kit_ty (show kitB "dict" "dict" = some true by decide +kernel), _, rfl, iteF ?_⟩
    refine ⟨_, rfl, a, kvs, rfl, ha, fun p1 hp1 => ?_⟩
    rw [ek]
    have t1 := same_new hp1 (.lst (ks.map V.str))
    refine ⟨p1, ks, rfl, SqL.of upd_same, fun zs p2 perm1 pw1 hp2 => ?_⟩
    have t2 := same_new hp2 (.lst (zs.map V.str))
    have s2 := t1.trans t2
    refine ⟨_, rfl, b, kws, rfl, s2 _ _ hb, fun p3 hp3 => ?_⟩
    rw [em]
    have t3 := same_new hp3 (.lst (ms'.map V.str))
    refine ⟨p3, ms', rfl, SqL.of upd_same, fun ys p4 perm2 pw2 hp4 => ?_⟩
    have t4 := same_new hp4 (.lst (ys.map V.str))
    have s4 := (s2.trans t3).trans t4
    have ezy : zs = ys := sorted_unique (perm1.trans (pm.trans perm2.symm)) pw1 pw2
    subst ezy
    have tz : ∀ z, z ∈ zs → Tx z := fun z hz => txk z (perm1.mem_iff.mp hz)
    refine ⟨p2, p4, zs, zs, rfl, rfl, SqL.of (t4 _ _ (t3 _ _ upd_same)), SqL.of upd_same, tz, tz, _, rfl, ?_⟩
    rw [if_pos rfl, decide_eq_true rfl]
    refine iteF ?_
    have ha4 := s4 _ _ ha
    have hb4 := s4 _ _ hb
    have hv4 : ∀ k, k ∈ ms' → ∃ x y, valV kvs (Sum.inr k : Key) = some x ∧ valV kws (Sum.inr k : Key) = some y ∧ AlkT (upd (upd (upd (upd H p1 (.lst (ks.map V.str))) p2 (.lst (zs.map V.str))) p3 (.lst (ms'.map V.str))) p4 (.lst (zs.map V.str))) n x y := fun k hk => by
      obtain ⟨x, y, f1, f2, f3⟩ := hv k hk
      exact ⟨x, y, f1, f2, f3.tk (Kt.of_same s4).1⟩
    generalize (upd (upd (upd (upd H p1 (.lst (ks.map V.str))) p2 (.lst (zs.map V.str))) p3 (.lst (ms'.map V.str))) p4 (.lst (zs.map V.str))) = H4 at s4 ha4 hb4 hv4
    refine ⟨b, .dK kws, hb4, trivial, fun od => ?_⟩
    have tkb := Tk.dct (o := .frz od (.dK kws)) hb4
    have rda : Rd (upd H4 b (.frz od (.dK kws))) a (.dK kvs) := by
      by_cases e : a = b
      · subst e
        rw [ha4] at hb4
        injection hb4 with hb4
        injection hb4 with hb4
        subst hb4
        exact .inr ⟨od, upd_same⟩
      · exact .inl (by rw [upd_ne e]; exact ha4)
    have rdb : (upd H4 b (.frz od (.dK kws))) b = some (.frz od (.dK kws)) := upd_same
    have back : ∀ H', Same (upd H4 b (.frz od (.dK kws))) H' → Same H (upd H' b (.dK kws)) := fun H' s' c o e => by
      by_cases h : c = b
      · rw [h, hb] at e
        rw [h, upd_same]; exact e
      · rw [upd_ne h]
        exact s' _ _ (by rw [upd_ne h]; exact s4 _ _ e)
    generalize upd H4 b (.frz od (.dK kws)) = HL at tkb rda rdb back
    have lms : ms'.length = kws.length := by
      have := congrArg List.length em
      rw [List.length_map, List.length_map] at this
      exact this.symm
    have lpm := pm.length_eq
    refine ⟨_, rfl, b, od, rfl, .inl ⟨kws, rdb, fun D hD => ?_⟩⟩
    refine lc_it walk_keys (fun i H' => Acc HL D ((List.replicate i true).map V.bl) H') (.nil hD) (fun i H' _ A => A.1 _ _ rdb) (fun i z H0 H1 hi A y => ?_) (fun H1 A => ?_)
    · obtain ⟨rfl, k, vy, ekw, rfl⟩ := y
      refine ⟨rfl, ?_⟩
      simp only [tYes, ↓reduceIte]
      obtain ⟨kk, hkk, ekk⟩ : ∃ kk, kk ∈ ms' ∧ kV k = V.str kk := by
        have h1 : (kws.map fun kv => kV kv.1)[i]? = some (kV k) := by rw [List.getElem?_map, ekw]; rfl
        rw [em, List.getElem?_map] at h1
        cases e : ms'[i]? with
        | none => rw [e] at h1; cases h1
        | some kk =>
          rw [e] at h1
          injection h1 with h1
          exact ⟨kk, List.mem_of_getElem? e, h1.symm⟩
      obtain ⟨x, y, f1, f2, f3⟩ := hv4 kk hkk
      have g1 : DGet H1 a (.str kk) (some x) := .inl ⟨kvs, Sum.inr kk, (rda.elim (fun r => .inl (A.1 _ _ r)) (fun ⟨o, r⟩ => .inr ⟨o, A.1 _ _ r⟩)), rfl, f1.symm⟩
      have g2 : DGet H1 b (.str kk) (some y) := .inl ⟨kws, Sum.inr kk, .inr ⟨od, A.1 _ _ rdb⟩, rfl, f2.symm⟩
      rw [ekk]
      refine ⟨_, rfl, _, rfl, a, x, rfl, g1, _, rfl, _, rfl, b, y, rfl, g2, x, y, rfl, (f3.tk (tkb.trans (Kt.of_same A.1).1)).alk, fun H2 s2 => ?_⟩
      have A2 := A.same s2
      refine ⟨_, A2.2, ?_, ?_⟩
      · rw [List.length_map, List.length_replicate, sizeLine_eq]; omega
      · have := A2.push hD (.bl true)
        rw [List.replicate_succ', List.map_append]
        exact this
    · refine ⟨A.1 _ _ rdb, D, List.replicate kws.length true, rfl, SqL.of ?_, ?_⟩
      · rw [upd_ne (fun e => by rw [e, rdb] at hD; cases hD)]
        exact A.2
      · rw [all_true]
        exact q _ (back _ A.1)
end
end Ka
set_option maxHeartbeats 2000000
namespace Ka
open PySem PySem.Spec PyProof.Rows L2 Ty
/-! ### tables that are alike; how long a drawn table's text is -/
theorem flt_alkT {H : Hp} {n : Nat} : ∀ {vs : List V}, (∀ v, v ∈ vs → (∃ x, v = .str x) ∨ ∃ i, v = .int i) → Paired (AlkT H (n + 1)) vs vs
  | [], _ => .nil
  | v :: vs, h => .cons (.inl ((h v List.mem_cons_self).imp (fun ⟨x, e⟩ => ⟨x, e, e⟩) (fun ⟨x, e⟩ => ⟨x, e, e⟩))) (flt_alkT fun u hu => h u (List.mem_cons_of_mem _ hu))
theorem rd_alk {H : Hp} {x y : V} {d : Deed} {n : Nat} (r : RD H x d) (s : RD H y d) : AlkT H (n + 2) x y := by
  obtain ⟨a, rfl, h1⟩ := r
  obtain ⟨b, rfl, h2⟩ := s
  have hl : (deedV d).length ≤ 1000 := by cases d <;> (show _ ≤ _) <;> simp [deedV]
  refine .inr ⟨a, b, _, _, rfl, rfl, h1, h2, hl, flt_alkT fun v hv => ?_⟩
  cases d with
  | go n =>
    simp only [deedV, List.mem_cons, List.not_mem_nil, or_false] at hv
    rcases hv with rfl | rfl
    · exact .inl ⟨_, rfl⟩
    · exact .inr ⟨_, rfl⟩
  | «by» a n b =>
    simp only [deedV, List.mem_cons, List.not_mem_nil, or_false] at hv
    rcases hv with rfl | rfl | rfl | rfl
    · exact .inl ⟨_, rfl⟩
    · exact .inl ⟨_, rfl⟩
    · exact .inr ⟨_, rfl⟩
    · exact .inl ⟨_, rfl⟩
  | done =>
    simp only [deedV, List.mem_cons, List.not_mem_nil, or_false] at hv
    exact .inl ⟨_, hv⟩
theorem strs_alk {H : Hp} {n : Nat} : ∀ ws : List Str, Paired (Alk H (n + 1)) (ws.map V.str) (ws.map V.str)
  | [] => .nil
  | x :: ws => .cons (.inl (.inl ⟨x, rfl, rfl⟩)) (strs_alk ws)
theorem ri_alk {H : Hp} {x y : V} {i : Item} {n : Nat} (hl : i.2.2.length ≤ 1000) (r : RI H x i) (s : RI H y i) : Alk H (n + 3) x y := by
  obtain ⟨a, b, rfl, h1, h2⟩ := r
  obtain ⟨c, d, rfl, h3, h4⟩ := s
  refine .inr (.inl ⟨a, c, _, _, rfl, rfl, h1, h3, by show 3 ≤ 1000; decide, .cons (.inl (.inl ⟨_, rfl, rfl⟩)) (.cons (.inl (.inr ⟨_, rfl, rfl⟩)) (.cons ?_ .nil))⟩)
  exact .inr (.inl ⟨b, d, _, _, rfl, rfl, h2, h4, by rw [List.length_map]; exact hl, strs_alk _⟩)
theorem paired_join {α β γ : Type} {P : α → γ → Prop} {Q : β → γ → Prop} {R : α → β → Prop} (h : ∀ x y z, P x z → Q y z → R x y) : ∀ {l : List α} {m : List β} {k : List γ}, Paired P l k → Paired Q m k → Paired R l m
  | _, _, _, .nil, .nil => .nil
  | _, _, _, .cons a t, .cons b u => .cons (h _ _ _ a b) (paired_join h t u)
theorem paired_join2 {α β γ δ : Type} {P : α → γ → Prop} {Q : β → δ → Prop} {S : γ → δ → Prop} {R : α → β → Prop} (h : ∀ x y z u, P x z → Q y u → S z u → R x y) : ∀ {l : List α} {m : List β} {k : List γ} {j : List δ}, Paired P l k → Paired Q m j → Paired S k j → Paired R l m
  | _, _, _, _, .nil, .nil, .nil => .nil
  | _, _, _, _, .cons a t, .cons b u, .cons c v => .cons (h _ _ _ _ a b c) (paired_join2 h t u v)
theorem paired_mem {α β : Type} {P : α → β → Prop} {Q : β → Prop} : ∀ {l : List α} {m : List β}, Paired P l m → (∀ y, y ∈ m → Q y) → Paired (fun x y => P x y ∧ Q y) l m
  | _, _, .nil, _ => .nil
  | _, _, .cons a t, h => .cons ⟨a, h _ List.mem_cons_self⟩ (paired_mem t fun y hy => h y (List.mem_cons_of_mem _ hy))
/-- the same items, the same deeds in some order -/
def StA (s t : State) : Prop := s.1 = t.1 ∧ s.2.Perm t.2
theorem tx_mark {x : Str} (h : markP x = true) : Tx x := ⟨by have := (mark_ne h).2; omega, fun c hc => (wd_mark h c hc).2⟩
theorem dk_alk {H : Hp} {x y : V} {s t : State} {n : Nat} (r : RDs H x s) (q : RDs H y t) (e : s.2.Perm t.2) (vs : VS s) (vt : VS t) (hl : s.2.length ≤ 1000) : Alk H (n + 3) x y := by
  obtain ⟨a, kvs, rfl, h1, p1⟩ := r
  obtain ⟨b, kws, rfl, h2, p2⟩ := q
  refine .inr (.inr ⟨a, b, kvs, kws, s.2.map (·.1), t.2.map (·.1), rfl, rfl, h1, h2, kV_keys p1, kV_keys p2, e.map _, fun k hk => ?_, by rw [List.length_map]; exact hl, fun k hk => ?_⟩)
  · obtain ⟨p, hp, rfl⟩ := List.mem_map.mp hk
    exact tx_mark (vs.deeds p hp).1
  · obtain ⟨p, hp, rfl⟩ := List.mem_map.mp hk
    obtain ⟨u, f1, g1⟩ := rk_get p1 vs.nodup p (e.mem_iff.mpr hp)
    obtain ⟨v, f2, g2⟩ := rk_get p2 vt.nodup p hp
    exact ⟨u, v, f1, f2, rd_alk g1 g2⟩
/-- bounds of a table that is compared -/
def Few (T : Table) : Prop := T.length ≤ 1000 ∧ ∀ st, st ∈ T → st.1.length ≤ 1000 ∧ st.2.length ≤ 1000 ∧ ∀ i, i ∈ st.1 → i.2.2.length ≤ 1000
theorem tab_alk {H : Hp} {v w : V} {S T : Table} (r : RTab H v S) (q : RTab H w T) (h : Paired StA S T) (vS : VT S) (vT : VT T) (f : Few S) : Alk H 6 v w := by
  obtain ⟨a, b, c, xs, ys, rfl, ha, hb, hc, px, py⟩ := r
  obtain ⟨a', b', c', xs', ys', rfl, ha', hb', hc', px', py'⟩ := q
  have lx := Paired.length px
  have ly := Paired.length py
  refine .inr (.inl ⟨a, a', _, _, rfl, rfl, ha, ha', by show 2 ≤ 1000; decide, .cons ?_ (.cons ?_ .nil)⟩)
  · refine .inr (.inl ⟨b, b', _, _, rfl, rfl, hb, hb', by rw [lx]; exact f.1, paired_join2 (fun x y z u p p' s => ?_) (paired_mem px f.2) px' h⟩)
    obtain ⟨⟨p, vs, rfl, e1, q1⟩, f1, f2, f3⟩ := p
    obtain ⟨p', vs', rfl, e2, q2⟩ := p'
    rw [← s.1] at q2
    have lv := Paired.length q1
    exact .inr (.inl ⟨p, p', _, _, rfl, rfl, e1, e2, by rw [lv]; exact f1, paired_join (R := Alk H 3) (fun x y z r1 r2 => ri_alk (n := 0) r1.2 r1.1 r2) (paired_mem q1 f3) q2⟩)
  · refine .inr (.inl ⟨c, c', _, _, rfl, rfl, hc, hc', by rw [ly]; exact f.1, paired_join2 (fun x y z u p p' s => ?_) (paired_mem (paired_mem py f.2) vS) (paired_mem py' vT) h⟩)
    exact dk_alk p.1.1 p'.1 s.2 p.2 p'.2 p.1.2.2.1
theorem sta_refl : ∀ T : Table, Paired StA T T
  | [] => .nil
  | _ :: T => .cons ⟨rfl, .refl _⟩ (sta_refl T)
theorem sta_sort : ∀ T : Table, Paired StA (sortT T) T
  | [] => .nil
  | st :: T => .cons ⟨rfl, sortD_perm st.2⟩ (sta_sort T)
/-! ### sizes -/
theorem item_len {i : Item} (h : VI i) (hl : i.2.2.length ≤ 3) : (row (itemW i)).length ≤ 60 := by
  have e := len_row (ws := itemW i) (by simp [itemW])
  have e2 : sumL (itemW i) = 4 + (i.1.length + ((nS i.2.1).length + sumL i.2.2)) := rfl
  have e3 : (itemW i).length = i.2.2.length + 3 := rfl
  have h1 := mark_ne h.1
  have h2 := nS_len (n := i.2.1) (by have := h.2.1; omega)
  have h3 : sumL i.2.2 ≤ 8 * i.2.2.length := by
    have : ∀ l : List Str, (∀ a, a ∈ l → markP a = true) → sumL l ≤ 8 * l.length := fun l => by
      induction l with
      | nil => intro _; exact Nat.zero_le _
      | cons x l ih =>
        intro hx
        have e : sumL (x :: l) = x.length + sumL l := rfl
        have := ih fun a ha => hx a (List.mem_cons_of_mem _ ha)
        have := mark_ne (hx x List.mem_cons_self)
        rw [e, List.length_cons]; omega
    exact this _ h.2.2
  omega
theorem on_len {p : Str × Deed} (h : markP p.1 = true ∧ VD p.2) : (row (onW p)).length ≤ 120 := by
  have e := len_row (ws := onW p) (by simp [onW])
  have e2 : sumL (onW p) = 2 + (p.1.length + sumL (deedW p.2)) := rfl
  have e3 : (onW p).length = (deedW p.2).length + 2 := rfl
  have h1 := mark_ne h.1
  have h2 := deed_len h.2
  have h3 : (deedW p.2).length = (deedV p.2).length := (Paired.length (deed_sv h.2)).symm
  omega
theorem sum_map_le {α : Type} {f : α → Str} {n : Nat} : ∀ {l : List α}, (∀ x, x ∈ l → (f x).length ≤ n) → sumL (l.map f) ≤ n * l.length
  | [], _ => Nat.zero_le _
  | x :: l, h => by
    have e : sumL ((x :: l).map f) = (f x).length + sumL (l.map f) := rfl
    have h1 := h x List.mem_cons_self
    have h2 := sum_map_le (f := f) (n := n) (l := l) fun y hy => h y (List.mem_cons_of_mem _ hy)
    rw [e, List.length_cons, Nat.mul_succ]; omega
theorem small_len : ∀ (T : Table) (k : Nat), VT T → (∀ st, st ∈ T → SmS st) → k + T.length ≤ 100000 → sumL (rowsFrom k T) ≤ 560 * T.length ∧ (rowsFrom k T).length ≤ 7 * T.length
  | [], _, _, _, _ => ⟨Nat.zero_le _, Nat.zero_le _⟩
  | st :: T, k, v, s, hk => by
    have v1 := v st List.mem_cons_self
    have s1 := s st List.mem_cons_self
    rw [List.length_cons] at hk
    have ih := small_len T (k + 1) (fun x hx => v x (List.mem_cons_of_mem _ hx)) (fun x hx => s x (List.mem_cons_of_mem _ hx)) (by omega)
    have e : rowsFrom k (st :: T) = stateRows k st ++ rowsFrom (k + 1) T := rfl
    have h1 := sum_map_le (f := fun i => row (itemW i)) (n := 60) (l := st.1) fun i hi => item_len (v1.items i hi) (s1.ahead i hi)
    have h2 := sum_map_le (f := fun p => row (onW p)) (n := 120) (l := st.2) fun p hp => on_len (v1.deeds p hp)
    have h3 : (row (stateW k)).length ≤ 20 := by
      have e := len_row (ws := stateW k) (by simp [stateW])
      have e2 : sumL (stateW k) = 5 + ((nS k).length + 0) := rfl
      have e3 : (stateW k).length = 2 := rfl
      have := nS_len (n := k) (by omega)
      omega
    have e4 : sumL (stateRows k st) = (row (stateW k)).length + sumL (st.1.map fun i => row (itemW i)) + sumL (st.2.map fun p => row (onW p)) := by
      unfold stateRows
      rw [sumL_app]
      rfl
    have e5 : (stateRows k st).length = 1 + st.1.length + st.2.length := by
      unfold stateRows
      simp only [List.length_append, List.length_cons, List.length_map]; omega
    have a1 := s1.items
    have a2 := s1.deeds
    rw [e, sumL_app, List.length_append, e4, e5, List.length_cons]
    constructor <;> omega
theorem small_sort {T : Table} (s : ∀ st, st ∈ T → SmS st) : ∀ st, st ∈ sortT T → SmS st := fun st hst => by
  obtain ⟨t, ht, rfl⟩ := List.mem_map.mp hst
  have h := s t ht
  exact ⟨h.items, by show (sortD t.2).length ≤ 3; rw [(sortD_perm t.2).length_eq]; exact h.deeds, h.ahead⟩
theorem sort_len (T : Table) : (sortT T).length = T.length := List.length_map _
/-- what is known of a drawn table's text -/
theorem drawn_text {T : Table} (v : VT T) (s : ∀ st, st ∈ T → SmS st) (h0 : T ≠ []) (hl : T.length ≤ 105) : Sz (sortT T) ∧ (textT (sortT T)).length ≤ 90000 ∧ Lw (textT (sortT T)) ∧ readT (textT (sortT T)) = .inl (sortT T) ∧ Few T ∧ Few (sortT T) := by
  have vs := vt_sort v
  have ss := small_sort s
  have hs := small_len (sortT T) 0 vs ss (by rw [sort_len]; omega)
  rw [sort_len] at hs
  have n0 : sortT T ≠ [] := fun e => h0 (by have := sort_len T; rw [e] at this; exact List.length_eq_zero_iff.mp this.symm)
  have few : ∀ S : Table, (∀ st, st ∈ S → SmS st) → S.length ≤ 105 → Few S := fun S h h2 => ⟨by omega, fun st hst => by
    have q := h st hst
    exact ⟨by have := q.items; omega, by have := q.deeds; omega, fun i hi => by have := q.ahead i hi; omega⟩⟩
  refine ⟨by unfold Sz; omega, ?_, fun c hc => ?_, read_text n0 vs (at_sort v), few T s hl, few _ ss (by rw [sort_len]; exact hl)⟩
  · obtain ⟨st, T', e⟩ := List.exists_cons_of_ne_nil n0
    have hn : ("\n" : Str).length = 1 := by decide +kernel
    have := len_join ("\n" : Str) (l := rowsFrom 0 (sortT T)) (by rw [e]; exact rows_ne)
    rw [hn, Nat.mul_one] at this
    unfold textT
    omega
  · unfold textT at hc
    rw [TL.join_eq] at hc
    rcases mem_join hc with h | ⟨p, hp, h⟩
    · exact (show ∀ c, c ∈ ("\n" : Str).cps.toList → c < 128 by decide +kernel) c h
    · obtain ⟨ws, rfl, _, hw⟩ := rows_wd (sortT T) 0 vs p hp
      exact (row_low hw c h).2
end Ka
set_option maxHeartbeats 4000000
namespace Ka
open PySem PySem.Spec PyProof.Rows L2 Ty
theorem passF {P : Program} {w : World} {X : Cx} : Passes (L2.CX P w) X E0 := fun _ _ _ _ _ _ _ h => by
  obtain ⟨_, _, _, _, _, _, _, _, _, _, _, _, h⟩ := h
  exact h.elim
theorem same_upd {H H' : Hp} {p : Addr} {o : HO} (s : Same H H') (n : H p = none) : Same H (upd H' p o) := fun b u e => by
  rw [upd_ne (ne_of_none e n)]
  exact s b u e
def spHeld : Sp := fun vs H Q _ => ∃ j1 j2, vs = [.ref j1, .ref j2] ∧ j1 ≠ j2 ∧ Jar j1 H 20000 ∧ Jar j2 H 20000 ∧ ∀ H', (∀ c o, c ≠ j1 → c ≠ j2 → H c = some o → H' c = some o) → Q (.bl true) H'
def spLaw (K : PySem.W.Frag) : Sp := fun vs H Q _ => ∃ (a : Addr) (ns : List Int), vs = [.ref a] ∧ SqL K H a (ns.map V.int) ∧ ns.length ≤ 63 ∧ ∀ H', Q (.bl true) H'
theorem scHeld : FnScope ["tables", "bends", "table", "text", "handed", "told", "other", "found", "row", "e", "wanted", "some"] ["tables", "bends"] (defScope lHeld) := ⟨rfl, rfl, rfl, by decide +kernel, rfl, by decide +kernel, by decide +kernel⟩
theorem scLaw : FnScope ["script", "k", "tables", "bends"] ["script"] (defScope lLaw) := ⟨rfl, rfl, rfl, by decide +kernel, rfl, by decide +kernel, by decide +kernel⟩
section
variable {P : Program} {w : World} {K : PySem.W.Frag} {mg : Str → Option Value} {base : Heap} {f a1 a2 a3 a4 a5 a6 a7 C CY : Addr} {fd d1 d2 d3 d4 d5 d6 d7 : FuncData}
theorem ok_held (F : Fun K "_law_held" "_law_held" lHeld f fd)
    (DR : FnOk P w K mg base CX0 3 a1 d1 ["well"] spDrawn) (b1 : Binds K d1 ["well"] []) (k1 : PySem.W.keepIn K (.ref a1) = true) (m1 : mg "_law_drawn" = some (.ref a1))
    (WR : FnOk P w K mg base CX0 1 a2 d2 ["table"] spText) (b2 : Binds K d2 ["table"] []) (k2 : PySem.W.keepIn K (.ref a2) = true) (m2 : mg "_law_written" = some (.ref a2))
    (TX : FnOk P w K mg base CX0 2 a3 d3 ["table"] spText) (b3 : Binds K d3 ["table"] []) (k3 : PySem.W.keepIn K (.ref a3) = true) (m3 : mg "table_text" = some (.ref a3))
    (AL : FnOk P w K mg base CX0 7 a4 d4 ["found", "wanted"] (spAlike 6)) (b4 : Binds K d4 ["found", "wanted"] []) (k4 : PySem.W.keepIn K (.ref a4) = true) (m4 : mg "_law_alike" = some (.ref a4))
    (RE : FnOk P w K mg base (L2.CX P w) 5 a5 d5 ["text"] (spRead C)) (b5 : Binds K d5 ["text"] []) (k5 : PySem.W.keepIn K (.ref a5) = true) (m5 : mg "read_table" = some (.ref a5))
    (SP : FnOk P w K mg base CX0 2 a6 d6 ["well", "text"] spSpoilt) (b6 : Binds K d6 ["well", "text"] []) (k6 : PySem.W.keepIn K (.ref a6) = true) (m6 : mg "_law_spoilt" = some (.ref a6))
    (WG : FnOk P w K mg base CX0 3 a7 d7 ["text"] spWrong) (b7 : Binds K d7 ["text"] []) (k7 : PySem.W.keepIn K (.ref a7) = true) (m7 : mg "_law_wrong_row" = some (.ref a7))
    (mC : mg "NoTable" = some (.ref C)) (mY : mg "YardError" = some (.ref CY)) (mi : mg "isinstance" = none) (mt : mg "tuple" = none) (md : mg "dict" = none) (E1 : ExcC K C) (XT : XfC K C) (no : PySem.W.findIn K (.ref C) "row" = some none)
    (te : PySem.W.exmOne K (.ref C) (.ref C) = some true) (kY : PySem.W.kitOne K (.ref C) (.ref CY) = some true) : FnOk P w K mg base CX0 8 f fd ["tables", "bends"] spHeld := by
  refine F.ok scHeld (fun vs H Q E h => ?_) (fun cdv A outer s H vs Q E hr h => ?_)
  · obtain ⟨j1, j2, rfl, _⟩ := h
    rfl
  obtain ⟨j1, j2, rfl, j12, hj1, hj2, q⟩ := h
  have hu := hr.units
  have DR' := DR.mono (show 3 ≤ 7 by decide)
  have WR' := WR.mono (show 1 ≤ 7 by decide)
  have TX' := TX.mono (show 2 ≤ 7 by decide)
  have RE' := RE.mono (show 5 ≤ 7 by decide)
  have SP' := SP.mono (show 2 ≤ 7 by decide)
  have WG' := WG.mono (show 3 ≤ 7 by decide)
  refine ⟨_, pss_cons (ps_set (i := 2) scHeld.nd rfl (.inl rfl) (pe_call DR' hr rfl m1 k1 b1 .nil pass0 (pa_cons (pv 0) pa_nil)))
    (pss_cons (ps_set (i := 3) scHeld.nd rfl (.inl rfl) (pe_call WR' hr rfl m2 k2 b2 .nil pass0 (pa_cons (pv 2) pa_nil)))
    (pss_cons (ps_set (i := 4) scHeld.nd rfl (.inl rfl) (pe_tup (pa_cons (pe_ix ix_tup (pv 2) pe_int (fun _ _ => rfl)) (pa_cons (pe_callTy call_tuple_of rfl mt (by decide +kernel) (pa_cons
        (pe_lc (own := [("some", 11)]) (g := gName 11) (tt := tYes) rfl scHeld.nd (pi_tup (pe_ix ix_tup (pv 2) pe_int (fun _ _ => rfl))) (blkOk_by (N := ["tables", "bends", "table", "text", "handed", "told", "other", "found", "row", "e", "wanted", "some"]) (sc := defScope lHeld) (by decide +kernel)) (fun _ _ _ _ _ => pg_name (i := 11) scHeld.nd rfl (Or.inl rfl)) (fun _ _ _ _ _ => pts_nil)
          (fun _ _ _ _ _ => pe_callTy call_dictD rfl md (by decide +kernel) (pa_cons (pv 11) pa_nil))) pa_nil)) pa_nil))))
    (pss_cons (ps_if (PW.pt (pw_or (pt_not (pt_val (pe_call AL hr rfl m4 k4 b4 .nil pass0 (pa_cons (pe_call TX' hr rfl m3 k3 b3 .nil pass0 (pa_cons (pv 4) pa_nil)) (pa_cons (pv 3) pa_nil)))))
        (pw_or1 (pt_not (pt_val (pe_call AL hr rfl m4 k4 b4 .nil pass0 (pa_cons (pv 4) (pa_cons (pv 2) pa_nil)))))))) (pss_one (ps_ret pe_bl)) pss_nil)
    (pss_cons (ps_set (i := 5) scHeld.nd rfl (.inl rfl) (pe_call RE' hr rfl m5 k5 b5 .nil passF (pa_cons (pv 3) pa_nil)))
    (pss_cons (ps_if (pt_not (pt_val (pe_call AL hr rfl m4 k4 b4 .nil pass0 (pa_cons (pv 5) (pa_cons (pv 2) pa_nil))))) (pss_one (ps_ret pe_bl)) pss_nil)
    (pss_cons (ps_dput (Nat.lt_of_le_of_lt (Nat.add_le_add_left (by decide : 1 ≤ 64) _) hu) (pe_ix ix_tup (pe_ix ix_tup (pv 5) pe_int (fun _ _ => rfl)) pe_int (fun _ _ => rfl)) pe_str (pe_tup (pa_cons pe_str pa_nil)) rfl)
    (pss_cons (ps_if (pt_not (pt_val (pe_call AL hr rfl m4 k4 b4 .nil pass0 (pa_cons (pe_call RE' hr rfl m5 k5 b5 .nil passF (pa_cons (pv 3) pa_nil)) (pa_cons (pv 2) pa_nil))))) (pss_one (ps_ret pe_bl)) pss_nil)
    (pss_cons (ps_set (i := 6) scHeld.nd rfl (.inl rfl) (pe_call SP' hr rfl m6 k6 b6 .nil pass0 (pa_cons (pv 1) (pa_cons (pe_call SP' hr rfl m6 k6 b6 .nil pass0 (pa_cons (pv 1) (pa_cons (pv 3) pa_nil))) pa_nil))))
    (pss_cons (ps_set (i := 7) scHeld.nd rfl (.inl rfl) pe_non)
    (pss_cons (ps_set (i := 8) scHeld.nd rfl (.inl rfl) pe_non)
    (pss_cons (ps_try_as (i := 9) (Wout := fun _ _ _ _ => False) rfl rfl scHeld.nd rfl rfl ⟨rfl, by decide, Or.inl mC⟩ takes0
      (fun W pn xe tk _ => pss_one (ps_set (i := 7) scHeld.nd rfl (Or.inl rfl) (pe_callS RE' hr rfl m5 k5 b5 (fun σ => passAt tk σ) (pa_cons (pv 6) pa_nil))))
      (fun a oe cls d pn hz hf => pss_one (ps_set (i := 8) scHeld.nd rfl (.inl rfl) (pe_ifExp (pt_val (pe_callB (show CallR _ (.builtin "isinstance") (rIsC K a cls d) from call_isC hz hf) rfl mi (by decide +kernel) (pa_cons (pv 9) (pa_cons (pe_glob rfl mY (show RelV (.ref CY) (.ref CY) from rfl)) pa_nil))))
        (pe_xf XT no hz hf (pv 9)) (pe_un un_neg pe_int)))))
    (pss_cons (ps_set (i := 10) scHeld.nd rfl (.inl rfl) (pe_call WG' hr rfl m7 k7 b7 .nil pass0 (pa_cons (pv 6) pa_nil)))
    (pss_cons (ps_if (pt_cmpR op_notN (pv 10) pe_non (nomark _)) (pss_one (ps_ret (pe_call AL hr rfl m4 k4 b4 .nil pass0 (pa_cons (pv 8) (pa_cons (pv 10) pa_nil))))) pss_nil)
    (pss_one (ps_ret (pe_and (pe_cmpR op_isN (pv 8) pe_non (nomark _)) (pe_one (pe_call AL hr rfl m4 k4 b4 .nil pass0 (pa_cons (pe_call TX' hr rfl m3 k3 b3 .nil pass0 (pa_cons (pv 7) pa_nil)) (pa_cons (pv 6) pa_nil)))))))))))))))))))), ?_⟩
  refine ⟨_, rfl, j1, 20000, rfl, hj1, by omega, fun v T H1 rt vt sm n0 lT jr1 kp1 => ?_⟩
  obtain ⟨sz, tl, tw, rd, few, fews⟩ := drawn_text vt sm n0 lT
  have vts := vt_sort vt
  have lTs := sort_len T
  have txT : Tx (textT (sortT T)) := ⟨by omega, tw⟩
  have jr2 : Jar j2 H1 20000 := by
    obtain ⟨x, y, z, e, h⟩ := hj2
    exact ⟨x, y, z, kp1 _ _ (Ne.symm j12) e, h⟩
  refine ⟨_, rfl, v, T, rfl, rt, vt, sz, by omega, fun H2 s2 => ?_⟩
  generalize ett : textT (sortT T) = tt at *
  have rt2 := rt.same s2
  obtain ⟨a, b, c, xs, ys, rfl, ha, hb, hc, px, py⟩ := rt2
  have ly := Paired.length py
  have rt2 : RTab H2 (.ref a) T := ⟨a, b, c, xs, ys, rfl, ha, hb, hc, px, py⟩
  refine ⟨_, rfl, a, _, _, _, rfl, rfl, SqT.of ha, at0, _, rfl, a, _, _, _, rfl, rfl, SqT.of ha, at1, c, rfl, ⟨_, SqT.of hc⟩, fun D hD => ?_⟩
  refine lc_tup (xs := ys) (fun i H' => ∃ zs : List V, Acc H2 D zs H' ∧ zs.length = i ∧ Paired (RDs H') zs (T.take i)) ⟨[], .nil hD, rfl, .nil⟩ (fun i H' _ p => ?_) (fun i y H' hy p => ?_) (fun H3 p => ?_)
  · obtain ⟨zs, A, _⟩ := p
    exact SqT.of (A.1 _ _ hc)
  · obtain ⟨zs, A, lz, pz⟩ := p
    have hi := (List.getElem?_eq_some_iff.mp hy).1
    obtain ⟨st, est, q0, kvs, rfl, e0, pk⟩ := paired_get py i y hy
    refine ⟨rfl, ?_⟩
    simp only [tYes, ↓reduceIte]
    refine ⟨_, rfl, q0, kvs, rfl, .inl (A.1 _ _ e0), fun p hp => ?_⟩
    have sp := same_new hp (.dK kvs)
    have As := A.same sp
    have kt := Kt.lst (o := .lst (zs ++ [.ref p])) As.2
    refine ⟨_, As.2, by rw [sizeLine_eq]; omega, zs ++ [.ref p], As.push hD (.ref p), by rw [List.length_append, lz]; rfl, ?_⟩
    rw [List.take_add_one, est, Option.toList_some]
    refine paired_snoc (paired_imp (fun _ _ r => (r.same sp).kt kt) pz) ?_
    exact ⟨p, kvs, rfl, kt.2 _ _ upd_same, paired_imp (fun _ _ r => (r.same (A.1.trans sp)).tk kt.1) pk⟩
  obtain ⟨zs, A, lz, pz⟩ := p
  rw [ly, List.take_length] at pz
  refine ⟨D, _, rfl, .inl ⟨SqL.of A.2, fun c1 hc1 => ⟨by show 2 ≤ sizeLine; decide, fun hh hhh => ?_⟩⟩⟩
  have u1 := same_new hc1 (.tup zs)
  have u2 := same_new hhh (.tup [.ref b, .ref c1])
  have u12 := u1.trans u2
  have s4 : Same H2 _ := A.1.trans u12
  have rth : RTab (upd (upd H3 c1 (.tup zs)) hh (.tup [.ref b, .ref c1])) (.ref hh) T := ⟨hh, b, c1, xs, zs, rfl, upd_same, s4 _ _ hb, u2 _ _ upd_same, paired_imp (fun _ _ r => r.same s4) px, paired_imp (fun _ _ r => r.same u12) pz⟩
  have rt4 := rt2.same s4
  have s04 := s2.trans s4
  generalize (upd (upd H3 c1 (.tup zs)) hh (.tup [.ref b, .ref c1])) = H4 at *
  refine ⟨_, rfl, .ref hh, T, rfl, rth, vt, sz, by omega, fun H5 s5 => ?_⟩
  rw [ett]
  refine ⟨_, rfl, .str tt, .str tt, rfl, .inl (.inl ⟨_, rfl, rfl⟩), fun H6 s6 => ⟨_, rfl, iteF ?_⟩⟩
  have s46 := s5.trans s6
  refine ⟨_, rfl, _, rfl, .ref hh, .ref a, rfl, tab_alk (rth.same s46) (rt4.same s46) (sta_refl T) vt vt few, fun H7 s7 => ⟨_, rfl, iteF ?_⟩⟩
  have s47 := s46.trans s7
  have rt7 := rt4.same s47
  have s07 := s04.trans s47
  refine ⟨_, rfl, tt, rfl, txT, by omega, fun S eS told H8 s8 rt8 nd => ?_, fun n en => by rw [rd] at en; cases en⟩
  have eS' : S = sortT T := by rw [rd] at eS; exact (Sum.inl.inj eS).symm
  subst eS'
  refine ⟨_, rfl, _, rfl, told, .ref a, rfl, tab_alk rt8 (rt7.same s8) (sta_sort T) vts vt fews, fun H9 s9 => ⟨_, rfl, iteF ?_⟩⟩
  have s79 := s8.trans s9
  obtain ⟨a', b', c', xs', ys', rfl, ha', hb', hc', px', py'⟩ := rt8
  have ly' := Paired.length py'
  refine ⟨by show 1 ≤ sizeLine; decide, fun dn hdn => ?_⟩
  have u3 := same_new hdn (.tup [.str "done"])
  have s9d := s9.trans u3
  cases ys' with
  | nil =>
    rw [lTs] at ly'
    exact absurd (List.length_eq_zero_iff.mp ly'.symm) n0
  | cons y0 yr =>
  cases eT : sortT T with
  | nil => rw [eT] at ly'; simp at ly'
  | cons st0 Tr =>
  have py2 := py'
  rw [eT] at py2
  cases py2 with
  | cons r0 rr =>
  obtain ⟨q0, kvs0, rfl, e0, pk0⟩ := r0
  have n7 : H7 q0 = none := nd a' b' c' _ rfl ha' hc' q0 (by simp)
  have lk0 := Paired.length pk0
  have lf0 := (fews.2 st0 (by rw [eT]; simp)).2.1
  refine ⟨_, rfl, a', _, _, _, rfl, rfl, SqT.of (s9d _ _ ha'), at1, c', _, _, _, rfl, rfl, SqT.of (s9d _ _ hc'), at0, q0, _, rfl, DPut.k (k := Sum.inr "zz") (s9d _ _ e0) (by rw [sizeLine_eq]; omega), ?_⟩
  have s7A := same_upd (o := .dK (putK kvs0 (Sum.inr "zz" : Key) (.ref dn))) (s79.trans u3) n7
  generalize upd (upd H9 dn (.tup [.str "done"])) q0 (.dK (putK kvs0 (Sum.inr "zz" : Key) (.ref dn))) = HA at s7A
  have rtA := rt7.same s7A
  refine ⟨_, rfl, tt, rfl, txT, by omega, fun S2 eS2 told2 H10 s10 rt10 _ => ?_, fun n en => by rw [rd] at en; cases en⟩
  have eS2' : S2 = sortT T := by rw [rd] at eS2; exact (Sum.inl.inj eS2).symm
  subst eS2'
  refine ⟨_, rfl, told2, .ref a, rfl, tab_alk rt10 (rtA.same s10) (sta_sort T) vts vt fews, fun H11 s11 => ⟨_, rfl, iteF ?_⟩⟩
  have sB : Same H1 H11 := s07.trans (s7A.trans (s10.trans s11))
  refine ⟨_, rfl, _, rfl, _, rfl, j2, 20000, tt, rfl, jr2.keep sB, by omega, txT, by omega, fun y H12 ty ly2 jr12 k12 => ?_⟩
  refine ⟨j2, _, y, rfl, jr12, by omega, ty, by omega, fun z H13 tz lz2 jr13 k13 => ?_⟩
  have fin : ∀ H', Same H13 H' → Q (.bl true) H' := fun H' s' => q H' fun c o n1 n2 e => s' _ _ (k13 _ _ n2 (k12 _ _ n2 (sB _ _ (kp1 _ _ n1 e))))
  have wr := wrong_read z
  refine ⟨_, rfl, z, rfl, tz, by omega, fun S3 eS3 v3 H14 s14 rt14 _ => ?_, fun n en dd H14 hdd s14 e14 => ?_⟩
  · obtain ⟨t1, t2, t3, t4⟩ := text_read eS3
    have zz := sz_read eS3 (by omega)
    have sid := sortT_id t4
    rw [eS3] at wr
    refine ⟨_, rfl, z, rfl, tz, by omega, fun H15 s15 => ?_⟩
    rw [wr]
    refine ⟨_, rfl, rfl, _, rfl, ite2 (fun h => absurd h (by simp [badOf, optN])) (fun _ => ?_)⟩
    refine ⟨_, rfl, rfl, _, rfl, iteT ?_⟩
    have l3 : S3.length ≤ 100000 := by
      have h1 : ∀ (R : Table) (k : Nat), R.length ≤ (rowsFrom k R).length := fun R => by
        induction R with
        | nil => intro k; exact Nat.zero_le _
        | cons st R ih =>
          intro k
          have := ih (k + 1)
          show _ ≤ (stateRows k st ++ rowsFrom (k + 1) R).length
          have e : (stateRows k st).length = 1 + st.1.length + st.2.length := by
            unfold stateRows
            simp only [List.length_append, List.length_cons, List.length_map]; omega
          rw [List.length_append, List.length_cons]; omega
      have := h1 S3 0
      unfold Sz at zz
      omega
    refine ⟨_, rfl, v3, S3, rfl, rt14.same s15, t3, by rw [sid]; exact zz, l3, fun H16 s16 => ?_⟩
    rw [sid, t1]
    exact ⟨_, rfl, .str z, .str z, rfl, .inl (.inl ⟨_, rfl, rfl⟩), fun H17 s17 => fin _ (s14.trans (s15.trans (s16.trans s17)))⟩
  · refine ⟨true, te, fun _ ea hea => ?_, fun z => Bool.noConfusion z⟩
    refine ⟨_, rfl, .ref CY, .ref CY, true, C, dd, _, rfl, fun u hu => hu, rfl, rfl, e14, E1, kY, _, rfl, iteT ?_⟩
    refine ⟨_, rfl, rfl, rfl, dd, _, .int (n : Nat), rfl, e14, rfl, ?_⟩
    rw [en] at wr
    refine ⟨_, rfl, z, rfl, tz, by omega, fun H15 s15 => ?_⟩
    rw [wr]
    refine ⟨_, rfl, rfl, _, rfl, ite2 (fun _ => ?_) (fun h => absurd h (by simp [badOf, optN]))⟩
    exact ⟨_, rfl, _, rfl, .int (n : Nat), .int (n : Nat), rfl, .inl (.inr ⟨_, rfl, rfl⟩), fun H16 s16 => fin _ (s14.trans (s15.trans s16))⟩
theorem ok_law (F : Fun K "law" "law" lLaw f fd)
    (GC : FnOk P w K mg base CX0 1 a1 d1 ["script", "k"] (spCell K)) (bC : Binds K d1 ["script", "k"] []) (kC : PySem.W.keepIn K (.ref a1) = true) (mC : mg "_law_cell" = some (.ref a1))
    (GW : FnOk P w K mg base CX0 1 a2 d2 ["cell", "place"] spWell) (bW : Binds K d2 ["cell", "place"] []) (kW : PySem.W.keepIn K (.ref a2) = true) (mW : mg "_law_well" = some (.ref a2))
    (GH : FnOk P w K mg base CX0 8 a3 d3 ["tables", "bends"] spHeld) (bH : Binds K d3 ["tables", "bends"] []) (kH : PySem.W.keepIn K (.ref a3) = true) (mH : mg "_law_held" = some (.ref a3))
    (mr : mg "range" = none) (mx : mg "max" = none) (mn : mg "min" = none) (ml : mg "len" = none) : FnOk P w K mg base CX0 9 f fd ["script"] (spLaw K) := by
  refine F.ok scLaw (fun vs H Q E h => ?_) (fun cdv A outer s H vs Q E hr h => ?_)
  · obtain ⟨a, ns, rfl, _⟩ := h
    rfl
  obtain ⟨a, ns, rfl, hS, h63, q⟩ := h
  have GC' := GC.mono (show 1 ≤ 8 by decide)
  have GW' := GW.mono (show 1 ≤ 8 by decide)
  refine ⟨_, pss_cons (ps_for PassesOwn.never rfl (pi_range1 rfl mr (pa_cons (pe_callB (call_max2 rfl) rfl mx (by decide +kernel) (pa_cons pe_int (pa_cons (pe_callB (call_min2 rfl) rfl mn (by decide +kernel) (pa_cons (pe_op op_fdivN (pe_op op_add (pe_callB call_len_seq rfl ml PySem.boot_len (pa_cons (pv 0) pa_nil)) pe_int) pe_int) (pa_cons pe_int pa_nil))) pa_nil))) pa_nil)) (pg_name (i := 1) scLaw.nd rfl (Or.inl rfl))
      (pss_cons (ps_set (i := 2) scLaw.nd rfl (.inl rfl) (pe_call GW' hr rfl mW kW bW .nil pass0 (pa_cons (pe_call GC' hr rfl mC kC bC .nil pass0 (pa_cons (pv 0) (pa_cons (pe_op op_mul pe_int (pv 1)) pa_nil))) (pa_cons (pe_op op_mul pe_int (pv 1)) pa_nil))))
      (pss_cons (ps_set (i := 3) scLaw.nd rfl (.inl rfl) (pe_call GW' hr rfl mW kW bW .nil pass0 (pa_cons (pe_call GC' hr rfl mC kC bC .nil pass0 (pa_cons (pv 0) (pa_cons (pe_op op_add (pe_op op_mul pe_int (pv 1)) pe_int) pa_nil))) (pa_cons (pe_op op_add (pe_op op_mul pe_int (pv 1)) pe_int) pa_nil))))
      (pss_one (ps_if (pt_not (pt_val (pe_call GH hr rfl mH kH bH .nil pass0 (pa_cons (pv 2) (pa_cons (pv 3) pa_nil))))) (pss_one (ps_ret pe_bl)) pss_nil)))))
    (pss_one (ps_ret pe_bl)), ?_⟩
  generalize hL : ((((ns.map V.int).length : Nat) : Int) + 1).fdiv 2 = L
  have hm : ∃ m : Int, m = (if (if (12 : Int) < L then (12 : Int) else L) > 1 then (if (12 : Int) < L then (12 : Int) else L) else 1) ∧ 0 ≤ m ∧ m ≤ 30 := by
    refine ⟨_, rfl, ?_, ?_⟩ <;> split <;> (try split) <;> omega
  obtain ⟨m, hm, m0, m30⟩ := hm
  subst hL
  refine ⟨_, rfl, a, _, rfl, .inl hS, _, _, rfl, rfl, _, _, rfl, rfl, ⟨by decide, by decide⟩, ?_⟩
  refine ⟨_, _, rfl, _, _, rfl, m, congrArg (fun z => [V.int z]) hm.symm, by omega, by omega, ?_⟩
  refine for_range (lo := 0) (n := m.toNat) (fun i σ H' => (∃ x1 x2 x3, σ = [some (.ref a), x1, x2, x3]) ∧ SqL K H' a (ns.map V.int)) ⟨⟨_, _, _, rfl⟩, hS⟩ (fun i σ H0 hi p => ?turn) (fun σ H0 p => q _)
  obtain ⟨⟨x1, x2, x3, rfl⟩, hS0⟩ := p
  refine ⟨_, rfl, _, rfl, _, _, rfl, rfl, .inl ⟨by decide, by decide⟩, a, ns, _, rfl, hS0, by rw [sizeLine_eq]; omega, by omega, fun z => ?_⟩
  refine ⟨_, rfl, _, _, rfl, rfl, .inl ⟨by decide, by decide⟩, z, _, rfl, by omega, by omega, fun j1 H1 hj1 s1 jr1 => ?_⟩
  have hS1 : SqL K H1 a (ns.map V.int) := s1.seq hS0
  refine ⟨_, rfl, _, rfl, _, _, rfl, rfl, .inl ⟨by decide, by decide⟩, _, _, rfl, rfl, a, ns, _, rfl, hS1, by rw [sizeLine_eq]; omega, by omega, fun z2 => ?_⟩
  refine ⟨_, rfl, _, _, rfl, rfl, .inl ⟨by decide, by decide⟩, _, _, rfl, rfl, z2, _, rfl, by omega, by omega, fun j2 H2 hj2 s2 jr2 => ?_⟩
  have j12 : j1 ≠ j2 := fun e => by rw [e] at jr1; exact jr1.some hj2
  refine ⟨_, rfl, _, rfl, j1, j2, rfl, j12, jr1.keep s2, jr2, fun H3 k3 => ⟨_, rfl, iteF ?_⟩⟩
  have n2 : H0 j2 = none := by
    cases e : H0 j2 with
    | none => rfl
    | some o => rw [s1 _ _ e] at hj2; cases hj2
  exact ⟨⟨_, _, _, rfl⟩, (show Same H0 H3 from fun b o e => k3 b o (ne_of_none e hj1) (ne_of_none e n2) (s2 b o (s1 b o e))).seq hS0⟩
end
end Ka
namespace Ka
open PySem PySem.Spec PyProof.Rows L2 Ty
theorem kept_at {K : PySem.W.Frag} {d : Addr} {dd : Option Addr} {its : Array Value} {n : Nat} {sl : Array (Option Value)} {t0 t1 t2 t3 t4 : Tok} (hl : K.lookup d = some ⟨.type "tuple", dd, .seq its n, sl⟩)
    (he : its.toList = [.str "word" t0, .str "skip" t1, .str "rule" t2, .str "top" t3, .str "bar" t4]) (H : Hp) : SqT K H d (kept.map V.str) := by
  refine .inr ⟨_, its, n, hl, rfl, rfl, ?_, ?_⟩
  · have : its.toList.length = 5 := by rw [he]; rfl
    have e : its.toList.length = its.size := Array.length_toList
    rw [sizeLine_eq]; omega
  · rw [he]
    exact .cons ⟨_, rfl⟩ (.cons ⟨_, rfl⟩ (.cons ⟨_, rfl⟩ (.cons ⟨_, rfl⟩ (.cons ⟨_, rfl⟩ .nil))))
theorem all_mk {l : PySem.W.OpenLaw} {w : World} {K : PySem.W.Frag} {h : Heap} {mg : Str → Option Value} {fa f1 f2 f3 f4 f5 f6 f7 f8 f9 f10 f11 f12 f13 f14 f15 f16 f17 f18 f19 f20 f21 f22 f23 f24 CY C fC dP : Addr} (X : K.In h) (G : h.Ns mainGlobals mg) (hfa : mg "law" = some (.ref fa))
    {nmC qC : Str} {NNC : Addr} {bsC : List Value} {snC : List Str} {subC : List Value} {abC : Bool} {colC : Option Bool} {ddC : Option Addr} {kx0C kx1C kx2C kx3C kx5C : Option Value} {odIC anIC : Option Addr} {slIC : Array (Option Value)} {ocIC dcIC pmIC kVIC cdIC ctIC : Value}
    {od1 an1 od2 an2 od3 an3 od4 an4 od5 an5 od6 an6 od7 an7 od8 an8 od9 an9 od10 an10 od11 an11 od12 an12 od13 an13 od14 an14 od15 an15 od16 an16 od17 an17 od18 an18 od19 an19 od20 an20 od21 an21 od22 an22 od23 an23 od24 an24 : Option Addr} {sl1 sl2 sl3 sl4 sl5 sl6 sl7 sl8 sl9 sl10 sl11 sl12 sl13 sl14 sl15 sl16 sl17 sl18 sl19 sl20 sl21 sl22 sl23 sl24 : Array (Option Value)} {oc1 kV1 dc1 pm1 cd1 ct1 oc2 kV2 dc2 pm2 cd2 ct2 oc3 kV3 dc3 pm3 cd3 ct3 oc4 kV4 dc4 pm4 cd4 ct4 oc5 kV5 dc5 pm5 cd5 ct5 oc6 kV6 dc6 pm6 cd6 ct6 oc7 kV7 dc7 pm7 cd7 ct7 oc8 kV8 dc8 pm8 cd8 ct8 oc9 kV9 dc9 pm9 cd9 ct9 oc10 kV10 dc10 pm10 cd10 ct10 oc11 kV11 dc11 pm11 cd11 ct11 oc12 kV12 dc12 pm12 cd12 ct12 oc13 kV13 dc13 pm13 cd13 ct13 oc14 kV14 dc14 pm14 cd14 ct14 oc15 kV15 dc15 pm15 cd15 ct15 oc16 kV16 dc16 pm16 cd16 ct16 oc17 kV17 dc17 pm17 cd17 ct17 oc18 kV18 dc18 pm18 cd18 ct18 oc19 kV19 dc19 pm19 cd19 ct19 oc20 kV20 dc20 pm20 cd20 ct20 oc21 kV21 dc21 pm21 cd21 ct21 oc22 kV22 dc22 pm22 cd22 ct22 oc23 kV23 dc23 pm23 cd23 ct23 oc24 kV24 dc24 pm24 cd24 ct24 : Value}
    {tL : Tok} {zL : Str}
    {tN : Tok}
    {ddP : Option Addr} {itsP : Array Value} {nP : Nat} {slP : Array (Option Value)} {tP0 tP1 tP2 tP3 tP4 : Tok}
    {tE : Tok} {zE : Str}
    {tU : Tok} {zU : Str}
    (a1 : PySem.W.nsIn K mainGlobals "is_name" = some (some (.ref f1)))
    (l1 : K.lookup f1 = some ⟨oc1, od1, .func (PySem.W.fnOf "is_name" "is_name" (defArgs sName) (defBody sName) (defScope sName) .none kV1 dc1 pm1 an1 cd1 ct1), sl1⟩)
    (c1 : PySem.W.codeIn K cd1 "is_name" = true)
    (k1 : PySem.W.keepIn K (.ref f1) = true)
    (a2 : PySem.W.nsIn K mainGlobals "shown_deed" = some (some (.ref f2)))
    (l2 : K.lookup f2 = some ⟨oc2, od2, .func (PySem.W.fnOf "shown_deed" "shown_deed" (defArgs sShown) (defBody sShown) (defScope sShown) .none kV2 dc2 pm2 an2 cd2 ct2), sl2⟩)
    (c2 : PySem.W.codeIn K cd2 "shown_deed" = true)
    (k2 : PySem.W.keepIn K (.ref f2) = true)
    (a3 : PySem.W.nsIn K mainGlobals "table_text" = some (some (.ref f3)))
    (l3 : K.lookup f3 = some ⟨oc3, od3, .func (PySem.W.fnOf "table_text" "table_text" (defArgs sText) (defBody sText) (defScope sText) .none kV3 dc3 pm3 an3 cd3 ct3), sl3⟩)
    (c3 : PySem.W.codeIn K cd3 "table_text" = true)
    (k3 : PySem.W.keepIn K (.ref f3) = true)
    (a4 : PySem.W.nsIn K mainGlobals "is_mark" = some (some (.ref f4)))
    (l4 : K.lookup f4 = some ⟨oc4, od4, .func (PySem.W.fnOf "is_mark" "is_mark" (defArgs sMark) (defBody sMark) (defScope sMark) .none kV4 dc4 pm4 an4 cd4 ct4), sl4⟩)
    (c4 : PySem.W.codeIn K cd4 "is_mark" = true)
    (k4 : PySem.W.keepIn K (.ref f4) = true)
    (a5 : PySem.W.nsIn K mainGlobals "is_number" = some (some (.ref f5)))
    (l5 : K.lookup f5 = some ⟨oc5, od5, .func (PySem.W.fnOf "is_number" "is_number" (defArgs sNumber) (defBody sNumber) (defScope sNumber) .none kV5 dc5 pm5 an5 cd5 ct5), sl5⟩)
    (c5 : PySem.W.codeIn K cd5 "is_number" = true)
    (k5 : PySem.W.keepIn K (.ref f5) = true)
    (a6 : PySem.W.nsIn K mainGlobals "item_of" = some (some (.ref f6)))
    (l6 : K.lookup f6 = some ⟨oc6, od6, .func (PySem.W.fnOf "item_of" "item_of" (defArgs sItem) (defBody sItem) (defScope sItem) .none kV6 dc6 pm6 an6 cd6 ct6), sl6⟩)
    (c6 : PySem.W.codeIn K cd6 "item_of" = true)
    (k6 : PySem.W.keepIn K (.ref f6) = true)
    (a7 : PySem.W.nsIn K mainGlobals "deed_of" = some (some (.ref f7)))
    (l7 : K.lookup f7 = some ⟨oc7, od7, .func (PySem.W.fnOf "deed_of" "deed_of" (defArgs sDeed) (defBody sDeed) (defScope sDeed) .none kV7 dc7 pm7 an7 cd7 ct7), sl7⟩)
    (c7 : PySem.W.codeIn K cd7 "deed_of" = true)
    (k7 : PySem.W.keepIn K (.ref f7) = true)
    (a8 : PySem.W.nsIn K mainGlobals "take_row" = some (some (.ref f8)))
    (l8 : K.lookup f8 = some ⟨oc8, od8, .func (PySem.W.fnOf "take_row" "take_row" (defArgs sRow) (defBody sRow) (defScope sRow) .none kV8 dc8 pm8 an8 cd8 ct8), sl8⟩)
    (c8 : PySem.W.codeIn K cd8 "take_row" = true)
    (k8 : PySem.W.keepIn K (.ref f8) = true)
    (a9 : PySem.W.nsIn K mainGlobals "read_table" = some (some (.ref f9)))
    (l9 : K.lookup f9 = some ⟨oc9, od9, .func (PySem.W.fnOf "read_table" "read_table" (defArgs sRead) (defBody sRead) (defScope sRead) .none kV9 dc9 pm9 an9 cd9 ct9), sl9⟩)
    (c9 : PySem.W.codeIn K cd9 "read_table" = true)
    (k9 : PySem.W.keepIn K (.ref f9) = true)
    (a10 : PySem.W.nsIn K mainGlobals "_law_cell" = some (some (.ref f10)))
    (l10 : K.lookup f10 = some ⟨oc10, od10, .func (PySem.W.fnOf "_law_cell" "_law_cell" (defArgs lCell) (defBody lCell) (defScope lCell) .none kV10 dc10 pm10 an10 cd10 ct10), sl10⟩)
    (c10 : PySem.W.codeIn K cd10 "_law_cell" = true)
    (k10 : PySem.W.keepIn K (.ref f10) = true)
    (a11 : PySem.W.nsIn K mainGlobals "_law_well" = some (some (.ref f11)))
    (l11 : K.lookup f11 = some ⟨oc11, od11, .func (PySem.W.fnOf "_law_well" "_law_well" (defArgs lWell) (defBody lWell) (defScope lWell) .none kV11 dc11 pm11 an11 cd11 ct11), sl11⟩)
    (c11 : PySem.W.codeIn K cd11 "_law_well" = true)
    (k11 : PySem.W.keepIn K (.ref f11) = true)
    (a12 : PySem.W.nsIn K mainGlobals "_law_dip" = some (some (.ref f12)))
    (l12 : K.lookup f12 = some ⟨oc12, od12, .func (PySem.W.fnOf "_law_dip" "_law_dip" (defArgs lDip) (defBody lDip) (defScope lDip) .none kV12 dc12 pm12 an12 cd12 ct12), sl12⟩)
    (c12 : PySem.W.codeIn K cd12 "_law_dip" = true)
    (k12 : PySem.W.keepIn K (.ref f12) = true)
    (a13 : PySem.W.nsIn K mainGlobals "_law_mark" = some (some (.ref f13)))
    (l13 : K.lookup f13 = some ⟨oc13, od13, .func (PySem.W.fnOf "_law_mark" "_law_mark" (defArgs lMark) (defBody lMark) (defScope lMark) .none kV13 dc13 pm13 an13 cd13 ct13), sl13⟩)
    (c13 : PySem.W.codeIn K cd13 "_law_mark" = true)
    (k13 : PySem.W.keepIn K (.ref f13) = true)
    (a14 : PySem.W.nsIn K mainGlobals "_law_number" = some (some (.ref f14)))
    (l14 : K.lookup f14 = some ⟨oc14, od14, .func (PySem.W.fnOf "_law_number" "_law_number" (defArgs lNumber) (defBody lNumber) (defScope lNumber) .none kV14 dc14 pm14 an14 cd14 ct14), sl14⟩)
    (c14 : PySem.W.codeIn K cd14 "_law_number" = true)
    (k14 : PySem.W.keepIn K (.ref f14) = true)
    (a15 : PySem.W.nsIn K mainGlobals "_law_drawn" = some (some (.ref f15)))
    (l15 : K.lookup f15 = some ⟨oc15, od15, .func (PySem.W.fnOf "_law_drawn" "_law_drawn" (defArgs lDrawn) (defBody lDrawn) (defScope lDrawn) .none kV15 dc15 pm15 an15 cd15 ct15), sl15⟩)
    (c15 : PySem.W.codeIn K cd15 "_law_drawn" = true)
    (k15 : PySem.W.keepIn K (.ref f15) = true)
    (a16 : PySem.W.nsIn K mainGlobals "_law_written" = some (some (.ref f16)))
    (l16 : K.lookup f16 = some ⟨oc16, od16, .func (PySem.W.fnOf "_law_written" "_law_written" (defArgs lWritten) (defBody lWritten) (defScope lWritten) .none kV16 dc16 pm16 an16 cd16 ct16), sl16⟩)
    (c16 : PySem.W.codeIn K cd16 "_law_written" = true)
    (k16 : PySem.W.keepIn K (.ref f16) = true)
    (a17 : PySem.W.nsIn K mainGlobals "_law_is_mark" = some (some (.ref f17)))
    (l17 : K.lookup f17 = some ⟨oc17, od17, .func (PySem.W.fnOf "_law_is_mark" "_law_is_mark" (defArgs lIsMark) (defBody lIsMark) (defScope lIsMark) .none kV17 dc17 pm17 an17 cd17 ct17), sl17⟩)
    (c17 : PySem.W.codeIn K cd17 "_law_is_mark" = true)
    (k17 : PySem.W.keepIn K (.ref f17) = true)
    (a18 : PySem.W.nsIn K mainGlobals "_law_is_number" = some (some (.ref f18)))
    (l18 : K.lookup f18 = some ⟨oc18, od18, .func (PySem.W.fnOf "_law_is_number" "_law_is_number" (defArgs lIsNumber) (defBody lIsNumber) (defScope lIsNumber) .none kV18 dc18 pm18 an18 cd18 ct18), sl18⟩)
    (c18 : PySem.W.codeIn K cd18 "_law_is_number" = true)
    (k18 : PySem.W.keepIn K (.ref f18) = true)
    (a19 : PySem.W.nsIn K mainGlobals "_law_is_deed" = some (some (.ref f19)))
    (l19 : K.lookup f19 = some ⟨oc19, od19, .func (PySem.W.fnOf "_law_is_deed" "_law_is_deed" (defArgs lIsDeed) (defBody lIsDeed) (defScope lIsDeed) .none kV19 dc19 pm19 an19 cd19 ct19), sl19⟩)
    (c19 : PySem.W.codeIn K cd19 "_law_is_deed" = true)
    (k19 : PySem.W.keepIn K (.ref f19) = true)
    (a20 : PySem.W.nsIn K mainGlobals "_law_wrong_row" = some (some (.ref f20)))
    (l20 : K.lookup f20 = some ⟨oc20, od20, .func (PySem.W.fnOf "_law_wrong_row" "_law_wrong_row" (defArgs lWrong) (defBody lWrong) (defScope lWrong) .none kV20 dc20 pm20 an20 cd20 ct20), sl20⟩)
    (c20 : PySem.W.codeIn K cd20 "_law_wrong_row" = true)
    (k20 : PySem.W.keepIn K (.ref f20) = true)
    (a21 : PySem.W.nsIn K mainGlobals "_law_spoilt" = some (some (.ref f21)))
    (l21 : K.lookup f21 = some ⟨oc21, od21, .func (PySem.W.fnOf "_law_spoilt" "_law_spoilt" (defArgs lSpoilt) (defBody lSpoilt) (defScope lSpoilt) .none kV21 dc21 pm21 an21 cd21 ct21), sl21⟩)
    (c21 : PySem.W.codeIn K cd21 "_law_spoilt" = true)
    (k21 : PySem.W.keepIn K (.ref f21) = true)
    (a22 : PySem.W.nsIn K mainGlobals "_law_alike" = some (some (.ref f22)))
    (l22 : K.lookup f22 = some ⟨oc22, od22, .func (PySem.W.fnOf "_law_alike" "_law_alike" (defArgs lAlike) (defBody lAlike) (defScope lAlike) .none kV22 dc22 pm22 an22 cd22 ct22), sl22⟩)
    (c22 : PySem.W.codeIn K cd22 "_law_alike" = true)
    (k22 : PySem.W.keepIn K (.ref f22) = true)
    (a23 : PySem.W.nsIn K mainGlobals "_law_held" = some (some (.ref f23)))
    (l23 : K.lookup f23 = some ⟨oc23, od23, .func (PySem.W.fnOf "_law_held" "_law_held" (defArgs lHeld) (defBody lHeld) (defScope lHeld) .none kV23 dc23 pm23 an23 cd23 ct23), sl23⟩)
    (c23 : PySem.W.codeIn K cd23 "_law_held" = true)
    (k23 : PySem.W.keepIn K (.ref f23) = true)
    (a24 : PySem.W.nsIn K mainGlobals "law" = some (some (.ref f24)))
    (l24 : K.lookup f24 = some ⟨oc24, od24, .func (PySem.W.fnOf "law" "law" (defArgs lLaw) (defBody lLaw) (defScope lLaw) .none kV24 dc24 pm24 an24 cd24 ct24), sl24⟩)
    (c24 : PySem.W.codeIn K cd24 "law" = true)
    (k24 : PySem.W.keepIn K (.ref f24) = true)
    (aY : PySem.W.nsIn K mainGlobals "YardError" = some (some (.ref CY)))
    (rY : PySem.W.readsIn K CY (.type "type") = true)
    (gY : PySem.W.specialIn K (.ref CY) "__getattribute__" = some (some (.builtin "type.__getattribute__")))
    (vY : PySem.W.findCls K (.ref CY) (.type "type") "__init__" = some (.val (.builtin "ValueError.__init__")))
    (yB : PySem.W.subIn K (.ref CY) (.type "BaseException") = some true)
    (yD : PySem.W.hasDictIn K CY = true)
    (yT : PySem.W.typeIn K (.ref CY) = some (.type "type"))
    (aC : PySem.W.nsIn K mainGlobals "NoTable" = some (some (.ref C)))
    (xC : K.lookup C = some (excClassObj nmC qC C NNC bsC [.ref CY, .type "ValueError", .type "Exception", .type "BaseException", .type "object"] true snC subC abC colC ddC kx0C kx1C kx2C kx3C kx5C "ValueError.__new__"))
    (saC : PySem.W.findIn K (.ref C) "__setattr__" = some (some (.builtin "object.__setattr__")))
    (exC : PySem.W.subIn K (.ref C) (.type "BaseException") = some true)
    (tyC : PySem.W.typeIn K (.ref C) = some (.type "type"))
    (kC : PySem.W.keepIn K (.ref C) = true)
    (noC : PySem.W.findIn K (.ref C) "row" = some none)
    (aIC : PySem.W.findIn K (.ref C) "__init__" = some (some (.ref fC)))
    (tIC : PySem.W.typeIn K (.ref fC) = some (.type "function"))
    (lIC : K.lookup fC = some ⟨ocIC, odIC, .func (PySem.W.fnOf "__init__" "NoTable.__init__" (defArgs sInit) (defBody sInit) (defScope sInit) .none kVIC dcIC pmIC anIC cdIC ctIC), slIC⟩)
    (cIC : PySem.W.codeIn K cdIC "NoTable.__init__" = true)
    (kIC : PySem.W.keepIn K (.ref fC) = true)
    (eGC : PySem.W.findIn K (.ref C) "__getattribute__" = some (some (.builtin "BaseException.__getattribute__")))
    (eKC : PySem.W.findIn K (.ref C) "__getattr__" = some none)
    (eDC : PySem.W.hasDictIn K C = true)
    (eAC : PySem.W.findIn K (.ref C) "__class__" = some (some (.builtin "object.__class__")))
    (eMC : PySem.W.mroIn K C (.type "object") = some true)
    (sCYC : PySem.W.subIn K (.ref C) (.ref CY) = some true)
    (sCCC : PySem.W.subIn K (.ref C) (.ref C) = some true)
    (qVC : PySem.W.kitOne K (.ref C) (.type "ValueError") = some true)
    (qYC : PySem.W.kitOne K (.ref C) (.ref CY) = some true)
    (qCC : PySem.W.kitOne K (.ref C) (.ref C) = some true)
    (eN : PySem.W.specialIn K (.builtin "object.__class__") "__get__" = some (some (.builtin "getset_descriptor.__get__")))
    (eT : PySem.W.takesIn K (.builtin "object.__class__") = some true)
    (aL : PySem.W.nsIn K mainGlobals "LETTERS" = some (some (.str zL tL)))
    (eL : zL = lettS)
    (aN : PySem.W.nsIn K mainGlobals "LONGEST" = some (some (.int 8 tN)))
    (aP : PySem.W.nsIn K mainGlobals "KEPT" = some (some (.ref dP)))
    (lP : K.lookup dP = some ⟨.type "tuple", ddP, .seq itsP nP, slP⟩)
    (eP : itsP.toList = [.str "word" tP0, .str "skip" tP1, .str "rule" tP2, .str "top" tP3, .str "bar" tP4])
    (aE : PySem.W.nsIn K mainGlobals "END" = some (some (.str zE tE)))
    (eE : zE = ".")
    (aU : PySem.W.nsIn K mainGlobals "FIGURES" = some (some (.str zU tU)))
    (eU : zU = figS)
    (z_isinstance : PySem.W.nsIn K mainGlobals "isinstance" = some none)
    (z_str : PySem.W.nsIn K mainGlobals "str" = some none)
    (z_all : PySem.W.nsIn K mainGlobals "all" = some none)
    (z_tuple : PySem.W.nsIn K mainGlobals "tuple" = some none)
    (z_len : PySem.W.nsIn K mainGlobals "len" = some none)
    (z_max : PySem.W.nsIn K mainGlobals "max" = some none)
    (z_int : PySem.W.nsIn K mainGlobals "int" = some none)
    (z_range : PySem.W.nsIn K mainGlobals "range" = some none)
    (z_list : PySem.W.nsIn K mainGlobals "list" = some none)
    (z_bool : PySem.W.nsIn K mainGlobals "bool" = some none)
    (z_min : PySem.W.nsIn K mainGlobals "min" = some none)
    (z_enumerate : PySem.W.nsIn K mainGlobals "enumerate" = some none)
    (z_zip : PySem.W.nsIn K mainGlobals "zip" = some none)
    (z_sorted : PySem.W.nsIn K mainGlobals "sorted" = some none)
    (z_dict : PySem.W.nsIn K mainGlobals "dict" = some none)
    : ∃ fd : FuncData, (∀ (s : Shared) (v : Value), BindsTo s fd ⟨[v], []⟩ [("script", v)]) ∧ ∀ base : Heap, K.In base → base.Ns mainGlobals mg → FnOk l.prog w K mg base CX0 9 fa fd ["script"] (spLaw K) := by
  subst eL
  subst eE
  subst eU
  have e := hfa.symm.trans (PySem.W.mg_of X G a24)
  cases e
  have F1 := fun_mk (st := sName) l1 c1 k1
  have b1 := F1.binds (ps := ["thing"]) fun _ _ _ _ _ _ us hl => match us, hl with | [_], _ => rfl
  have m1 := PySem.W.mg_of X G a1
  have F2 := fun_mk (st := sShown) l2 c2 k2
  have b2 := F2.binds (ps := ["deed"]) fun _ _ _ _ _ _ us hl => match us, hl with | [_], _ => rfl
  have m2 := PySem.W.mg_of X G a2
  have F3 := fun_mk (st := sText) l3 c3 k3
  have b3 := F3.binds (ps := ["table"]) fun _ _ _ _ _ _ us hl => match us, hl with | [_], _ => rfl
  have m3 := PySem.W.mg_of X G a3
  have F4 := fun_mk (st := sMark) l4 c4 k4
  have b4 := F4.binds (ps := ["word"]) fun _ _ _ _ _ _ us hl => match us, hl with | [_], _ => rfl
  have m4 := PySem.W.mg_of X G a4
  have F5 := fun_mk (st := sNumber) l5 c5 k5
  have b5 := F5.binds (ps := ["word"]) fun _ _ _ _ _ _ us hl => match us, hl with | [_], _ => rfl
  have m5 := PySem.W.mg_of X G a5
  have F6 := fun_mk (st := sItem) l6 c6 k6
  have b6 := F6.binds (ps := ["words"]) fun _ _ _ _ _ _ us hl => match us, hl with | [_], _ => rfl
  have m6 := PySem.W.mg_of X G a6
  have F7 := fun_mk (st := sDeed) l7 c7 k7
  have b7 := F7.binds (ps := ["words"]) fun _ _ _ _ _ _ us hl => match us, hl with | [_], _ => rfl
  have m7 := PySem.W.mg_of X G a7
  have F8 := fun_mk (st := sRow) l8 c8 k8
  have b8 := F8.binds (ps := ["states", "deeds", "row"]) fun _ _ _ _ _ _ us hl => match us, hl with | [_, _, _], _ => rfl
  have m8 := PySem.W.mg_of X G a8
  have F9 := fun_mk (st := sRead) l9 c9 k9
  have b9 := F9.binds (ps := ["text"]) fun _ _ _ _ _ _ us hl => match us, hl with | [_], _ => rfl
  have m9 := PySem.W.mg_of X G a9
  have F10 := fun_mk (st := lCell) l10 c10 k10
  have b10 := F10.binds (ps := ["script", "k"]) fun _ _ _ _ _ _ us hl => match us, hl with | [_, _], _ => rfl
  have m10 := PySem.W.mg_of X G a10
  have F11 := fun_mk (st := lWell) l11 c11 k11
  have b11 := F11.binds (ps := ["cell", "place"]) fun _ _ _ _ _ _ us hl => match us, hl with | [_, _], _ => rfl
  have m11 := PySem.W.mg_of X G a11
  have F12 := fun_mk (st := lDip) l12 c12 k12
  have b12 := F12.binds (ps := ["well", "many"]) fun _ _ _ _ _ _ us hl => match us, hl with | [_, _], _ => rfl
  have m12 := PySem.W.mg_of X G a12
  have F13 := fun_mk (st := lMark) l13 c13 k13
  have b13 := F13.binds (ps := ["well"]) fun _ _ _ _ _ _ us hl => match us, hl with | [_], _ => rfl
  have m13 := PySem.W.mg_of X G a13
  have F14 := fun_mk (st := lNumber) l14 c14 k14
  have b14 := F14.binds (ps := ["well"]) fun _ _ _ _ _ _ us hl => match us, hl with | [_], _ => rfl
  have m14 := PySem.W.mg_of X G a14
  have F15 := fun_mk (st := lDrawn) l15 c15 k15
  have b15 := F15.binds (ps := ["well"]) fun _ _ _ _ _ _ us hl => match us, hl with | [_], _ => rfl
  have m15 := PySem.W.mg_of X G a15
  have F16 := fun_mk (st := lWritten) l16 c16 k16
  have b16 := F16.binds (ps := ["table"]) fun _ _ _ _ _ _ us hl => match us, hl with | [_], _ => rfl
  have m16 := PySem.W.mg_of X G a16
  have F17 := fun_mk (st := lIsMark) l17 c17 k17
  have b17 := F17.binds (ps := ["word"]) fun _ _ _ _ _ _ us hl => match us, hl with | [_], _ => rfl
  have m17 := PySem.W.mg_of X G a17
  have F18 := fun_mk (st := lIsNumber) l18 c18 k18
  have b18 := F18.binds (ps := ["word"]) fun _ _ _ _ _ _ us hl => match us, hl with | [_], _ => rfl
  have m18 := PySem.W.mg_of X G a18
  have F19 := fun_mk (st := lIsDeed) l19 c19 k19
  have b19 := F19.binds (ps := ["words"]) fun _ _ _ _ _ _ us hl => match us, hl with | [_], _ => rfl
  have m19 := PySem.W.mg_of X G a19
  have F20 := fun_mk (st := lWrong) l20 c20 k20
  have b20 := F20.binds (ps := ["text"]) fun _ _ _ _ _ _ us hl => match us, hl with | [_], _ => rfl
  have m20 := PySem.W.mg_of X G a20
  have F21 := fun_mk (st := lSpoilt) l21 c21 k21
  have b21 := F21.binds (ps := ["well", "text"]) fun _ _ _ _ _ _ us hl => match us, hl with | [_, _], _ => rfl
  have m21 := PySem.W.mg_of X G a21
  have F22 := fun_mk (st := lAlike) l22 c22 k22
  have b22 := F22.binds (ps := ["found", "wanted"]) fun _ _ _ _ _ _ us hl => match us, hl with | [_, _], _ => rfl
  have m22 := PySem.W.mg_of X G a22
  have F23 := fun_mk (st := lHeld) l23 c23 k23
  have b23 := F23.binds (ps := ["tables", "bends"]) fun _ _ _ _ _ _ us hl => match us, hl with | [_, _], _ => rfl
  have m23 := PySem.W.mg_of X G a23
  have F24 := fun_mk (st := lLaw) l24 c24 k24
  have mY := PySem.W.mg_of X G aY
  have FIC := fun_mk (st := sInit) lIC cIC kIC
  have bIC := FIC.binds (ps := ["self", "row"]) fun _ _ _ _ _ _ us hl => match us, hl with | [_, _], _ => rfl
  have mC := PySem.W.mg_of X G aC
  have TC : OexC K C := ⟨⟨nmC, qC, NNC, bsC, _, snC, subC, abC, colC, ddC, kx0C, kx1C, kx2C, kx3C, kx5C, xC, rfl⟩, saC, exC, tyC, kC⟩
  have ECC : ExcC K C := ⟨eGC, eKC, exC, eDC, eAC, eN, eT, eMC⟩
  have XTC : XfC K C := ⟨eGC, eKC, exC, eDC⟩
  have teYC := PySem.W.exm_ref yB yD yT sCYC
  have teCC := PySem.W.exm_ref exC eDC tyC sCCC
  have mL := PySem.W.mg_of X G aL
  have mN := PySem.W.mg_of X G aN
  have mP := PySem.W.mg_of X G aP
  have mE := PySem.W.mg_of X G aE
  have mU := PySem.W.mg_of X G aU
  have y_isinstance := PySem.W.mg_none_of X G z_isinstance
  have y_str := PySem.W.mg_none_of X G z_str
  have y_all := PySem.W.mg_none_of X G z_all
  have y_tuple := PySem.W.mg_none_of X G z_tuple
  have y_len := PySem.W.mg_none_of X G z_len
  have y_max := PySem.W.mg_none_of X G z_max
  have y_int := PySem.W.mg_none_of X G z_int
  have y_range := PySem.W.mg_none_of X G z_range
  have y_list := PySem.W.mg_none_of X G z_list
  have y_bool := PySem.W.mg_none_of X G z_bool
  have y_min := PySem.W.mg_none_of X G z_min
  have y_enumerate := PySem.W.mg_none_of X G z_enumerate
  have y_zip := PySem.W.mg_none_of X G z_zip
  have y_sorted := PySem.W.mg_none_of X G z_sorted
  have y_dict := PySem.W.mg_none_of X G z_dict
  refine ⟨PySem.W.fnOf "law" "law" (defArgs lLaw) (defBody lLaw) (defScope lLaw) .none kV24 dc24 pm24 an24 cd24 ct24, fun s v => .of_eq rfl, fun base _ _ => ?_⟩
  have Oi := ok_init (P := l.prog) (w := w) (base := base) (C := C) FIC mY ⟨rY, gY⟩ vY
  have O1 := ok_name (P := l.prog) (w := w) (base := base) F1 mL mN mP (kept_at lP eP) y_isinstance y_str y_len y_all
  have O2 := ok_shown (P := l.prog) (w := w) (mg := mg) (base := base) F2 y_str
  have O3 := ok_text F3 O2 b2 k2 m2 y_enumerate y_zip y_str y_list y_sorted
  have O4 := ok_mark F4 O1 b1 k1 m1 mE
  have O5 := ok_number (P := l.prog) (w := w) (base := base) F5 mU y_len y_all
  have O6 := ok_item F6 O4 b4 k4 m4 O5 b5 k5 m5 y_len y_all y_int y_tuple
  have O7 := ok_deed F7 O4 b4 k4 m4 O5 b5 k5 m5 y_len y_int
  have O8 := ok_row F8 O4 b4 k4 m4 O6 b6 k6 m6 O7 b7 k7 m7 y_len y_str
  have O9 := ok_read F9 O8 b8 k8 m8 TC noC aIC tIC Oi bIC mC y_enumerate y_tuple
  have O10 := ok_cell (P := l.prog) (w := w) (base := base) F10 y_len
  have O11 := ok_well (P := l.prog) (w := w) (base := base) F11 y_max
  have O12 := ok_dip (P := l.prog) (w := w) (mg := mg) (base := base) F12
  have O13 := ok_dmark F13 O12 b12 k12 m12 y_range
  have O14 := ok_dnum F14 O12 b12 k12 m12
  have O15 := ok_drawn F15 O12 b12 k12 m12 O13 b13 k13 m13 O14 b14 k14 m14 y_range y_min y_tuple
  have O16 := ok_written (P := l.prog) (w := w) (base := base) F16 y_len y_range y_str y_list y_sorted
  have O17 := ok_lmark (P := l.prog) (w := w) (base := base) F17 y_len y_all
  have O18 := ok_lnumber (P := l.prog) (w := w) (base := base) F18 y_len y_all
  have O19 := ok_ldeed F19 O17 b17 k17 m17 O18 b18 k18 m18 y_len
  have O20 := ok_wrong F20 O17 b17 k17 m17 O18 b18 k18 m18 O19 b19 k19 m19 y_enumerate y_len y_all y_str
  have O21 := ok_spoilt F21 O12 b12 k12 m12 y_len
  have step := fun (n : Nat) (G : FnOk l.prog w K mg base CX0 (n + 1) f22 _ ["found", "wanted"] (spAlike n)) => ok_alike F22 G b22 m22 y_isinstance y_str y_int y_bool y_dict y_tuple y_sorted y_list y_len y_all y_zip
  have O22 := step 5 (step 4 (step 3 (step 2 (step 1 (step 0 alike_zero)))))
  have O23 := ok_held F23 O15 b15 k15 m15 O16 b16 k16 m16 O3 b3 k3 m3 O22 b22 k22 m22 O9 b9 k9 m9 O21 b21 k21 m21 O20 b20 k20 m20 mC mY y_isinstance y_tuple y_dict ECC XTC noC teCC qYC
  exact ok_law F24 O10 b10 k10 m10 O11 b11 k11 m11 O23 b23 k23 m23 y_range y_max y_min y_len
theorem walk {l : PySem.W.OpenLaw} {q : Program} {loose : List Str} {XP : (Str → Option Value) → Heap → Prop} {YP : World → Heap → Prop} {d : DefRec} {K : Params → PySem.W.Frag} (hn : l.most = some 63) (hdf : d.params.defaults = [])
    (hY : ∀ (w : World) (h : Heap), YP w h → (K w.params).In h)
    (F : ∀ (w : World) (mg : Str → Option Value) (fa : Addr) (h : Heap), (K w.params).In h → h.Ns mainGlobals mg → mg d.name = some (.ref fa) →
      ∃ fd : FuncData, (∀ (s : Shared) (u : Value), BindsTo s fd ⟨[u], []⟩ [("script", u)]) ∧ ∀ base : Heap, (K w.params).In base → base.Ns mainGlobals mg → FnOk l.prog w (K w.params) mg base CX0 9 fa fd ["script"] (spLaw (K w.params))) :
    PySem.W.WalkO q loose XP YP l.row.toRowW d [] (fun f vs => PySem.call f vs) :=
  L2.walk_of (n := 63) (k := 9) (x := "script") (CX := fun _ => CX0) (sp := fun w => spLaw (K w.params)) hn (by decide) hdf ⟨rfl, by decide, by decide⟩ hY F (fun _ _ a ns hl _ hS => ⟨a, ns, rfl, hS, hl, fun _ => rfl⟩) fun _ _ _ _ _ z => z
end Ka
open PySem PySem.W PyProof.Rows
set_option maxRecDepth 100000 in
set_option maxHeartbeats 0 in
theorem PySem.Challenge.cw_tongueyard_k41_tables_as_texts_holds : PySem.Challenge.rw_tongueyard_k41_tables_as_texts.Holds := by
  w_on; o_law; k_head; (case hw => w_witness2)
  k_fill
  refine Ka.walk (l := PySem.Challenge.rw_tongueyard_k41_tables_as_texts) rfl rfl (fun w h Y => PySem.W.kIn_of Y) ?F
  case F =>
    intro w mg fa h KX G hmg
    refine' Ka.all_mk KX G hmg ?a1 ?l1 ?c1 ?k1 ?a2 ?l2 ?c2 ?k2 ?a3 ?l3 ?c3 ?k3 ?a4 ?l4 ?c4 ?k4 ?a5 ?l5 ?c5 ?k5 ?a6 ?l6 ?c6 ?k6 ?a7 ?l7 ?c7 ?k7 ?a8 ?l8 ?c8 ?k8 ?a9 ?l9 ?c9 ?k9 ?a10 ?l10 ?c10 ?k10 ?a11 ?l11 ?c11 ?k11 ?a12 ?l12 ?c12 ?k12 ?a13 ?l13 ?c13 ?k13 ?a14 ?l14 ?c14 ?k14 ?a15 ?l15 ?c15 ?k15 ?a16 ?l16 ?c16 ?k16 ?a17 ?l17 ?c17 ?k17 ?a18 ?l18 ?c18 ?k18 ?a19 ?l19 ?c19 ?k19 ?a20 ?l20 ?c20 ?k20 ?a21 ?l21 ?c21 ?k21 ?a22 ?l22 ?c22 ?k22 ?a23 ?l23 ?c23 ?k23 ?a24 ?l24 ?c24 ?k24 ?aY ?rY ?gY ?vY ?yB ?yD ?yT ?aC ?xC ?saC ?exC ?tyC ?kC ?noC ?aIC ?tIC ?lIC ?cIC ?kIC ?eGC ?eKC ?eDC ?eAC ?eMC ?sCYC ?sCCC ?qVC ?qYC ?qCC ?eN ?eT ?aL ?eL ?aN ?aP ?lP ?eP ?aE ?eE ?aU ?eU ?z_isinstance ?z_str ?z_all ?z_tuple ?z_len ?z_max ?z_int ?z_range ?z_list ?z_bool ?z_min ?z_enumerate ?z_zip ?z_sorted ?z_dict
    (case a1 => k_is)
    (case l1 => k_is)
    (case c1 => k_is)
    (case k1 => k_is)
    (case a2 => k_is)
    (case l2 => k_is)
    (case c2 => k_is)
    (case k2 => k_is)
    (case a3 => k_is)
    (case l3 => k_is)
    (case c3 => k_is)
    (case k3 => k_is)
    (case a4 => k_is)
    (case l4 => k_is)
    (case c4 => k_is)
    (case k4 => k_is)
    (case a5 => k_is)
    (case l5 => k_is)
    (case c5 => k_is)
    (case k5 => k_is)
    (case a6 => k_is)
    (case l6 => k_is)
    (case c6 => k_is)
    (case k6 => k_is)
    (case a7 => k_is)
    (case l7 => k_is)
    (case c7 => k_is)
    (case k7 => k_is)
    (case a8 => k_is)
    (case l8 => k_is)
    (case c8 => k_is)
    (case k8 => k_is)
    (case a9 => k_is)
    (case l9 => k_is)
    (case c9 => k_is)
    (case k9 => k_is)
    (case a10 => k_is)
    (case l10 => k_is)
    (case c10 => k_is)
    (case k10 => k_is)
    (case a11 => k_is)
    (case l11 => k_is)
    (case c11 => k_is)
    (case k11 => k_is)
    (case a12 => k_is)
    (case l12 => k_is)
    (case c12 => k_is)
    (case k12 => k_is)
    (case a13 => k_is)
    (case l13 => k_is)
    (case c13 => k_is)
    (case k13 => k_is)
    (case a14 => k_is)
    (case l14 => k_is)
    (case c14 => k_is)
    (case k14 => k_is)
    (case a15 => k_is)
    (case l15 => k_is)
    (case c15 => k_is)
    (case k15 => k_is)
    (case a16 => k_is)
    (case l16 => k_is)
    (case c16 => k_is)
    (case k16 => k_is)
    (case a17 => k_is)
    (case l17 => k_is)
    (case c17 => k_is)
    (case k17 => k_is)
    (case a18 => k_is)
    (case l18 => k_is)
    (case c18 => k_is)
    (case k18 => k_is)
    (case a19 => k_is)
    (case l19 => k_is)
    (case c19 => k_is)
    (case k19 => k_is)
    (case a20 => k_is)
    (case l20 => k_is)
    (case c20 => k_is)
    (case k20 => k_is)
    (case a21 => k_is)
    (case l21 => k_is)
    (case c21 => k_is)
    (case k21 => k_is)
    (case a22 => k_is)
    (case l22 => k_is)
    (case c22 => k_is)
    (case k22 => k_is)
    (case a23 => k_is)
    (case l23 => k_is)
    (case c23 => k_is)
    (case k23 => k_is)
    (case a24 => k_is)
    (case l24 => k_is)
    (case c24 => k_is)
    (case k24 => k_is)
    (case aY => k_is)
    (case rY => k_is)
    (case gY => k_is)
    (case vY => k_is)
    (case yB => k_is)
    (case yD => k_is)
    (case yT => k_is)
    (case aC => k_is)
    (case xC => k_is)
    (case saC => k_is)
    (case exC => k_is)
    (case tyC => k_is)
    (case kC => k_is)
    (case noC => k_is)
    (case aIC => k_is)
    (case tIC => k_is)
    (case lIC => k_is)
    (case cIC => k_is)
    (case kIC => k_is)
    (case eGC => k_is)
    (case eKC => k_is)
    (case eDC => k_is)
    (case eAC => k_is)
    (case eMC => k_is)
    (case sCYC => first | rfl | k_is)
    (case sCCC => first | rfl | k_is)
    (case qVC => first | rfl | k_is)
    (case qYC => first | rfl | k_is)
    (case qCC => first | rfl | k_is)
    (case eN => k_is)
    (case eT => k_is)
    (case aL => k_is)
    (case eL => decide +kernel)
    (case aN => k_is)
    (case aP => k_is)
    (case lP => k_is)
    (case eP => rfl)
    (case aE => k_is)
    (case eE => decide +kernel)
    (case aU => k_is)
    (case eU => decide +kernel)
    (case z_isinstance => k_is)
    (case z_str => k_is)
    (case z_all => k_is)
    (case z_tuple => k_is)
    (case z_len => k_is)
    (case z_max => k_is)
    (case z_int => k_is)
    (case z_range => k_is)
    (case z_list => k_is)
    (case z_bool => k_is)
    (case z_min => k_is)
    (case z_enumerate => k_is)
    (case z_zip => k_is)
    (case z_sorted => k_is)
    (case z_dict => k_is)
#print axioms PySem.Challenge.cw_tongueyard_k41_tables_as_texts_holds
