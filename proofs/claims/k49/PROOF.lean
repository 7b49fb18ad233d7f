import PyProof.Rows.All
import Wide.All
import OpenK.AllK
import Wide.FinOn
import HandS.ForMost
import HandS.Wide
import HandS.IsInst
import HandS.TupAny
import HandS.Walk
import HandS.SetKeys
import HandS.ExcValue
import KE.KUnpackStar
import KE.KRevSl
import KE.GoesZip
import KE.GoesMore
import HandS.ForExc
import HandS.ExcInit
import HandS.ExcIs
import HandS.ExcField
import HandS.ClsMeth
import PySem.Challenge.RW_tongueyard_k49_deeds_done
set_option Elab.async false
set_option linter.all false
set_option maxRecDepth 100000
/-! own rules over the hand layer: powers of wide ints, a starred name behind one name, texts and tuples turned round -/
namespace Ty
open PySem PySem.Spec PyProof.Rows L2
section
variable {X : Cx}
/-- a ** b of wide ints: few bits in all -/
def CPowW (i j : Int) : Prop := 0 ≤ j ∧ (i.natAbs.log2 + 1) * j.toNat ≤ 1000000
theorem bits_le_log (i : Int) : Builtin.Int.intBits i ≤ i.natAbs.log2 + 1 := by
  unfold Builtin.Int.intBits
  split <;> omega
theorem op_powW : OpR X (binaryOp .Pow) (rI CPowW fun i j => .int (i ^ j.toNat)) := opI fun i j t u s Q E hc q => by
  obtain ⟨h0, h1⟩ := hc
  refine pow_int h0 ?_ q
  have e : j = ((j.toNat : Nat) : Int) := by omega
  have h2 : Builtin.Int.intBits i * j.toNat ≤ 1000000 := Nat.le_trans (Nat.mul_le_mul_right _ (bits_le_log i)) h1
  have h3 : ((Builtin.Int.intBits i : Nat) : Int) * ((j.toNat : Nat) : Int) ≤ 1000000 := by
    have := Int.ofNat_le.mpr h2
    simpa using this
  rw [← e] at h3
  omega
theorem powW_of {i : Int} {k n : Nat} (h : i.natAbs < 2 ^ n) (h0 : 0 < n) (hk : n * k ≤ 1000000) : CPowW i (k : Int) := by
  refine ⟨by omega, ?_⟩
  have x := PySem.Flt.log2_lt_of h0 h
  have : (i.natAbs.log2 + 1) * ((k : Int)).toNat ≤ n * k := by
    rw [Int.toNat_natCast]
    exact Nat.mul_le_mul_right _ x
  omega
/-- where something is tracked there is an object -/
theorem there {P : Program} {w : World} {H : Hp} {h : Heap} {a : Addr} {o : HO} (x : ObjOk P w H h a o) : ∃ u, h.get? a = some u := by
  cases o with
  | lst xs => obtain ⟨_, _, _, _, e⟩ := x; exact ⟨_, e⟩
  | tup xs => obtain ⟨_, _, _, q, e, _⟩ := x; exact ⟨q, e⟩
  | dK kvs => obtain ⟨_, _, _, _, q, _, _, e, _⟩ := x; exact ⟨q, e⟩
  | dT kvs => obtain ⟨_, _, _, _, q, _, _, e, _⟩ := x; exact ⟨q, e⟩
  | set S n => obtain ⟨q, _, _, _, e, _⟩ := x; exact ⟨q, e⟩
  | ins C dx fs => obtain ⟨_, _, _, e, _⟩ := x; exact ⟨_, e⟩
  | own y => exact x
  | xd fs => obtain ⟨_, ⟨q, _, _, e, _⟩, _⟩ := x; exact ⟨q, e⟩
  | rng lo hi => obtain ⟨_, _, _, e⟩ := x; exact ⟨_, e⟩
  | frz ob u => exact ⟨ob, x.1⟩
  | tbl ps => exact ⟨_, (show h.get? a = some _ from x)⟩
  | met f y => exact ⟨_, (show h.get? a = some _ from x)⟩
  | ext φ => exact x.2.1
/-- a new object where the heap had none: all that stood stands, the new one is tracked -/
theorem laidG {pins : List (Addr × Obj)} {σ : L2.St} {H : Hp} {s : Shared} {g : Heap} {o : HO} {ob : Obj} {tk : Nat} (I : Inv X pins σ H s) (k : ∀ b u, s.heap.get? b = some u → g.get? b = some u)
    (new : ObjOk X.prog X.w (upd H g.objs.size o) (g.push ob) g.objs.size o) : H g.objs.size = none ∧ Inv X pins σ (upd H g.objs.size o) { s with heap := g.push ob, toks := tk } := by
  have hp : s.heap.get? g.objs.size = none := by
    cases e : s.heap.get? g.objs.size with
    | none => rfl
    | some u => exact absurd (Heap.lt_size (k _ _ e)) (Nat.lt_irrefl _)
  have hn : H g.objs.size = none := by
    cases e : H g.objs.size with
    | none => rfl
    | some u =>
      obtain ⟨q, eq⟩ := there (I.hok _ _ e)
      rw [hp] at eq
      cases eq
  exact ⟨hn, I.laidN (t' := tk) (fun b u e => Heap.get?_push_of_some _ (k b u e)) hp hn new⟩
/-- a tuple of one item or more, drawn into its first item and a new list of the others -/
theorem unpack_head {prog : Program} {w : World} {A : Around} {E : Value → Shared → Prop} {s : Shared} {t : Addr} {x : Value} {xs : List Value} {Q : List Value → Shared → Prop} (hh : A.handled = none)
    (ht : IsTup s.heap t (x :: xs).toArray) (hz : xs.length ≤ 16000)
    (h : ∀ (g : Heap) (tk : Nat), (∀ b o, s.heap.get? b = some o → g.get? b = some o) → Q [x, .ref g.objs.size] { s with heap := g.push { cls := .type "list", data := .seq xs.toArray }, toks := tk }) :
    wpAny (model prog w) A (unpackItems (.ref t) 2 (some 1)) Q E s := by
  have hlt : t < s.heap.objs.size := by obtain ⟨o, ho, _⟩ := ht; exact Heap.lt_size ho
  have hne : t ≠ s.heap.objs.size := Nat.ne_of_lt hlt
  have hsz : (x :: xs).toArray.size = xs.length + 1 := by simp
  unfold unpackItems
  refine wpAny_bind ?_
  unfold notIterableAtAll
  refine wpAny_bind (wpAny_specialOf ht.typeIs slot_tuple_iter.lookup (wpAny_pure ?_))
  simp only [Bool.false_eq_true, if_false]
  refine wpAny_bind (wpAny_holding (iter_tuple ht ?_))
  refine wpAny_bind (wpAny_holding (draw_tuple hne 1 0 _ _ ⟨_, Heap.get?_push_size _ rfl, rfl, rfl⟩ (ht.push _) (by omega) fun g1 it1 same1 => ?_))
  have ht1 : IsTup g1 t (x :: xs).toArray := (ht.push _).extBut same1.extBut hne
  have ht1' := ht1
  have it1' := it1
  obtain ⟨ot, hot, _⟩ := ht1'
  obtain ⟨oi, hoi, _⟩ := it1'
  show wpAny _ _ (if ([x] : List Value).length < 1 then _ else _) _ _ _
  rw [if_neg (show ¬ ([x] : List Value).length < 1 from Nat.lt_irrefl 1)]
  refine wpAny_bind (wpAny_holding (PySem.W.kun_collect (s := { s with heap := g1 }) (T := "tuple_iterator") (.inr (.inr (.inr rfl))) (Walks.tuple (A := A.in1) hh s.heap.objs.size t hne (x :: xs).toArray) (fun j u st => st.1.typeIs) (k := 1) (by omega) ⟨it1, ht1⟩ (Heap.lt_size hoi) (Heap.lt_size hot) (fun g2 tk kp => ?_) (by rw [sizeLine_eq]; omega)))
  show wpAny _ _ (if xs.length < 0 then _ else _) _ _ _
  rw [if_neg (by omega)]
  show wpAny _ _ (newList (xs.take (xs.length - 0)) >>= fun d => pure ([x] ++ [d] ++ xs.drop (xs.length - 0))) _ _ _
  rw [Nat.sub_zero, List.take_length, List.drop_length]
  have kp2 : ∀ b o, s.heap.get? b = some o → g2.get? b = some o := fun b o e =>
    have hb : b ≠ s.heap.objs.size := Nat.ne_of_lt (Heap.lt_size e)
    kp b o hb (same1.extBut b o hb (Heap.get?_push_of_some _ e))
  exact wpAny_bind (wpAny_newList (wpAny_pure (h g2 tk kp2)) (by rw [sizeLine_eq]; omega))
/-- (name, *names) = a tuple of one item or more -/
def gStar1 (K : PySem.W.Frag) (g : TG) (g2 : TG) : TG := fun v σ H Q => ∃ a x xs, v = .ref a ∧ SqT K H a (x :: xs) ∧ xs.length ≤ 16000 ∧
  ∀ D, H D = none → g x σ (upd H D (.lst xs)) fun σ1 H1 => g2 (.ref D) σ1 H1 Q
theorem pg_star1 {e1 e2 : Expr} {g g2 : TG} {k : Nat} {sp pos : Pos} (hc : X.calm = true) (h1 : PG X e1 g) (h2 : PG X e2 g2)
    (hs : assignEach [e1, .Starred e2 sp] X.env = [(false, assign e1 X.env), (true, assign e2 X.env)] := by rfl) : PG X (.Tuple [e1, .Starred e2 sp] k pos) (gStar1 X.K g g2) := by
  refine ⟨fun pins s σ H v u Q I r hw => ?_⟩
  obtain ⟨a, x, xs, rfl, hq, hl, hw⟩ := hw
  cases r
  obtain ⟨its, rv, ht, hz⟩ := I.tuple hq
  cases rv with
  | @cons _ u1 _ us r1 rr =>
    have hlen := Paired.length rr
    rw [assign_Tuple]
    refine wpAny_bind (wpAny_standAt ?_)
    unfold unpack
    rw [hs]
    refine wpAny_bind (wpAny_holding (unpack_head (I.ok.hd hc) ht (by omega) fun g1 tk kp => ?_))
    obtain ⟨hn, I1⟩ := laidG (o := .lst xs) (ob := { cls := .type "list", data := .seq us.toArray }) (tk := tk) I kp ⟨by rw [sizeLine_eq]; omega, us, 0, rr, Heap.get?_push_size _ rfl⟩
    refine assignInOrder_cons (thn (h1.run pins _ σ _ x u1 _ I1 r1 (hw _ hn)) fun _ s1 ⟨σ1, H1, J1, q1⟩ => ?_)
    exact assignInOrder_cons (thn (h2.run pins s1 σ1 H1 (.ref g1.objs.size) _ Q J1 rfl q1) fun _ s2 ⟨σ2, H2, J2, q2⟩ => assignInOrder_nil ⟨σ2, H2, J2, q2⟩)
end
end Ty
namespace Ty
open PySem PySem.Spec PyProof.Rows L2
section
variable {X : Cx}
/-- the turned text -/
def revS (z : Str) : Str := ⟨z.cps.toList.reverse.toArray⟩
theorem revS_is (z : Str) (u : Tok) : Txt.sliceBy z none none (-1, u) = revS z := by
  have h := step_rev_list z u
  apply str_of_list
  rw [h]
  show _ = z.cps.toList.reverse.toArray.toList
  rw [List.toList_toArray]
  apply List.ext_getElem
  · simp [Str.length]
  · intro i h1 h2
    have h3 : i < z.cps.size := by simpa using h2
    have h4 : z.cps.size - 1 - i < z.cps.size := by omega
    simp [Str.length, Array.getD, h4]
/-- the parts of [::-1], evaluated -/
theorem part_back {σ : L2.St} {H : Hp} {pins : List (Addr × Obj)} {s : Shared} {k : Nat} {p1 p2 : Pos} (I : Inv X pins σ H s) {Q : Value → Shared → Prop}
    (h : ∀ (vs : Value) (u : Tok) (s4 : Shared), vs = .int (-1) u → Inv X pins σ H s4 → Q vs s4) : wpAny (model X.prog X.w) X.A (evalPart (some (.UnaryOp .USub (.Constant (.int 1) k p1) p2)) X.env) Q X.xe s := by
  have hst : PO X (some (.UnaryOp .USub (.Constant (.int 1) k p1) p2)) (tPart (tUn (rU fun i => .int (-i)) (tC (.int 1)))) := po_some (pe_un un_neg pe_int)
  refine thn (hst.run pins s σ H (fun o H4 => o = some (-1) ∧ H4 = H) I ⟨1, rfl, -1, rfl, rfl, rfl⟩) fun v s4 hv => ?_
  obtain ⟨o, H4, I4, ps, rfl, rfl⟩ := hv
  cases ps with
  | int i t => exact h _ t s4 rfl I4
/-- e[::-1] of a text -/
def tRevS (te : TE) : TE := fun σ H Q => te σ H fun x H1 => ∃ z, x = .str z ∧ z.length ≤ sizeLine ∧ Q (.str (revS z)) H1
theorem pe_revS {e : Expr} {te : TE} {k : Nat} {p1 p2 p3 pos : Pos} (he : PE X e te) : PE X (.Subscript e (.Slice none none (some (.UnaryOp .USub (.Constant (.int 1) k p1) p2)) p3) pos) (tRevS te) := by
  refine ⟨fun pins s σ H Q I h => ?_⟩
  refine Subscript_ (thn (he.run pins s σ H _ I h) fun v s1 hv => ?_)
  obtain ⟨x, H1, I1, r1, z, rfl, hz, q⟩ := hv
  obtain ⟨t, rfl⟩ := r1
  refine wpAny_Slice (thn (po_none.run pins s1 σ H1 (fun o H2 => o = none ∧ H2 = H1) I1 ⟨rfl, rfl⟩) fun vl s2 hv => ?_)
  obtain ⟨o1, H2, I2, pl, rfl, rfl⟩ := hv
  refine thn (po_none.run pins s2 σ H2 (fun o H3 => o = none ∧ H3 = H2) I2 ⟨rfl, rfl⟩) fun vu s3 hv => ?_
  obtain ⟨o2, H3, I3, pu, rfl, rfl⟩ := hv
  refine part_back I3 fun vs u s4 ev I4 => ?_
  subst ev
  cases pl
  cases pu
  have I5 : Inv X pins σ H3 { s4 with heap := s4.heap.push { cls := .type "slice", data := .fields #[.none, .none, .int (-1) u] } } := I4.kept (t' := s4.toks) fun b ob q => Heap.get?_push_of_some _ q
  refine tail_any (ops := [.ref s4.heap.objs.size, .str z t]) (typeIs_str _ z t) F.slot_str_getitem.lookup ?_ (by with_unfolding_all rfl)
  refine wpAny_getItem_str_slice (l := none) (u := none) (st := some (-1, u)) ⟨_, Heap.get?_push_size _ rfl, rfl, rfl⟩ rfl ?_
  refine post_val_or_str ⟨?_, fun t' c => ?_⟩
  · exact Nat.le_trans (Txt.sliceBy_le z none none (-1, u) (show (-1 : Int) ≠ 0 by decide)) hz
  · exact ⟨.str (revS z), H3, I5.tok c, ⟨t', by rw [← revS_is z u]; rfl⟩, q⟩
/-! ### a tuple turned round -/
theorem filterMap_same {α β : Type} {f g : α → Option β} : ∀ (l : List α), (∀ x ∈ l, f x = g x) → l.filterMap f = l.filterMap g
  | [], _ => rfl
  | x :: l, h => by
    rw [List.filterMap_cons, List.filterMap_cons, h x List.mem_cons_self, filterMap_same l fun y hy => h y (List.mem_cons_of_mem _ hy)]
theorem places_back (n : Nat) : Builtin.Slice.slicePlaces ((n : Int) - 1) (-1) (-1) = n := by
  unfold Builtin.Slice.slicePlaces
  rw [if_neg (by decide)]
  by_cases h : (n : Int) - 1 > -1
  · rw [if_pos h]
    have e : (-(-1 : Int)) = 1 := rfl
    rw [e, Int.ediv_one]
    omega
  · rw [if_neg h]
    omega
theorem pick_back {α : Type} (l : List α) : ((List.range l.length).filterMap fun (k : Nat) => l.toArray[((l.length : Int) - 1 + (k : Int) * (-1)).toNat]?) = l.reverse := by
  have e : ((List.range l.length).filterMap fun (k : Nat) => l.toArray[((l.length : Int) - 1 + (k : Int) * (-1)).toNat]?) = ((List.range l.length).map fun k => l.length - 1 - k).filterMap (l[·]?) := by
    rw [List.filterMap_map]
    refine filterMap_same _ fun k hk => ?_
    have hk' := List.mem_range.mp hk
    have : ((l.length : Int) - 1 + (k : Int) * (-1)).toNat = l.length - 1 - k := by omega
    rw [this]
    simp
  have z := PySem.W.krv_all l.toArray
  rw [e, PySem.W.krv_range, List.filterMap_reverse]
  have z2 : (List.range l.length).filterMap (l[·]?) = l := by
    simpa using z
  rw [z2]
theorem getItem_tuple_back {prog : Program} {w : World} {A : Around} {E : Value → Shared → Prop} {s : Shared} {t sl : Addr} {items : List Value} {u : Tok} {Q : Value → Shared → Prop} (ht : IsTup s.heap t items.toArray) (hs : s.heap.IsSliceOf sl .none .none (.int (-1) u))
    (h : Q (.ref s.heap.objs.size) { s with heap := s.heap.push { cls := .type "tuple", data := .seq items.reverse.toArray } }) (hsz : items.length ≤ sizeLine) : wpAny (model prog w) A (getItem (.ref t) (.ref sl)) Q E s := by
  obtain ⟨os, hos, hcs, hds⟩ := id hs
  have hTs : s.TypeIs (.ref sl) "slice" := ⟨os, hos, hcs⟩
  unfold getItem
  try with_reducible refine wpAny_holding ?_
  refine wpAny_bind (wpAny_sequenceKey ht.typeIs (by decide) ?_)
  refine wpAny_bind (wpAny_callSpecial?_slot (name := Str.ofString "__getitem__") ht.typeIs PyProof.Rows.slot_tuple_getitem
    (wpAny_call_entry PyProof.Rows.slot_tuple_getitem ht.typeIs entry_tuple_getitem ?_ (args_tuple_getitem _ _)))
  show wpAny _ _ (Builtin.Tuple.tupleItemsOf (.ref t) >>= _) _ _ s
  refine wpAny_bind (tupleItemsOf_ ht ?_)
  refine wpAny_bind (wpAny_typeOf hTs ?_)
  rw [if_pos (by decide)]
  have hap : wpAny (model prog w) A.in1 (Builtin.Slice.sliceApplied (.ref sl) (pure (items.toArray.size : Int))) (fun r s' => r = ((items.length : Int) - 1, -1, items.length) ∧ s' = s) E s := by
    unfold Builtin.Slice.sliceApplied Builtin.Slice.sliceFields
    refine wpAny_bind (wpAny_bind (wpAny_field hos hds (x := .none) rfl (wpAny_bind (wpAny_field hos hds (x := .none) rfl (wpAny_bind (wpAny_field hos hds (x := .int (-1) u) rfl (wpAny_pure ?_)))))))
    refine wpAny_bind (HT.slicePart_ (.int (-1) u) ?_)
    show wpAny _ _ (if ((-1 : Int) == 0) = true then _ else _) _ _ s
    rw [if_neg (by decide)]
    refine wpAny_bind (HT.slicePart_ .none (wpAny_bind (HT.slicePart_ .none (wpAny_bind (wpAny_pure (wpAny_pure ⟨?_, rfl⟩))))))
    show (((items.toArray.size : Int) - 1, (-1 : Int), Builtin.Slice.slicePlaces ((items.toArray.size : Int) - 1) (-1) (-1)) : Int × Int × Nat) = _
    rw [List.size_toArray, places_back]
  refine wpAny_bind (wpAny_mono hap (fun r s' hr => ?_) fun _ _ x => x)
  obtain ⟨rfl, rfl⟩ := hr
  show wpAny _ _ (if (((items.length : Int) - 1 == 0 && (-1 : Int) == 1 && items.length == items.toArray.size) = true) then _ else _) _ _ s'
  rw [if_neg (by simp)]
  rw [show ((List.range items.length).filterMap fun (k : Nat) => items.toArray[((items.length : Int) - 1 + (k : Int) * (-1)).toNat]?) = items.reverse from pick_back items]
  have hsz' : sizeOk (.seq items.reverse.toArray) := by
    show items.reverse.toArray.size ≤ sizeLine
    rw [List.size_toArray, List.length_reverse]
    exact hsz
  first
    | exact wpAny_bind (m := Builtin.Tuple.tupleExact _) (wpAny_newObj_type (wpAny_pure ⟨_, rfl, wpAny_pure h⟩) hsz')
    | exact wpAny_bind (m := Builtin.Tuple.tupleExact _) (wpAny_newObj_type (wpAny_bind (wpAny_pure (wpAny_pure ⟨_, rfl, wpAny_pure h⟩))) hsz')
end
end Ty
namespace Ty
open PySem PySem.Spec PyProof.Rows L2
/-! ### zip of two texts, walked by a target of several names -/
def ItzS (x y : Str) : It :=
  ⟨fun i _ => i < min x.cps.size y.cps.size,
    fun i H v H' => ∃ T c d, v = .ref T ∧ H T = none ∧ H' = upd H T (.tup [.str ⟨#[c]⟩, .str ⟨#[d]⟩]) ∧ x.cps[i]? = some c ∧ y.cps[i]? = some d,
    fun i _ => i = min x.cps.size y.cps.size⟩
/-- the zip's cells at turn i -/
def zsAt (z TI TO i1 i2 : Addr) (x y : Str) (t u : Tok) (i : Nat) (h : Heap) : Prop :=
  IsZip h z TI TO .none ∧ IsTupOf2 h TI (.ref i1) (.ref i2) ∧ (∃ a1 a2, IsTupOf2 h TO a1 a2) ∧ h.IsStrIter i1 (strIterType x) x t i ∧ h.IsStrIter i2 (strIterType y) y u i
theorem zs_walks {P : Program} {w : World} {A : Around} (hh : A.handled = none) {z TI TO i1 i2 : Addr} (S : ZipSep2 z TI TO i1 i2 [i1] [i2]) (x y : Str) (t u : Tok) :
    WalksT P w A z (z :: TI :: TO :: ([i1] ++ [i2])) [z, TO, i1, i2] (min x.cps.size y.cps.size)
      (fun i vals => ∃ v1 v2, (∃ c k, x.cps[i]? = some c ∧ v1 = .str ⟨#[c]⟩ k) ∧ (∃ c k, y.cps[i]? = some c ∧ v2 = .str ⟨#[c]⟩ k) ∧ vals = #[v1, v2]) (zsAt z TI TO i1 i2 x y t u)
      (fun i T h => IsZip h z TI TO (rawInt T) ∧ IsTupOf2 h TI (.ref i1) (.ref i2) ∧ (∃ a1 a2, IsTupOf2 h TO a1 a2) ∧ h.IsStrIter i1 (strIterType x) x t (i + 1) ∧ h.IsStrIter i2 (strIterType y) y u (i + 1) ∧ T ≠ z ∧ T ≠ TO ∧ T ≠ i1 ∧ T ≠ i2) :=
  WalksT.zipD2 S (Draws.text (A := A.in1) hh i1 x t) (Draws.text (A := A.in1) hh i2 y u)
theorem five_le {n c : Nat} (h : c = n + 4 ∨ c = n + 2 ∨ c = n + 3 ∨ c = n ∨ c = n + 1) : n ≤ c := by omega
theorem sep_nat (n : Nat) : ZipSep2 (n + 4) (n + 2) (n + 3) n (n + 1) [n] [n + 1] := by
  constructor <;> simp <;> omega
theorem sep_new (n : Addr) : ZipSep2 (n + 4) (n + 2) (n + 3) n (n + 1) [n] [n + 1] := sep_nat n
theorem turn_zipS {P : Program} {w : World} {K : PySem.W.Frag} {elts : List Expr} {kk : Nat} {tpos : Pos} {z TI TO i1 i2 : Addr} (S : ZipSep2 z TI TO i1 i2 [i1] [i2]) (x y : Str) (t u : Tok) :
    Turn P w K (.Tuple elts kk tpos) (ItzS x y) (z :: TI :: TO :: ([i1] ++ [i2])) z (zsAt z TI TO i1 i2 x y t u) where
  mem := List.mem_cons_self
  obj := fun i h st c hc => by
    obtain ⟨hz, hTI, ⟨a, b, hTO⟩, ⟨o1, e1, _, d1⟩, ⟨o2, e2, _, d2⟩⟩ := st
    have hc' : c = z ∨ c = TI ∨ c = TO ∨ c = i1 ∨ c = i2 := by simpa using hc
    rcases hc' with rfl | rfl | rfl | rfl | rfl
    · exact ⟨_, hz, fun v q => nomatch q⟩
    · exact ⟨_, hTI, fun v q => nomatch q⟩
    · exact ⟨_, hTO, fun v q => nomatch q⟩
    · exact ⟨o1, e1, fun v q => by rw [d1] at q; cases q⟩
    · exact ⟨o2, e2, fun v q => by rw [d2] at q; cases q⟩
  keep := fun i h h' st k => by
    obtain ⟨hz, hTI, ⟨a, b, hTO⟩, ⟨o1, e1, r1⟩, ⟨o2, e2, r2⟩⟩ := st
    exact ⟨k z (by simp) _ hz, k TI (by simp) _ hTI, ⟨a, b, k TO (by simp) _ hTO⟩, ⟨o1, k i1 (by simp) _ e1, r1⟩, ⟨o2, k i2 (by simp) _ e2, r2⟩⟩
  item := by
    intro X hP hw hK hc i pins s σ H E I hf st hg
    subst hP hw hK
    have W := zs_walks (P := X.prog) (w := X.w) (A := X.A) (I.ok.hd hc) S x y t u
    refine W.item i s _ _ hg st fun T vals g tk pt hT isT mid kp => ⟨_, rfl, ?_⟩
    refine W.go elts kk tpos i T { s with heap := g, toks := tk } _ _ mid fun g2 st2 kp2 => ?_
    obtain ⟨v1, v2, ⟨c, k1, ec, rfl⟩, ⟨d, k2, ed, rfl⟩, rfl⟩ := pt
    have hap := W.apart i T g mid
    have sub : ∀ b, b ∉ (z :: TI :: TO :: ([i1] ++ [i2])) → b ∉ [z, TO, i1, i2] := fun b hb q => hb (W.sub b q)
    obtain ⟨oT, eT, cT, nT, dT⟩ := isT
    have new : ObjOk X.prog X.w (upd H T (.tup [.str ⟨#[c]⟩, .str ⟨#[d]⟩])) g2 T (.tup [.str ⟨#[c]⟩, .str ⟨#[d]⟩]) :=
      ⟨by show 2 ≤ sizeLine; decide, [.str ⟨#[c]⟩ k1, .str ⟨#[d]⟩ k2], .cons ⟨k1, rfl⟩ (.cons ⟨k2, rfl⟩ .nil), oT, kp2 T oT hap eT, cT, nT, dT⟩
    have I1 := I.turnedNew (t' := tk) (h' := g2) (fun b o hb e => kp2 b o (sub b hb) (kp b o (sub b hb) e)) hf hT new
    refine ⟨.ref T, _, I1, rfl, ⟨T, c, d, rfl, I.hok.fresh hT, rfl, ec, ed⟩, st2, fun b hb => ?_⟩
    have hlt : b < s.heap.objs.size := by
      obtain ⟨hz, hTI, ⟨a1, a2, hTO⟩, ⟨o1, e1, _⟩, ⟨o2, e2, _⟩⟩ := st
      have hb' : b = z ∨ b = TI ∨ b = TO ∨ b = i1 ∨ b = i2 := by simpa using hb
      rcases hb' with rfl | rfl | rfl | rfl | rfl
      · exact Heap.lt_size hz
      · exact Heap.lt_size hTI
      · exact Heap.lt_size hTO
      · exact Heap.lt_size e1
      · exact Heap.lt_size e2
    rw [upd_ne (Nat.ne_of_lt (Nat.lt_of_lt_of_le hlt hT))]
    exact (hf b hb).1
  done := by
    intro X hP hw hK hc i pins s σ H E I hf st hg
    subst hP hw hK
    have W := zs_walks (P := X.prog) (w := X.w) (A := X.A) (I.ok.hd hc) S x y t u
    have hg' : i = min x.cps.size y.cps.size := hg
    subst hg'
    exact W.done s _ _ st fun g tk kp => ⟨rfl, I.turnedL (t' := tk) (fun b o hb e => kp b o (fun q => hb (W.sub b q)) e) hf⟩
  self := fun A i s Q E st h => wpAny_pyIter_zip st.1 h
def iZipS (ta : TA) : TI := fun σ H R => ta σ H fun vs H1 => ∃ x y, vs = [.str x, .str y] ∧ R (ItzS x y) H1
theorem pi_zipS {X : Cx} {e e2 : Expr} {ta : TA} {p pos tpos : Pos} {elts : List Expr} {kk : Nat} (hg : Gl X "zip") (hm : X.mg "zip" = none) (ha : PA X [e, e2] ta)
    (hs : starEach [e, e2] X.env = (false, eval e X.env) :: starEach [e2] X.env := by rfl) (hpl : (backTo pos (starEach [e2] X.env)).any (·.1) = false := by rfl) :
    PI X (.Tuple elts kk tpos) (.Call (.Name "zip" p) [e, e2] [] pos) (iZipS ta) := by
  refine ⟨fun pins s σ H R I h => ?_⟩
  refine Call_ (ld_blt I hg hm PyProof.Rows.boot_zip (PyProof.Rows.callWith_type1 (thn (ha.run pos pins s σ H _ I h) fun us s1 hv => ?_) hs hpl))
  obtain ⟨vs, H1, I1, r1, x, y, rfl, q⟩ := hv
  obtain ⟨u1, u2, rfl, q1, q2⟩ := vals2 r1
  obtain ⟨t, rfl⟩ := q1
  obtain ⟨u, rfl⟩ := q2
  refine zip_begins2 (begins_text x t) (begins_text y u) trivial trivial fun g hz hTI hTO h1 h2 hsz kp => wpAny_pyIter_zip hz ?_
  have I2 : Inv X pins σ H1 { s1 with heap := g } := I1.kept (t' := s1.toks) kp
  have S : ZipSep2 (s1.heap.objs.size + 4) (s1.heap.objs.size + 2) (s1.heap.objs.size + 3) s1.heap.objs.size (s1.heap.objs.size + 1) [s1.heap.objs.size] [s1.heap.objs.size + 1] := sep_new _
  refine ⟨s1.heap.objs.size + 4, _, _, _, H1, rfl, I2, turn_zipS S x y t u, ⟨hz, hTI, ⟨_, _, hTO⟩, ⟨_, h1, rfl, rfl⟩, ⟨_, h2, rfl, rfl⟩⟩, fun c hc => ?_, q⟩
  have hle : s1.heap.objs.size ≤ c := by
    have hc' : c = s1.heap.objs.size + 4 ∨ c = s1.heap.objs.size + 2 ∨ c = s1.heap.objs.size + 3 ∨ c = s1.heap.objs.size ∨ c = s1.heap.objs.size + 1 := by simpa using hc
    exact five_le hc'
  exact I1.fpOk hle (I1.hok.fresh hle)
end Ty
namespace Ty
open PySem PySem.Spec PyProof.Rows L2
/-! ### data in the abstract heap, apart from the jar's address -/
mutual
/-- v reads as d; none of its lists lies at j -/
inductive Rep (j : Addr) (H : Hp) : V → PyData → Prop
  | non : Rep j H .non .none
  | bl (b : Bool) : Rep j H (.bl b) (.bool b)
  | int (i : Int) : Rep j H (.int i) (.int i)
  | str (x : Str) : Rep j H (.str x) (.str x)
  | lst {a : Addr} {xs : List V} {ds : List PyData} : a ≠ j → sysModules < a → H a = some (.lst xs) → Reps j H xs ds → Rep j H (.ref a) (.list ds)
  | tup {a : Addr} {xs : List V} {ds : List PyData} : a ≠ j → H a = some (.tup xs) → Reps j H xs ds → Rep j H (.ref a) (.tuple ds)
  | dct {a : Addr} : a ≠ j → H a = some (.dK []) → Rep j H (.ref a) (.dict [])
inductive Reps (j : Addr) (H : Hp) : List V → List PyData → Prop
  | nil : Reps j H [] []
  | cons {v : V} {vs : List V} {d : PyData} {ds : List PyData} : Rep j H v d → Reps j H vs ds → Reps j H (v :: vs) (d :: ds)
end
/-- all that is tracked apart from j stands -/
def Keep (j : Addr) (H H' : Hp) : Prop := ∀ b o, b ≠ j → H b = some o → H' b = some o
theorem Keep.refl {j : Addr} {H : Hp} : Keep j H H := fun _ _ _ h => h
theorem Keep.trans {j : Addr} {H H1 H2 : Hp} (a : Keep j H H1) (b : Keep j H1 H2) : Keep j H H2 := fun c o n h => b c o n (a c o n h)
theorem Keep.of_same {j : Addr} {H H' : Hp} (s : Same H H') : Keep j H H' := fun b o _ h => s b o h
theorem same_new {H : Hp} {p : Addr} (h : H p = none) (o : HO) : Same H (upd H p o) := fun b u q => by rw [upd_ne (ne_of_none q h)]; exact q
theorem keep_new {j : Addr} {H : Hp} {p : Addr} (h : H p = none) (o : HO) : Keep j H (upd H p o) := .of_same (same_new h o)
theorem keep_jar {j : Addr} {H : Hp} (o : HO) : Keep j H (upd H j o) := fun b u n q => by rw [upd_ne n]; exact q
section
variable {j : Addr} {H H' : Hp}
mutual
theorem Rep.keep (k : Keep j H H') : ∀ (d : PyData) (v : V), Rep j H v d → Rep j H' v d
  | .none, _, h => by cases h; exact .non
  | .bool _, _, h => by cases h; exact .bl _
  | .int _, _, h => by cases h; exact .int _
  | .str _, _, h => by cases h; exact .str _
  | .list ds, _, h => by
    cases h with
    | lst n g e r => exact .lst n g (k _ _ n e) (Reps.keep k ds _ r)
  | .tuple ds, _, h => by
    cases h with
    | tup n e r => exact .tup n (k _ _ n e) (Reps.keep k ds _ r)
  | .dict _, _, h => by
    cases h with
    | dct n e => exact .dct n (k _ _ n e)
theorem Reps.keep (k : Keep j H H') : ∀ (ds : List PyData) (vs : List V), Reps j H vs ds → Reps j H' vs ds
  | [], _, h => by cases h; exact .nil
  | d :: ds, _, h => by
    cases h with
    | cons r t => exact .cons (Rep.keep k d _ r) (Reps.keep k ds _ t)
end
theorem Reps.length : ∀ {vs : List V} {ds : List PyData}, Reps j H vs ds → vs.length = ds.length
  | _, _, .nil => rfl
  | _, _, .cons _ t => by rw [List.length_cons, List.length_cons, Reps.length t]
theorem Reps.get : ∀ {vs : List V} {ds : List PyData} {i : Nat} {v : V}, Reps j H vs ds → vs[i]? = some v → ∃ d, ds[i]? = some d ∧ Rep j H v d
  | _, _, _, _, .nil, e => by simp at e
  | _, _, 0, _, .cons r _, e => by simp at e; subst e; exact ⟨_, rfl, r⟩
  | _, _, i + 1, v, .cons _ t, e => by
    obtain ⟨d, h1, h2⟩ := Reps.get (i := i) (v := v) t (by simpa using e)
    exact ⟨d, by simpa using h1, h2⟩
theorem Reps.append : ∀ {vs ws : List V} {ds es : List PyData}, Reps j H vs ds → Reps j H ws es → Reps j H (vs ++ ws) (ds ++ es)
  | _, _, _, _, .nil, t => t
  | _, _, _, _, .cons r q, t => .cons r (Reps.append q t)
theorem Reps.take : ∀ {vs : List V} {ds : List PyData} (n : Nat), Reps j H vs ds → Reps j H (vs.take n) (ds.take n)
  | _, _, 0, _ => .nil
  | _, _, _ + 1, .nil => .nil
  | _, _, n + 1, .cons r t => .cons r (Reps.take n t)
theorem Reps.drop : ∀ {vs : List V} {ds : List PyData} (n : Nat), Reps j H vs ds → Reps j H (vs.drop n) (ds.drop n)
  | _, _, 0, r => r
  | _, _, _ + 1, .nil => .nil
  | _, _, n + 1, .cons _ t => Reps.drop n t
theorem Reps.reverse : ∀ {vs : List V} {ds : List PyData}, Reps j H vs ds → Reps j H vs.reverse ds.reverse
  | _, _, .nil => .nil
  | _, _, .cons r t => by
    rw [List.reverse_cons, List.reverse_cons]
    exact Reps.append (Reps.reverse t) (.cons r .nil)
end
section
variable {X : Cx} {pins : List (Addr × Obj)} {σ : L2.St} {H : Hp} {s : Shared} {j : Addr}
mutual
theorem Rep.reads (I : Inv X pins σ H s) : ∀ (d : PyData) (v : V) (u : Value), Rep j H v d → RelV v u → ∃ as, Reads s.heap u d as ∧ sysModules ∉ as
  | .none, _, _, h, r => by
    cases h
    cases r
    exact ⟨_, Reads.none, by simp⟩
  | .bool b, _, _, h, r => by
    cases h
    cases r
    exact ⟨_, Reads.bool b, by simp⟩
  | .int i, _, _, h, r => by
    cases h
    obtain ⟨t, rfl⟩ := r
    exact ⟨_, Reads.int i t, by simp⟩
  | .str x, _, _, h, r => by
    cases h
    obtain ⟨t, rfl⟩ := r
    exact ⟨_, Reads.str x t, by simp⟩
  | .list ds, _, _, h, r => by
    cases h with
    | lst n g e q =>
      cases r
      obtain ⟨z, its, m, rv, ho⟩ := I.hok _ _ e
      obtain ⟨as, hr, hn⟩ := Reps.reads I ds _ its q rv
      exact ⟨_, Reads.list ho rfl rfl (by simpa using hr), by simp only [List.mem_cons, not_or]; exact ⟨Nat.ne_of_lt g, hn⟩⟩
  | .tuple ds, _, _, h, r => by
    cases h with
    | tup n e q =>
      cases r
      obtain ⟨z, its, rv, o, ho, hc, m, hd⟩ := I.hok _ _ e
      obtain ⟨as, hr, hn⟩ := Reps.reads I ds _ its q rv
      exact ⟨_, Reads.tuple ho hc hd (by simpa using hr), hn⟩
  | .dict _, _, _, h, r => by
    cases h with
    | @dct a n e =>
      cases r
      obtain ⟨z, hs, vs, rel, dd⟩ := I.hok _ _ e
      cases rel
      obtain ⟨o, es, ep, ho, hx, hd, _, hp, _⟩ := dd
      have he : es.toList = [] := by
        cases q : es.toList with
        | nil => rfl
        | cons e l =>
          rw [q] at hp
          cases hp
      have hn : (a == sysModules) = false := hs
      exact ⟨_, Reads.dict (kvs := []) ho hx.1 hd (by rw [he]; exact ReadsAll.nil) (by rw [he]; exact ReadsAll.nil), by
        simp only [List.append_nil, List.mem_cons, List.not_mem_nil, or_false]
        intro z
        rw [← z] at hn
        simp at hn⟩
theorem Reps.reads (I : Inv X pins σ H s) : ∀ (ds : List PyData) (vs : List V) (us : List Value), Reps j H vs ds → Vals vs us → ∃ as, ReadsAll s.heap us ds as ∧ sysModules ∉ as
  | [], _, _, h, r => by
    cases h
    cases r
    exact ⟨_, ReadsAll.nil, by simp⟩
  | d :: ds, _, _, h, r => by
    cases h with
    | cons h1 h2 =>
      cases r with
      | cons r1 r2 =>
        obtain ⟨as, q1, n1⟩ := Rep.reads I d _ _ h1 r1
        obtain ⟨bs, q2, n2⟩ := Reps.reads I ds _ _ h2 r2
        exact ⟨_, ReadsAll.cons q1 q2, by simp only [List.mem_append, not_or]; exact ⟨n1, n2⟩⟩
end
end
end Ty
namespace Ty
open PySem PySem.Spec PyProof.Rows L2
section
variable {X : Cx}
/-! ### new lists that lie behind the modules' table -/
def tLstN (t : TA) : TE := fun σ H Q => t σ H fun xs H1 => xs.length ≤ sizeLine ∧ ∀ p, H1 p = none → sysModules < p → Q (.ref p) (upd H1 p (.lst xs))
theorem pe_lstN {es : List Expr} {t : TA} {pos : Pos} (h : PA X es t) : PE X (.List es pos) (tLstN t) := by
  refine ⟨fun pins s σ H Q I hq => ?_⟩
  refine wpAny_List_spliced (thn (h.run pos pins s σ H _ I hq) fun us s1 hv => ?_)
  obtain ⟨xs, H1, I1, r, z, q⟩ := hv
  refine ⟨by rw [← r.length]; exact z, .ref s1.heap.objs.size, upd H1 s1.heap.objs.size (.lst xs), I1.laid (t' := s1.toks) (fun b u e => Heap.get?_push_of_some _ e) (Nat.le_refl _) ⟨z, us, 0, r, Heap.get?_push_size _ rfl⟩, rfl, q _ (I1.hok.fresh (Nat.le_refl _)) I1.big⟩
def rListN (K : PySem.W.Frag) : List V → Hp → VK → Prop := fun xs H Q => ∃ p ys, xs = [.ref p] ∧ SqT K H p ys ∧ ∀ l, H l = none → sysModules < l → Q (.ref l) (upd H l (.lst ys))
theorem call_listN : CallR X (.type "list") (rListN X.K) := by
  intro pins s σ H xs us Q I r h
  obtain ⟨p, ys, rfl, hq, q⟩ := h
  obtain ⟨u, rfl, rx⟩ := vals1 r
  cases rx
  obtain ⟨its, r', pl, hz⟩ := I.tuple hq
  have hlen := r'.length
  obtain ⟨o, ho, hc, n, hd⟩ := pl
  refine call_list_seq p (.inr rfl) ho hc hd (fun g c kp e => ?_) (by rw [List.size_toArray, ← hlen]; exact hz)
  exact ⟨.ref s.heap.objs.size, _, I.laid (t' := s.toks) kp (Nat.le_refl _) (show ObjOk X.prog X.w _ g _ (.lst ys) from ⟨hz, its, c, r', e⟩), rfl, q _ (I.hok.fresh (Nat.le_refl _)) I.big⟩
/-! ### str of data, where no repr is under way -/
def strD : PyData → Str
  | .str x => x
  | d => d.shown
def rStrD (j : Addr) : List V → Hp → VK → Prop := fun vs H Q => ∃ v d, vs = [v] ∧ Rep j H v d ∧ d.showable = true ∧ d.shown.length ≤ sizeLine ∧ d.depth ≤ 60 ∧ Q (.str (strD d)) H
theorem call_strD {j : Addr} (hg : X.A.guards = some []) (hu : X.A.units + 64 < cLine) : CallR X (.type "str") (rStrD j) := by
  intro pins s σ H xs us Q I r h
  obtain ⟨v, d, rfl, rp, hs, hz, hd, q⟩ := h
  obtain ⟨u, rfl, rx⟩ := vals1 r
  cases rp with
  | non => cases rx; exact PySem.P.str_of_none ⟨.str _, H, I.tok _, ⟨_, rfl⟩, q⟩
  | bl b => cases rx; exact PySem.P.str_of_bool ⟨.str _, H, I.tok _, ⟨_, rfl⟩, q⟩
  | int i => obtain ⟨t, rfl⟩ := rx; exact PySem.P.str_of_int (of_decide_eq_true hs) ⟨.str _, H, I.tok _, ⟨_, rfl⟩, q⟩
  | str x => obtain ⟨t, rfl⟩ := rx; exact PySem.P.str_of_str ⟨.str x, H, I, ⟨_, rfl⟩, q⟩
  | lst n g e rs =>
    obtain ⟨as, rd, hn⟩ := Rep.reads I _ _ _ (.lst n g e rs) rx
    cases rx
    exact str_of_reads rd hs (fun _ => hn) hg (by omega) (fun _ _ e => e) (fun g u tk kp => ⟨.str _, H, I.kept (t' := tk) kp, ⟨_, rfl⟩, q⟩) hz
  | tup n e rs =>
    obtain ⟨as, rd, hn⟩ := Rep.reads I _ _ _ (.tup n e rs) rx
    cases rx
    exact str_of_reads rd hs (fun _ => hn) hg (by omega) (fun _ _ e => e) (fun g u tk kp => ⟨.str _, H, I.kept (t' := tk) kp, ⟨_, rfl⟩, q⟩) hz
  | dct n e =>
    obtain ⟨as, rd, hn⟩ := Rep.reads I _ _ _ (.dct n e) rx
    cases rx
    exact str_of_reads rd hs (fun _ => hn) hg (by omega) (fun _ _ e => e) (fun g u tk kp => ⟨.str _, H, I.kept (t' := tk) kp, ⟨_, rfl⟩, q⟩) hz
/-! ### a tuple against the empty one -/
def rEqT0 (K : PySem.W.Frag) : R2 := fun x y H Q => ∃ a b xs, x = .ref a ∧ y = .ref b ∧ SqT K H a xs ∧ SqT K H b [] ∧ Q (.bl (decide (xs = []))) H
theorem op_eqT0 (hu : X.A.units < cLine) : OpR X (compareOp .Eq) (rEqT0 X.K) := by
  intro pins s σ H x y v u Q I rx ry h
  obtain ⟨a, b, xs, rfl, rfl, ha, hb, q⟩ := h
  cases rx
  cases ry
  obtain ⟨its, r1, p1, _⟩ := I.tuple ha
  obtain ⟨its2, r2, p2, _⟩ := I.tuple hb
  cases r2
  have hlen := r1.length
  refine SeqAt.eq_tupleAt (e := fun _ => true) p1 p2 hu (fun k h1 h2 => absurd h2 (by simp)) ⟨.bl _, H, I, rfl, ?_⟩
  have e : ((List.range (min its.toArray.size ([] : List Value).toArray.size)).all (fun _ => true) && its.toArray.size == ([] : List Value).toArray.size) = decide (xs = []) := by
    cases xs with
    | nil =>
      cases its with
      | nil => rfl
      | cons => cases hlen
    | cons =>
      cases its with
      | nil => cases hlen
      | cons => simp
  rw [e]
  exact q
end
end Ty
namespace Ty
open PySem PySem.Spec PyProof.Rows L2
def Jar (j : Addr) (H : Hp) (C : Nat) : Prop := ∃ a b c : Int, H j = some (.lst [.int a, .int b, .int c]) ∧ b.natAbs < 2 ^ 130 ∧ 0 ≤ c ∧ c ≤ (C : Int)
theorem Jar.mono {j : Addr} {H : Hp} {C D : Nat} (h : Jar j H C) (l : C ≤ D) : Jar j H D := by
  obtain ⟨a, b, c, h1, h2, h3, h4⟩ := h
  exact ⟨a, b, c, h1, h2, h3, by omega⟩
theorem Jar.keep {j : Addr} {H H' : Hp} {C : Nat} (h : Jar j H C) (s : Same H H') : Jar j H' C := by
  obtain ⟨a, b, c, h1, h2⟩ := h
  exact ⟨a, b, c, s _ _ h1, h2⟩
theorem Jar.ne {j p : Addr} {H : Hp} {C : Nat} (h : Jar j H C) (n : H p = none) : p ≠ j := by
  obtain ⟨a, b, c, h1, _⟩ := h
  intro e
  rw [e, h1] at n
  cases n
def tyOf : PyData → String
  | .none => "NoneType"
  | .bool _ => "bool"
  | .int _ => "int"
  | .str _ => "str"
  | .list _ => "list"
  | .tuple _ => "tuple"
  | .dict _ => "dict"
def isT : PyData → Bool
  | .tuple _ => true
  | _ => false
def isS : PyData → Bool
  | .str _ => true
  | _ => false
theorem Rep.ty {K : PySem.W.Frag} {j : Addr} {H : Hp} {v : V} {d : PyData} (r : Rep j H v d) : TyX K H v (.type (tyOf d)) := by
  cases r with
  | non => exact .base .non
  | bl b => exact .base (.bl b)
  | int i => exact .base (.int i)
  | str x => exact .base (.str x)
  | lst n g e q => exact .base (.lst e)
  | tup n e q => exact .base (.tup e)
  | dct n e => exact .base (.dK e)
theorem kit_s (K : PySem.W.Frag) : ∀ d : PyData, PySem.W.kitOne K (.type (tyOf d)) (.type "str") = some (isS d)
  | .none => kit_ty (show kitB "NoneType" "str" = some false by decide +kernel)
  | .bool _ => kit_ty (show kitB "bool" "str" = some false by decide +kernel)
  | .int _ => kit_ty (show kitB "int" "str" = some false by decide +kernel)
  | .str _ => kit_ty (show kitB "str" "str" = some true by decide +kernel)
  | .list _ => kit_ty (show kitB "list" "str" = some false by decide +kernel)
  | .tuple _ => kit_ty (show kitB "tuple" "str" = some false by decide +kernel)
  | .dict _ => kit_ty (show kitB "dict" "str" = some false by decide +kernel)
theorem kit_t (K : PySem.W.Frag) : ∀ d : PyData, PySem.W.kitOne K (.type (tyOf d)) (.type "tuple") = some (isT d)
  | .none => kit_ty (show kitB "NoneType" "tuple" = some false by decide +kernel)
  | .bool _ => kit_ty (show kitB "bool" "tuple" = some false by decide +kernel)
  | .int _ => kit_ty (show kitB "int" "tuple" = some false by decide +kernel)
  | .str _ => kit_ty (show kitB "str" "tuple" = some false by decide +kernel)
  | .list _ => kit_ty (show kitB "list" "tuple" = some false by decide +kernel)
  | .tuple _ => kit_ty (show kitB "tuple" "tuple" = some true by decide +kernel)
  | .dict _ => kit_ty (show kitB "dict" "tuple" = some false by decide +kernel)
theorem Rep.isS_ex {j : Addr} {H : Hp} {v : V} {d : PyData} (r : Rep j H v d) (h : isS d = true) : ∃ x, d = .str x ∧ v = .str x := by
  cases d with
  | str x => cases r; exact ⟨_, rfl, rfl⟩
  | _ => cases h
theorem Rep.isT_ex {j : Addr} {H : Hp} {v : V} {d : PyData} (r : Rep j H v d) (h : isT d = true) : ∃ a xs ds, d = .tuple ds ∧ v = .ref a ∧ a ≠ j ∧ H a = some (.tup xs) ∧ Reps j H xs ds := by
  cases d with
  | tuple ds => cases r with | tup n e q => exact ⟨_, _, _, rfl, rfl, n, e, q⟩
  | _ => cases h
def Acc (H1 : Hp) (D : Addr) (ys : List V) (H : Hp) : Prop := Same H1 H ∧ H D = some (.lst ys)
theorem Acc.nil {H : Hp} {D : Addr} (n : H D = none) : Acc H D [] (upd H D (.lst [])) := ⟨same_new n _, upd_same⟩
theorem Acc.push {H1 H : Hp} {D : Addr} {ys : List V} (a : Acc H1 D ys H) (n : H1 D = none) (y : V) : Acc H1 D (ys ++ [y]) (upd H D (.lst (ys ++ [y]))) :=
  ⟨fun b o e => by rw [upd_ne (ne_of_none e n)]; exact a.1 b o e, upd_same⟩
theorem Acc.same {H1 H H' : Hp} {D : Addr} {ys : List V} (a : Acc H1 D ys H) (s : Same H H') : Acc H1 D ys H' := ⟨a.1.trans s, s _ _ a.2⟩
theorem Reps.all_keep {j : Addr} {H H' : Hp} {vs : List V} {ds : List PyData} (r : Reps j H vs ds) (s : Same H H') : Reps j H' vs ds := Reps.keep (Keep.of_same s) ds vs r
theorem Rep.all_keep {j : Addr} {H H' : Hp} {v : V} {d : PyData} (r : Rep j H v d) (s : Same H H') : Rep j H' v d := Rep.keep (Keep.of_same s) d v r
theorem at_zero {α : Type} {x : α} {xs : List α} : atI (x :: xs) 0 = some x := by
  have : (0 : Int) < (((x :: xs).length : Nat) : Int) := by rw [List.length_cons]; omega
  unfold atI ixN
  rw [if_pos (Int.le_refl 0), if_pos this]
  rfl
theorem join_one : ∀ l : List Nat, Txt.join "" (l.map fun c => (⟨#[c]⟩ : Str)) = ⟨l.toArray⟩ := by
  intro l
  rw [TL.join_eq]
  induction l with
  | nil => rfl
  | cons c l ih =>
    cases l with
    | nil => rfl
    | cons d l =>
      show (⟨#[c]⟩ : Str) ++ "" ++ Str.join "" ((d :: l).map fun c => (⟨#[c]⟩ : Str)) = _
      rw [ih]
      refine str_of_list ?_
      rw [Str.cps_append, Array.toList_append, Str.cps_append, Array.toList_append]
      rfl
theorem sIx_one {n : Nat} : HT.sIx (n + 1) 0 (some 1) = 1 := by
  unfold HT.sIx
  simp
theorem cut_tail {v : V} {vs : List V} : cutV (v :: vs) (some 1) none = vs := by
  unfold cutV
  rw [List.length_cons, sIx_one]
  show List.take (vs.length + 1 - 1) (List.drop 1 (v :: vs)) = vs
  rw [Nat.add_sub_cancel]
  exact List.take_length
section
variable {X : Cx}
def tDat (d : PyData) : TE := fun σ H Q => ∀ v H', Same H H' → (∀ j, H j ≠ none → Rep j H' v d) → Q v H'
def tDats (ds : List PyData) : TA := fun σ H Q => ∀ vs H', Same H H' → vs.length = ds.length → (∀ j, H j ≠ none → Reps j H' vs ds) → Q vs H'
theorem same_refl {H : Hp} : Same H H := fun b o h => h
theorem new_ne {H H' : Hp} {p j : Addr} (s : Same H H') (hp : H' p = none) (hj : H j ≠ none) : p ≠ j := by
  intro e
  subst e
  cases q : H p with
  | none => exact hj q
  | some o => rw [s _ _ q] at hp; cases hp
theorem dt_non {j : Nat} {pos : Pos} : PE X (.Constant .none j pos) (tDat .none) := ⟨fun pins s σ H Q I h => (pe_non (X := X)).run pins s σ H Q I (h _ _ same_refl fun _ _ => .non)⟩
theorem dt_bl {b : Bool} {j : Nat} {pos : Pos} : PE X (.Constant (.bool b) j pos) (tDat (.bool b)) := ⟨fun pins s σ H Q I h => (pe_bl (X := X)).run pins s σ H Q I (h _ _ same_refl fun _ _ => .bl b)⟩
theorem dt_int {i : Int} {j : Nat} {pos : Pos} : PE X (.Constant (.int i) j pos) (tDat (.int i)) := ⟨fun pins s σ H Q I h => (pe_int (X := X)).run pins s σ H Q I (h _ _ same_refl fun _ _ => .int i)⟩
theorem dt_str {x : Str} {j : Nat} {pos : Pos} : PE X (.Constant (.str x) j pos) (tDat (.str x)) := ⟨fun pins s σ H Q I h => (pe_str (X := X)).run pins s σ H Q I (h _ _ same_refl fun _ _ => .str x)⟩
theorem da_nil : PA X [] (tDats []) := ⟨fun pos pins s σ H Q I h => (pa_nil (X := X)).run pos pins s σ H Q I (h _ _ same_refl rfl fun _ _ => .nil)⟩
theorem da_cons {e : Expr} {es : List Expr} {d : PyData} {ds : List PyData} (he : PE X e (tDat d)) (ha : PA X es (tDats ds)) (hs : starEach (e :: es) X.env = (false, eval e X.env) :: starEach es X.env := by rfl) : PA X (e :: es) (tDats (d :: ds)) :=
  ⟨fun pos pins s σ H Q I h => (pa_cons he ha hs).run pos pins s σ H Q I fun v H1 s1 r1 vs H2 s2 hl r2 => h _ _ (s1.trans s2) (by rw [List.length_cons, List.length_cons, hl]) fun j hj =>
    have hj1 : H1 j ≠ none := fun e => by
      cases q : H j with
      | none => exact hj q
      | some o => rw [s1 _ _ q] at e; cases e
    .cons ((r1 j hj).all_keep s2) (r2 j hj1)⟩
theorem dt_tup {es : List Expr} {ds : List PyData} {k : Nat} {pos : Pos} (ha : PA X es (tDats ds)) (hl : ds.length ≤ 1000 := by decide) : PE X (.Tuple es k pos) (tDat (.tuple ds)) :=
  ⟨fun pins s σ H Q I h => (pe_tup ha).run pins s σ H Q I fun vs H1 s1 hv r =>
    ⟨by rw [hv, sizeLine_eq]; omega, fun p hp => h _ _ (s1.trans (same_new hp _)) fun i hi => .tup (new_ne s1 hp hi) upd_same ((r i hi).all_keep (same_new hp _))⟩⟩
theorem dt_lst {es : List Expr} {ds : List PyData} {pos : Pos} (ha : PA X es (tDats ds)) (hl : ds.length ≤ 1000 := by decide) : PE X (.List es pos) (tDat (.list ds)) :=
  ⟨fun pins s σ H Q I h => (pe_lstN ha).run pins s σ H Q I fun vs H1 s1 hv r =>
    ⟨by rw [hv, sizeLine_eq]; omega, fun p hp hlt => h _ _ (s1.trans (same_new hp _)) fun i hi => .lst (new_ne s1 hp hi) hlt upd_same ((r i hi).all_keep (same_new hp _))⟩⟩
theorem dt_dct {pos : Pos} : PE X (.Dict [] [] pos) (tDat (.dict [])) :=
  ⟨fun pins s σ H Q I h => (pe_dnewK (X := X)).run pins s σ H Q I fun p hp => h _ _ (same_new hp _) fun i hi => .dct (new_ne same_refl hp hi) upd_same⟩
theorem at_in {α : Type} {l : List α} {i : Int} (h0 : 0 ≤ i) (h1 : i < (l.length : Nat)) : ∃ x, atI l i = some x ∧ l[i.toNat]? = some x := by
  have h2 : i.toNat < l.length := by omega
  refine ⟨l[i.toNat], ?_, List.getElem?_eq_getElem h2⟩
  unfold atI ixN
  rw [if_pos h0, if_pos h1]
  exact List.getElem?_eq_getElem h2
theorem Jar.some {j : Addr} {H : Hp} {C : Nat} (h : Jar j H C) : H j ≠ none := by
  obtain ⟨a, b, c, h1, _⟩ := h
  rw [h1]
  simp
end
theorem Keep.lst {j p : Addr} {H H' : Hp} {xs : List V} (k : Keep j H H') (n : p ≠ j) (e : H p = some (.lst xs)) : H' p = some (.lst xs) := k _ _ n e
def Ones (ys : List Str) : Prop := ∀ y, y ∈ ys → ∃ c, c < 128 ∧ y = ⟨#[c]⟩
theorem Ones.codes : ∀ {ys : List Str}, Ones ys → ∃ l : List Nat, ys = l.map (fun c => (⟨#[c]⟩ : Str)) ∧ ∀ c, c ∈ l → c < 128
  | [], _ => ⟨[], rfl, fun _ h => by cases h⟩
  | y :: ys, h => by
    obtain ⟨c, hc, rfl⟩ := h y List.mem_cons_self
    obtain ⟨l, rfl, hl⟩ := Ones.codes (ys := ys) fun z hz => h z (List.mem_cons_of_mem _ hz)
    exact ⟨c :: l, rfl, fun d hd => by
      rcases List.mem_cons.mp hd with e | e
      · rw [e]; exact hc
      · exact hl d e⟩
theorem ones_sum : ∀ l : List Nat, ((l.map (fun c => (⟨#[c]⟩ : Str))).map (·.length)).sum = l.length
  | [] => rfl
  | c :: l => by
    rw [List.map_cons, List.map_cons, List.sum_cons, ones_sum l, List.length_cons]
    show 1 + _ = _
    omega
theorem cut_to {xs : List V} {b : Nat} : cutV xs none (some (b : Nat)) = xs.take b := by
  unfold cutV
  rw [HT.sIx_nat]
  show List.take (min b xs.length - 0) (List.drop 0 xs) = _
  rw [Nat.sub_zero, List.drop_zero]
  by_cases h : b ≤ xs.length
  · rw [Nat.min_eq_left h]
  · rw [Nat.min_eq_right (by omega), List.take_length, List.take_of_length_le (by omega)]
theorem cut_from {xs : List V} {b : Nat} : cutV xs (some (b : Nat)) none = xs.drop b := by
  unfold cutV
  rw [HT.sIx_nat]
  show List.take (xs.length - min b xs.length) _ = _
  rw [List.take_of_length_le (by rw [List.length_drop]; exact Nat.le_refl _)]
  by_cases h : b ≤ xs.length
  · rw [Nat.min_eq_left h]
  · rw [Nat.min_eq_right (by omega), List.drop_length, List.drop_eq_nil_of_le (by omega)]
theorem not_in {j a b : Addr} (h1 : a ≠ j) (h2 : b ≠ j) : j ∉ [a, b] := by simp [Ne.symm h1, Ne.symm h2]
theorem not_in1 {j a : Addr} (h1 : a ≠ j) : j ∉ [a] := by simp [Ne.symm h1]
structure Good (j : Addr) (H0 H : Hp) (C : Nat) : Prop where
  jar : Jar j H C
  keep : Keep j H0 H
theorem Good.same {j : Addr} {H0 H H' : Hp} {C : Nat} (g : Good j H0 H C) (s : Same H H') : Good j H0 H' C := ⟨g.jar.keep s, g.keep.trans (Keep.of_same s)⟩
theorem Good.on {j : Addr} {H0 H H' : Hp} {C C' : Nat} (g : Good j H0 H C) (k : Keep j H H') (jr : Jar j H' C') : Good j H0 H' C' := ⟨jr, g.keep.trans k⟩
theorem Good.new {j : Addr} {H0 H : Hp} {C : Nat} (g : Good j H0 H C) {p : Addr} (hp : H p = none) (o : HO) : Good j H0 (upd H p o) C := g.same (same_new hp o)
theorem Good.got {j p : Addr} {H0 H : Hp} {C : Nat} (g : Good j H0 H C) {as : List Addr} (n : ∀ j, H j ≠ none → j ∉ as → p ≠ j) (h : j ∉ as) : p ≠ j := n j g.jar.some h
end Ty
/-! own errors whose __init__ calls the base's own, by the base's name; isinstance of a caught one that bears fields -/
namespace Dz
open PySem PySem.Spec PyProof.Rows L2
section
variable {X : Cx} {x : Str} {e : Expr} {es : List Expr} {ta : TA} {p1 p2 pos : Pos} {CY : Addr} {mc : Value}
theorem pe_oinit {pl : Sem Bool} (hg : Gl X x) (hm : X.mg x = some (.ref CY)) (r : ClX.CRead X.K CY mc) (vV : PySem.W.findCls X.K (.ref CY) mc "__init__" = some (.val (.builtin "ValueError.__init__"))) (ha : PA X (e :: es) ta) (hdb : (x == ("__debug__" : Str)) = false := by decide)
    (hc : eval (.Call (.Attribute (.Name x p1) "__init__" p2) (e :: es) [] pos) X.env = (do
      let ov ← eval (.Name x p1) X.env
      standAt p2.atName
      let (f, first) ← holding [ov] (getMethod ov "__init__" pl)
      callWith pos f first (backTo pos (starEach (e :: es) X.env)) (backToKw pos (keywordEach [] X.env))) := by rfl)
    (he : starEach (e :: es) X.env = (false, eval e X.env) :: starEach es X.env := by rfl) (hpl : (backTo pos (starEach es X.env)).any (·.1) = false := by rfl) :
    PE X (.Call (.Attribute (.Name x p1) "__init__" p2) (e :: es) [] pos) (tVeI X.K ta) := by
  refine ⟨fun pins s σ H Q I h => ?_⟩
  refine PySem.W.methodCall_KW (ld_glob I hg hm ?_ hdb) hc
  refine PySem.W.method_cls I.kIn r.ga (PySem.W.cls_value I.kIn r.rd vV (by decide +kernel) ?_)
  refine PyProof.Rows.callWith_method1 (thn (ha.run pos pins _ σ H _ (I.tok _) h) fun us s1 hv => ?_) he hpl
  obtain ⟨vs, H1, I1, r1, a, C, ws, ev, hl, T, ea, q⟩ := hv
  subst ev
  cases r1 with
  | @cons _ u0 _ ur ra rw' =>
    obtain rfl : u0 = Value.ref a := ra
    have hlen : ur.length ≤ sizeLine := by
      rw [← Paired.length rw', sizeLine_eq]
      omega
    exact oinit_ok T I1 ea hlen fun s' J => ⟨.non, H1, J, rfl, q⟩
end
/-! ### isinstance of a caught error that has its dict -/
section
open PySem.W PySem.Calls
variable {prog : Program} {w : World} {A : Around} {E : Value → Shared → Prop} {s : Shared} {K : Frag} {x D : Addr} {ox : Obj} {od : Option Obj}
theorem data_first {C : Addr} {name : Str} {a g : Value} (hc : (clsIn K C).isSome = true) (ha : findIn K (.ref C) name = some (some a)) (hg : specialIn K a "__get__" = some (some g)) (ht : takesIn K a = some true) : findObj K C od name = some (.bind g a) := by
  obtain ⟨cd, hc⟩ := Option.isSome_iff_exists.mp hc
  unfold findObj
  rw [hc, Option.bind_some, ha, Option.bind_some]
  simp [hg, ht]
/-- its class is asked of the object's own getter, whatever its dict holds -/
theorem its_class {Q : Option Value → Shared → Prop} (T : ExcC K D) (X : K.In s.heap) (I : InstAt s.heap x ox D od) (h : Q (some (.ref D)) { s with toks := s.toks + 1 }) : wpAny (model prog w) A (getAttr? (.ref x) "__class__") Q E s := by
  have known : (clsIn K D).isSome = true := by
    obtain ⟨cd, hc, _⟩ := any_some T.hd
    rw [hc]; rfl
  have found : findObj K D od "__class__" = some (.bind (.builtin "getset_descriptor.__get__") (.builtin "object.__class__")) := data_first known T.ha T.hn T.ht
  obtain ⟨hp, g, d, t, os⟩ := s
  have seen := I.type (M := model prog w)
  have its := looks_findIn (M := model prog w) X T.hg
  have nohook := looks_findIn (M := model prog w) X T.hk
  have look := looks_find (M := model prog w) X I found
  have base : Looks (model prog w) hp (isInstance (.ref x) (.type "BaseException")) true := seen.andThen (looks_subIn X T.hs)
  have differ : (Value.builtin "BaseException.__getattribute__" == Value.builtin "object.__getattribute__") = false := by decide +kernel
  have short : (onTheHeap (Value.ref D) && Value.builtin "BaseException.__getattribute__" == Value.builtin "object.__getattribute__") = false := by rw [differ]; rfl
  have plain : (false && onTheHeap (Value.builtin "BaseException.__getattribute__")) = false := rfl
  unfold getAttr? getAttrBy? getAttrBy
  refine wpAny_bind (wpAny_mkText (wpAny_bind (wpAny_attempt (wpAny_holding (wpAny_bind (seen.at (wpAny_bind (its.at ?_))))))))
  show wpAny _ _ (if (onTheHeap (Value.ref D) && Value.builtin "BaseException.__getattribute__" == Value.builtin "object.__getattribute__") = true then _ else _) _ _ _
  rw [short, if_neg Bool.false_ne_true]
  unfold getAttrByItsOwn hookBefore
  refine wpAny_bind ?_
  rw [if_pos (show onTheHeap (Value.ref D) = true from rfl)]
  refine nohook.at (wpAny_bind (wpAny_attempt (wpAny_holding ?_)))
  unfold callGetattribute
  rw [plain, if_neg Bool.false_ne_true]
  unfold boundAndCalled
  rw [PySem.F.excAttr_ValueError.ga.bind (.ref x)]
  refine wpAny_bind (wpAny_pure ?_)
  show wpAny _ _ (call (.builtin "BaseException.__getattribute__") [.ref x, .str "__class__" t]) _ _ _
  refine wpAny_call (codeAny_call_builtin PySem.F.excAttr_ValueError.ga.plain PySem.F.entry_bexc_ga ?_)
  refine @check_slot (model prog w) _ _ ⟨hp, g, d, t + 1, os⟩ "BaseException.__getattribute__" "BaseException" "__getattribute__" (.ref x) [.str "__class__" t] [] _ (by decide +kernel) (by decide +kernel) base (PySem.F.args_bexc_ga (.ref x) (.str "__class__" t)) ?_
  unfold Builtin.«object.__getattribute__»
  refine wpAny_bind (wpAny_of_eq (a := ((Value.ref x : Value), [Value.str "__class__" t])) (by first | rfl | (simp only [slotArgs]; rfl)) ?_)
  refine wpAny_bind (wpAny_pure (wpAny_bind (seen.at (wpAny_bind (look.at ?_)))))
  show wpAny _ _ (holding [Value.builtin "object.__class__"] (call (.builtin "getset_descriptor.__get__") [.builtin "object.__class__", .ref x, .ref D]) >>= ret) _ _ _
  refine wpAny_bind (wpAny_holding (wpAny_call (class_get (s := ⟨hp, g, d, t + 1, os⟩) X I T.hm ?_)))
  refine wpAny_pure ?_
  show wpAny _ _ (handedOut (.ref D)) _ _ _
  rw [handedOut_of (v := .ref D) rfl]
  first
    | exact wpAny_pure (wpAny_pure h)
    | exact wpAny_pure h
    | exact wpAny_pure (wpAny_bind (wpAny_pure (wpAny_pure h)))
theorem kit_caught (T : ExcC K D) : KitX K (.ref x) (.ref D) (fun h => InstAt h x ox D od) where
  ty := fun _ _ _ I => I.type
  it := fun _ _ X _ => by
    obtain ⟨cd, hc, _⟩ := any_some T.hd
    unfold clsIn at hc
    split at hc
    · rename_i c' d' cd' sl' ho
      intro A' Q' E' s' k q
      unfold isType loadHead
      exact wpAny_bind (wpAny_loadPart (k _ _ (X _ _ ho)) (wpAny_pure q))
    · cases hc
  ne := fun h tp dd its n sl X htp => by
    obtain ⟨cd, hc, _⟩ := any_some T.hd
    refine Bool.eq_false_iff.mpr fun q => ?_
    have e : D = tp := Value.ref.inj (beq_iff_eq.mp q)
    subst e
    unfold clsIn at hc
    split at hc
    · rename_i c' d' cd' sl' ho
      have z := (X _ _ ho).symm.trans htp
      cases z
    · cases hc
  ca := fun X I k => its_class T X I k
end
/-- isinstance(e, c), e the caught error at a; cls its class, d its dict -/
def rIsC (K : PySem.W.Frag) (a : Addr) (cls : Value) (d : Option Addr) : List V → Hp → VK → Prop := fun xs H Q => ∃ (c : V) (cv : Value) (b : Bool) (D dd : Addr) (fs : List (Str × V)), xs = [.ref a, c] ∧ (∀ u, RelV c u → u = cv) ∧ cls = .ref D ∧ d = some dd ∧ H dd = some (.xd fs) ∧ ExcC K D ∧
  PySem.W.kitOne K (.ref D) cv = some b ∧ Q (.bl b) H
theorem call_isC {X : Cx} {a : Addr} {cls : Value} {d : Option Addr} {oe : Obj} {pn : List (Addr × Obj)} (hz : Zc cls d oe) (hf : ∃ vs, oe.data = .fields vs) : CallR (X.suite a ((a, oe) :: pn)) (.builtin "isinstance") (rIsC X.K a cls d) := by
  intro pins s σ H xs us Q I r h
  obtain ⟨c, cv, b, D, dd, fs, rfl, hcv, rfl, rfl, hd, C, e, q⟩ := h
  obtain ⟨u1, u2, rfl, r1, r2⟩ := vals2 r
  cases r1
  have ec := hcv _ r2
  subst ec
  obtain ⟨hget, _⟩ := I.pin (a, oe) (List.mem_append.mpr (.inl List.mem_cons_self))
  obtain ⟨vs, hv⟩ := hf
  have hx : ObjOk X.prog X.w H s.heap dd (.xd fs) := I.hok dd _ hd
  obtain ⟨mA, ⟨od, es, ep, ho, _⟩, _⟩ := hx
  have J : PySem.W.InstAt s.heap a oe D (some od) := ⟨hget, hz.1, by unfold PySem.W.notCls; rw [hv] <;> rfl, by rw [hz.2]; exact ho⟩
  exact PySem.W.kia_one (kit_caught C) I.kIn J e (fun z => nomatch z) fun tk => ⟨.bl b, H, I.kept (t' := tk) fun _ _ z => z, rfl, q⟩
end Dz
namespace Dz
open PySem PySem.Spec PyProof.Rows L2 Ty
abbrev top (i : Nat) : Stmt := PySem.Challenge.pw_tongueyard_k49_deeds_done.main.body.getD i (.Pass ⟨0, 0, 0, 0⟩)
def inner (i : Nat) : Stmt → Stmt
  | .ClassDef _ _ _ body _ _ _ _ _ _ _ => body.getD i (.Pass ⟨0, 0, 0, 0⟩)
  | s => s
abbrev sInit : Stmt := inner 0 (top 2)
abbrev sName : Stmt := top 7
abbrev sDeed : Stmt := top 9
abbrev sMend : Stmt := top 10
abbrev sCell : Stmt := top 12
abbrev sPot : Stmt := top 13
abbrev sPick : Stmt := top 14
abbrev sNames : Stmt := top 15
abbrev sGood : Stmt := top 16
abbrev sWant : Stmt := top 17
abbrev sDeeds : Stmt := top 18
abbrev sBad : Stmt := top 19
abbrev sTold : Stmt := top 20
abbrev sRight : Stmt := top 21
abbrev sLaw : Stmt := top 22
theorem scPick : FnScope ["pot", "many", "found", "mixed"] ["pot", "many"] (defScope sPick) := ⟨rfl, rfl, rfl, by decide +kernel, rfl, by decide +kernel, by decide +kernel⟩
theorem scPot : FnScope ["cell"] ["cell"] (defScope sPot) := ⟨rfl, rfl, rfl, by decide +kernel, rfl, by decide +kernel, by decide +kernel⟩
theorem scCell : FnScope ["script", "k"] ["script", "k"] (defScope sCell) := ⟨rfl, rfl, rfl, by decide +kernel, rfl, by decide +kernel, by decide +kernel⟩
theorem scInit : FnScope ["self", "at"] ["self", "at"] (defScope sInit) := ⟨rfl, rfl, rfl, by decide +kernel, rfl, by decide +kernel, by decide +kernel⟩
def spPick : Sp := fun vs H Q _ => ∃ (j : Addr) (C : Nat) (m : Int), vs = [.ref j, .int m] ∧ Jar j H C ∧ C ≤ 1000000000 ∧ 0 < m ∧ m < 1000000 ∧
  ∀ (r : Int) (H' : Hp), 0 ≤ r → r < m → Jar j H' (C + 1) → Keep j H H' → Q (.int r) H'
def spPot : Sp := fun vs H Q _ => ∃ (z : Int), vs = [.int z] ∧ ∀ (j : Addr) (H' : Hp), H j = none → Same H H' → Jar j H' 0 → Q (.ref j) H'
def spCell (K : PySem.W.Frag) : Sp := fun vs H Q _ => ∃ (a : Addr) (ns : List Int) (k : Int), vs = [.ref a, .int k] ∧ SqL K H a (ns.map V.int) ∧ ns.length ≤ sizeLine ∧ 0 ≤ k ∧ ∀ z : Int, Q (.int z) H
/-- an error's __init__: it gives the new error its field -/
def spInit (K : PySem.W.Frag) (C : Addr) : Sp := fun vs H Q _ => ∃ (a : Addr) (v : V), vs = [.ref a, v] ∧ OexC K C ∧ PySem.W.findIn K (.ref C) "at" = some none ∧ H a = some (exo a C none) ∧
  ∀ d, H d = none → d ≠ a → Q .non (upd (upd H d (exd d [("at", v)])) a (exo a C (some d)))
section
variable {P : Program} {w : World} {K : PySem.W.Frag} {mg : Str → Option Value} {base : Heap} {f C CY : Addr} {fd : FuncData} {mc : Value}
theorem ok_init (F : Fun K "__init__" "NoDeeds.__init__" sInit f fd) (mY : mg "YardError" = some (.ref CY)) (r : ClX.CRead K CY mc) (vV : PySem.W.findCls K (.ref CY) mc "__init__" = some (.val (.builtin "ValueError.__init__"))) :
    FnOk P w K mg base CX0 1 f fd ["self", "at"] (spInit K C) := by
  refine F.ok scInit (fun vs H Q E h => ?_) (fun cdv A outer s H vs Q E hr h => ?_)
  · obtain ⟨a, v, rfl, _⟩ := h
    rfl
  obtain ⟨a, v, rfl, T, no, ha, q⟩ := h
  refine ⟨_, pss_cons (ps_expr (pe_oinit rfl mY r vV (pa_cons (pv 0) (pa_cons pe_str pa_nil)))) (pss_one (ps_ost (f := "at") (pv 0) (pv 1))), ?_⟩
  refine ⟨_, rfl, a, C, _, rfl, by decide, T, ha, _, rfl, _, rfl, a, C, rfl, T, no, .inl ⟨ha, fun d hd hn => q d hd hn⟩⟩
theorem ok_cell (F : Fun K "_law_cell_at" "_law_cell_at" sCell f fd) (ml : mg "len" = none) : FnOk P w K mg base CX0 1 f fd ["script", "k"] (spCell K) := by
  refine F.ok scCell (fun vs H Q E h => ?_) (fun cdv A outer s H vs Q E hr h => ?_)
  · obtain ⟨a, ns, k, rfl, _⟩ := h
    rfl
  obtain ⟨a, ns, k, rfl, hS, hl, k0, q⟩ := h
  refine ⟨_, pss_cons (ps_if (pt_cmpR op_lt (pv 1) (pe_callB call_len_seq rfl ml PySem.boot_len (pa_cons (pv 0) pa_nil)) (nomark _)) (pss_one (ps_ret (pe_ix ix_list (pv 0) (pv 1) (fun _ _ => rfl)))) pss_nil) (pss_one (ps_ret pe_int)), ?_⟩
  refine ⟨_, rfl, _, rfl, a, _, rfl, .inl hS, _, _, rfl, rfl, _, rfl, ?_⟩
  refine ite2 (fun c => ?_) (fun c => q 0)
  have c' : k < (((ns.map V.int).length : Nat) : Int) := of_decide_eq_true c
  obtain ⟨x, hx1, hx2⟩ := at_in (l := ns.map V.int) k0 c'
  obtain ⟨z, _, rfl⟩ := List.mem_map.mp (List.mem_of_getElem? hx2)
  exact ⟨_, rfl, _, rfl, a, _, _, _, rfl, rfl, hS, hx1, q z⟩
theorem ok_pot (F : Fun K "_law_pot" "_law_pot" sPot f fd) (mm : mg "max" = none) : FnOk P w K mg base CX0 1 f fd ["cell"] spPot := by
  refine F.ok scPot (fun vs H Q E h => ?_) (fun cdv A outer s H vs Q E hr h => ?_)
  · obtain ⟨z, rfl, _⟩ := h
    rfl
  obtain ⟨z, rfl, q⟩ := h
  refine ⟨_, pss_one (ps_ret (pe_lst (pa_cons (pe_callB (call_max2 rfl) rfl mm (by decide +kernel) (pa_cons pe_int (pa_cons (pe_op op_sub (pv 0) (pe_op op_pow pe_int pe_int)) pa_nil)))
      (pa_cons (pe_op op_mod (pv 0) pe_int) (pa_cons pe_int pa_nil))))), ?_⟩
  refine ⟨_, rfl, _, _, rfl, rfl, ⟨by decide, by decide, by decide⟩, _, _, rfl, rfl, _, _, rfl, _, rfl, _, _, rfl, rfl, (show (0 : Int) < 170141183460469231731687303715884105727 by decide), (by show 3 ≤ sizeLine; decide), fun p hp => ?_⟩
  refine q p _ hp (same_new hp _) ⟨_, _, _, upd_same, ?_, Int.le_refl 0, Int.le_refl 0⟩
  have h1 := Int.emod_nonneg z (b := 170141183460469231731687303715884105727) (by decide)
  have h2 := Int.emod_lt_of_pos z (b := 170141183460469231731687303715884105727) (by decide)
  have h3 : (2 : Nat) ^ 130 = 1361129467683753853853498429727072845824 := by decide
  omega
theorem ok_pick (F : Fun K "_law_pick" "_law_pick" sPick f fd) : FnOk P w K mg base CX0 1 f fd ["pot", "many"] spPick := by
  refine F.ok scPick (fun vs H Q E h => ?_) (fun cdv A outer s H vs Q E hr h => ?_)
  · obtain ⟨j, C, m, rfl, _⟩ := h
    rfl
  obtain ⟨j, C, m, rfl, ⟨a, b, c, hj, hb, hc0, hc⟩, hC, m0, m1, q⟩ := h
  refine ⟨_, pss_cons (ps_if (pt_cmpR op_gt (pe_ix ix_list (pv 0) pe_int (fun _ _ => rfl)) pe_int (nomark _))
      (pss_cons (ps_set (i := 2) scPick.nd rfl (.inl rfl) (pe_op op_mod (pe_ix ix_list (pv 0) pe_int (fun _ _ => rfl)) (pv 1)))
        (pss_cons (ps_asg (pe_op op_fdivN (pe_ix ix_list (pv 0) pe_int (fun _ _ => rfl)) (pv 1)) (pg_sub (pv 0) pe_int set_list))
          (pss_one (ps_ret (pv 2))))) pss_nil)
    (pss_cons (ps_asg (pe_op op_add (pe_ix ix_list (pv 0) pe_int (fun _ _ => rfl)) pe_int) (pg_sub (pv 0) pe_int set_list))
    (pss_cons (ps_set (i := 3) scPick.nd rfl (.inl rfl) (pe_op op_mod (pe_op op_powW (pe_op op_add (pe_op op_add (pe_ix ix_list (pv 0) pe_int (fun _ _ => rfl)) (pe_op op_mul pe_int (pe_ix ix_list (pv 0) pe_int (fun _ _ => rfl)))) pe_int) pe_int) pe_int))
    (pss_cons (ps_set (i := 3) scPick.nd rfl (.inl rfl) (pe_op op_mod (pe_op op_powW (pe_op op_add (pv 3) (pe_op op_mul pe_int (pe_ix ix_list (pv 0) pe_int (fun _ _ => rfl)))) pe_int) pe_int))
    (pss_one (ps_ret (pe_op op_mod (pe_op op_fdivN (pv 3) pe_int) (pv 1))))))), ?_⟩
  have e0 : ∀ (x y z : V), atI [x, y, z] 0 = some x := fun _ _ _ => rfl
  have e1 : ∀ (x y z : V), atI [x, y, z] 1 = some y := fun _ _ _ => rfl
  have e2 : ∀ (x y z : V), atI [x, y, z] 2 = some z := fun _ _ _ => rfl
  refine ⟨_, rfl, j, _, _, _, rfl, rfl, SqL.of hj, e0 _ _ _, _, _, rfl, rfl, _, rfl, ?_⟩
  refine ite2 (fun g => ?_) (fun g => ?_)
  · refine ⟨_, rfl, j, _, _, _, rfl, rfl, SqL.of hj, e0 _ _ _, _, rfl, _, _, rfl, rfl, m0, ?_⟩
    refine ⟨_, rfl, j, _, _, _, rfl, rfl, SqL.of hj, e0 _ _ _, _, rfl, _, _, rfl, rfl, ⟨by omega, by omega⟩, ?_⟩
    refine ⟨_, rfl, j, _, _, 0, rfl, rfl, hj, rfl, ?_⟩
    refine ⟨_, rfl, q _ _ (Int.emod_nonneg _ (by omega)) (Int.emod_lt_of_pos _ m0) ?_ (keep_jar _)⟩
    exact ⟨_, b, c, upd_same, hb, hc0, by omega⟩
  · refine ⟨_, rfl, j, _, _, _, rfl, rfl, SqL.of hj, e2 _ _ _, _, _, rfl, rfl, ?_⟩
    refine ⟨_, rfl, j, _, _, 2, rfl, rfl, hj, rfl, ?_⟩
    have hj2 : (upd H j (.lst [.int a, .int b, .int (c + 1)])) j = some (.lst [.int a, .int b, .int (c + 1)]) := upd_same
    refine ⟨_, rfl, j, _, _, _, rfl, rfl, SqL.of hj2, e1 _ _ _, _, rfl, j, _, _, _, rfl, rfl, SqL.of hj2, e2 _ _ _, _, _, rfl, rfl, .inl ⟨by decide, by decide⟩, _, _, rfl, rfl, _, _, rfl, rfl, ?_⟩
    have hp1 : (b + 7368787 * (c + 1) + 71).natAbs < 2 ^ 200 := by
      have : (2 : Nat) ^ 130 + 7368787 * 1000000001 + 71 < 2 ^ 200 := by decide
      omega
    refine ⟨_, _, rfl, rfl, powW_of hp1 (by decide) (k := 3) (by decide), _, _, rfl, rfl, (show (0 : Int) < 162259276829213363391578010288127 by decide), ?_⟩
    have hm1 : ∀ x : Int, (x % 162259276829213363391578010288127).natAbs < 2 ^ 130 := fun x => by
      have h1 := Int.emod_nonneg x (b := 162259276829213363391578010288127) (by decide)
      have h2 := Int.emod_lt_of_pos x (b := 162259276829213363391578010288127) (by decide)
      have : (2 : Nat) ^ 130 = 1361129467683753853853498429727072845824 := by decide
      omega
    refine ⟨_, rfl, _, rfl, j, _, _, _, rfl, rfl, SqL.of hj2, e2 _ _ _, _, _, rfl, rfl, .inl ⟨by decide, by decide⟩, _, _, rfl, rfl, ?_⟩
    refine ⟨_, _, rfl, rfl, powW_of (n := 200) ?_ (by decide) (k := 5) (by decide), _, _, rfl, rfl, (show (0 : Int) < 618970019642690137449562111 by decide), ?_⟩
    · have := hm1 ((b + 7368787 * (c + 1) + 71) ^ (3 : Int).toNat)
      have : (2 : Nat) ^ 130 + 32452843 * 1000000001 < 2 ^ 200 := by decide
      omega
    refine ⟨_, rfl, _, _, rfl, rfl, ⟨by decide, by decide⟩, _, rfl, _, _, rfl, rfl, m0, ?_⟩
    exact q _ _ (Int.emod_nonneg _ (by omega)) (Int.emod_lt_of_pos _ m0) ⟨a, b, c + 1, upd_same, hb, by omega, by omega⟩ (keep_jar _)
end
end Dz
namespace Dz
open PySem PySem.Spec PyProof.Rows L2 Ty
def letters : List Nat := List.range' 97 26
def lettS : Str := ⟨letters.toArray⟩
def kept : List Str := ["word", "skip", "rule", "top", "bar"]
def nameP (x : Str) : Bool := !decide (x ∈ kept) && (decide (1 ≤ x.length) && (decide (x.length ≤ 8) && x.cps.toList.all fun c => decide (c ∈ letters)))
def nameD : PyData → Bool
  | .str x => nameP x
  | _ => false
inductive Deed
  | keep | drop
  | put (x : Str) | turn (x : Str)
def nameOf : List PyData → Option Str
  | [.str x] => if nameP x = true then some x else none
  | _ => none
def deedOf : PyData → Option Deed
  | .tuple (.str w :: ds) =>
    if w = "keep" then (if ds.length = 0 then some .keep else none)
    else if w = "drop" then (if ds.length = 0 then some .drop else none)
    else if w = "put" then (nameOf ds).map .put
    else if w = "turn" then (nameOf ds).map .turn
    else none
  | _ => none
def run : List PyData → List Str → Nat → List Str → Sum (List Str) Nat
  | [], left, at_, acc => if left = [] then .inl acc else .inr at_
  | d :: ds, left, at_, acc => match deedOf d with
    | none => .inr at_
    | some (.put x) => run ds left (at_ + 1) (acc ++ [x])
    | some .keep => (match left with | [] => .inr at_ | k :: l => run ds l (at_ + 1) (acc ++ [k]))
    | some .drop => (match left with | [] => .inr at_ | _ :: l => run ds l (at_ + 1) acc)
    | some (.turn x) => (match left with | [] => .inr at_ | k :: l => if x = k then .inr at_ else run ds l (at_ + 1) (acc ++ [x]))
/-! ### data that a deed may be -/
/-- a short text of low signs -/
structure Tx (x : Str) : Prop where
  few : x.length ≤ 1000
  low : ∀ c, c ∈ x.cps.toList → c < 128
inductive Flat : PyData → Prop
  | non : Flat .none
  | int (i : Int) : Flat (.int i)
  | str {x : Str} (h : Tx x) : Flat (.str x)
inductive Dd : PyData → Prop
  | flat {d : PyData} (h : Flat d) : Dd d
  | lst {x : Str} (h : Tx x) : Dd (.list [.str x])
  | tup {ds : List PyData} (hl : ds.length ≤ 4) (h : ∀ d, d ∈ ds → Flat d) : Dd (.tuple ds)
theorem Flat.v {j : Addr} {H : Hp} {v : V} {d : PyData} (f : Flat d) (r : Rep j H v d) : flatV v = true := by
  cases f <;> cases r <;> rfl
theorem inV_strs {x : Str} : ∀ {l : List Str}, inV (.str x) (l.map V.str) = decide (x ∈ l)
  | [] => by simp [inV]
  | y :: l => by
    have ih := inV_strs (x := x) (l := l)
    unfold inV at ih ⊢
    rw [List.map_cons, List.any_cons, ih]
    have e : eqV (V.str y) (V.str x) = decide (x = y) := by
      show (y == x) = _
      by_cases h : x = y
      · rw [h]; simp
      · rw [decide_eq_false h]
        cases q : y == x with
        | false => rfl
        | true => exact absurd (eq_of_beq q).symm h
    rw [e]
    simp [List.mem_cons, Bool.or_eq_true]
theorem inV_non : ∀ {l : List Str}, inV .non (l.map V.str) = false
  | [] => rfl
  | y :: l => by
    have ih := inV_non (l := l)
    unfold inV at ih ⊢
    rw [List.map_cons, List.any_cons, ih]
    rfl
theorem inV_int {i : Int} : ∀ {l : List Str}, inV (.int i) (l.map V.str) = false
  | [] => rfl
  | y :: l => by
    have ih := inV_int (i := i) (l := l)
    unfold inV at ih ⊢
    rw [List.map_cons, List.any_cons, ih]
    rfl
theorem all_flat : ∀ l : List Str, (l.map V.str).all flatV = true
  | [] => rfl
  | _ :: l => by rw [List.map_cons, List.all_cons, all_flat l]; rfl
theorem scName : FnScope ["thing", "sign"] ["thing"] (defScope sName) := ⟨rfl, rfl, rfl, by decide +kernel, rfl, by decide +kernel, by decide +kernel⟩
theorem scGood : FnScope ["kind", "sign"] ["kind"] (defScope sGood) := ⟨rfl, rfl, rfl, by decide +kernel, rfl, by decide +kernel, by decide +kernel⟩
theorem scDeed : FnScope ["thing"] ["thing"] (defScope sDeed) := ⟨rfl, rfl, rfl, by decide +kernel, rfl, by decide +kernel, by decide +kernel⟩
def spName : Sp := fun vs H Q _ => ∃ (j : Addr) (v : V) (d : PyData), vs = [v] ∧ Rep j H v d ∧ Flat d ∧ ∀ H', Same H H' → Q (.bl (nameD d)) H'
def spDeed : Sp := fun vs H Q _ => ∃ (j : Addr) (v : V) (d : PyData), vs = [v] ∧ Rep j H v d ∧ Dd d ∧ ∀ H', Same H H' → Q (.bl (deedOf d).isSome) H'
section
variable {P : Program} {w : World} {K : PySem.W.Frag} {mg : Str → Option Value} {base : Heap} {f g dK : Addr} {fd gd : FuncData} {t1 t2 : Tok}
theorem ok_name (F : Fun K "is_name" "is_name" sName f fd) (mL : mg "LETTERS" = some (.str lettS t1)) (mN : mg "LONGEST" = some (.int 8 t2)) (mK : mg "KEPT" = some (.ref dK)) (hK : ∀ H, SqT K H dK (kept.map V.str))
    (mi : mg "isinstance" = none) (ms : mg "str" = none) (ml : mg "len" = none) (ma : mg "all" = none) : FnOk P w K mg base CX0 1 f fd ["thing"] spName := by
  refine F.ok scName (fun vs H Q E h => ?_) (fun cdv A outer s H vs Q E hr h => ?_)
  · obtain ⟨j, v, d, rfl, _⟩ := h
    rfl
  obtain ⟨j, v, d, rfl, rp, hf, q⟩ := h
  refine ⟨_, pss_cons (ps_if (PW.pt (pw_or (pt_not (pt_val (pe_callB call_isi rfl mi (by decide +kernel) (pa_cons (pv 0) (pa_cons (pe_bltn rfl ms (by decide +kernel) (show RelV (.ty "str") (.type "str") from rfl)) pa_nil)))))
      (pw_or (pt_not (pt_chain op_le op_le pe_int (pe_callB call_len_str rfl ml PySem.boot_len (pa_cons (pv 0) pa_nil)) (pe_glob rfl mN (show RelV (.int 8) (.int 8 t2) from ⟨_, rfl⟩))))
      (pw_or1 (pt_cmpR op_in_seq (pv 0) (pe_glob rfl mK (show RelV (.ref dK) (.ref dK) from rfl)) rfl)))))
      (pss_one (ps_ret pe_bl)) pss_nil)
    (pss_one (ps_ret (pe_callB (cr_all rfl) rfl ma (by decide +kernel) (pa_cons
        (pe_lc (own := [("sign", 1)]) (g := gName 1) (tt := tYes) rfl scName.nd (pi_str (pv 0)) (blkOk_by (N := ["thing", "sign"]) (sc := defScope sName) (by decide +kernel)) (fun _ _ _ _ _ => pg_name (i := 1) scName.nd rfl (Or.inl rfl)) (fun _ _ _ _ _ => pts_nil)
          (fun _ _ _ _ _ => pe_cmpR op_in_sign (pv 1) (pe_glob rfl mL (show RelV (.str lettS) (.str lettS t1) from ⟨_, rfl⟩)) rfl)) pa_nil)))), ?_⟩
  refine ⟨_, rfl, v, .ty "str", _, _, _, rfl, .ty _, rp.ty, kit_s K d, _, rfl, ?_⟩
  cases hs : isS d with
  | false =>
    refine iteT ?_
    have e : nameD d = false := by cases d <;> first | rfl | cases hs
    rw [← e]
    exact q H (fun b o h => h)
  | true =>
    obtain ⟨x, rfl, rfl⟩ := rp.isS_ex hs
    have hx : x.length ≤ 1000 := by cases hf with | str h => exact h.few
    refine iteF ?_
    refine ⟨_, rfl, x, rfl, by rw [sizeLine_eq]; omega, _, _, rfl, rfl, _, rfl, ?_⟩
    have hl : x.cps.toList.length = x.cps.size := Array.length_toList
    have e0 : nameD (.str x) = nameP x := rfl
    have bad : nameP x = false → Q (.bl false) H := fun e => by
      have := q H (fun b o h => h)
      rw [e0, e] at this
      exact this
    by_cases h1 : 1 ≤ x.length
    · rw [decide_eq_true (show (1 : Int) ≤ ((x.length : Nat) : Int) by omega)]
      refine iteT ⟨_, _, rfl, rfl, _, rfl, ?_⟩
      by_cases h2 : x.length ≤ 8
      · rw [decide_eq_true (show ((x.length : Nat) : Int) ≤ 8 by omega)]
        refine iteF ?_
        refine ⟨_, rfl, dK, _, rfl, .inr (hK _), rfl, all_flat _, _, rfl, ?_⟩
        rw [if_neg Bool.false_ne_true, inV_strs]
        by_cases h3 : x ∈ kept
        · rw [decide_eq_true h3]
          exact iteT (bad (by unfold nameP; rw [decide_eq_true h3]; rfl))
        · rw [decide_eq_false h3]
          refine iteF ?_
          have e2 : nameP x = x.cps.toList.all fun c => decide (c ∈ letters) := by
            unfold nameP
            rw [decide_eq_false h3, decide_eq_true h1, decide_eq_true h2]
            rfl
          refine ⟨_, rfl, x, rfl, fun D hD => ?_⟩
          refine lc_it walk_str (fun i H' => Acc H D (((x.cps.toList.take i).map fun c => decide (c ∈ letters)).map V.bl) H') (.nil hD) (fun _ _ _ _ => trivial) (fun i y H1 H2 hi p z => ?_) (fun H1 p => ?_)
          · obtain ⟨rfl, c, hc, rfl⟩ := z
            refine ⟨rfl, ?_⟩
            simp only [tYes, ↓reduceIte]
            refine ⟨_, rfl, c, lettS, rfl, rfl, _, p.2, ?_, ?_⟩
            · rw [List.length_map, List.length_map, List.length_take, hl, sizeLine_eq]; show min i x.length < _; omega
            · have h2 := p.push hD (.bl (decide (c ∈ lettS.cps.toList)))
              have h3 : x.cps.toList[i]? = some c := by rw [Array.getElem?_toList]; exact hc
              rw [List.take_add_one, h3, Option.toList_some, List.map_append, List.map_append]
              exact h2
          · refine ⟨D, _, rfl, SqL.of p.2, ?_⟩
            rw [List.take_of_length_le (by rw [hl]; exact Nat.le_refl _)]
            have ea : (x.cps.toList.map fun c => decide (c ∈ letters)).all id = x.cps.toList.all fun c => decide (c ∈ letters) := by
              rw [List.all_map]; rfl
            rw [ea]
            rw [← e2, ← e0]
            exact q H1 p.1
      · rw [decide_eq_false (show ¬ ((x.length : Nat) : Int) ≤ 8 by omega)]
        exact iteT (bad (by unfold nameP; rw [decide_eq_false h2]; simp))
    · rw [decide_eq_false (show ¬ (1 : Int) ≤ ((x.length : Nat) : Int) by omega)]
      refine iteF ⟨_, rfl, ?_⟩
      exact iteT (bad (by unfold nameP; rw [decide_eq_false h1]; simp))
theorem ok_good (F : Fun K "_law_good_name" "_law_good_name" sGood f fd) (mi : mg "isinstance" = none) (ms : mg "str" = none) (ml : mg "len" = none) (ma : mg "all" = none) : FnOk P w K mg base CX0 1 f fd ["kind"] spName := by
  refine F.ok scGood (fun vs H Q E h => ?_) (fun cdv A outer s H vs Q E hr h => ?_)
  · obtain ⟨j, v, d, rfl, _⟩ := h
    rfl
  obtain ⟨j, v, d, rfl, rp, hf, q⟩ := h
  refine ⟨_, pss_cons (ps_if (PW.pt (pw_or (pt_not (pt_val (pe_callB call_isi rfl mi (by decide +kernel) (pa_cons (pv 0) (pa_cons (pe_bltn rfl ms (by decide +kernel) (show RelV (.ty "str") (.type "str") from rfl)) pa_nil)))))
      (pw_or (pt_cmpR op_in_seq (pv 0) (pe_lst (pa_cons pe_str (pa_cons pe_str (pa_cons pe_str (pa_cons pe_str (pa_cons pe_str pa_nil)))))) rfl)
      (pw_or1 (pt_not (pt_chain op_lt op_lt pe_int (pe_callB call_len_str rfl ml PySem.boot_len (pa_cons (pv 0) pa_nil)) pe_int))))))
      (pss_one (ps_ret pe_bl)) pss_nil)
    (pss_one (ps_ret (pe_callB (cr_all rfl) rfl ma (by decide +kernel) (pa_cons
        (pe_lc (own := [("sign", 1)]) (g := gName 1) (tt := tYes) rfl scGood.nd (pi_str (pv 0)) (blkOk_by (N := ["kind", "sign"]) (sc := defScope sGood) (by decide +kernel)) (fun _ _ _ _ _ => pg_name (i := 1) scGood.nd rfl (Or.inl rfl)) (fun _ _ _ _ _ => pts_nil)
          (fun _ _ _ _ _ => pe_cmpR op_in_sign (pv 1) pe_str rfl)) pa_nil)))), ?_⟩
  refine ⟨_, rfl, v, .ty "str", _, _, _, rfl, .ty _, rp.ty, kit_s K d, _, rfl, ?_⟩
  cases hs : isS d with
  | false =>
    refine iteT ?_
    have e : nameD d = false := by cases d <;> first | rfl | cases hs
    rw [← e]
    exact q H (fun b o h => h)
  | true =>
    obtain ⟨x, rfl, rfl⟩ := rp.isS_ex hs
    have hx : x.length ≤ 1000 := by cases hf with | str h => exact h.few
    have hl : x.cps.toList.length = x.cps.size := Array.length_toList
    have e0 : nameD (.str x) = nameP x := rfl
    refine iteF ?_
    refine ⟨_, rfl, (by show 5 ≤ sizeLine; decide), fun p0 hp0 => ?_⟩
    have s0 : Same H (upd H p0 (.lst (kept.map V.str))) := same_new hp0 _
    have bad : nameP x = false → Q (.bl false) (upd H p0 (.lst (kept.map V.str))) := fun e => by
      have := q _ s0
      rw [e0, e] at this
      exact this
    refine ⟨p0, kept.map V.str, rfl, .inl (SqL.of upd_same), rfl, all_flat _, _, rfl, ?_⟩
    rw [if_neg Bool.false_ne_true, inV_strs]
    by_cases h3 : x ∈ kept
    · rw [decide_eq_true h3]
      exact iteT (bad (by unfold nameP; rw [decide_eq_true h3]; rfl))
    rw [decide_eq_false h3]
    refine iteF ?_
    refine ⟨_, rfl, x, rfl, by rw [sizeLine_eq]; omega, _, _, rfl, rfl, _, rfl, ?_⟩
    by_cases h1 : 1 ≤ x.length
    · rw [decide_eq_true (show (0 : Int) < ((x.length : Nat) : Int) by omega)]
      refine iteT ⟨_, _, rfl, rfl, _, rfl, ?_⟩
      by_cases h2 : x.length ≤ 8
      · rw [decide_eq_true (show ((x.length : Nat) : Int) < 9 by omega)]
        refine iteF ?_
        have e2 : nameP x = x.cps.toList.all fun c => decide (c ∈ letters) := by
          unfold nameP
          rw [decide_eq_false h3, decide_eq_true h1, decide_eq_true h2]
          rfl
        have eL : ("abcdefghijklmnopqrstuvwxyz" : Str) = lettS := by decide +kernel
        refine ⟨_, rfl, x, rfl, fun D hD => ?_⟩
        refine lc_it walk_str (fun i H' => Acc _ D (((x.cps.toList.take i).map fun c => decide (c ∈ letters)).map V.bl) H') (.nil hD) (fun _ _ _ _ => trivial) (fun i y H1 H2 hi p z => ?_) (fun H1 p => ?_)
        · obtain ⟨rfl, c, hc, rfl⟩ := z
          refine ⟨rfl, ?_⟩
          simp only [tYes, ↓reduceIte]
          refine ⟨_, rfl, c, lettS, rfl, congrArg V.str eL, _, p.2, ?_, ?_⟩
          · rw [List.length_map, List.length_map, List.length_take, hl, sizeLine_eq]; show min i x.length < _; omega
          · have h2 := p.push hD (.bl (decide (c ∈ lettS.cps.toList)))
            have h3 : x.cps.toList[i]? = some c := by rw [Array.getElem?_toList]; exact hc
            rw [List.take_add_one, h3, Option.toList_some, List.map_append, List.map_append]
            exact h2
        · refine ⟨D, _, rfl, SqL.of p.2, ?_⟩
          rw [List.take_of_length_le (by rw [hl]; exact Nat.le_refl _)]
          have ea : (x.cps.toList.map fun c => decide (c ∈ letters)).all id = x.cps.toList.all fun c => decide (c ∈ letters) := by
            rw [List.all_map]; rfl
          rw [ea]
          rw [← e2, ← e0]
          exact q H1 (s0.trans p.1)
      · rw [decide_eq_false (show ¬ ((x.length : Nat) : Int) < 9 by omega)]
        exact iteT (bad (by unfold nameP; rw [decide_eq_false h2]; simp))
    · rw [decide_eq_false (show ¬ (0 : Int) < ((x.length : Nat) : Int) by omega)]
      refine iteF ⟨_, rfl, ?_⟩
      exact iteT (bad (by unfold nameP; rw [decide_eq_false h1]; simp))
end
end Dz
namespace Dz
open PySem PySem.Spec PyProof.Rows L2 Ty
def inS : PyData → List Str → Bool
  | .str w, l => decide (w ∈ l)
  | _, _ => false
theorem inV_flat {j : Addr} {H : Hp} {v : V} {d : PyData} {l : List Str} (f : Flat d) (r : Rep j H v d) : inV v (l.map V.str) = inS d l := by
  cases f with
  | non => cases r; exact inV_non
  | int i => cases r; exact inV_int
  | str h => cases r; exact inV_strs
theorem deed_short {w : Str} {ds : List PyData} (h : w ∈ (["keep", "drop"] : List Str)) : (deedOf (.tuple (.str w :: ds))).isSome = decide (ds.length = 0) := by
  simp only [List.mem_cons, List.not_mem_nil, or_false] at h
  by_cases e : ds.length = 0
  · rw [decide_eq_true e]
    rcases h with rfl | rfl
    · simp [deedOf, e]
    · have : ¬ ("drop" : Str) = "keep" := by decide +kernel
      simp [deedOf, e, this]
  · rw [decide_eq_false e]
    rcases h with rfl | rfl
    · simp only [deedOf, if_pos, if_neg e]; rfl
    · have : ¬ ("drop" : Str) = "keep" := by decide +kernel
      simp only [deedOf, if_neg this, if_pos, if_neg e]; rfl
def nameOk : List PyData → Bool
  | [d] => nameD d
  | _ => false
theorem nameOf_some (ds : List PyData) : (nameOf ds).isSome = nameOk ds := by
  match ds with
  | [] => rfl
  | [.str x] =>
    show (if nameP x = true then some x else none).isSome = nameP x
    cases nameP x <;> rfl
  | [.none] => rfl
  | [.bool _] => rfl
  | [.int _] => rfl
  | [.list _] => rfl
  | [.tuple _] => rfl
  | [.dict _] => rfl
  | d :: _ :: _ => cases d <;> rfl
theorem deed_long {w : Str} {ds : List PyData} (h0 : w ∉ (["keep", "drop"] : List Str)) (h : w ∈ (["put", "turn"] : List Str)) : (deedOf (.tuple (.str w :: ds))).isSome = nameOk ds := by
  have k : w ≠ "keep" := fun e => h0 (by rw [e]; simp)
  have d : w ≠ "drop" := fun e => h0 (by rw [e]; simp)
  rw [← nameOf_some]
  simp only [List.mem_cons, List.not_mem_nil, or_false] at h
  rcases h with rfl | rfl
  · simp only [deedOf, if_neg k, if_neg d, if_pos, Option.isSome_map]
  · have : ¬ ("turn" : Str) = "put" := by decide +kernel
    simp only [deedOf, if_neg k, if_neg d, if_neg this, if_pos, Option.isSome_map]
theorem deed_no {w : Str} {ds : List PyData} (h0 : w ∉ (["keep", "drop"] : List Str)) (h : w ∉ (["put", "turn"] : List Str)) : deedOf (.tuple (.str w :: ds)) = none := by
  have k : w ≠ "keep" := fun e => h0 (by rw [e]; simp)
  have d : w ≠ "drop" := fun e => h0 (by rw [e]; simp)
  have p : w ≠ "put" := fun e => h (by rw [e]; simp)
  have t : w ≠ "turn" := fun e => h (by rw [e]; simp)
  simp only [deedOf, if_neg k, if_neg d, if_neg p, if_neg t]
theorem deed_not {d : PyData} (h : isT d = false) : deedOf d = none := by cases d <;> first | rfl | cases h
theorem deed_nil : deedOf (.tuple []) = none := rfl
theorem deed_head {d : PyData} {ds : List PyData} (h : isS d = false) : deedOf (.tuple (d :: ds)) = none := by cases d <;> first | rfl | cases h
theorem inS_not {d : PyData} {l : List Str} (h : isS d = false) : inS d l = false := by cases d <;> first | rfl | cases h
section
variable {P : Program} {w : World} {K : PySem.W.Frag} {mg : Str → Option Value} {base : Heap} {f g : Addr} {fd gd : FuncData}
theorem ok_deed (F : Fun K "is_deed" "is_deed" sDeed f fd) (G : FnOk P w K mg base CX0 1 g gd ["thing"] spName) (bG : Binds K gd ["thing"] []) (kG : PySem.W.keepIn K (.ref g) = true) (mG : mg "is_name" = some (.ref g))
    (mi : mg "isinstance" = none) (mt : mg "tuple" = none) (ml : mg "len" = none) : FnOk P w K mg base CX0 2 f fd ["thing"] spDeed := by
  refine F.ok scDeed (fun vs H Q E h => ?_) (fun cdv A outer s H vs Q E hr h => ?_)
  · obtain ⟨j, v, d, rfl, _⟩ := h
    rfl
  obtain ⟨j, v, d, rfl, rp, hf, q⟩ := h
  refine ⟨_, pss_cons (ps_if (PW.pt (pw_or (pt_not (pt_val (pe_callB call_isi rfl mi (by decide +kernel) (pa_cons (pv 0) (pa_cons (pe_bltn rfl mt (by decide +kernel) (show RelV (.ty "tuple") (.type "tuple") from rfl)) pa_nil)))))
        (pw_or1 (pt_cmpR op_eq (pe_callB call_len_seq rfl ml PySem.boot_len (pa_cons (pv 0) pa_nil)) pe_int (nomark _))))) (pss_one (ps_ret pe_bl)) pss_nil)
    (pss_cons (ps_if (pt_cmpR op_in_seq (pe_ix ix_tup (pv 0) pe_int (fun _ _ => rfl)) (pe_tup (pa_cons pe_str (pa_cons pe_str pa_nil))) rfl) (pss_one (ps_ret (pe_cmpR op_eq (pe_callB call_len_seq rfl ml PySem.boot_len (pa_cons (pv 0) pa_nil)) pe_int (nomark _)))) pss_nil)
    (pss_one (ps_ret (pe_and (pe_cmpR op_in_seq (pe_ix ix_tup (pv 0) pe_int (fun _ _ => rfl)) (pe_tup (pa_cons pe_str (pa_cons pe_str pa_nil))) rfl) (pe_and (pe_cmpR op_eq (pe_callB call_len_seq rfl ml PySem.boot_len (pa_cons (pv 0) pa_nil)) pe_int (nomark _))
      (pe_one (pe_call G hr rfl mG kG bG .nil pass0 (pa_cons (pe_ix ix_tup (pv 0) pe_int (fun _ _ => rfl)) pa_nil)))))))), ?_⟩
  refine ⟨_, rfl, v, .ty "tuple", _, _, _, rfl, .ty _, rp.ty, kit_t K d, _, rfl, ?_⟩
  cases ht : isT d with
  | false =>
    refine iteT ?_
    have := q H fun b o h => h
    rw [deed_not ht] at this
    exact this
  | true =>
    refine iteF ?_
    obtain ⟨a, xs, ds, rfl, rfl, hj, ha, rs⟩ := rp.isT_ex ht
    have hlen := rs.length
    refine ⟨_, rfl, a, _, rfl, .inr (SqT.of ha), rfl, _, rfl, ?_⟩
    have hd : ∀ d, d ∈ ds → Flat d := by
      cases hf with
      | flat h => cases h
      | tup hl h => exact h
    cases rs with
    | nil => exact iteT (q H fun b o h => h)
    | @cons v0 vs d0 ds r0 rs =>
      have e1 : decide (V.int (((v0 :: vs).length : Nat) : Int) = V.int 0) = false := decide_eq_false fun e => by
        injection e with e
        rw [List.length_cons] at e
        omega
      rw [e1]
      refine iteF ?_
      have f0 := hd d0 List.mem_cons_self
      have hlen2 := rs.length
      refine ⟨_, rfl, a, _, _, _, rfl, rfl, SqT.of ha, at_zero, (by show 2 ≤ sizeLine; decide), fun p hp => ?_⟩
      have s1 := same_new hp (.tup [.str "keep", .str "drop"])
      refine ⟨p, (["keep", "drop"] : List Str).map V.str, rfl, .inr (SqT.of upd_same), f0.v r0, all_flat _, _, rfl, ?_⟩
      rw [if_neg Bool.false_ne_true, inV_flat f0 r0]
      cases hs : isS d0 with
      | false =>
        rw [inS_not hs]
        refine iteF ?_
        refine ⟨_, rfl, a, _, _, _, rfl, rfl, SqT.of (s1 _ _ ha), at_zero, (by show 2 ≤ sizeLine; decide), fun p2 hp2 => ?_⟩
        have s2 := same_new hp2 (.tup [.str "put", .str "turn"])
        refine ⟨p2, (["put", "turn"] : List Str).map V.str, rfl, .inr (SqT.of upd_same), f0.v r0, all_flat _, _, rfl, ?_⟩
        rw [if_neg Bool.false_ne_true, inV_flat f0 r0, inS_not hs]
        refine iteF ?_
        have := q _ (s1.trans s2)
        rw [deed_head hs] at this
        exact this
      | true =>
        obtain ⟨x, rfl, rfl⟩ := r0.isS_ex hs
        show (if decide (x ∈ (["keep", "drop"] : List Str)) = true then _ else _)
        by_cases hk : x ∈ (["keep", "drop"] : List Str)
        · rw [decide_eq_true hk]
          refine iteT ?_
          refine ⟨_, rfl, a, _, rfl, .inr (SqT.of (s1 _ _ ha)), rfl, ?_⟩
          have := q _ s1
          rw [deed_short hk] at this
          have e : decide (V.int (((V.str x :: vs).length : Nat) : Int) = V.int 1) = decide (ds.length = 0) := by
            rw [Bool.eq_iff_iff, decide_eq_true_eq, decide_eq_true_eq, List.length_cons, hlen2]
            constructor
            · intro e; injection e with e; omega
            · intro e; rw [e]; rfl
          rw [e]
          exact this
        · rw [decide_eq_false hk]
          refine iteF ?_
          refine ⟨_, rfl, a, _, _, _, rfl, rfl, SqT.of (s1 _ _ ha), at_zero, (by show 2 ≤ sizeLine; decide), fun p2 hp2 => ?_⟩
          have s2 := same_new hp2 (.tup [.str "put", .str "turn"])
          refine ⟨p2, (["put", "turn"] : List Str).map V.str, rfl, .inr (SqT.of upd_same), f0.v r0, all_flat _, _, rfl, ?_⟩
          rw [if_neg Bool.false_ne_true, inV_flat f0 r0]
          show (if decide (x ∈ (["put", "turn"] : List Str)) = true then _ else _)
          by_cases hp : x ∈ (["put", "turn"] : List Str)
          · rw [decide_eq_true hp]
            refine iteT ?_
            have s12 := s1.trans s2
            refine ⟨_, rfl, a, _, rfl, .inr (SqT.of (s12 _ _ ha)), rfl, _, rfl, ?_⟩
            cases rs with
            | nil =>
              refine iteF ?_
              have := q _ s12
              rw [deed_long hk hp] at this
              exact this
            | @cons v1 vs1 d1 ds1 r1 rt =>
              cases rt with
              | nil =>
                refine iteT ?_
                refine ⟨_, rfl, a, _, _, _, rfl, rfl, SqT.of (s12 _ _ ha), (show atI [V.str x, v1] 1 = some v1 from rfl), j, v1, d1, rfl, r1.all_keep s12, hd d1 (by simp), fun H' s3 => ?_⟩
                have := q _ (s12.trans s3)
                rw [deed_long hk hp] at this
                exact this
              | @cons v2 vs2 d2 ds2 r2 rt =>
                have e2 : decide (V.int (((V.str x :: v1 :: v2 :: vs2).length : Nat) : Int) = V.int 2) = false := decide_eq_false fun e => by
                  injection e with e
                  simp only [List.length_cons] at e
                  omega
                rw [e2]
                refine iteF ?_
                have := q _ s12
                rw [deed_long hk hp] at this
                exact this
          · rw [decide_eq_false hp]
            refine iteF ?_
            have := q _ (s1.trans s2)
            rw [deed_no hk hp] at this
            exact this
end
end Dz
namespace Dz
open PySem PySem.Spec PyProof.Rows L2 Ty
/-! ### lists of texts as data -/
theorem Tx.ok {x : Str} (t : Tx x) : (PyData.str x).canLay0 = true := by
  show x.cps.all (· < 0x110000) = true
  rw [← Array.all_toList, List.all_eq_true]
  intro c hc
  have := t.low c hc
  exact decide_eq_true (by omega)
theorem lay_strs : ∀ {l : List Str}, (∀ x, x ∈ l → Tx x) → PyData.canLayAll0 (l.map PyData.str) = true
  | [], _ => rfl
  | x :: l, h => by
    show ((PyData.str x).canLay0 && PyData.canLayAll0 (l.map PyData.str)) = true
    rw [(h x List.mem_cons_self).ok, lay_strs fun y hy => h y (List.mem_cons_of_mem _ hy)]
    rfl
theorem depth_strs : ∀ {l : List Str}, PyData.depthAll (l.map PyData.str) = 0
  | [] => rfl
  | x :: l => by
    show max 0 (PyData.depthAll (l.map PyData.str)) = 0
    rw [depth_strs]; rfl
theorem shaped_strs {l : List Str} (h : ∀ x, x ∈ l → Tx x) : SeqAt.shaped (.list (l.map PyData.str)) = true := by
  show (PyData.canLayAll0 (l.map PyData.str) && decide (PyData.depthAll (l.map PyData.str) + 1 ≤ 64)) = true
  rw [lay_strs h, depth_strs]
  rfl
theorem eqv_nil (l : List Str) : PyData.eqv (.list (l.map PyData.str)) (.list []) = decide (l = []) := by
  cases l with
  | nil => rfl
  | cons x l => rfl
theorem eqv_one (x k : Str) : PyData.eqv (.list [.str x]) (.list [.str k]) = decide (x = k) := by
  show (((x == k) && true) : Bool) = _
  rw [Bool.and_true]
  by_cases h : x = k
  · rw [h]; simp
  · rw [decide_eq_false h]
    cases q : x == k with
    | false => rfl
    | true => exact absurd (eq_of_beq q) h
theorem eqv_self {l : List Str} (h : ∀ x, x ∈ l → Tx x) : PyData.eqv (.list (l.map PyData.str)) (.list (l.map PyData.str)) = true :=
  SeqAt.eqv_refl _ (lay_strs h)
theorem dp_strs {K : PySem.W.Frag} {H : Hp} : ∀ l : List Str, DpAll K H (l.map V.str) (l.map PyData.str)
  | [] => .nil
  | x :: l => .cons (.str x) (dp_strs l)
/-! ### one step of the run -/
section
variable {d : PyData} {ds : List PyData} {left acc : List Str} {n : Nat} {k x : Str} {l : List Str}
theorem run_none (h : deedOf d = none) : run (d :: ds) left n acc = .inr n := by simp only [run, h]
theorem run_put (h : deedOf d = some (.put x)) : run (d :: ds) left n acc = run ds left (n + 1) (acc ++ [x]) := by simp only [run, h]
theorem run_short (h : (deedOf d).isSome = true) (h2 : ∀ x, deedOf d ≠ some (.put x)) : run (d :: ds) [] n acc = .inr n := by
  cases e : deedOf d with
  | none => rw [e] at h; cases h
  | some z =>
    cases z with
    | put x => exact absurd e (h2 x)
    | keep => simp only [run, e]
    | drop => simp only [run, e]
    | turn x => simp only [run, e]
theorem run_keep (h : deedOf d = some .keep) : run (d :: ds) (k :: l) n acc = run ds l (n + 1) (acc ++ [k]) := by simp only [run, h]
theorem run_drop (h : deedOf d = some .drop) : run (d :: ds) (k :: l) n acc = run ds l (n + 1) acc := by simp only [run, h]
theorem run_turn (h : deedOf d = some (.turn x)) (e : x ≠ k) : run (d :: ds) (k :: l) n acc = run ds l (n + 1) (acc ++ [x]) := by simp only [run, h, if_neg e]
theorem run_same (h : deedOf d = some (.turn k)) : run (d :: ds) (k :: l) n acc = .inr n := by simp only [run, h, if_pos]
end
/-- what a deed looks like -/
theorem nameOf_is {ds : List PyData} {x : Str} (h : nameOf ds = some x) : ds = [.str x] := by
  match ds, h with
  | [.str y], h =>
    have h' : (if nameP y = true then some y else none) = some x := h
    by_cases c : nameP y = true
    · rw [if_pos c] at h'
      injection h' with h'
      rw [h']
    · rw [if_neg c] at h'
      cases h'
  | [], h => cases h
  | [.none], h => cases h
  | [.bool _], h => cases h
  | [.int _], h => cases h
  | [.list _], h => cases h
  | [.tuple _], h => cases h
  | [.dict _], h => cases h
  | d :: _ :: _, h => cases d <;> cases h
theorem deed_cases {d : PyData} {z : Deed} (h : deedOf d = some z) : (z = .keep ∧ d = .tuple [.str "keep"]) ∨ (z = .drop ∧ d = .tuple [.str "drop"]) ∨ (∃ x, z = .put x ∧ d = .tuple [.str "put", .str x]) ∨ ∃ x, z = .turn x ∧ d = .tuple [.str "turn", .str x] := by
  match d, h with
  | .tuple (.str w :: ds), h =>
    have h' : (if w = "keep" then (if ds.length = 0 then some Deed.keep else none) else if w = "drop" then (if ds.length = 0 then some Deed.drop else none) else if w = "put" then (nameOf ds).map Deed.put else if w = "turn" then (nameOf ds).map Deed.turn else none) = some z := h
    by_cases c1 : w = "keep"
    · rw [if_pos c1] at h'
      by_cases e : ds.length = 0
      · rw [if_pos e] at h'
        injection h' with h'
        exact .inl ⟨h'.symm, by rw [c1, List.eq_nil_of_length_eq_zero e]⟩
      · rw [if_neg e] at h'; cases h'
    rw [if_neg c1] at h'
    by_cases c2 : w = "drop"
    · rw [if_pos c2] at h'
      by_cases e : ds.length = 0
      · rw [if_pos e] at h'
        injection h' with h'
        exact .inr (.inl ⟨h'.symm, by rw [c2, List.eq_nil_of_length_eq_zero e]⟩)
      · rw [if_neg e] at h'; cases h'
    rw [if_neg c2] at h'
    by_cases c3 : w = "put"
    · rw [if_pos c3] at h'
      obtain ⟨x, hx, rfl⟩ := Option.map_eq_some_iff.mp h'
      exact .inr (.inr (.inl ⟨x, rfl, by rw [c3, nameOf_is hx]⟩))
    rw [if_neg c3] at h'
    by_cases c4 : w = "turn"
    · rw [if_pos c4] at h'
      obtain ⟨x, hx, rfl⟩ := Option.map_eq_some_iff.mp h'
      exact .inr (.inr (.inr ⟨x, rfl, by rw [c4, nameOf_is hx]⟩))
    rw [if_neg c4] at h'
    cases h'
  | .none, h => cases h
  | .bool _, h => cases h
  | .int _, h => cases h
  | .str _, h => cases h
  | .list _, h => cases h
  | .dict _, h => cases h
  | .tuple [], h => cases h
  | .tuple (.none :: _), h => cases h
  | .tuple (.bool _ :: _), h => cases h
  | .tuple (.int _ :: _), h => cases h
  | .tuple (.list _ :: _), h => cases h
  | .tuple (.tuple _ :: _), h => cases h
  | .tuple (.dict _ :: _), h => cases h
/-! ### mended -/
theorem scMend : FnScope ["row", "deeds", "found", "left", "at", "deed", "word", "more", "kind"] ["row", "deeds"] (defScope sMend) := ⟨rfl, rfl, rfl, by decide +kernel, rfl, by decide +kernel, by decide +kernel⟩
/-- a row of texts and a list of deeds, as handed in -/
structure Two (j : Addr) (H : Hp) (r l : Addr) (row : List Str) (vs : List V) (ds : List PyData) : Prop where
  hrow : H r = some (.lst (row.map V.str))
  hds : H l = some (.lst vs)
  reps : Reps j H vs ds
  few : row.length ≤ 1000
  many : ds.length ≤ 1000
  tx : ∀ x, x ∈ row → Tx x
  dd : ∀ d, d ∈ ds → Dd d
def spMend (C : Addr) : Sp := fun vs H Q E => ∃ (j r l : Addr) (row : List Str) (us : List V) (ds : List PyData), vs = [.ref r, .ref l] ∧ Two j H r l row us ds ∧
  (∀ out, run ds row 0 [] = .inl out → ∀ p H', H p = none → Same H H' → H' p = some (.lst (out.map V.str)) → (∀ x, x ∈ out → Tx x) → out.length ≤ 3000 → Q (.ref p) H') ∧
  (∀ n : Nat, run ds row 0 [] = .inr n → ∀ dd H', H dd = none → Same H H' → H' dd = some (.xd [("at", .int (n : Nat))]) → E (.ref C) (some dd) H')
/-- a raise NoDeeds(v) -/
theorem raise_deeds {K : PySem.W.Frag} {C : Addr} {H H1 : Hp} {v : V} {E : XK} (T : OexC K C) (no : PySem.W.findIn K (.ref C) "at" = some none) (s : Same H H1) (q : ∀ dd H', H dd = none → Same H H' → H' dd = some (.xd [("at", v)]) → E (.ref C) (some dd) H') :
    [v].length ≤ 1000 ∧ ∀ a, H1 a = none → spInit K C (.ref a :: ([v] ++ [])) (upd H1 a (exo a C none))
      (fun u H2 => u = .non ∧ ∃ (d : Addr) (fs : List (Str × V)), H2 a = some (exo a C (some d)) ∧ H2 d = some (exd d fs) ∧ H1 d = none ∧ E (.ref C) (some d) (upd (del H2 a) d (.xd fs))) (fun _ _ _ => False) := by
  refine ⟨(by show 1 ≤ 1000; decide), fun a ha => ⟨a, v, rfl, T, no, upd_same, fun d hd hne => ⟨rfl, d, [("at", v)], upd_same, ?_, ?_, ?_⟩⟩⟩
  · rw [upd_ne hne]; exact upd_same
  · rw [upd_ne hne] at hd; exact hd
  · rw [upd_ne hne] at hd
    refine q d _ ?_ (fun b o e => ?_) upd_same
    · cases e : H d with
      | none => rfl
      | some o => rw [s _ _ e] at hd; cases hd
    · have e1 := s b o e
      rw [upd_ne (ne_of_none e1 hd), del_ne (ne_of_none e1 ha), upd_ne (ne_of_none e1 ha), upd_ne (ne_of_none e1 hd), upd_ne (ne_of_none e1 ha)]
      exact e1
theorem seq_zero {n : Nat} : seqIndex? 0 (n + 1) = some 0 := by
  unfold seqIndex?
  simp
section
variable {P : Program} {w : World} {K : PySem.W.Frag} {mg : Str → Option Value} {base : Heap} {f g C fI : Addr} {fd gd fdI : FuncData}
theorem ok_mend (F : Fun K "mended" "mended" sMend f fd) (G : FnOk P w K mg base CX0 2 g gd ["thing"] spDeed) (bG : Binds K gd ["thing"] []) (kG : PySem.W.keepIn K (.ref g) = true) (mG : mg "is_deed" = some (.ref g))
    (T : OexC K C) (no : PySem.W.findIn K (.ref C) "at" = some none) (iC : PySem.W.findIn K (.ref C) "__init__" = some (some (.ref fI))) (tI : PySem.W.typeIn K (.ref fI) = some (.type "function")) (GI : FnOk P w K mg base CX0 1 fI fdI ["self", "at"] (spInit K C)) (bI : Binds K fdI ["self", "at"] []) (mC : mg "NoDeeds" = some (.ref C))
    (mll : mg "list" = none) (me : mg "enumerate" = none) (ml : mg "len" = none) : FnOk P w K mg base (L2.CX P w) 3 f fd ["row", "deeds"] (spMend C) := by
  refine F.okX scMend (fun vs H Q E h => ?_) (fun cdv A outer s H vs Q E hr h => ?_)
  · obtain ⟨j, r, l, row, us, ds, rfl, _⟩ := h
    rfl
  obtain ⟨j, r, l, row, us, ds, rfl, two, q1, q2⟩ := h
  have hu := hr.units
  refine ⟨_, pss_cons (ps_set (i := 2) scMend.nd rfl (.inl rfl) (pe_lst pa_nil))
    (pss_cons (ps_set (i := 3) scMend.nd rfl (.inl rfl) (pe_callTy call_list_of rfl mll (by decide +kernel) (pa_cons (pv 0) pa_nil)))
    (pss_cons (ps_for (passes_of rfl) rfl (pi_enum rfl me (pa_cons (pv 1) pa_nil)) (pg_tup rfl (pgs_cons (pg_name (i := 4) scMend.nd rfl (Or.inl rfl)) (pgs_cons (pg_name (i := 5) scMend.nd rfl (Or.inl rfl)) pgs_nil)))
      (pss_cons (ps_if (PW.pt (pw_or (pt_not (pt_val (pe_call G hr rfl mG kG bG .nil pass0 (pa_cons (pv 5) pa_nil))))
          (pw_or1 (PW.pt (pw_and (pt_cmpR op_ne (pe_ix ix_tup (pv 5) pe_int (fun _ _ => rfl)) pe_str (nomark _)) (pw_and1 (pt_cmpR (op_eqD hu) (pv 3) (pe_lst pa_nil) (nomark _))))))))
        (pss_one (ps_raise rfl (takes_of rfl rfl rfl rfl) (pmk_oex T iC tI GI hr bI .nil pass0 rfl mC (pa_cons (pv 4) pa_nil)))) pss_nil)
      (pss_cons (ps_asg (pv 5) (pg_star1 rfl (pg_name (i := 6) scMend.nd rfl (.inl rfl)) (pg_name (i := 7) scMend.nd rfl (.inl rfl))))
      (pss_cons (ps_set (i := 8) scMend.nd rfl (.inl rfl) (pe_ifExp (pt_cmpR op_ne (pv 6) pe_str (nomark _)) (pe_bm PySem.F.plainAttrs_list PySem.F.slot_list_pop PySem.F.type_list_pop mt_popAt (pv 3) (pa_cons pe_int pa_nil)) pe_non))
      (pss_cons (ps_if (PW.pt (pw_and (pt_cmpR op_eq (pv 6) pe_str (nomark _)) (pw_and1 (pt_cmpR (op_eqD hu) (pv 7) (pe_lst (pa_cons (pv 8) pa_nil)) (nomark _)))))
        (pss_one (ps_raise rfl (takes_of rfl rfl rfl rfl) (pmk_oex T iC tI GI hr bI .nil pass0 rfl mC (pa_cons (pv 4) pa_nil)))) pss_nil)
      (pss_cons (ps_if (pt_cmpR op_eq (pv 6) pe_str (nomark _)) (pss_one (ps_set (i := 7) scMend.nd rfl (.inl rfl) (pe_lst (pa_cons (pv 8) pa_nil)))) pss_nil)
      (pss_one (ps_expr (pe_bm PySem.F.plainAttrs_list PySem.F.slot_list_extend PySem.F.type_list_extend mt_extend (pv 2) (pa_cons (pv 7) pa_nil))))))))))
    (pss_cons (ps_if (pt_cmpR (op_neD hu) (pv 3) (pe_lst pa_nil) (nomark _)) (pss_one (ps_raise rfl (takes_of rfl rfl rfl rfl) (pmk_oex T iC tI GI hr bI .nil pass0 rfl mC (pa_cons (pe_callB call_len_seq rfl ml PySem.boot_len (pa_cons (pv 1) pa_nil)) pa_nil)))) pss_nil)
    (pss_one (ps_ret (pv 2)))))), ?_⟩
  refine ⟨(by show 0 ≤ sizeLine; decide), fun pf hpf => ?_⟩
  have n1 := same_new hpf (.lst [])
  refine ⟨_, rfl, r, _, rfl, .inl (SqL.of (n1 _ _ two.hrow)), fun pl hpl => ?_⟩
  have n2 := same_new hpl (.lst (row.map V.str))
  have hne' : pf ≠ pl := ne_of_none upd_same hpl
  have hne : pl ≠ pf := Ne.symm hne'
  have hplH : H pl = none := by rw [upd_ne hne] at hpl; exact hpl
  have hus := two.reps.length
  have hmany := two.many
  refine ⟨_, rfl, l, us, rfl, SqL.of (n2 _ _ (n1 _ _ two.hds)), ?_⟩
  refine for_it (walk_enum (xs := us)) (fun i σ H' => ∃ left acc x4 x5 x6 x7 x8, σ = [some (.ref r), some (.ref l), some (.ref pf), some (.ref pl), x4, x5, x6, x7, x8] ∧ Same H H' ∧ H' pf = some (.lst (acc.map V.str)) ∧ H' pl = some (.lst (left.map V.str)) ∧
      run ds row 0 [] = run (ds.drop i) left i acc ∧ acc.length ≤ i ∧ left.length ≤ 1000 ∧ (∀ x, x ∈ acc → Tx x) ∧ ∀ x, x ∈ left → Tx x)
    ⟨row, [], _, _, _, _, _, rfl, n1.trans n2, n2 _ _ upd_same, upd_same, rfl, Nat.zero_le _, two.few, (fun _ h => by cases h), two.tx⟩
    (fun i σ H' _ p => ?stands) (fun i u σ H0 H1 hi p z => ?turn) (fun σ H' p => ?done)
  case stands =>
    obtain ⟨_, _, _, _, _, _, _, _, s, _⟩ := p
    exact SqL.of (s _ _ two.hds)
  case turn =>
    obtain ⟨left, acc, x4, x5, x6, x7, x8, rfl, s, hf, hl, hrun, al, hl1000, ta, tl⟩ := p
    obtain ⟨Tp, iv, v, rfl, hT, rfl, ei, ev⟩ := z
    injection ei with ei
    subst ei
    have t1 := same_new hT (.tup [.int (i : Nat), v])
    obtain ⟨d, hd, rv⟩ := two.reps.get ev
    have hdm := List.mem_of_getElem? hd
    have hdd := two.dd d hdm
    have hlt : i < ds.length := by rw [← hus]; exact hi
    have hdrop : ds.drop i = d :: ds.drop (i + 1) := by
      rw [List.drop_eq_getElem_cons hlt]
      rw [List.getElem?_eq_getElem hlt] at hd
      injection hd with hd
      rw [hd]
    rw [hdrop] at hrun
    have rv := rv.all_keep (s.trans t1)
    refine ⟨Tp, _, rfl, SqT.of upd_same, rfl, _, _, rfl, _, _, rfl, rfl, ?_⟩
    refine ⟨_, rfl, j, v, d, rfl, rv, hdd, fun H2 s2 => ⟨_, rfl, ?_⟩⟩
    have s02 := s.trans (t1.trans s2)
    have hf2 := s2 _ _ (t1 _ _ hf)
    have hl2 := s2 _ _ (t1 _ _ hl)
    have hl := hl1000
    cases hz : deedOf d with
    | none =>
      refine iteT ?_
      refine ⟨_, rfl, raise_deeds T no s02 (q2 i ?_)⟩
      rw [hrun]
      exact run_none hz
    | some z =>
      refine iteF ?_
      have hzz := hz
      rcases deed_cases hz with ⟨rfl, rfl⟩ | ⟨rfl, rfl⟩ | ⟨x, rfl, rfl⟩ | ⟨x, rfl, rfl⟩
      · obtain ⟨b, hb0⟩ : ∃ b, v = .ref b ∧ H2 b = some (.tup (.str "keep" :: [])) := by
          have r2 := rv.all_keep s2
          cases r2 with
          | @tup b xs _ bj eb rb =>
            cases rb with
            | cons r3 r4 =>
              cases r3
              cases r4
              exact ⟨b, rfl, eb⟩
        obtain ⟨rfl, hb⟩ := hb0
        refine ⟨_, rfl, b, _, _, _, rfl, rfl, SqT.of hb, at_zero, rfl, _, rfl, ?_⟩
        rw [show (!decide (V.str "keep" = V.str "put")) = true by decide +kernel]
        refine iteT ?_
        refine ⟨_, rfl, (by show 0 ≤ sizeLine; decide), fun p0 hp0 => ?_⟩
        have s3 := same_new hp0 (.lst [])
        have s03 := s02.trans s3
        refine ⟨.list (left.map PyData.str), .list [], .lst (SqL.of (s3 _ _ hl2)) (dp_strs left), .lst (SqL.of upd_same) .nil, shaped_strs tl, rfl, _, rfl, ?_⟩
        rw [eqv_nil]
        cases left with
        | nil =>
          refine iteT ?_
          refine ⟨_, rfl, raise_deeds T no s03 (q2 i ?_)⟩
          rw [hrun]
          exact run_short (by rw [hz]; rfl) (fun y e => by rw [hz] at e; cases e)
        | cons k l' =>
        refine iteF ?_
        have hb3 := s3 _ _ hb
        refine ⟨_, rfl, b, _, _, rfl, SqT.of hb3, (by show _ ≤ 16000; simp), fun Dm hDm => ?_⟩
        have s4 := same_new hDm (.lst ([] : List V))
        have s04 := s03.trans s4
        have hl4 := s4 _ _ (s3 _ _ hl2)
        have hf4 := s4 _ _ (s3 _ _ hf2)
        refine ⟨_, rfl, rfl, _, rfl, ?_⟩
        rw [show (!decide (V.str "keep" = V.str "put")) = true by decide +kernel]
        refine iteT ?_
        refine ⟨_, rfl, .inl ⟨rfl, _, SqL.of hl4⟩, pl, _, 0, 0, .str k, rfl, rfl, hl4, by decide, by decide, seq_zero, rfl, ?_⟩
        have k5 : ∀ q o, q ≠ pl → (upd (upd H2 p0 (.lst [])) Dm (.lst ([] : List V))) q = some o → (upd (upd (upd H2 p0 (.lst [])) Dm (.lst ([] : List V))) pl (.lst (((k :: l').map V.str).eraseIdx 0))) q = some o := fun q o h e => by rw [upd_ne h]; exact e
        have hm5 : (upd (upd (upd H2 p0 (.lst [])) Dm (.lst ([] : List V))) pl (.lst (((k :: l').map V.str).eraseIdx 0))) Dm = some (.lst ([] : List V)) := k5 _ _ (Ne.symm (ne_of_none (s3 _ _ hl2) hDm)) upd_same
        have hf5 : (upd (upd (upd H2 p0 (.lst [])) Dm (.lst ([] : List V))) pl (.lst (((k :: l').map V.str).eraseIdx 0))) pf = some (.lst (acc.map V.str)) := k5 _ _ hne' hf4
        have hl5 : (upd (upd (upd H2 p0 (.lst [])) Dm (.lst ([] : List V))) pl (.lst (((k :: l').map V.str).eraseIdx 0))) pl = some (.lst (l'.map V.str)) := upd_same
        have s05 : Same H (upd (upd (upd H2 p0 (.lst [])) Dm (.lst ([] : List V))) pl (.lst (((k :: l').map V.str).eraseIdx 0))) := fun b' o' e' => by rw [upd_ne (ne_of_none e' hplH)]; exact s04 _ _ e'
        generalize (upd (upd (upd H2 p0 (.lst [])) Dm (.lst ([] : List V))) pl (.lst (((k :: l').map V.str).eraseIdx 0))) = H5 at *
        have tk : Tx k := tl k List.mem_cons_self
        have tl' : ∀ y, y ∈ l' → Tx y := fun y hy => tl y (List.mem_cons_of_mem _ hy)
        have hl' : l'.length ≤ 1000 := by rw [List.length_cons] at hl; omega
        refine ⟨_, rfl, rfl, _, rfl, ?_⟩
        rw [show decide (V.str "keep" = V.str "turn") = false by decide +kernel]
        refine iteF ?_
        refine ⟨_, rfl, rfl, _, rfl, ?_⟩
        rw [show decide (V.str "keep" = V.str "keep") = true by decide +kernel]
        refine iteT ?_
        refine ⟨_, rfl, (by show 1 ≤ sizeLine; decide), fun p6 hp6 => ?_⟩
        have s6 := same_new hp6 (.lst [.str k])
        refine ⟨_, rfl, .inl ⟨rfl, _, SqL.of (s6 _ _ hf5)⟩, _, rfl, pf, p6, _, _, rfl, rfl, s6 _ _ hf5, upd_same, (by rw [List.length_map, sizeLine_eq]; show _ + 1 ≤ _; omega), ?_⟩
        refine ⟨l', acc ++ [k], _, _, _, _, _, rfl, ?_, ?_, ?_, ?_, ?_, hl', ?_, tl'⟩
        · exact fun b' o' e' => by rw [upd_ne (ne_of_none e' hpf)]; exact s6 _ _ (s05 _ _ e')
        · rw [upd_same, List.map_append]; rfl
        · rw [upd_ne hne]; exact s6 _ _ hl5
        · rw [hrun, run_keep hz]
        · rw [List.length_append, List.length_singleton]; omega
        · exact fun y hy => (List.mem_append.mp hy).elim (ta y) (fun h => by rw [List.mem_singleton.mp h]; exact tk)
      · obtain ⟨b, hb0⟩ : ∃ b, v = .ref b ∧ H2 b = some (.tup (.str "drop" :: [])) := by
          have r2 := rv.all_keep s2
          cases r2 with
          | @tup b xs _ bj eb rb =>
            cases rb with
            | cons r3 r4 =>
              cases r3
              cases r4
              exact ⟨b, rfl, eb⟩
        obtain ⟨rfl, hb⟩ := hb0
        refine ⟨_, rfl, b, _, _, _, rfl, rfl, SqT.of hb, at_zero, rfl, _, rfl, ?_⟩
        rw [show (!decide (V.str "drop" = V.str "put")) = true by decide +kernel]
        refine iteT ?_
        refine ⟨_, rfl, (by show 0 ≤ sizeLine; decide), fun p0 hp0 => ?_⟩
        have s3 := same_new hp0 (.lst [])
        have s03 := s02.trans s3
        refine ⟨.list (left.map PyData.str), .list [], .lst (SqL.of (s3 _ _ hl2)) (dp_strs left), .lst (SqL.of upd_same) .nil, shaped_strs tl, rfl, _, rfl, ?_⟩
        rw [eqv_nil]
        cases left with
        | nil =>
          refine iteT ?_
          refine ⟨_, rfl, raise_deeds T no s03 (q2 i ?_)⟩
          rw [hrun]
          exact run_short (by rw [hz]; rfl) (fun y e => by rw [hz] at e; cases e)
        | cons k l' =>
        refine iteF ?_
        have hb3 := s3 _ _ hb
        refine ⟨_, rfl, b, _, _, rfl, SqT.of hb3, (by show _ ≤ 16000; simp), fun Dm hDm => ?_⟩
        have s4 := same_new hDm (.lst ([] : List V))
        have s04 := s03.trans s4
        have hl4 := s4 _ _ (s3 _ _ hl2)
        have hf4 := s4 _ _ (s3 _ _ hf2)
        refine ⟨_, rfl, rfl, _, rfl, ?_⟩
        rw [show (!decide (V.str "drop" = V.str "put")) = true by decide +kernel]
        refine iteT ?_
        refine ⟨_, rfl, .inl ⟨rfl, _, SqL.of hl4⟩, pl, _, 0, 0, .str k, rfl, rfl, hl4, by decide, by decide, seq_zero, rfl, ?_⟩
        have k5 : ∀ q o, q ≠ pl → (upd (upd H2 p0 (.lst [])) Dm (.lst ([] : List V))) q = some o → (upd (upd (upd H2 p0 (.lst [])) Dm (.lst ([] : List V))) pl (.lst (((k :: l').map V.str).eraseIdx 0))) q = some o := fun q o h e => by rw [upd_ne h]; exact e
        have hm5 : (upd (upd (upd H2 p0 (.lst [])) Dm (.lst ([] : List V))) pl (.lst (((k :: l').map V.str).eraseIdx 0))) Dm = some (.lst ([] : List V)) := k5 _ _ (Ne.symm (ne_of_none (s3 _ _ hl2) hDm)) upd_same
        have hf5 : (upd (upd (upd H2 p0 (.lst [])) Dm (.lst ([] : List V))) pl (.lst (((k :: l').map V.str).eraseIdx 0))) pf = some (.lst (acc.map V.str)) := k5 _ _ hne' hf4
        have hl5 : (upd (upd (upd H2 p0 (.lst [])) Dm (.lst ([] : List V))) pl (.lst (((k :: l').map V.str).eraseIdx 0))) pl = some (.lst (l'.map V.str)) := upd_same
        have s05 : Same H (upd (upd (upd H2 p0 (.lst [])) Dm (.lst ([] : List V))) pl (.lst (((k :: l').map V.str).eraseIdx 0))) := fun b' o' e' => by rw [upd_ne (ne_of_none e' hplH)]; exact s04 _ _ e'
        generalize (upd (upd (upd H2 p0 (.lst [])) Dm (.lst ([] : List V))) pl (.lst (((k :: l').map V.str).eraseIdx 0))) = H5 at *
        have tk : Tx k := tl k List.mem_cons_self
        have tl' : ∀ y, y ∈ l' → Tx y := fun y hy => tl y (List.mem_cons_of_mem _ hy)
        have hl' : l'.length ≤ 1000 := by rw [List.length_cons] at hl; omega
        refine ⟨_, rfl, rfl, _, rfl, ?_⟩
        rw [show decide (V.str "drop" = V.str "turn") = false by decide +kernel]
        refine iteF ?_
        refine ⟨_, rfl, rfl, _, rfl, ?_⟩
        rw [show decide (V.str "drop" = V.str "keep") = false by decide +kernel]
        refine iteF ?_
        refine ⟨_, rfl, .inl ⟨rfl, _, SqL.of hf5⟩, _, rfl, pf, Dm, _, _, rfl, rfl, hf5, hm5, (by rw [List.length_map, sizeLine_eq]; show _ + 0 ≤ _; omega), ?_⟩
        refine ⟨l', acc, _, _, _, _, _, rfl, ?_, ?_, ?_, ?_, ?_, hl', ta, tl'⟩
        · exact fun b' o' e' => by rw [upd_ne (ne_of_none e' hpf)]; exact s05 _ _ e'
        · rw [upd_same, List.append_nil]
        · rw [upd_ne hne]; exact hl5
        · rw [hrun, run_drop hz]
        · omega
      · have txx : Tx x := by
          cases hdd with
          | flat h => cases h
          | tup _ h => cases h (.str x) (by simp) with | str h => exact h
        obtain ⟨b, hb0⟩ : ∃ b, v = .ref b ∧ H2 b = some (.tup (.str "put" :: [.str x])) := by
          have r2 := rv.all_keep s2
          cases r2 with
          | @tup b xs _ bj eb rb =>
            cases rb with
            | cons r3 r4 =>
              cases r3
              cases r4 with
              | cons r5 r6 =>
                cases r5
                cases r6
                exact ⟨b, rfl, eb⟩
        obtain ⟨rfl, hb⟩ := hb0
        refine ⟨_, rfl, b, _, _, _, rfl, rfl, SqT.of hb, at_zero, rfl, _, rfl, ?_⟩
        rw [show (!decide (V.str "put" = V.str "put")) = false by decide +kernel]
        refine iteF ?_
        refine ⟨_, rfl, b, _, _, rfl, SqT.of hb, (by show _ ≤ 16000; simp), fun Dm hDm => ?_⟩
        have s3 := same_new hDm (.lst [.str x])
        refine ⟨_, rfl, rfl, _, rfl, ?_⟩
        rw [show (!decide (V.str "put" = V.str "put")) = false by decide +kernel]
        refine iteF ?_
        refine ⟨_, rfl, rfl, _, rfl, ?_⟩
        rw [show decide (V.str "put" = V.str "turn") = false by decide +kernel]
        refine iteF ?_
        refine ⟨_, rfl, rfl, _, rfl, ?_⟩
        rw [show decide (V.str "put" = V.str "keep") = false by decide +kernel]
        refine iteF ?_
        have s03 := s02.trans s3
        refine ⟨_, rfl, .inl ⟨rfl, _, SqL.of (s3 _ _ hf2)⟩, _, rfl, pf, Dm, _, _, rfl, rfl, s3 _ _ hf2, upd_same, (by rw [List.length_map, sizeLine_eq]; show _ + 1 ≤ _; omega), ?_⟩
        refine ⟨left, acc ++ [x], _, _, _, _, _, rfl, ?_, ?_, ?_, ?_, ?_, hl, ?_, tl⟩
        · exact fun b' o' e' => by rw [upd_ne (ne_of_none e' hpf)]; exact s03 _ _ e'
        · rw [upd_same, List.map_append]; rfl
        · rw [upd_ne hne]; exact s3 _ _ hl2
        · rw [hrun, run_put hz]
        · rw [List.length_append, List.length_singleton]; omega
        · exact fun y hy => (List.mem_append.mp hy).elim (ta y) (fun h => by rw [List.mem_singleton.mp h]; exact txx)
      · have txx : Tx x := by
          cases hdd with
          | flat h => cases h
          | tup _ h => cases h (.str x) (by simp) with | str h => exact h
        obtain ⟨b, hb0⟩ : ∃ b, v = .ref b ∧ H2 b = some (.tup (.str "turn" :: [.str x])) := by
          have r2 := rv.all_keep s2
          cases r2 with
          | @tup b xs _ bj eb rb =>
            cases rb with
            | cons r3 r4 =>
              cases r3
              cases r4 with
              | cons r5 r6 =>
                cases r5
                cases r6
                exact ⟨b, rfl, eb⟩
        obtain ⟨rfl, hb⟩ := hb0
        refine ⟨_, rfl, b, _, _, _, rfl, rfl, SqT.of hb, at_zero, rfl, _, rfl, ?_⟩
        rw [show (!decide (V.str "turn" = V.str "put")) = true by decide +kernel]
        refine iteT ?_
        refine ⟨_, rfl, (by show 0 ≤ sizeLine; decide), fun p0 hp0 => ?_⟩
        have s3 := same_new hp0 (.lst [])
        have s03 := s02.trans s3
        refine ⟨.list (left.map PyData.str), .list [], .lst (SqL.of (s3 _ _ hl2)) (dp_strs left), .lst (SqL.of upd_same) .nil, shaped_strs tl, rfl, _, rfl, ?_⟩
        rw [eqv_nil]
        cases left with
        | nil =>
          refine iteT ?_
          refine ⟨_, rfl, raise_deeds T no s03 (q2 i ?_)⟩
          rw [hrun]
          exact run_short (by rw [hz]; rfl) (fun y e => by rw [hz] at e; cases e)
        | cons k l' =>
        refine iteF ?_
        have hb3 := s3 _ _ hb
        refine ⟨_, rfl, b, _, _, rfl, SqT.of hb3, (by show _ ≤ 16000; simp), fun Dm hDm => ?_⟩
        have s4 := same_new hDm (.lst ([.str x] : List V))
        have s04 := s03.trans s4
        have hl4 := s4 _ _ (s3 _ _ hl2)
        have hf4 := s4 _ _ (s3 _ _ hf2)
        refine ⟨_, rfl, rfl, _, rfl, ?_⟩
        rw [show (!decide (V.str "turn" = V.str "put")) = true by decide +kernel]
        refine iteT ?_
        refine ⟨_, rfl, .inl ⟨rfl, _, SqL.of hl4⟩, pl, _, 0, 0, .str k, rfl, rfl, hl4, by decide, by decide, seq_zero, rfl, ?_⟩
        have k5 : ∀ q o, q ≠ pl → (upd (upd H2 p0 (.lst [])) Dm (.lst ([.str x] : List V))) q = some o → (upd (upd (upd H2 p0 (.lst [])) Dm (.lst ([.str x] : List V))) pl (.lst (((k :: l').map V.str).eraseIdx 0))) q = some o := fun q o h e => by rw [upd_ne h]; exact e
        have hm5 : (upd (upd (upd H2 p0 (.lst [])) Dm (.lst ([.str x] : List V))) pl (.lst (((k :: l').map V.str).eraseIdx 0))) Dm = some (.lst ([.str x] : List V)) := k5 _ _ (Ne.symm (ne_of_none (s3 _ _ hl2) hDm)) upd_same
        have hf5 : (upd (upd (upd H2 p0 (.lst [])) Dm (.lst ([.str x] : List V))) pl (.lst (((k :: l').map V.str).eraseIdx 0))) pf = some (.lst (acc.map V.str)) := k5 _ _ hne' hf4
        have hl5 : (upd (upd (upd H2 p0 (.lst [])) Dm (.lst ([.str x] : List V))) pl (.lst (((k :: l').map V.str).eraseIdx 0))) pl = some (.lst (l'.map V.str)) := upd_same
        have s05 : Same H (upd (upd (upd H2 p0 (.lst [])) Dm (.lst ([.str x] : List V))) pl (.lst (((k :: l').map V.str).eraseIdx 0))) := fun b' o' e' => by rw [upd_ne (ne_of_none e' hplH)]; exact s04 _ _ e'
        generalize (upd (upd (upd H2 p0 (.lst [])) Dm (.lst ([.str x] : List V))) pl (.lst (((k :: l').map V.str).eraseIdx 0))) = H5 at *
        have tk : Tx k := tl k List.mem_cons_self
        have tl' : ∀ y, y ∈ l' → Tx y := fun y hy => tl y (List.mem_cons_of_mem _ hy)
        have hl' : l'.length ≤ 1000 := by rw [List.length_cons] at hl; omega
        refine ⟨_, rfl, rfl, _, rfl, ?_⟩
        rw [show decide (V.str "turn" = V.str "turn") = true by decide +kernel]
        refine iteT ?_
        refine ⟨_, rfl, _, rfl, (by show 1 ≤ sizeLine; decide), fun p6 hp6 => ?_⟩
        have s6 := same_new hp6 (.lst [.str k])
        refine ⟨.list ([x].map PyData.str), .list ([k].map PyData.str), .lst (SqL.of (s6 _ _ hm5)) (dp_strs [x]), .lst (SqL.of upd_same) (dp_strs [k]), shaped_strs (fun y hy => by rw [List.mem_singleton.mp hy]; exact txx), shaped_strs (fun y hy => by rw [List.mem_singleton.mp hy]; exact tk), _, rfl, ?_⟩
        rw [show PyData.eqv (.list ([x].map PyData.str)) (.list ([k].map PyData.str)) = decide (x = k) from eqv_one x k]
        by_cases hxk : x = k
        · rw [decide_eq_true hxk]
          refine iteT ?_
          refine ⟨_, rfl, raise_deeds T no (s05.trans s6) (q2 i ?_)⟩
          rw [hrun]
          subst hxk
          exact run_same hz
        rw [decide_eq_false hxk]
        refine iteF ?_
        refine ⟨_, rfl, rfl, _, rfl, ?_⟩
        rw [show decide (V.str "turn" = V.str "keep") = false by decide +kernel]
        refine iteF ?_
        refine ⟨_, rfl, .inl ⟨rfl, _, SqL.of (s6 _ _ hf5)⟩, _, rfl, pf, Dm, _, _, rfl, rfl, s6 _ _ hf5, s6 _ _ hm5, (by rw [List.length_map, sizeLine_eq]; show _ + 1 ≤ _; omega), ?_⟩
        refine ⟨l', acc ++ [x], _, _, _, _, _, rfl, ?_, ?_, ?_, ?_, ?_, hl', ?_, tl'⟩
        · exact fun b' o' e' => by rw [upd_ne (ne_of_none e' hpf)]; exact s6 _ _ (s05 _ _ e')
        · rw [upd_same, List.map_append]; rfl
        · rw [upd_ne hne]; exact s6 _ _ hl5
        · rw [hrun, run_turn hz hxk]
        · rw [List.length_append, List.length_singleton]; omega
        · exact fun y hy => (List.mem_append.mp hy).elim (ta y) (fun h => by rw [List.mem_singleton.mp h]; exact txx)
  case done =>
    obtain ⟨left, acc, x4, x5, x6, x7, x8, rfl, s, hf, hl, hrun, al, hl1000, ta, tl⟩ := p
    rw [hus, List.drop_length] at hrun
    refine ⟨_, rfl, (by show 0 ≤ sizeLine; decide), fun p0 hp0 => ?_⟩
    have s3 := same_new hp0 (.lst [])
    refine ⟨.list (left.map PyData.str), .list [], .lst (SqL.of (s3 _ _ hl)) (dp_strs left), .lst (SqL.of upd_same) .nil, shaped_strs tl, rfl, _, rfl, ?_⟩
    rw [eqv_nil]
    cases left with
    | nil =>
      refine iteF ?_
      exact ⟨_, rfl, q1 acc hrun pf _ hpf (s.trans s3) (s3 _ _ hf) ta (by omega)⟩
    | cons k l' =>
      refine iteT ?_
      refine ⟨_, rfl, l, _, rfl, .inl (SqL.of ((s.trans s3) _ _ two.hds)), raise_deeds T no (s.trans s3) ?_⟩
      rw [hus]
      exact q2 ds.length hrun
end
end Dz
namespace Dz
open PySem PySem.Spec PyProof.Rows L2 Ty
theorem nameOk_of {w : Str} {x : Str} {z : Deed} (h : deedOf (.tuple [.str w, .str x]) = some z) : nameD (.str x) = true := by
  rcases deed_cases h with ⟨_, e⟩ | ⟨_, e⟩ | ⟨y, rfl, e⟩ | ⟨y, rfl, e⟩
  · injection e with e; simp at e
  · injection e with e; simp at e
  all_goals
    injection e with e
    injection e with e1 e2
    injection e1 with e1
    subst e1
    have := h
    cases q : nameD (.str x) with
    | true => rfl
    | false =>
      have q' : nameP x = false := q
      have n : nameOf [.str x] = none := by show (if nameP x = true then some x else none) = none; rw [q']; rfl
      first
        | (have e3 : deedOf (.tuple [.str "put", .str x]) = (nameOf [.str x]).map Deed.put := rfl
           rw [e3, n] at this; cases this)
        | (have e3 : deedOf (.tuple [.str "turn", .str x]) = (nameOf [.str x]).map Deed.turn := rfl
           rw [e3, n] at this; cases this)
theorem scWant : FnScope ["row", "deeds", "found", "place", "k", "deed"] ["row", "deeds"] (defScope sWant) := ⟨rfl, rfl, rfl, by decide +kernel, rfl, by decide +kernel, by decide +kernel⟩
def spWant : Sp := fun vs H Q _ => ∃ (j r l : Addr) (row : List Str) (us : List V) (ds : List PyData), vs = [.ref r, .ref l] ∧ Two j H r l row us ds ∧
  (∀ out, run ds row 0 [] = .inl out → ∀ p H', H p = none → Same H H' → H' p = some (.lst (out.map V.str)) → (∀ x, x ∈ out → Tx x) → out.length ≤ 3000 → Q (.ref p) H') ∧
  (∀ n : Nat, run ds row 0 [] = .inr n → ∀ H', Same H H' → Q (.int (n : Nat)) H')
section
variable {P : Program} {w : World} {K : PySem.W.Frag} {mg : Str → Option Value} {base : Heap} {f g : Addr} {fd gd : FuncData}
theorem ok_want (F : Fun K "_law_want" "_law_want" sWant f fd) (G : FnOk P w K mg base CX0 1 g gd ["kind"] spName) (bG : Binds K gd ["kind"] []) (kG : PySem.W.keepIn K (.ref g) = true) (mG : mg "_law_good_name" = some (.ref g))
    (mr : mg "range" = none) (ml : mg "len" = none) (mi : mg "isinstance" = none) (mt : mg "tuple" = none) (ms : mg "str" = none) (mn : mg "int" = none) (mll : mg "list" = none) : FnOk P w K mg base CX0 2 f fd ["row", "deeds"] spWant := by
  refine F.ok scWant (fun vs H Q E h => ?_) (fun cdv A outer s H vs Q E hr h => ?_)
  · obtain ⟨j, r, l, row, us, ds, rfl, _⟩ := h
    rfl
  obtain ⟨j, r, l, row, us, ds, rfl, two, q1, q2⟩ := h
  refine ⟨_, pss_cons (ps_set (i := 2) scWant.nd rfl (.inl rfl) (pe_lst pa_nil))
    (pss_cons (ps_set (i := 3) scWant.nd rfl (.inl rfl) pe_int)
    (pss_cons (ps_for PassesOwn.never rfl (pi_range1 rfl mr (pa_cons (pe_callB call_len_seq rfl ml PySem.boot_len (pa_cons (pv 1) pa_nil)) pa_nil)) (pg_name (i := 4) scWant.nd rfl (Or.inl rfl))
      (pss_cons (ps_set (i := 5) scWant.nd rfl (.inl rfl) (pe_ix ix_list (pv 1) (pv 4) (fun _ _ => rfl)))
      (pss_cons (ps_if (PW.pt (pw_or (pt_not (pt_val (pe_callB call_isi rfl mi (by decide +kernel) (pa_cons (pv 5) (pa_cons (pe_bltn rfl mt (by decide +kernel) (show RelV (.ty "tuple") (.type "tuple") from rfl)) pa_nil)))))
          (pw_or (pt_cmpR op_eq (pe_callB call_len_seq rfl ml PySem.boot_len (pa_cons (pv 5) pa_nil)) pe_int (nomark _))
          (pw_or1 (pt_not (pt_val (pe_callB call_isi rfl mi (by decide +kernel) (pa_cons (pe_ix ix_tup (pv 5) pe_int (fun _ _ => rfl)) (pa_cons (pe_bltn rfl ms (by decide +kernel) (show RelV (.ty "str") (.type "str") from rfl)) pa_nil)))))))))
        (pss_one (ps_ret (pv 4))) pss_nil)
      (pss_cons (ps_if (PW.pt (pw_or (pt_cmpR op_notIn_seq (pe_ix ix_tup (pv 5) pe_int (fun _ _ => rfl)) (pe_lst (pa_cons pe_str (pa_cons pe_str (pa_cons pe_str (pa_cons pe_str pa_nil))))) rfl)
          (pw_or1 (pt_cmpR op_ne (pe_callB call_len_seq rfl ml PySem.boot_len (pa_cons (pv 5) pa_nil)) (pe_op op_add pe_int (pe_callTy call_int1 rfl mn (by decide +kernel) (pa_cons (pe_cmpR op_in_seq (pe_ix ix_tup (pv 5) pe_int (fun _ _ => rfl)) (pe_lst (pa_cons pe_str (pa_cons pe_str pa_nil))) rfl) pa_nil))) (nomark _)))))
        (pss_one (ps_ret (pv 4))) pss_nil)
      (pss_cons (ps_if (PW.pt (pw_or (PW.pt (pw_and (pt_cmpR op_eq (pe_callB call_len_seq rfl ml PySem.boot_len (pa_cons (pv 5) pa_nil)) pe_int (nomark _)) (pw_and1 (pt_not (pt_val (pe_call G hr rfl mG kG bG .nil pass0 (pa_cons (pe_ix ix_tup (pv 5) pe_int (fun _ _ => rfl)) pa_nil)))))))
          (pw_or1 (PW.pt (pw_and (pt_cmpR op_ne (pe_ix ix_tup (pv 5) pe_int (fun _ _ => rfl)) pe_str (nomark _)) (pw_and1 (pt_cmpR op_eq (pv 3) (pe_callB call_len_seq rfl ml PySem.boot_len (pa_cons (pv 0) pa_nil)) (nomark _))))))))
        (pss_one (ps_ret (pv 4))) pss_nil)
      (pss_cons (ps_if (PW.pt (pw_and (pt_cmpR op_eq (pe_ix ix_tup (pv 5) pe_int (fun _ _ => rfl)) pe_str (nomark _)) (pw_and1 (pt_cmpR op_eq (pe_ix ix_tup (pv 5) pe_int (fun _ _ => rfl)) (pe_ix ix_list (pv 0) (pv 3) (fun _ _ => rfl)) (nomark _)))))
        (pss_one (ps_ret (pv 4))) pss_nil)
      (pss_cons (ps_if (pt_cmpR op_eq (pe_ix ix_tup (pv 5) pe_int (fun _ _ => rfl)) pe_str (nomark _)) (pss_one (ps_expr (pe_bm PySem.F.plainAttrs_list PySem.F.slot_list_append PySem.F.type_list_append mt_append (pv 2) (pa_cons (pe_ix ix_list (pv 0) (pv 3) (fun _ _ => rfl)) pa_nil)))) pss_nil)
      (pss_cons (ps_set (i := 2) scWant.nd rfl (.inl rfl) (pe_op op_cat (pv 2) (pe_callTy call_list_of rfl mll (by decide +kernel) (pa_cons (pe_slice sl_tup (pv 5) (po_some pe_int) po_none) pa_nil))))
      (pss_one (ps_set (i := 3) scWant.nd rfl (.inl rfl) (pe_op op_add (pv 3) (pe_callTy call_int1 rfl mn (by decide +kernel) (pa_cons (pe_cmpR op_ne (pe_ix ix_tup (pv 5) pe_int (fun _ _ => rfl)) pe_str (nomark _)) pa_nil)))))))))))))
    (pss_one (ps_ret (pe_ifExp (pt_cmpR op_eq (pv 3) (pe_callB call_len_seq rfl ml PySem.boot_len (pa_cons (pv 0) pa_nil)) (nomark _)) (pv 2) (pe_callB call_len_seq rfl ml PySem.boot_len (pa_cons (pv 1) pa_nil))))))), ?_⟩
  refine ⟨(by show 0 ≤ sizeLine; decide), fun pf0 hpf0 => ?_⟩
  have n1 := same_new hpf0 (.lst [])
  have hus := two.reps.length
  have hmany := two.many
  have hfew := two.few
  have hr00 := two.hrow
  refine ⟨_, rfl, l, _, rfl, .inl (SqL.of (n1 _ _ two.hds)), _, rfl, by omega, by omega, ?_⟩
  rw [Int.toNat_natCast]
  refine for_range (lo := 0) (n := us.length) (fun i σ H' => ∃ (pf : Addr) (acc : List Str) (place : Nat) (x4 x5 : Option V), σ = [some (.ref r), some (.ref l), some (.ref pf), some (.int (place : Nat)), x4, x5] ∧ H pf = none ∧ Same H H' ∧ H' pf = some (.lst (acc.map V.str)) ∧
      run ds row 0 [] = run (ds.drop i) (row.drop place) i acc ∧ acc.length ≤ i ∧ place ≤ row.length ∧ ∀ x, x ∈ acc → Tx x)
    ⟨pf0, [], 0, _, _, rfl, hpf0, n1, upd_same, rfl, Nat.zero_le _, Nat.zero_le _, fun _ h => by cases h⟩
    (fun i σ H0 hi p => ?turn) (fun σ H' p => ?done)
  case done =>
    obtain ⟨pf, acc, place, x4, x5, rfl, hpf, s, hf, hrun, al, hple, ta⟩ := p
    rw [hus, List.drop_length] at hrun
    refine ⟨_, rfl, _, rfl, r, _, rfl, .inl (SqL.of (s _ _ hr00)), rfl, _, rfl, ?_⟩
    by_cases hpl : place = row.length
    · rw [show decide (V.int ((place : Nat) : Int) = V.int (((row.map V.str).length : Nat) : Int)) = true from decide_eq_true (by rw [List.length_map, hpl])]
      refine iteT ⟨_, rfl, q1 acc ?_ pf _ hpf s hf ta (by omega)⟩
      rw [hrun, hpl, List.drop_length]
      rfl
    · rw [show decide (V.int ((place : Nat) : Int) = V.int (((row.map V.str).length : Nat) : Int)) = false from decide_eq_false (fun e => by injection e with e; rw [List.length_map] at e; omega)]
      refine iteF ⟨_, rfl, l, _, rfl, .inl (SqL.of (s _ _ two.hds)), ?_⟩
      rw [hus]
      refine q2 ds.length ?_ _ s
      rw [hrun]
      have hne : row.drop place ≠ [] := fun e => by
        have := congrArg List.length e
        rw [List.length_drop] at this
        simp at this
        omega
      show (if row.drop place = [] then _ else _) = _
      rw [if_neg hne]
  case turn =>
    obtain ⟨pf, acc, place, x4, x5, rfl, hpf, s, hf, hrun, al, hple, ta⟩ := p
    rw [show (0 : Int) + ((i : Nat) : Int) = ((i : Nat) : Int) by omega]
    obtain ⟨v, hv⟩ : ∃ v, us[i]? = some v := ⟨us[i], List.getElem?_eq_getElem hi⟩
    obtain ⟨d, hd, rv⟩ := two.reps.get hv
    have hdm := List.mem_of_getElem? hd
    have hdd := two.dd d hdm
    have hlt : i < ds.length := by rw [← hus]; exact hi
    have hdrop : ds.drop i = d :: ds.drop (i + 1) := by
      rw [List.drop_eq_getElem_cons hlt]
      rw [List.getElem?_eq_getElem hlt] at hd
      injection hd with hd
      rw [hd]
    rw [hdrop] at hrun
    have rv := rv.all_keep s
    have hr0 := s _ _ hr00
    refine ⟨_, rfl, _, rfl, l, _, _, v, rfl, rfl, SqL.of (s _ _ two.hds), atI_nat hv, ?_⟩
    cases hz : deedOf d with
    | none =>
      -- the deed is none: each way ends in k
      refine ⟨_, rfl, v, .ty "tuple", _, _, _, rfl, .ty _, rv.ty, kit_t K d, _, rfl, ?_⟩
      have bad : ∀ H', Same H H' → Q (.int ((i : Nat) : Int)) H' := fun H' sH => q2 i (by rw [hrun]; exact run_none hz) H' sH
      cases ht : isT d with
      | false => exact iteT ⟨_, rfl, bad _ s⟩
      | true =>
      refine iteF ?_
      obtain ⟨b, xs, es, rfl, rfl, bj, hb, rs⟩ := rv.isT_ex ht
      refine ⟨_, rfl, b, _, rfl, .inr (SqT.of hb), rfl, _, rfl, ?_⟩
      have hfl : ∀ d, d ∈ es → Flat d := by
        cases hdd with
        | flat h => cases h
        | tup _ h => exact h
      cases rs with
      | nil => exact iteT ⟨_, rfl, bad _ s⟩
      | @cons v0 ys d0 es r0 rs =>
      rw [show decide (V.int (((v0 :: ys).length : Nat) : Int) = V.int 0) = false from decide_eq_false (fun e => by injection e with e; rw [List.length_cons] at e; omega)]
      refine iteF ?_
      have hl2 := rs.length
      refine ⟨_, rfl, b, _, _, _, rfl, rfl, SqT.of hb, at_zero, v0, .ty "str", _, _, _, rfl, .ty _, r0.ty, kit_s K d0, _, rfl, ?_⟩
      cases hs : isS d0 with
      | false => exact iteT ⟨_, rfl, bad _ s⟩
      | true =>
      refine iteF ?_
      obtain ⟨x, rfl, rfl⟩ := r0.isS_ex hs
      refine ⟨_, rfl, b, _, _, _, rfl, rfl, SqT.of hb, at_zero, (by show 4 ≤ sizeLine; decide), fun p1 hp1 => ?_⟩
      have s1 := same_new hp1 (.lst [.str "keep", .str "drop", .str "put", .str "turn"])
      refine ⟨p1, (["keep", "drop", "put", "turn"] : List Str).map V.str, rfl, .inl (SqL.of upd_same), rfl, rfl, _, rfl, ?_⟩
      rw [if_pos rfl, inV_strs]
      by_cases h4 : x ∈ (["keep", "drop", "put", "turn"] : List Str)
      · rw [decide_eq_true h4]
        refine iteF ?_
        refine ⟨_, rfl, b, _, rfl, .inr (SqT.of (s1 _ _ hb)), _, rfl, b, _, _, _, rfl, rfl, SqT.of (s1 _ _ hb), at_zero, (by show 2 ≤ sizeLine; decide), fun p2 hp2 => ?_⟩
        have s2 := same_new hp2 (.lst [.str "put", .str "turn"])
        have s12 := s1.trans s2
        refine ⟨p2, (["put", "turn"] : List Str).map V.str, rfl, .inl (SqL.of upd_same), rfl, rfl, ?_⟩
        rw [if_neg Bool.false_ne_true, inV_strs]
        refine .inr ⟨_, rfl, _, _, rfl, rfl, rfl, _, rfl, ?_⟩
        by_cases hk : x ∈ (["keep", "drop"] : List Str)
        · have hno : x ∉ (["put", "turn"] : List Str) := by
            simp only [List.mem_cons, List.not_mem_nil, or_false] at hk ⊢
            rcases hk with rfl | rfl <;> decide +kernel
          have hne := deed_short (ds := es) hk
          rw [hz] at hne
          have hes : es.length ≠ 0 := fun e => by rw [e] at hne; cases hne
          rw [decide_eq_false hno]
          rw [show (!decide (V.int (((V.str x :: ys).length : Nat) : Int) = V.int (1 + (if false = true then 1 else 0)))) = true by
            rw [decide_eq_false (fun e => by injection e with e; rw [List.length_cons, if_neg Bool.false_ne_true] at e; omega)]; rfl]
          exact iteT ⟨_, rfl, bad _ (s.trans s12)⟩
        · have hp : x ∈ (["put", "turn"] : List Str) := by
            simp only [List.mem_cons, List.not_mem_nil, or_false] at h4 hk ⊢
            rcases h4 with h | h | h | h
            · exact absurd (.inl h) hk
            · exact absurd (.inr h) hk
            · exact .inl h
            · exact .inr h
          have hno := deed_long (ds := es) hk hp
          rw [hz] at hno
          rw [decide_eq_true hp]
          by_cases h2 : ys.length = 1
          · rw [show (!decide (V.int (((V.str x :: ys).length : Nat) : Int) = V.int (1 + (if true = true then 1 else 0)))) = false by
              rw [decide_eq_true (by rw [List.length_cons, h2]; rfl)]; rfl]
            refine iteF ?_
            refine ⟨_, rfl, b, _, rfl, .inr (SqT.of (s12 _ _ hb)), rfl, _, rfl, ?_⟩
            rw [show decide (V.int (((V.str x :: ys).length : Nat) : Int) = V.int 2) = true from decide_eq_true (by rw [List.length_cons, h2]; rfl)]
            refine iteT ?_
            cases rs with
            | nil => cases h2
            | @cons v1 ys d1 es r1 rt =>
              cases rt with
              | cons _ _ => simp at h2
              | nil =>
                refine ⟨_, rfl, b, _, _, _, rfl, rfl, SqT.of (s12 _ _ hb), (show atI [V.str x, v1] 1 = some v1 from rfl), j, v1, d1, rfl, r1.all_keep s12, hfl d1 (by simp), fun H3 s3 => ⟨_, rfl, ?_⟩⟩
                have e1 : nameD d1 = false := hno.symm
                rw [e1]
                exact iteT ⟨_, rfl, bad _ (s.trans (s12.trans s3))⟩
          · rw [show (!decide (V.int (((V.str x :: ys).length : Nat) : Int) = V.int (1 + (if true = true then 1 else 0)))) = true by
              rw [decide_eq_false (fun e => by injection e with e; rw [List.length_cons, if_pos rfl] at e; omega)]; rfl]
            exact iteT ⟨_, rfl, bad _ (s.trans s12)⟩
      · rw [decide_eq_false h4]
        exact iteT ⟨_, rfl, bad _ (s.trans s1)⟩
    | some z =>
      have hzz := hz
      rcases deed_cases hz with ⟨rfl, rfl⟩ | ⟨rfl, rfl⟩ | ⟨x, rfl, rfl⟩ | ⟨x, rfl, rfl⟩
      · obtain ⟨b, hb0⟩ : ∃ b, v = .ref b ∧ H0 b = some (.tup (.str "keep" :: [])) := by
          have r2 := rv
          cases r2 with
          | @tup b xs _ bj eb rb =>
            cases rb with
            | cons r3 r4 =>
              cases r3
              cases r4
              exact ⟨b, rfl, eb⟩
        obtain ⟨rfl, hb⟩ := hb0
        refine ⟨_, rfl, .ref b, .ty "tuple", _, _, _, rfl, .ty _, .base (.tup hb), kit_ty (show kitB "tuple" "tuple" = some true by decide +kernel), _, rfl, ?_⟩
        refine iteF ?_
        refine ⟨_, rfl, b, _, rfl, .inr (SqT.of hb), rfl, _, rfl, ?_⟩
        rw [show decide (V.int (((V.str "keep" :: [] : List V).length : Nat) : Int) = V.int 0) = false by decide +kernel]
        refine iteF ?_
        refine ⟨_, rfl, b, _, _, _, rfl, rfl, SqT.of hb, at_zero, .str "keep", .ty "str", _, _, _, rfl, .ty _, .base (.str _), kit_ty (show kitB "str" "str" = some true by decide +kernel), _, rfl, ?_⟩
        refine iteF ?_
        refine ⟨_, rfl, b, _, _, _, rfl, rfl, SqT.of hb, at_zero, (by show 4 ≤ sizeLine; decide), fun p1 hp1 => ?_⟩
        have s1 := same_new hp1 (.lst [.str "keep", .str "drop", .str "put", .str "turn"])
        refine ⟨p1, [.str "keep", .str "drop", .str "put", .str "turn"], rfl, .inl (SqL.of upd_same), rfl, rfl, _, rfl, ?_⟩
        rw [show (if true = true then !inV (V.str "keep") [.str "keep", .str "drop", .str "put", .str "turn"] else inV (V.str "keep") [.str "keep", .str "drop", .str "put", .str "turn"]) = false by decide +kernel]
        refine iteF ?_
        refine ⟨_, rfl, b, _, rfl, .inr (SqT.of (s1 _ _ hb)), _, rfl, b, _, _, _, rfl, rfl, SqT.of (s1 _ _ hb), at_zero, (by show 2 ≤ sizeLine; decide), fun p2 hp2 => ?_⟩
        have s2 := same_new hp2 (.lst [.str "put", .str "turn"])
        refine ⟨p2, [.str "put", .str "turn"], rfl, .inl (SqL.of upd_same), rfl, rfl, ?_⟩
        rw [show (if false = true then !inV (V.str "keep") [.str "put", .str "turn"] else inV (V.str "keep") [.str "put", .str "turn"]) = false by decide +kernel]
        refine .inr ⟨_, rfl, _, _, rfl, rfl, rfl, _, rfl, ?_⟩
        rw [show (!decide (V.int (((V.str "keep" :: [] : List V).length : Nat) : Int) = V.int (1 + (if false = true then 1 else 0)))) = false by decide +kernel]
        refine iteF ?_
        have s12 := s1.trans s2
        have hb2 := s12 _ _ hb
        refine ⟨_, rfl, b, _, rfl, .inr (SqT.of hb2), rfl, _, rfl, ?_⟩
        rw [show decide (V.int (((V.str "keep" :: [] : List V).length : Nat) : Int) = V.int 2) = false by decide +kernel]
        refine iteF ?_
        have s0x := s.trans s12
        have hfx := s12 _ _ hf
        have hrx := s12 _ _ hr0
        generalize (upd (upd H0 p1 (.lst [.str "keep", .str "drop", .str "put", .str "turn"])) p2 (.lst [.str "put", .str "turn"])) = H3 at *
        refine ⟨_, rfl, b, _, _, _, rfl, rfl, SqT.of hb2, at_zero, rfl, _, rfl, ?_⟩
        rw [show (!decide (V.str "keep" = V.str "put")) = true by decide +kernel]
        refine iteT ?_
        refine ⟨_, rfl, _, rfl, r, _, rfl, .inl (SqL.of hrx), rfl, _, rfl, ?_⟩
        by_cases hpl : place = row.length
        · rw [show decide (V.int ((place : Nat) : Int) = V.int (((row.map V.str).length : Nat) : Int)) = true from decide_eq_true (by rw [List.length_map, hpl])]
          refine iteT ?_
          refine ⟨_, rfl, ?_⟩
          refine q2 i ?_ H3 s0x
          rw [hrun, hpl, List.drop_length]
          exact run_short (by rw [hz]; rfl) (fun y e => by rw [hz] at e; cases e)
        rw [show decide (V.int ((place : Nat) : Int) = V.int (((row.map V.str).length : Nat) : Int)) = false from decide_eq_false (fun e => by injection e with e; rw [List.length_map] at e; omega)]
        refine iteF ?_
        have hlt2 : place < row.length := by omega
        obtain ⟨kk, hkk⟩ : ∃ kk, row[place]? = some kk := ⟨row[place], List.getElem?_eq_getElem hlt2⟩
        have hdr : row.drop place = kk :: row.drop (place + 1) := by
          rw [List.drop_eq_getElem_cons hlt2]
          rw [List.getElem?_eq_getElem hlt2] at hkk
          injection hkk with hkk
          rw [hkk]
        rw [hdr] at hrun
        have hat : atI (row.map V.str) ((place : Nat) : Int) = some (.str kk) := atI_nat (by rw [List.getElem?_map, hkk]; rfl)
        have txk := two.tx kk (List.mem_of_getElem? hkk)
        refine ⟨_, rfl, b, _, _, _, rfl, rfl, SqT.of hb2, at_zero, rfl, _, rfl, ?_⟩
        rw [show decide (V.str "keep" = V.str "turn") = false by decide +kernel]
        refine iteF ?_
        refine ⟨_, rfl, b, _, _, _, rfl, rfl, SqT.of hb2, at_zero, rfl, _, rfl, ?_⟩
        rw [show decide (V.str "keep" = V.str "keep") = true by decide +kernel]
        refine iteT ?_
        refine ⟨_, rfl, .inl ⟨rfl, _, SqL.of hfx⟩, _, rfl, _, rfl, r, _, _, _, rfl, rfl, SqL.of hrx, hat, pf, _, _, rfl, rfl, hfx, (by rw [List.length_map, sizeLine_eq]; omega), ?_⟩
        have hb2 : (upd H3 pf (.lst (acc.map V.str ++ [.str kk]))) b = some (.tup (.str "keep" :: [])) := by
          rw [upd_ne (fun e => by rw [e, hfx] at hb2; cases hb2)]; exact hb2
        have hrx : (upd H3 pf (.lst (acc.map V.str ++ [.str kk]))) r = some (.lst (row.map V.str)) := by
          rw [upd_ne (fun e => by rw [e] at hr00; rw [hr00] at hpf; cases hpf)]; exact hrx
        have hfx : (upd H3 pf (.lst (acc.map V.str ++ [.str kk]))) pf = some (.lst ((acc ++ [kk]).map V.str)) := by rw [upd_same, List.map_append]; rfl
        have s0x : Same H (upd H3 pf (.lst (acc.map V.str ++ [.str kk]))) := fun b' o' e' => by rw [upd_ne (ne_of_none e' hpf)]; exact s0x _ _ e'
        generalize (upd H3 pf (.lst (acc.map V.str ++ [.str kk]))) = H3 at *
        refine ⟨_, rfl, _, rfl, _, rfl, b, _, rfl, SqT.of hb2, (by rw [List.length_cons, sIx_one]; omega), fun p5 hp5 => ?_⟩
        rw [cut_tail]
        have s5 := same_new hp5 (.tup ([] : List V))
        refine ⟨p5, _, rfl, .inr (SqT.of upd_same), fun p6 hp6 => ?_⟩
        have s6 := same_new hp6 (.lst ([] : List V))
        refine ⟨pf, p6, _, _, rfl, rfl, s6 _ _ (s5 _ _ hfx), upd_same, (by rw [List.length_map, sizeLine_eq]; rw [List.length_append, List.length_singleton]; show _ + 0 ≤ _; omega), fun p7 hp7 => ?_⟩
        have s7 := same_new hp7 (.lst ((acc ++ [kk]).map V.str ++ ([] : List V)))
        have s57 := s5.trans (s6.trans s7)
        have s07 := s0x.trans s57
        refine ⟨_, rfl, _, rfl, b, _, _, _, rfl, rfl, SqT.of (s57 _ _ hb2), at_zero, rfl, ?_⟩
        rw [show (!decide (V.str "keep" = V.str "put")) = true by decide +kernel]
        refine .inr ⟨_, rfl, _, _, rfl, rfl, ?_⟩
        refine ⟨p7, acc ++ [kk], place + 1, _, _, rfl, ?_, s07, ?_, ?_, ?_, by omega, ?_⟩
        · cases e : H p7 with
          | none => rfl
          | some o => rw [(s0x.trans (s5.trans s6)) _ _ e] at hp7; cases hp7
        · rw [upd_same]
          rw [List.append_nil]
        · rw [hrun, run_keep hz]
        · rw [List.length_append, List.length_singleton]; omega
        · exact fun y hy => (List.mem_append.mp hy).elim (ta y) (fun h => by rw [List.mem_singleton.mp h]; exact txk)
      · obtain ⟨b, hb0⟩ : ∃ b, v = .ref b ∧ H0 b = some (.tup (.str "drop" :: [])) := by
          have r2 := rv
          cases r2 with
          | @tup b xs _ bj eb rb =>
            cases rb with
            | cons r3 r4 =>
              cases r3
              cases r4
              exact ⟨b, rfl, eb⟩
        obtain ⟨rfl, hb⟩ := hb0
        refine ⟨_, rfl, .ref b, .ty "tuple", _, _, _, rfl, .ty _, .base (.tup hb), kit_ty (show kitB "tuple" "tuple" = some true by decide +kernel), _, rfl, ?_⟩
        refine iteF ?_
        refine ⟨_, rfl, b, _, rfl, .inr (SqT.of hb), rfl, _, rfl, ?_⟩
        rw [show decide (V.int (((V.str "drop" :: [] : List V).length : Nat) : Int) = V.int 0) = false by decide +kernel]
        refine iteF ?_
        refine ⟨_, rfl, b, _, _, _, rfl, rfl, SqT.of hb, at_zero, .str "drop", .ty "str", _, _, _, rfl, .ty _, .base (.str _), kit_ty (show kitB "str" "str" = some true by decide +kernel), _, rfl, ?_⟩
        refine iteF ?_
        refine ⟨_, rfl, b, _, _, _, rfl, rfl, SqT.of hb, at_zero, (by show 4 ≤ sizeLine; decide), fun p1 hp1 => ?_⟩
        have s1 := same_new hp1 (.lst [.str "keep", .str "drop", .str "put", .str "turn"])
        refine ⟨p1, [.str "keep", .str "drop", .str "put", .str "turn"], rfl, .inl (SqL.of upd_same), rfl, rfl, _, rfl, ?_⟩
        rw [show (if true = true then !inV (V.str "drop") [.str "keep", .str "drop", .str "put", .str "turn"] else inV (V.str "drop") [.str "keep", .str "drop", .str "put", .str "turn"]) = false by decide +kernel]
        refine iteF ?_
        refine ⟨_, rfl, b, _, rfl, .inr (SqT.of (s1 _ _ hb)), _, rfl, b, _, _, _, rfl, rfl, SqT.of (s1 _ _ hb), at_zero, (by show 2 ≤ sizeLine; decide), fun p2 hp2 => ?_⟩
        have s2 := same_new hp2 (.lst [.str "put", .str "turn"])
        refine ⟨p2, [.str "put", .str "turn"], rfl, .inl (SqL.of upd_same), rfl, rfl, ?_⟩
        rw [show (if false = true then !inV (V.str "drop") [.str "put", .str "turn"] else inV (V.str "drop") [.str "put", .str "turn"]) = false by decide +kernel]
        refine .inr ⟨_, rfl, _, _, rfl, rfl, rfl, _, rfl, ?_⟩
        rw [show (!decide (V.int (((V.str "drop" :: [] : List V).length : Nat) : Int) = V.int (1 + (if false = true then 1 else 0)))) = false by decide +kernel]
        refine iteF ?_
        have s12 := s1.trans s2
        have hb2 := s12 _ _ hb
        refine ⟨_, rfl, b, _, rfl, .inr (SqT.of hb2), rfl, _, rfl, ?_⟩
        rw [show decide (V.int (((V.str "drop" :: [] : List V).length : Nat) : Int) = V.int 2) = false by decide +kernel]
        refine iteF ?_
        have s0x := s.trans s12
        have hfx := s12 _ _ hf
        have hrx := s12 _ _ hr0
        generalize (upd (upd H0 p1 (.lst [.str "keep", .str "drop", .str "put", .str "turn"])) p2 (.lst [.str "put", .str "turn"])) = H3 at *
        refine ⟨_, rfl, b, _, _, _, rfl, rfl, SqT.of hb2, at_zero, rfl, _, rfl, ?_⟩
        rw [show (!decide (V.str "drop" = V.str "put")) = true by decide +kernel]
        refine iteT ?_
        refine ⟨_, rfl, _, rfl, r, _, rfl, .inl (SqL.of hrx), rfl, _, rfl, ?_⟩
        by_cases hpl : place = row.length
        · rw [show decide (V.int ((place : Nat) : Int) = V.int (((row.map V.str).length : Nat) : Int)) = true from decide_eq_true (by rw [List.length_map, hpl])]
          refine iteT ?_
          refine ⟨_, rfl, ?_⟩
          refine q2 i ?_ H3 s0x
          rw [hrun, hpl, List.drop_length]
          exact run_short (by rw [hz]; rfl) (fun y e => by rw [hz] at e; cases e)
        rw [show decide (V.int ((place : Nat) : Int) = V.int (((row.map V.str).length : Nat) : Int)) = false from decide_eq_false (fun e => by injection e with e; rw [List.length_map] at e; omega)]
        refine iteF ?_
        have hlt2 : place < row.length := by omega
        obtain ⟨kk, hkk⟩ : ∃ kk, row[place]? = some kk := ⟨row[place], List.getElem?_eq_getElem hlt2⟩
        have hdr : row.drop place = kk :: row.drop (place + 1) := by
          rw [List.drop_eq_getElem_cons hlt2]
          rw [List.getElem?_eq_getElem hlt2] at hkk
          injection hkk with hkk
          rw [hkk]
        rw [hdr] at hrun
        have hat : atI (row.map V.str) ((place : Nat) : Int) = some (.str kk) := atI_nat (by rw [List.getElem?_map, hkk]; rfl)
        have txk := two.tx kk (List.mem_of_getElem? hkk)
        refine ⟨_, rfl, b, _, _, _, rfl, rfl, SqT.of hb2, at_zero, rfl, _, rfl, ?_⟩
        rw [show decide (V.str "drop" = V.str "turn") = false by decide +kernel]
        refine iteF ?_
        refine ⟨_, rfl, b, _, _, _, rfl, rfl, SqT.of hb2, at_zero, rfl, _, rfl, ?_⟩
        rw [show decide (V.str "drop" = V.str "keep") = false by decide +kernel]
        refine iteF ?_
        refine ⟨_, rfl, _, rfl, _, rfl, b, _, rfl, SqT.of hb2, (by rw [List.length_cons, sIx_one]; omega), fun p5 hp5 => ?_⟩
        rw [cut_tail]
        have s5 := same_new hp5 (.tup ([] : List V))
        refine ⟨p5, _, rfl, .inr (SqT.of upd_same), fun p6 hp6 => ?_⟩
        have s6 := same_new hp6 (.lst ([] : List V))
        refine ⟨pf, p6, _, _, rfl, rfl, s6 _ _ (s5 _ _ hfx), upd_same, (by rw [List.length_map, sizeLine_eq]; show _ + 0 ≤ _; omega), fun p7 hp7 => ?_⟩
        have s7 := same_new hp7 (.lst ((acc).map V.str ++ ([] : List V)))
        have s57 := s5.trans (s6.trans s7)
        have s07 := s0x.trans s57
        refine ⟨_, rfl, _, rfl, b, _, _, _, rfl, rfl, SqT.of (s57 _ _ hb2), at_zero, rfl, ?_⟩
        rw [show (!decide (V.str "drop" = V.str "put")) = true by decide +kernel]
        refine .inr ⟨_, rfl, _, _, rfl, rfl, ?_⟩
        refine ⟨p7, acc, place + 1, _, _, rfl, ?_, s07, ?_, ?_, ?_, by omega, ?_⟩
        · cases e : H p7 with
          | none => rfl
          | some o => rw [(s0x.trans (s5.trans s6)) _ _ e] at hp7; cases hp7
        · rw [upd_same]
          rw [List.append_nil]
        · rw [hrun, run_drop hz]
        · omega
        · exact ta
      · have txx : Tx x := by
          cases hdd with
          | flat h => cases h
          | tup _ h => cases h (.str x) (by simp) with | str h => exact h
        obtain ⟨b, hb0⟩ : ∃ b, v = .ref b ∧ H0 b = some (.tup (.str "put" :: [.str x])) := by
          have r2 := rv
          cases r2 with
          | @tup b xs _ bj eb rb =>
            cases rb with
            | cons r3 r4 =>
              cases r3
              cases r4 with
              | cons r5 r6 =>
                cases r5
                cases r6
                exact ⟨b, rfl, eb⟩
        obtain ⟨rfl, hb⟩ := hb0
        refine ⟨_, rfl, .ref b, .ty "tuple", _, _, _, rfl, .ty _, .base (.tup hb), kit_ty (show kitB "tuple" "tuple" = some true by decide +kernel), _, rfl, ?_⟩
        refine iteF ?_
        refine ⟨_, rfl, b, _, rfl, .inr (SqT.of hb), rfl, _, rfl, ?_⟩
        rw [show decide (V.int (((V.str "put" :: [.str x] : List V).length : Nat) : Int) = V.int 0) = false by exact decide_eq_false (fun e => by injection e with e; exact absurd e (by show ¬ ((2 : Nat) : Int) = 0; decide))]
        refine iteF ?_
        refine ⟨_, rfl, b, _, _, _, rfl, rfl, SqT.of hb, at_zero, .str "put", .ty "str", _, _, _, rfl, .ty _, .base (.str _), kit_ty (show kitB "str" "str" = some true by decide +kernel), _, rfl, ?_⟩
        refine iteF ?_
        refine ⟨_, rfl, b, _, _, _, rfl, rfl, SqT.of hb, at_zero, (by show 4 ≤ sizeLine; decide), fun p1 hp1 => ?_⟩
        have s1 := same_new hp1 (.lst [.str "keep", .str "drop", .str "put", .str "turn"])
        refine ⟨p1, [.str "keep", .str "drop", .str "put", .str "turn"], rfl, .inl (SqL.of upd_same), rfl, rfl, _, rfl, ?_⟩
        rw [show (if true = true then !inV (V.str "put") [.str "keep", .str "drop", .str "put", .str "turn"] else inV (V.str "put") [.str "keep", .str "drop", .str "put", .str "turn"]) = false by decide +kernel]
        refine iteF ?_
        refine ⟨_, rfl, b, _, rfl, .inr (SqT.of (s1 _ _ hb)), _, rfl, b, _, _, _, rfl, rfl, SqT.of (s1 _ _ hb), at_zero, (by show 2 ≤ sizeLine; decide), fun p2 hp2 => ?_⟩
        have s2 := same_new hp2 (.lst [.str "put", .str "turn"])
        refine ⟨p2, [.str "put", .str "turn"], rfl, .inl (SqL.of upd_same), rfl, rfl, ?_⟩
        rw [show (if false = true then !inV (V.str "put") [.str "put", .str "turn"] else inV (V.str "put") [.str "put", .str "turn"]) = true by decide +kernel]
        refine .inr ⟨_, rfl, _, _, rfl, rfl, rfl, _, rfl, ?_⟩
        rw [show (!decide (V.int (((V.str "put" :: [.str x] : List V).length : Nat) : Int) = V.int (1 + (if true = true then 1 else 0)))) = false by rw [decide_eq_true (show V.int (((V.str "put" :: [.str x] : List V).length : Nat) : Int) = V.int (1 + (if true = true then 1 else 0)) from rfl)]; rfl]
        refine iteF ?_
        have s12 := s1.trans s2
        have hb2 := s12 _ _ hb
        refine ⟨_, rfl, b, _, rfl, .inr (SqT.of hb2), rfl, _, rfl, ?_⟩
        rw [show decide (V.int (((V.str "put" :: [.str x] : List V).length : Nat) : Int) = V.int 2) = true from decide_eq_true rfl]
        refine iteT ?_
        refine ⟨_, rfl, b, _, _, _, rfl, rfl, SqT.of hb2, (show atI [V.str "put", V.str x] 1 = some (V.str x) from rfl), j, .str x, .str x, rfl, .str x, .str txx, fun H3 s3 => ⟨_, rfl, ?_⟩⟩
        rw [show nameD (.str x) = true from nameOk_of hz]
        refine iteF ?_
        have s13 := s12.trans s3
        have s0x := s.trans s13
        have hfx := s13 _ _ hf
        have hrx := s13 _ _ hr0
        have hb2 := s13 _ _ hb
        refine ⟨_, rfl, b, _, _, _, rfl, rfl, SqT.of hb2, at_zero, rfl, _, rfl, ?_⟩
        rw [show (!decide (V.str "put" = V.str "put")) = false by decide +kernel]
        refine iteF ?_
        refine ⟨_, rfl, b, _, _, _, rfl, rfl, SqT.of hb2, at_zero, rfl, _, rfl, ?_⟩
        rw [show decide (V.str "put" = V.str "turn") = false by decide +kernel]
        refine iteF ?_
        refine ⟨_, rfl, b, _, _, _, rfl, rfl, SqT.of hb2, at_zero, rfl, _, rfl, ?_⟩
        rw [show decide (V.str "put" = V.str "keep") = false by decide +kernel]
        refine iteF ?_
        refine ⟨_, rfl, _, rfl, _, rfl, b, _, rfl, SqT.of hb2, (by rw [List.length_cons, sIx_one]; omega), fun p5 hp5 => ?_⟩
        rw [cut_tail]
        have s5 := same_new hp5 (.tup [V.str x])
        refine ⟨p5, _, rfl, .inr (SqT.of upd_same), fun p6 hp6 => ?_⟩
        have s6 := same_new hp6 (.lst [V.str x])
        refine ⟨pf, p6, _, _, rfl, rfl, s6 _ _ (s5 _ _ hfx), upd_same, (by rw [List.length_map, sizeLine_eq]; show _ + 1 ≤ _; omega), fun p7 hp7 => ?_⟩
        have s7 := same_new hp7 (.lst ((acc).map V.str ++ [V.str x]))
        have s57 := s5.trans (s6.trans s7)
        have s07 := s0x.trans s57
        refine ⟨_, rfl, _, rfl, b, _, _, _, rfl, rfl, SqT.of (s57 _ _ hb2), at_zero, rfl, ?_⟩
        rw [show (!decide (V.str "put" = V.str "put")) = false by decide +kernel]
        refine .inr ⟨_, rfl, _, _, rfl, rfl, ?_⟩
        refine ⟨p7, acc ++ [x], place, _, _, rfl, ?_, s07, ?_, ?_, ?_, hple, ?_⟩
        · cases e : H p7 with
          | none => rfl
          | some o => rw [(s0x.trans (s5.trans s6)) _ _ e] at hp7; cases hp7
        · rw [upd_same]
          rw [List.map_append]; rfl
        · rw [hrun, run_put hz]
        · rw [List.length_append, List.length_singleton]; omega
        · exact fun y hy => (List.mem_append.mp hy).elim (ta y) (fun h => by rw [List.mem_singleton.mp h]; exact txx)
      · have txx : Tx x := by
          cases hdd with
          | flat h => cases h
          | tup _ h => cases h (.str x) (by simp) with | str h => exact h
        obtain ⟨b, hb0⟩ : ∃ b, v = .ref b ∧ H0 b = some (.tup (.str "turn" :: [.str x])) := by
          have r2 := rv
          cases r2 with
          | @tup b xs _ bj eb rb =>
            cases rb with
            | cons r3 r4 =>
              cases r3
              cases r4 with
              | cons r5 r6 =>
                cases r5
                cases r6
                exact ⟨b, rfl, eb⟩
        obtain ⟨rfl, hb⟩ := hb0
        refine ⟨_, rfl, .ref b, .ty "tuple", _, _, _, rfl, .ty _, .base (.tup hb), kit_ty (show kitB "tuple" "tuple" = some true by decide +kernel), _, rfl, ?_⟩
        refine iteF ?_
        refine ⟨_, rfl, b, _, rfl, .inr (SqT.of hb), rfl, _, rfl, ?_⟩
        rw [show decide (V.int (((V.str "turn" :: [.str x] : List V).length : Nat) : Int) = V.int 0) = false by exact decide_eq_false (fun e => by injection e with e; exact absurd e (by show ¬ ((2 : Nat) : Int) = 0; decide))]
        refine iteF ?_
        refine ⟨_, rfl, b, _, _, _, rfl, rfl, SqT.of hb, at_zero, .str "turn", .ty "str", _, _, _, rfl, .ty _, .base (.str _), kit_ty (show kitB "str" "str" = some true by decide +kernel), _, rfl, ?_⟩
        refine iteF ?_
        refine ⟨_, rfl, b, _, _, _, rfl, rfl, SqT.of hb, at_zero, (by show 4 ≤ sizeLine; decide), fun p1 hp1 => ?_⟩
        have s1 := same_new hp1 (.lst [.str "keep", .str "drop", .str "put", .str "turn"])
        refine ⟨p1, [.str "keep", .str "drop", .str "put", .str "turn"], rfl, .inl (SqL.of upd_same), rfl, rfl, _, rfl, ?_⟩
        rw [show (if true = true then !inV (V.str "turn") [.str "keep", .str "drop", .str "put", .str "turn"] else inV (V.str "turn") [.str "keep", .str "drop", .str "put", .str "turn"]) = false by decide +kernel]
        refine iteF ?_
        refine ⟨_, rfl, b, _, rfl, .inr (SqT.of (s1 _ _ hb)), _, rfl, b, _, _, _, rfl, rfl, SqT.of (s1 _ _ hb), at_zero, (by show 2 ≤ sizeLine; decide), fun p2 hp2 => ?_⟩
        have s2 := same_new hp2 (.lst [.str "put", .str "turn"])
        refine ⟨p2, [.str "put", .str "turn"], rfl, .inl (SqL.of upd_same), rfl, rfl, ?_⟩
        rw [show (if false = true then !inV (V.str "turn") [.str "put", .str "turn"] else inV (V.str "turn") [.str "put", .str "turn"]) = true by decide +kernel]
        refine .inr ⟨_, rfl, _, _, rfl, rfl, rfl, _, rfl, ?_⟩
        rw [show (!decide (V.int (((V.str "turn" :: [.str x] : List V).length : Nat) : Int) = V.int (1 + (if true = true then 1 else 0)))) = false by rw [decide_eq_true (show V.int (((V.str "turn" :: [.str x] : List V).length : Nat) : Int) = V.int (1 + (if true = true then 1 else 0)) from rfl)]; rfl]
        refine iteF ?_
        have s12 := s1.trans s2
        have hb2 := s12 _ _ hb
        refine ⟨_, rfl, b, _, rfl, .inr (SqT.of hb2), rfl, _, rfl, ?_⟩
        rw [show decide (V.int (((V.str "turn" :: [.str x] : List V).length : Nat) : Int) = V.int 2) = true from decide_eq_true rfl]
        refine iteT ?_
        refine ⟨_, rfl, b, _, _, _, rfl, rfl, SqT.of hb2, (show atI [V.str "turn", V.str x] 1 = some (V.str x) from rfl), j, .str x, .str x, rfl, .str x, .str txx, fun H3 s3 => ⟨_, rfl, ?_⟩⟩
        rw [show nameD (.str x) = true from nameOk_of hz]
        refine iteF ?_
        have s13 := s12.trans s3
        have s0x := s.trans s13
        have hfx := s13 _ _ hf
        have hrx := s13 _ _ hr0
        have hb2 := s13 _ _ hb
        refine ⟨_, rfl, b, _, _, _, rfl, rfl, SqT.of hb2, at_zero, rfl, _, rfl, ?_⟩
        rw [show (!decide (V.str "turn" = V.str "put")) = true by decide +kernel]
        refine iteT ?_
        refine ⟨_, rfl, _, rfl, r, _, rfl, .inl (SqL.of hrx), rfl, _, rfl, ?_⟩
        by_cases hpl : place = row.length
        · rw [show decide (V.int ((place : Nat) : Int) = V.int (((row.map V.str).length : Nat) : Int)) = true from decide_eq_true (by rw [List.length_map, hpl])]
          refine iteT ?_
          refine ⟨_, rfl, ?_⟩
          refine q2 i ?_ H3 s0x
          rw [hrun, hpl, List.drop_length]
          exact run_short (by rw [hz]; rfl) (fun y e => by rw [hz] at e; cases e)
        rw [show decide (V.int ((place : Nat) : Int) = V.int (((row.map V.str).length : Nat) : Int)) = false from decide_eq_false (fun e => by injection e with e; rw [List.length_map] at e; omega)]
        refine iteF ?_
        have hlt2 : place < row.length := by omega
        obtain ⟨kk, hkk⟩ : ∃ kk, row[place]? = some kk := ⟨row[place], List.getElem?_eq_getElem hlt2⟩
        have hdr : row.drop place = kk :: row.drop (place + 1) := by
          rw [List.drop_eq_getElem_cons hlt2]
          rw [List.getElem?_eq_getElem hlt2] at hkk
          injection hkk with hkk
          rw [hkk]
        rw [hdr] at hrun
        have hat : atI (row.map V.str) ((place : Nat) : Int) = some (.str kk) := atI_nat (by rw [List.getElem?_map, hkk]; rfl)
        have txk := two.tx kk (List.mem_of_getElem? hkk)
        refine ⟨_, rfl, b, _, _, _, rfl, rfl, SqT.of hb2, at_zero, rfl, _, rfl, ?_⟩
        rw [show decide (V.str "turn" = V.str "turn") = true by decide +kernel]
        refine iteT ?_
        refine ⟨_, rfl, b, _, _, _, rfl, rfl, SqT.of hb2, (show atI [V.str "turn", V.str x] 1 = some (V.str x) from rfl), _, rfl, _, rfl, r, _, _, _, rfl, rfl, SqL.of hrx, hat, rfl, _, rfl, ?_⟩
        by_cases hxk : x = kk
        · rw [show decide (V.str x = V.str kk) = true from decide_eq_true (by rw [hxk])]
          refine iteT ?_
          refine ⟨_, rfl, ?_⟩
          refine q2 i ?_ H3 s0x
          rw [hrun]
          subst hxk
          exact run_same hz
        rw [show decide (V.str x = V.str kk) = false from decide_eq_false (fun e => by injection e with e; exact hxk e)]
        refine iteF ?_
        refine ⟨_, rfl, b, _, _, _, rfl, rfl, SqT.of hb2, at_zero, rfl, _, rfl, ?_⟩
        rw [show decide (V.str "turn" = V.str "keep") = false by decide +kernel]
        refine iteF ?_
        refine ⟨_, rfl, _, rfl, _, rfl, b, _, rfl, SqT.of hb2, (by rw [List.length_cons, sIx_one]; omega), fun p5 hp5 => ?_⟩
        rw [cut_tail]
        have s5 := same_new hp5 (.tup [V.str x])
        refine ⟨p5, _, rfl, .inr (SqT.of upd_same), fun p6 hp6 => ?_⟩
        have s6 := same_new hp6 (.lst [V.str x])
        refine ⟨pf, p6, _, _, rfl, rfl, s6 _ _ (s5 _ _ hfx), upd_same, (by rw [List.length_map, sizeLine_eq]; show _ + 1 ≤ _; omega), fun p7 hp7 => ?_⟩
        have s7 := same_new hp7 (.lst ((acc).map V.str ++ [V.str x]))
        have s57 := s5.trans (s6.trans s7)
        have s07 := s0x.trans s57
        refine ⟨_, rfl, _, rfl, b, _, _, _, rfl, rfl, SqT.of (s57 _ _ hb2), at_zero, rfl, ?_⟩
        rw [show (!decide (V.str "turn" = V.str "put")) = true by decide +kernel]
        refine .inr ⟨_, rfl, _, _, rfl, rfl, ?_⟩
        refine ⟨p7, acc ++ [x], place + 1, _, _, rfl, ?_, s07, ?_, ?_, ?_, by omega, ?_⟩
        · cases e : H p7 with
          | none => rfl
          | some o => rw [(s0x.trans (s5.trans s6)) _ _ e] at hp7; cases hp7
        · rw [upd_same]
          rw [List.map_append]; rfl
        · rw [hrun, run_turn hz hxk]
        · rw [List.length_append, List.length_singleton]; omega
        · exact fun y hy => (List.mem_append.mp hy).elim (ta y) (fun h => by rw [List.mem_singleton.mp h]; exact txx)
end
end Dz
namespace Dz
open PySem PySem.Spec PyProof.Rows L2 Ty
theorem scTold : FnScope ["row", "deeds", "found", "e"] ["row", "deeds"] (defScope sTold) := ⟨rfl, rfl, rfl, by decide +kernel, rfl, by decide +kernel, by decide +kernel⟩
section
variable {P : Program} {w : World} {K : PySem.W.Frag} {mg : Str → Option Value} {base : Heap} {f g C CY : Addr} {fd gd : FuncData}
theorem ok_told (F : Fun K "_law_told" "_law_told" sTold f fd) (G : FnOk P w K mg base (L2.CX P w) 3 g gd ["row", "deeds"] (spMend C)) (bG : Binds K gd ["row", "deeds"] []) (kG : PySem.W.keepIn K (.ref g) = true) (mG : mg "mended" = some (.ref g))
    (mC : mg "NoDeeds" = some (.ref C)) (mY : mg "YardError" = some (.ref CY)) (mV : mg "ValueError" = none) (mi : mg "isinstance" = none) (E1 : ExcC K C) (XT : XfC K C) (no : PySem.W.findIn K (.ref C) "at" = some none)
    (te : PySem.W.exmOne K (.ref C) (.ref CY) = some true) (k1 : PySem.W.kitOne K (.ref C) (.ref C) = some true) (k2 : PySem.W.kitOne K (.ref C) (.type "ValueError") = some true) : FnOk P w K mg base CX0 4 f fd ["row", "deeds"] spWant := by
  refine F.ok scTold (fun vs H Q E h => ?_) (fun cdv A outer s H vs Q E hr h => ?_)
  · obtain ⟨j, r, l, row, us, ds, rfl, _⟩ := h
    rfl
  obtain ⟨j, r, l, row, us, ds, rfl, two, q1, q2⟩ := h
  refine ⟨_, pss_cons (ps_set (i := 2) scTold.nd rfl (.inl rfl) pe_non)
    (pss_cons (ps_try_as (i := 3) (Wout := fun _ _ _ _ => False) rfl rfl scTold.nd rfl rfl ⟨rfl, by decide, Or.inl mY⟩ takes0
      (fun W pn xe tk _ => pss_one (ps_set (i := 2) scTold.nd rfl (Or.inl rfl) (pe_callS G hr rfl mG kG bG (fun σ => passAt tk σ) (pa_cons (pv 0) (pa_cons (pv 1) pa_nil)))))
      (fun a oe cls d pn hz hf => pss_one (ps_if (PW.pt (pw_and (pt_val (pe_callB (show CallR _ (.builtin "isinstance") (rIsC K a cls d) from call_isC hz hf) rfl mi (by decide +kernel) (pa_cons (pv 3) (pa_cons (pe_glob rfl mC (show RelV (.ref C) (.ref C) from rfl)) pa_nil))))
          (pw_and1 (pt_val (pe_callB (show CallR _ (.builtin "isinstance") (rIsC K a cls d) from call_isC hz hf) rfl mi (by decide +kernel) (pa_cons (pv 3) (pa_cons (pe_bltn rfl mV (by decide +kernel) (show RelV (.ty "ValueError") (.type "ValueError") from rfl)) pa_nil)))))))
        (pss_one (ps_set (i := 2) scTold.nd rfl (.inl rfl) (pe_xf XT no hz hf (pv 3)))) pss_nil)))
    (pss_one (ps_ret (pv 2)))), ?_⟩
  refine ⟨_, rfl, _, rfl, j, r, l, row, us, ds, rfl, two, fun out ho p H' hp s e tx hl => ?_, fun n hn dd H' hdd s e => ?_⟩
  · exact ⟨_, rfl, q1 out ho p H' hp s e tx hl⟩
  · refine ⟨true, te, fun _ a ha => ?_, fun z => Bool.noConfusion z⟩
    refine ⟨_, rfl, .ref C, .ref C, true, C, dd, _, rfl, fun u hu => hu, rfl, rfl, e, E1, k1, _, rfl, iteT ?_⟩
    refine ⟨_, rfl, .ty "ValueError", .type "ValueError", true, C, dd, _, rfl, fun u hu => hu, rfl, rfl, e, E1, k2, _, rfl, iteT ?_⟩
    refine ⟨_, rfl, rfl, rfl, dd, _, .int (n : Nat), rfl, e, rfl, ?_⟩
    exact ⟨_, rfl, q2 n hn H' s⟩
end
end Dz
namespace Dz
open PySem PySem.Spec PyProof.Rows L2 Ty
abbrev lit : Str := "abcdefghijklmnopqrstuvwxyz"
theorem lit_len : lit.cps.toList.length = 26 := by decide +kernel
theorem lit_low : ∀ c, c ∈ lit.cps.toList → c < 128 := by decide +kernel
theorem Tx.join {l : List Nat} (h : ∀ c, c ∈ l → c < 128) (hl : l.length ≤ 1000) : Tx ⟨l.toArray⟩ := ⟨by show l.toArray.size ≤ 1000; rw [List.size_toArray]; exact hl, h⟩
theorem zz_tx {c : Nat} (h : c < 128) : Tx (("zz" : Str) ++ ⟨#[c]⟩ ++ "zz") := by
  refine ⟨by show 2 + 1 + 2 ≤ 1000; decide, fun d hd => ?_⟩
  rw [Str.cps_append, Array.toList_append, Str.cps_append, Array.toList_append] at hd
  have hz : ∀ c, c ∈ ("zz" : Str).cps.toList → c < 128 := by decide +kernel
  rcases List.mem_append.mp hd with h1 | h1
  · rcases List.mem_append.mp h1 with h2 | h2
    · exact hz d h2
    · rw [List.mem_singleton.mp (show d ∈ [c] from h2)]; exact h
  · exact hz d h1
def spNames : Sp := fun vs H Q _ => ∃ (j : Addr) (C : Nat), vs = [.ref j, .int 4] ∧ Jar j H C ∧ C ≤ 900000000 ∧
  ∀ p (ys : List Str) H', H p = none → H' p = some (.lst (ys.map V.str)) → ys.length = 4 → (∀ y, y ∈ ys → Tx y) → Jar j H' (C + 40) → Keep j H H' → Q (.ref p) H'
theorem scNames : FnScope ["pot", "many", "letters", "found", "k", "size", "one", "j"] ["pot", "many"] (defScope sNames) := ⟨rfl, rfl, rfl, by decide +kernel, rfl, by decide +kernel, by decide +kernel⟩
section
variable {P : Program} {w : World} {K : PySem.W.Frag} {mg : Str → Option Value} {base : Heap} {f g : Addr} {fd gd : FuncData}
theorem ok_names (F : Fun K "_law_names" "_law_names" sNames f fd) (G : FnOk P w K mg base CX0 1 g gd ["pot", "many"] spPick) (bG : Binds K gd ["pot", "many"] []) (kG : PySem.W.keepIn K (.ref g) = true) (mG : mg "_law_pick" = some (.ref g)) (mr : mg "range" = none) :
    FnOk P w K mg base CX0 2 f fd ["pot", "many"] spNames := by
  refine F.ok scNames (fun vs H Q E h => ?_) (fun cdv A outer s H vs Q E hr h => ?_)
  · obtain ⟨j, C, rfl, _⟩ := h
    rfl
  obtain ⟨j, C, rfl, hj, hC, q⟩ := h
  refine ⟨_, pss_cons (ps_set (i := 2) scNames.nd rfl (.inr rfl) pe_str)
    (pss_cons (ps_set (i := 3) scNames.nd rfl (.inl rfl) (pe_lst pa_nil))
    (pss_cons (ps_for PassesOwn.never rfl (pi_range1 rfl mr (pa_cons (pv 1) pa_nil)) (pg_name (i := 4) scNames.nd rfl (Or.inl rfl))
      (pss_cons (ps_set (i := 5) scNames.nd rfl (.inl rfl) (pe_ix ix_list (pe_lst (pa_cons pe_int (pa_cons pe_int (pa_cons pe_int (pa_cons pe_int pa_nil))))) (pe_call G hr rfl mG kG bG .nil pass0 (pa_cons (pv 0) (pa_cons pe_int pa_nil))) (fun _ _ => rfl)))
      (pss_cons (ps_set (i := 6) scNames.nd rfl (.inl rfl) (pe_join pe_str
        (pe_lc (own := [("j", 7)]) (g := gName 7) (tt := tYes) rfl scNames.nd (pi_range1 rfl mr (pa_cons (pv 5) pa_nil)) (blkOk_by (N := ["pot", "many", "letters", "found", "k", "size", "one", "j"]) (sc := defScope sNames) (by decide +kernel)) (fun _ _ _ _ _ => pg_name (i := 7) scNames.nd rfl (Or.inl rfl)) (fun _ _ _ _ _ => pts_nil)
          (fun _ _ _ _ _ => pe_ix ix_str (pv 2) (pe_call G hr rfl mG kG bG .nil pass0 (pa_cons (pv 0) (pa_cons pe_int pa_nil))) (fun _ _ => rfl)))))
      (pss_cons (ps_if (pt_cmpR op_in_seq (pv 6) (pv 3) rfl) (pss_one (ps_set (i := 6) scNames.nd rfl (.inl rfl) (pe_op op_add_str (pe_op op_add_str pe_str (pe_ix ix_str (pv 2) (pv 4) (fun _ _ => rfl))) pe_str))) pss_nil)
      (pss_one (ps_expr (pe_bm PySem.F.plainAttrs_list PySem.F.slot_list_append PySem.F.type_list_append mt_append (pv 3) (pa_cons (pv 6) pa_nil))))))))
    (pss_one (ps_ret (pv 3))))), ?_⟩
  refine ⟨(by show 0 ≤ sizeLine; decide), fun pf hpf => ?_⟩
  have n1 := same_new hpf (.lst [])
  have pfj := hj.ne hpf
  refine ⟨_, rfl, 4, rfl, by decide, by decide, ?_⟩
  refine for_range (lo := 0) (n := 4) (fun i σ H' => ∃ (ys : List Str) (x4 x5 x6 x7 : Option V), σ = [some (.ref j), some (.int 4), some (.str lit), some (.ref pf), x4, x5, x6, x7] ∧ H' pf = some (.lst (ys.map V.str)) ∧ ys.length = i ∧ (∀ y, y ∈ ys → Tx y) ∧ Jar j H' (C + 9 * i) ∧ Keep j H H')
    ⟨[], _, _, _, _, rfl, upd_same, rfl, (fun _ h => by cases h), hj.keep n1, Keep.of_same n1⟩ (fun i σ H' hi p => ?turn) (fun σ H' p => ?done)
  case done =>
    obtain ⟨ys, x4, x5, x6, x7, rfl, e, hl, tx, jr, k⟩ := p
    exact ⟨_, rfl, q pf ys H' hpf e hl tx (jr.mono (by omega)) k⟩
  case turn =>
    obtain ⟨ys, x4, x5, x6, x7, rfl, e, hl, tx, jr, k⟩ := p
    refine ⟨(by show 4 ≤ sizeLine; decide), fun p1 hp1 => ?_⟩
    have s1 := same_new hp1 (.lst [.int 1, .int 1, .int 2, .int 8])
    have p1j := jr.ne hp1
    refine ⟨_, rfl, j, C + 9 * i, 4, rfl, jr.keep s1, by omega, by decide, by decide, fun r H2 r0 r1 j2 k2 => ?_⟩
    obtain ⟨z, z1, z2⟩ := at_in (l := ([.int 1, .int 1, .int 2, .int 8] : List V)) r0 r1
    obtain ⟨sz, rfl, hsz⟩ : ∃ sz : Nat, z = .int (sz : Int) ∧ sz ≤ 8 := by
      have := List.mem_of_getElem? z2
      simp only [List.mem_cons, List.not_mem_nil, or_false] at this
      rcases this with rfl | rfl | rfl | rfl
      · exact ⟨1, rfl, by decide⟩
      · exact ⟨1, rfl, by decide⟩
      · exact ⟨2, rfl, by decide⟩
      · exact ⟨8, rfl, by decide⟩
    refine ⟨p1, _, _, _, rfl, rfl, SqL.of (k2 _ _ p1j upd_same), z1, ?_⟩
    have k12 : Keep j H' H2 := (Keep.of_same s1).trans k2
    have e2 := k12 _ _ pfj e
    refine ⟨⟨_, rfl⟩, _, rfl, _, rfl, by omega, by omega, fun D hD => ?_⟩
    rw [Int.toNat_natCast]
    have Dj := j2.ne hD
    refine lc_range (lo := 0) (n := sz) (fun i' H3 => ∃ zs : List Str, H3 D = some (.lst (zs.map V.str)) ∧ zs.length = i' ∧ Ones zs ∧ Jar j H3 (C + 9 * i + 1 + i') ∧ Keep j H2 H3) ⟨[], upd_same, rfl, (fun _ h => by cases h), j2.keep (same_new hD _), keep_new hD _⟩ (fun i' H3 hi' p => ?_) (fun H3 p => ?_)
    · obtain ⟨zs, ez, lz, oz, jz, kz⟩ := p
      refine ⟨rfl, ?_⟩
      simp only [tYes, ↓reduceIte]
      refine ⟨_, rfl, _, rfl, j, _, 26, rfl, jz, by omega, by decide, by decide, fun r3 H4 r30 r31 j4 k4 => ?_⟩
      obtain ⟨c, c1, c2⟩ := at_in (l := lit.cps.toList) r30 (by rw [lit_len]; exact r31)
      refine ⟨lit, _, c, rfl, rfl, (by decide +kernel), c1, _, k4.lst Dj ez, by rw [List.length_map, sizeLine_eq]; omega, zs ++ [⟨#[c]⟩], ?_, ?_, ?_, ?_, ?_⟩
      · rw [upd_same, List.map_append]; rfl
      · rw [List.length_append, lz]; rfl
      · intro y hy
        rcases List.mem_append.mp hy with h | h
        · exact oz y h
        · exact ⟨c, lit_low c (List.mem_of_getElem? c2), List.mem_singleton.mp h⟩
      · obtain ⟨a1, b1, c1, h1, h2⟩ := j4
        exact ⟨a1, b1, c1, by rw [upd_ne (Ne.symm Dj)]; exact h1, h2.1, h2.2.1, by have := h2.2.2; omega⟩
      · intro b o hb ho
        rw [upd_ne (ne_of_none ho hD)]
        exact k4 b o hb (kz b o hb ho)
    · obtain ⟨zs, ez, lz, oz, jz, kz⟩ := p
      obtain ⟨l, rfl, hlow⟩ := oz.codes
      rw [List.length_map] at lz
      refine ⟨_, D, _, rfl, rfl, .inl (SqL.of ez), ?_, ?_⟩
      · rw [ones_sum]
        show _ + _ * 0 ≤ _
        omega
      rw [Ty.join_one]
      have e3 := kz _ _ pfj e2
      refine ⟨_, rfl, _, rfl, pf, _, rfl, .inl (SqL.of e3), rfl, all_flat _, _, rfl, ?_⟩
      have t1 : Tx ⟨l.toArray⟩ := Tx.join hlow (by omega)
      have fin : ∀ (y : Str), Tx y → (upd H3 pf (.lst (ys.map V.str ++ [.str y]))) pf = some (.lst ((ys ++ [y]).map V.str)) ∧ (ys ++ [y]).length = i + 1 ∧ (∀ u, u ∈ ys ++ [y] → Tx u) ∧
          Jar j (upd H3 pf (.lst (ys.map V.str ++ [.str y]))) (C + 9 * (i + 1)) ∧ Keep j H (upd H3 pf (.lst (ys.map V.str ++ [.str y]))) := fun y ty => by
        refine ⟨?_, ?_, ?_, ?_, ?_⟩
        · rw [upd_same, List.map_append]; rfl
        · rw [List.length_append, hl]; rfl
        · exact fun u hu => (List.mem_append.mp hu).elim (tx u) (fun h => by rw [List.mem_singleton.mp h]; exact ty)
        · obtain ⟨a1, b1, c1, h1, h2⟩ := jz
          exact ⟨a1, b1, c1, by rw [upd_ne (Ne.symm pfj)]; exact h1, h2.1, h2.2.1, by have := h2.2.2; omega⟩
        · intro b o hb ho
          rw [upd_ne (ne_of_none ho hpf)]
          exact kz b o hb (k12 b o hb (k b o hb ho))
      refine ite2 (fun _ => ?_) (fun _ => ?_)
      · obtain ⟨c, c1, c2⟩ := at_in (l := lit.cps.toList) (i := 0 + (i : Int)) (by omega) (by rw [lit_len]; omega)
        refine ⟨_, rfl, _, rfl, lit, _, c, rfl, rfl, (by decide +kernel), c1, _, _, rfl, rfl, (by show 2 + 1 ≤ sizeLine; decide), _, _, rfl, rfl, (by show 2 + 1 + 2 ≤ sizeLine; decide), ?_⟩
        refine ⟨_, rfl, .inl ⟨rfl, _, SqL.of e3⟩, _, rfl, pf, _, _, rfl, rfl, e3, (by rw [List.length_map, sizeLine_eq]; omega), ?_⟩
        obtain ⟨f1, f2, f3, f4, f5⟩ := fin _ (zz_tx (lit_low c (List.mem_of_getElem? c2)))
        exact ⟨_, _, _, _, _, rfl, f1, f2, f3, f4, f5⟩
      · refine ⟨_, rfl, .inl ⟨rfl, _, SqL.of e3⟩, _, rfl, pf, _, _, rfl, rfl, e3, (by rw [List.length_map, sizeLine_eq]; omega), ?_⟩
        obtain ⟨f1, f2, f3, f4, f5⟩ := fin _ t1
        exact ⟨_, _, _, _, _, rfl, f1, f2, f3, f4, f5⟩
end
end Dz
namespace Dz
open PySem PySem.Spec PyProof.Rows L2 Ty
/-! ### deeds that are tuples, in a list that grows -/
def TupV (j : Addr) (H : Hp) (v : V) : Prop := ∃ (b : Addr) (xs : List V) (ds : List PyData), v = .ref b ∧ b ≠ j ∧ H b = some (.tup xs) ∧ Reps j H xs ds ∧ ds.length ≤ 4 ∧ ∀ d, d ∈ ds → Flat d
theorem flat_any {j : Addr} {H H' : Hp} {v : V} {d : PyData} (f : Flat d) (r : Rep j H v d) : Rep j H' v d := by
  cases f with
  | non => cases r; exact .non
  | int i => cases r; exact .int i
  | str h => cases r; exact .str _
theorem flats_any {j : Addr} {H H' : Hp} : ∀ {vs : List V} {ds : List PyData}, (∀ d, d ∈ ds → Flat d) → Reps j H vs ds → Reps j H' vs ds
  | _, _, _, .nil => .nil
  | _, _, f, .cons r t => .cons (flat_any (f _ List.mem_cons_self) r) (flats_any (fun d h => f d (List.mem_cons_of_mem _ h)) t)
theorem TupV.at_ {j : Addr} {H H' : Hp} {v : V} (t : TupV j H v) (k : ∀ b xs, b ≠ j → H b = some (.tup xs) → H' b = some (.tup xs)) : TupV j H' v := by
  obtain ⟨b, xs, ds, rfl, n, e, r, h⟩ := t
  exact ⟨b, xs, ds, rfl, n, k b xs n e, flats_any h.2 r, h⟩
structure Grow (j pf rr : Addr) (H H' : Hp) (ks : List Str) (vs : List V) (C : Nat) : Prop where
  new : H pf = none
  pfj : pf ≠ j
  rrj : rr ≠ j
  apart : rr ≠ pf
  found : H' pf = some (.lst vs)
  kinds : H' rr = some (.lst (ks.map V.str))
  all : ∀ v, v ∈ vs → TupV j H' v
  jar : Jar j H' C
  keep : Keep j H H'
theorem Grow.on {j pf rr : Addr} {H H' H'' : Hp} {ks : List Str} {vs : List V} {C C' : Nat} (g : Grow j pf rr H H' ks vs C) (k : Keep j H' H'') (jr : Jar j H'' C') : Grow j pf rr H H'' ks vs C' :=
  ⟨g.new, g.pfj, g.rrj, g.apart, k _ _ g.pfj g.found, k _ _ g.rrj g.kinds, fun v h => (g.all v h).at_ fun b xs n e => k _ _ n e, jr, g.keep.trans k⟩
theorem Grow.push {j pf rr : Addr} {H H' : Hp} {ks : List Str} {vs : List V} {C : Nat} {v : V} (g : Grow j pf rr H H' ks vs C) (t : TupV j H' v) : Grow j pf rr H (upd H' pf (.lst (vs ++ [v]))) ks (vs ++ [v]) C := by
  have same : ∀ b xs, b ≠ j → H' b = some (.tup xs) → (upd H' pf (.lst (vs ++ [v]))) b = some (.tup xs) := fun b xs _ e => by
    rw [upd_ne (fun z => by rw [z, g.found] at e; cases e)]; exact e
  refine ⟨g.new, g.pfj, g.rrj, g.apart, upd_same, by rw [upd_ne g.apart]; exact g.kinds, fun u h => ?_, ?_, fun b o n e => ?_⟩
  · rcases List.mem_append.mp h with h | h
    · exact (g.all u h).at_ same
    · rw [List.mem_singleton.mp h]; exact t.at_ same
  · obtain ⟨a1, b1, c1, h1, h2⟩ := g.jar
    exact ⟨a1, b1, c1, by rw [upd_ne (Ne.symm g.pfj)]; exact h1, h2⟩
  · rw [upd_ne (ne_of_none e g.new)]; exact g.keep b o n e
/-- a list of deeds at p -/
def DdVs (j : Addr) (H : Hp) (vs : List V) : Prop := ∃ ds, Reps j H vs ds ∧ ∀ d, d ∈ ds → Dd d
theorem TupV.dd {j : Addr} {H : Hp} {v : V} (t : TupV j H v) : ∃ d, Rep j H v d ∧ Dd d := by
  obtain ⟨b, xs, ds, rfl, n, e, r, h1, h2⟩ := t
  exact ⟨.tuple ds, .tup n e r, .tup h1 h2⟩
theorem dds_of {j : Addr} {H : Hp} : ∀ {vs : List V}, (∀ v, v ∈ vs → ∃ d, Rep j H v d ∧ Dd d) → DdVs j H vs
  | [], _ => ⟨[], .nil, fun _ h => by cases h⟩
  | v :: vs, h => by
    obtain ⟨d, r, f⟩ := h v List.mem_cons_self
    obtain ⟨ds, rs, fs⟩ := dds_of (vs := vs) fun u hu => h u (List.mem_cons_of_mem _ hu)
    exact ⟨d :: ds, .cons r rs, fun e he => by
      rcases List.mem_cons.mp he with q | q
      · rw [q]; exact f
      · exact fs e q⟩
theorem DdVs.keep {j : Addr} {H H' : Hp} {vs : List V} (d : DdVs j H vs) (k : Keep j H H') : DdVs j H' vs := by
  obtain ⟨ds, r, f⟩ := d
  exact ⟨ds, Reps.keep k _ _ r, f⟩
theorem DdVs.cat {j : Addr} {H : Hp} {vs us : List V} (a : DdVs j H vs) (b : DdVs j H us) : DdVs j H (vs ++ us) := by
  obtain ⟨ds, r, f⟩ := a
  obtain ⟨es, s, g⟩ := b
  exact ⟨ds ++ es, r.append s, fun d h => (List.mem_append.mp h).elim (f d) (g d)⟩
theorem DdVs.cut {j : Addr} {H : Hp} {vs : List V} (a : DdVs j H vs) (lo hi : Option Int) : DdVs j H (cutV vs lo hi) := by
  obtain ⟨ds, r, f⟩ := a
  exact ⟨_, (r.drop _).take _, fun d h => f d (List.mem_of_mem_drop (List.mem_of_mem_take h))⟩
theorem DdVs.get {j : Addr} {H : Hp} {vs : List V} {v : V} (a : DdVs j H vs) (h : v ∈ vs) : ∃ d, Rep j H v d ∧ Dd d := by
  obtain ⟨ds, r, f⟩ := a
  obtain ⟨i, hi⟩ := List.mem_iff_getElem?.mp h
  obtain ⟨d, hd, rd⟩ := r.get hi
  exact ⟨d, rd, f d (List.mem_of_getElem? hd)⟩
def spDeeds : Sp := fun vs H Q _ => ∃ (j r t : Addr) (C : Nat) (row toks : List Str), vs = [.ref j, .ref r, .ref t] ∧ Jar j H C ∧ C ≤ 900000000 ∧ r ≠ j ∧ t ≠ j ∧ H r = some (.lst (row.map V.str)) ∧ H t = some (.lst (toks.map V.str)) ∧ row.length ≤ 10 ∧ toks.length = 5 ∧ (∀ x, x ∈ row → Tx x) ∧ (∀ x, x ∈ toks → Tx x) ∧
  ∀ p us H', H p = none → H' p = some (.lst us) → us.length ≤ 40 → DdVs j H' us → Jar j H' (C + 100) → Keep j H H' → Q (.ref p) H'
theorem scDeeds : FnScope ["pot", "row", "tokens", "found", "kind", "k", "other"] ["pot", "row", "tokens"] (defScope sDeeds) := ⟨rfl, rfl, rfl, by decide +kernel, rfl, by decide +kernel, by decide +kernel⟩
theorem end_tx : Tx ("end" : Str) := ⟨by decide, by decide +kernel⟩
theorem cut_six (x : Str) : (cutS x none (some 6)).length ≤ 6 := by
  have e : HT.sIx x.length x.length (some 6) = min 6 x.length := HT.sIx_nat _ _ 6
  show ((x.cps.toList.drop (HT.sIx x.length 0 none)).take (HT.sIx x.length x.length (some 6) - HT.sIx x.length 0 none)).toArray.size ≤ 6
  rw [List.size_toArray, List.length_take, e]
  omega
theorem qq_tx {x : Str} (h : Tx x) : Tx (cutS x none (some 6) ++ "qq") := by
  refine ⟨?_, fun c hc => ?_⟩
  · have := cut_six x
    rw [strLen_append]
    show _ + 2 ≤ 1000
    omega
  · rw [Str.cps_append, Array.toList_append] at hc
    rcases List.mem_append.mp hc with h1 | h1
    · refine h.low c ?_
      have h2 : c ∈ (x.cps.toList.drop (HT.sIx x.length 0 none)).take (HT.sIx x.length x.length (some 6) - HT.sIx x.length 0 none) := h1
      exact List.mem_of_mem_drop (List.mem_of_mem_take h2)
    · exact (show ∀ c, c ∈ ("qq" : Str).cps.toList → c < 128 by decide +kernel) c h1
theorem tok_at {toks : List Str} {r : Int} (h : ∀ x, x ∈ toks → Tx x) (r0 : 0 ≤ r) (r1 : r < (toks.length : Nat)) : ∃ x, atI (toks.map V.str) r = some (.str x) ∧ Tx x := by
  obtain ⟨z, z1, z2⟩ := at_in (l := toks.map V.str) r0 (by rw [List.length_map]; exact r1)
  obtain ⟨x, hx, rfl⟩ := List.mem_map.mp (List.mem_of_getElem? z2)
  exact ⟨x, z1, h x hx⟩
theorem tup2 {j p : Addr} {H : Hp} {w x : Str} (n : p ≠ j) (e : H p = some (.tup [.str w, .str x])) (hw : Tx w) (hx : Tx x) : TupV j H (.ref p) :=
  ⟨p, _, [.str w, .str x], rfl, n, e, .cons (.str w) (.cons (.str x) .nil), by show 2 ≤ 4; decide, fun d h => by
    rcases List.mem_cons.mp h with h | h
    · rw [h]; exact .str hw
    · rw [List.mem_singleton.mp h]; exact .str hx⟩
theorem put_tx : Tx ("put" : Str) := ⟨by decide, by decide +kernel⟩
theorem turn_tx : Tx ("turn" : Str) := ⟨by decide, by decide +kernel⟩
section
variable {P : Program} {w : World} {K : PySem.W.Frag} {mg : Str → Option Value} {base : Heap} {f g : Addr} {fd gd : FuncData}
theorem ok_deeds (F : Fun K "_law_deeds" "_law_deeds" sDeeds f fd) (G : FnOk P w K mg base CX0 1 g gd ["pot", "many"] spPick) (bG : Binds K gd ["pot", "many"] []) (kG : PySem.W.keepIn K (.ref g) = true) (mG : mg "_law_pick" = some (.ref g)) (mr : mg "range" = none) (ml : mg "len" = none) :
    FnOk P w K mg base CX0 2 f fd ["pot", "row", "tokens"] spDeeds := by
  refine F.ok scDeeds (fun vs H Q E h => ?_) (fun cdv A outer s H vs Q E hr h => ?_)
  · obtain ⟨j, r, t, C, row, toks, rfl, _⟩ := h
    rfl
  obtain ⟨j, r, t, C, row, toks, rfl, hj, hC, rj, tj, hrow, htok, hrl, htl, txr, txt, q⟩ := h
  refine ⟨_, pss_cons (ps_set (i := 3) scDeeds.nd rfl (.inl rfl) (pe_lst pa_nil))
    (pss_cons (ps_for PassesOwn.never rfl (pi_list (pe_op op_cat (pv 1) (pe_lst (pa_cons pe_str pa_nil)))) (pg_name (i := 4) scDeeds.nd rfl (Or.inl rfl))
      (pss_cons (ps_for PassesOwn.never rfl (pi_range1 rfl mr (pa_cons (pe_ix ix_list (pe_lst (pa_cons pe_int (pa_cons pe_int (pa_cons pe_int (pa_cons pe_int (pa_cons pe_int pa_nil)))))) (pe_call G hr rfl mG kG bG .nil pass0 (pa_cons (pv 0) (pa_cons pe_int pa_nil))) (fun _ _ => rfl)) pa_nil)) (pg_name (i := 5) scDeeds.nd rfl (Or.inl rfl))
        (pss_one (ps_expr (pe_bm PySem.F.plainAttrs_list PySem.F.slot_list_append PySem.F.type_list_append mt_append (pv 3) (pa_cons (pe_tup (pa_cons pe_str (pa_cons (pe_ix ix_list (pv 2) (pe_call G hr rfl mG kG bG .nil pass0 (pa_cons (pv 0) (pa_cons (pe_callB call_len_seq rfl ml PySem.boot_len (pa_cons (pv 2) pa_nil)) pa_nil))) (fun _ _ => rfl)) pa_nil))) pa_nil)))))
      (pss_cons (ps_set (i := 6) scDeeds.nd rfl (.inl rfl) (pe_ix ix_list (pv 2) (pe_call G hr rfl mG kG bG .nil pass0 (pa_cons (pv 0) (pa_cons (pe_callB call_len_seq rfl ml PySem.boot_len (pa_cons (pv 2) pa_nil)) pa_nil))) (fun _ _ => rfl)))
      (pss_cons (ps_if (pt_cmpR op_eq (pv 6) (pv 4) (nomark _)) (pss_one (ps_set (i := 6) scDeeds.nd rfl (.inl rfl) (pe_op op_add_str (pe_slice sl_str (pv 4) po_none (po_some pe_int)) pe_str))) pss_nil)
      (pss_one (ps_expr (pe_bm PySem.F.plainAttrs_list PySem.F.slot_list_append PySem.F.type_list_append mt_append (pv 3) (pa_cons (pe_ix ix_list (pe_lst (pa_cons (dt_tup (da_cons dt_str da_nil)) (pa_cons (dt_tup (da_cons dt_str da_nil)) (pa_cons (dt_tup (da_cons dt_str da_nil)) (pa_cons (pe_tup (pa_cons pe_str (pa_cons (pv 6) pa_nil))) pa_nil))))) (pe_call G hr rfl mG kG bG .nil pass0 (pa_cons (pv 0) (pa_cons pe_int pa_nil))) (fun _ _ => rfl)) pa_nil))))))))
    (pss_one (ps_ret (pe_slice sl_list (pv 3) po_none (po_some (pe_un un_neg pe_int)))))), ?_⟩
  refine ⟨(by show 0 ≤ sizeLine; decide), fun pf hpf => ?_⟩
  have n1 := same_new hpf (.lst [])
  refine ⟨_, rfl, (by show 1 ≤ sizeLine; decide), fun p1 hp1 => ?_⟩
  have n2 := same_new hp1 (.lst [.str "end"])
  refine ⟨r, p1, _, _, rfl, rfl, n2 _ _ (n1 _ _ hrow), upd_same, (by rw [List.length_map, sizeLine_eq]; show _ + 1 ≤ _; omega), fun rr hrr => ?_⟩
  have n3 := same_new hrr (.lst (row.map V.str ++ [.str "end"]))
  have ek : (row.map V.str ++ [.str "end"]) = (row ++ [("end" : Str)]).map V.str := by rw [List.map_append]; rfl
  have n123 := n1.trans (n2.trans n3)
  have G0 : Grow j pf rr H _ (row ++ [("end" : Str)]) [] C := ⟨hpf, hj.ne hpf, ((hj.keep n1).keep n2).ne hrr, Ne.symm (ne_of_none (n2 _ _ upd_same) hrr), n3 _ _ (n2 _ _ upd_same), by rw [upd_same, ek], (fun _ h => by cases h), hj.keep n123, Keep.of_same n123⟩
  have txk : ∀ x, x ∈ row ++ [("end" : Str)] → Tx x := fun x h => (List.mem_append.mp h).elim (txr x) (fun h => by rw [List.mem_singleton.mp h]; exact end_tx)
  refine ⟨rr, rfl, ⟨_, SqL.of upd_same⟩, ?_⟩
  refine for_list (xs := (row ++ [("end" : Str)]).map V.str) (fun i σ H' => ∃ (us : List V) (x4 x5 x6 : Option V), σ = [some (.ref j), some (.ref r), some (.ref t), some (.ref pf), x4, x5, x6] ∧ Grow j pf rr H H' (row ++ [("end" : Str)]) us (C + 6 * i) ∧ us.length ≤ 3 * i)
    ⟨[], _, _, _, rfl, G0, Nat.zero_le _⟩ (fun i σ H' _ p => ?stands) (fun i x σ H' hx p => ?turn) (fun σ H' p => ?done)
  case stands =>
    obtain ⟨_, _, _, _, _, g, _⟩ := p
    exact SqL.of g.kinds
  case done =>
    obtain ⟨us, x4, x5, x6, rfl, g, hl⟩ := p
    rw [List.length_map, List.length_append, List.length_singleton] at g hl
    refine ⟨_, rfl, _, rfl, _, rfl, pf, us, rfl, SqL.of g.found, fun p hp => ?_⟩
    have s := same_new hp (.lst (cutV us none (some (-1))))
    have hpn : H p = none := by
      cases e : H p with
      | none => rfl
      | some o =>
        by_cases h : p = j
        · rw [h] at hp
          exact absurd hp g.jar.some
        · rw [g.keep p o h e] at hp; cases hp
    refine q p _ _ hpn upd_same (Nat.le_trans (cutV_length _ _ _) (by omega)) (DdVs.cut ((dds_of fun v h => (g.all v h).dd).keep (Keep.of_same s)) _ _) ((g.jar.keep s).mono (by omega)) (g.keep.trans (Keep.of_same s))
  case turn =>
    obtain ⟨us, x4, x5, x6, rfl, g, hl⟩ := p
    obtain ⟨kind, hkind, rfl⟩ := List.mem_map.mp (List.mem_of_getElem? hx)
    have tkind := txk kind hkind
    have htl' : (toks.map V.str).length = 5 := by rw [List.length_map, htl]
    have tokH : ∀ {H' : Hp} {us : List V} {C : Nat}, Grow j pf rr H H' (row ++ [("end" : Str)]) us C → H' t = some (.lst (toks.map V.str)) := fun g => g.keep _ _ tj htok
    have hi : i ≤ 11 := by
      have := List.getElem?_eq_some_iff.mp hx
      obtain ⟨h1, _⟩ := this
      rw [List.length_map, List.length_append, List.length_singleton] at h1
      omega
    refine ⟨(by show 5 ≤ sizeLine; decide), fun pi hpi => ?_⟩
    have s1 := same_new hpi (.lst [.int 0, .int 0, .int 0, .int 1, .int 2])
    have pij := g.jar.ne hpi
    refine ⟨_, rfl, j, C + 6 * i, 5, rfl, g.jar.keep s1, by omega, by decide, by decide, fun r1 H2 r10 r11 j2 k2 => ?_⟩
    obtain ⟨z, z1, z2⟩ := at_in (l := ([.int 0, .int 0, .int 0, .int 1, .int 2] : List V)) r10 r11
    obtain ⟨n, rfl, hn⟩ : ∃ n : Nat, z = .int (n : Int) ∧ n ≤ 2 := by
      have := List.mem_of_getElem? z2
      simp only [List.mem_cons, List.not_mem_nil, or_false] at this
      rcases this with rfl | rfl | rfl | rfl | rfl
      · exact ⟨0, rfl, by decide⟩
      · exact ⟨0, rfl, by decide⟩
      · exact ⟨0, rfl, by decide⟩
      · exact ⟨1, rfl, by decide⟩
      · exact ⟨2, rfl, by decide⟩
    have g2 := g.on ((Keep.of_same s1).trans k2) j2
    refine ⟨pi, _, _, _, rfl, rfl, SqL.of (k2 _ _ pij upd_same), z1, _, rfl, by omega, by omega, ?_⟩
    rw [Int.toNat_natCast]
    refine for_range (lo := 0) (n := n) (fun i' σ H' => ∃ (us' : List V) (x5 x6 : Option V), σ = [some (.ref j), some (.ref r), some (.ref t), some (.ref pf), some (.str kind), x5, x6] ∧ Grow j pf rr H H' (row ++ [("end" : Str)]) us' (C + 6 * i + 1 + i') ∧ us'.length ≤ us.length + i')
      ⟨us, _, _, rfl, g2, by omega⟩ (fun i' σ H' hi' p => ?_) (fun σ H' p => ?_)
    · obtain ⟨us', x5, x6, rfl, g3, hl3⟩ := p
      refine ⟨_, rfl, .inl ⟨rfl, _, SqL.of g3.found⟩, ?_⟩
      refine ⟨_, rfl, _, rfl, _, rfl, t, _, rfl, .inl (SqL.of (tokH g3)), j, _, _, rfl, g3.jar, by omega, (by rw [htl']; decide), (by rw [htl']; decide), fun r4 H4 r40 r41 j4 k4 => ?_⟩
      have g4 := g3.on k4 j4
      obtain ⟨x, x1, tx⟩ := tok_at txt r40 (by rw [← List.length_map (f := V.str)]; exact r41)
      refine ⟨t, _, _, _, rfl, rfl, SqL.of (tokH g4), x1, (by show 2 ≤ sizeLine; decide), fun p5 hp5 => ?_⟩
      have g5 := g4.on (Keep.of_same (same_new hp5 (.tup [.str "put", .str x]))) (g4.jar.keep (same_new hp5 _))
      refine ⟨pf, _, _, rfl, rfl, g5.found, (by rw [sizeLine_eq]; omega), ?_⟩
      exact ⟨_, _, _, rfl, g5.push (tup2 (g4.jar.ne hp5) upd_same put_tx tx), by rw [List.length_append, List.length_singleton]; omega⟩
    · obtain ⟨us', x5, x6, rfl, g3, hl3⟩ := p
      refine ⟨_, rfl, _, rfl, _, rfl, t, _, rfl, .inl (SqL.of (tokH g3)), j, _, _, rfl, g3.jar, by omega, (by rw [htl']; decide), (by rw [htl']; decide), fun r4 H4 r40 r41 j4 k4 => ?_⟩
      have g4 := g3.on k4 j4
      obtain ⟨x, x1, tx⟩ := tok_at txt r40 (by rw [← List.length_map (f := V.str)]; exact r41)
      refine ⟨t, _, _, _, rfl, rfl, SqL.of (tokH g4), x1, ?_⟩
      refine ⟨_, rfl, _, rfl, rfl, _, rfl, ?_⟩
      refine ite2 (fun c => ?_) (fun c => ?_)
      · have hk1 : kind.length ≤ 1000 := tkind.few
        have h6 := cut_six kind
        refine ⟨_, rfl, _, rfl, kind, rfl, (by rw [sizeLine_eq]; omega), _, _, rfl, rfl, (by rw [sizeLine_eq]; show _ + 2 ≤ _; omega), ?_⟩
        have ty := qq_tx tkind
        generalize (cutS kind none (some 6) ++ "qq") = y at *
        refine ⟨_, rfl, .inl ⟨rfl, _, SqL.of g4.found⟩, ?_⟩
        refine fun e1 E1 s5 q1 e2 E2 s6 q2 e3 E3 s7 q3 => ⟨_, rfl, (by show 2 ≤ sizeLine; decide), fun p8 hp8 => ?_⟩
        have s567 := s5.trans (s6.trans s7)
        have g7 := g4.on (Keep.of_same s567) (g4.jar.keep s567)
        have n8 := same_new hp8 (.tup [.str "turn", .str y])
        have g8 := g7.on (Keep.of_same n8) (g7.jar.keep n8)
        have p8j := g7.jar.ne hp8
        refine ⟨(by show 4 ≤ sizeLine; decide), fun p9 hp9 => ?_⟩
        have n9 := same_new hp9 (.lst [e1, e2, e3, .ref p8])
        have p9j := g8.jar.ne hp9
        have j4' := g4.jar
        have one : ∀ {v : V} {H' : Hp} {w : Str}, Tx w → Rep j H' v (.tuple [.str w]) → TupV j H' v := fun hw rw' => by
          cases rw' with
          | tup n e r => exact ⟨_, _, _, rfl, n, e, r, by show 1 ≤ 4; decide, fun d h => by rw [List.mem_singleton.mp h]; exact .str hw⟩
        have tk : Tx ("keep" : Str) := ⟨by decide, by decide +kernel⟩
        have td : Tx ("drop" : Str) := ⟨by decide, by decide +kernel⟩
        have up : ∀ {v : V} {Ha Hb : Hp}, Same Ha Hb → TupV j Ha v → TupV j Hb v := fun s t => t.at_ fun b xs _ e => s _ _ e
        have T1 : TupV j _ e1 := up (s6.trans (s7.trans (n8.trans n9))) (one tk (q1 j j4'.some))
        have T2 : TupV j _ e2 := up (s7.trans (n8.trans n9)) (one tk (q2 j (j4'.keep s5).some))
        have T3 : TupV j _ e3 := up (n8.trans n9) (one td (q3 j ((j4'.keep s5).keep s6).some))
        have T4 : TupV j _ (.ref p8) := up n9 (tup2 p8j upd_same turn_tx ty)
        have g9 := g8.on (Keep.of_same n9) (g8.jar.keep n9)
        refine ⟨_, rfl, j, _, 4, rfl, g9.jar, by omega, by decide, by decide, fun rA HA rA0 rA1 jA kA => ?_⟩
        have gA := g9.on kA jA
        obtain ⟨u, u1, u2⟩ := at_in (l := ([e1, e2, e3, .ref p8] : List V)) rA0 rA1
        have tu : TupV j HA u := by
          have hm := List.mem_of_getElem? u2
          have dn : ∀ {v : V}, TupV j _ v → TupV j HA v := fun t => t.at_ fun b xs n e => kA _ _ n e
          simp only [List.mem_cons, List.not_mem_nil, or_false] at hm
          rcases hm with rfl | rfl | rfl | rfl
          · exact dn T1
          · exact dn T2
          · exact dn T3
          · exact dn T4
        refine ⟨p9, _, _, _, rfl, rfl, SqL.of (kA _ _ p9j upd_same), u1, pf, _, _, rfl, rfl, gA.found, (by rw [sizeLine_eq]; omega), ?_⟩
        refine ⟨us' ++ [u], _, _, _, rfl, ?_, ?_⟩
        · have gB := gA.push tu
          exact ⟨gB.new, gB.pfj, gB.rrj, gB.apart, gB.found, gB.kinds, gB.all, gB.jar.mono (by omega), gB.keep⟩
        · rw [List.length_append, List.length_singleton]; omega
      · have ty := tx
        refine ⟨_, rfl, .inl ⟨rfl, _, SqL.of g4.found⟩, ?_⟩
        refine fun e1 E1 s5 q1 e2 E2 s6 q2 e3 E3 s7 q3 => ⟨_, rfl, (by show 2 ≤ sizeLine; decide), fun p8 hp8 => ?_⟩
        have s567 := s5.trans (s6.trans s7)
        have g7 := g4.on (Keep.of_same s567) (g4.jar.keep s567)
        have n8 := same_new hp8 (.tup [.str "turn", .str x])
        have g8 := g7.on (Keep.of_same n8) (g7.jar.keep n8)
        have p8j := g7.jar.ne hp8
        refine ⟨(by show 4 ≤ sizeLine; decide), fun p9 hp9 => ?_⟩
        have n9 := same_new hp9 (.lst [e1, e2, e3, .ref p8])
        have p9j := g8.jar.ne hp9
        have j4' := g4.jar
        have one : ∀ {v : V} {H' : Hp} {w : Str}, Tx w → Rep j H' v (.tuple [.str w]) → TupV j H' v := fun hw rw' => by
          cases rw' with
          | tup n e r => exact ⟨_, _, _, rfl, n, e, r, by show 1 ≤ 4; decide, fun d h => by rw [List.mem_singleton.mp h]; exact .str hw⟩
        have tk : Tx ("keep" : Str) := ⟨by decide, by decide +kernel⟩
        have td : Tx ("drop" : Str) := ⟨by decide, by decide +kernel⟩
        have up : ∀ {v : V} {Ha Hb : Hp}, Same Ha Hb → TupV j Ha v → TupV j Hb v := fun s t => t.at_ fun b xs _ e => s _ _ e
        have T1 : TupV j _ e1 := up (s6.trans (s7.trans (n8.trans n9))) (one tk (q1 j j4'.some))
        have T2 : TupV j _ e2 := up (s7.trans (n8.trans n9)) (one tk (q2 j (j4'.keep s5).some))
        have T3 : TupV j _ e3 := up (n8.trans n9) (one td (q3 j ((j4'.keep s5).keep s6).some))
        have T4 : TupV j _ (.ref p8) := up n9 (tup2 p8j upd_same turn_tx ty)
        have g9 := g8.on (Keep.of_same n9) (g8.jar.keep n9)
        refine ⟨_, rfl, j, _, 4, rfl, g9.jar, by omega, by decide, by decide, fun rA HA rA0 rA1 jA kA => ?_⟩
        have gA := g9.on kA jA
        obtain ⟨u, u1, u2⟩ := at_in (l := ([e1, e2, e3, .ref p8] : List V)) rA0 rA1
        have tu : TupV j HA u := by
          have hm := List.mem_of_getElem? u2
          have dn : ∀ {v : V}, TupV j _ v → TupV j HA v := fun t => t.at_ fun b xs n e => kA _ _ n e
          simp only [List.mem_cons, List.not_mem_nil, or_false] at hm
          rcases hm with rfl | rfl | rfl | rfl
          · exact dn T1
          · exact dn T2
          · exact dn T3
          · exact dn T4
        refine ⟨p9, _, _, _, rfl, rfl, SqL.of (kA _ _ p9j upd_same), u1, pf, _, _, rfl, rfl, gA.found, (by rw [sizeLine_eq]; omega), ?_⟩
        refine ⟨us' ++ [u], _, _, _, rfl, ?_, ?_⟩
        · have gB := gA.push tu
          exact ⟨gB.new, gB.pfj, gB.rrj, gB.apart, gB.found, gB.kinds, gB.all, gB.jar.mono (by omega), gB.keep⟩
        · rw [List.length_append, List.length_singleton]; omega
end
end Dz
namespace Dz
open PySem PySem.Spec PyProof.Rows L2 Ty
def tw (ds : List PyData) : PyData := .tuple ds
def st (x : String) : PyData := .str x
def odd1 : List PyData := [tw [st "keep", st "a"], tw [st "drop", st "a"], tw [st "put"], tw [st "turn"], tw [st "put", st "A"], tw [st "put", st "abcdefghi"], tw [st "put", st ""], tw []]
def odd2 : List PyData := [tw [st "put", st "a", st "b"], tw [st "take"], tw [.none], tw [st "put", .int 5]]
def odd3 : List PyData := [tw [st "keep"], tw [st "drop"], tw [st "put", st "bar"], tw [st "put", st "zz"]]
def txB (x : Str) : Bool := decide (x.length ≤ 1000) && x.cps.toList.all fun c => decide (c < 128)
theorem txB_ok {x : Str} (h : txB x = true) : Tx x := by
  unfold txB at h
  rw [Bool.and_eq_true] at h
  exact ⟨of_decide_eq_true h.1, fun c hc => of_decide_eq_true (List.all_eq_true.mp h.2 c hc)⟩
def flatB : PyData → Bool
  | .none => true
  | .int _ => true
  | .str x => txB x
  | _ => false
theorem flatB_ok : ∀ {d : PyData}, flatB d = true → Flat d
  | .none, _ => .non
  | .int i, _ => .int i
  | .str x, h => .str (txB_ok h)
  | .bool _, h => by cases h
  | .list _, h => by cases h
  | .tuple _, h => by cases h
  | .dict _, h => by cases h
def ddB : PyData → Bool
  | .tuple ds => decide (ds.length ≤ 4) && ds.all flatB
  | _ => false
theorem ddB_ok : ∀ {d : PyData}, ddB d = true → Dd d
  | .tuple ds, h => by
    unfold ddB at h
    rw [Bool.and_eq_true] at h
    exact .tup (of_decide_eq_true h.1) fun d hd => flatB_ok (List.all_eq_true.mp h.2 d hd)
  | .none, h => by cases h
  | .int i, h => by cases h
  | .str x, h => by cases h
  | .bool _, h => by cases h
  | .list _, h => by cases h
  | .dict _, h => by cases h
theorem all_ok {l : List PyData} (h : l.all ddB = true) : ∀ d, d ∈ l → Dd d := fun d hd => ddB_ok (List.all_eq_true.mp h d hd)
def spBad : Sp := fun vs H Q _ => ∃ (j r l : Addr) (C : Nat) (row : List Str) (us : List V), vs = [.ref j, .ref r, .ref l] ∧ Jar j H C ∧ C ≤ 900000000 ∧ r ≠ j ∧ l ≠ j ∧ H r = some (.lst (row.map V.str)) ∧ H l = some (.lst us) ∧ row.length ≤ 100 ∧ us.length ≤ 400 ∧ (∀ x, x ∈ row → Tx x) ∧ DdVs j H us ∧
  ∀ p ws H', H p = none → H' p = some (.lst ws) → ws.length ≤ 2 * us.length + 1 → DdVs j H' ws → Jar j H' (C + 3) → Keep j H H' → Q (.ref p) H'
theorem scBad : FnScope ["pot", "row", "deeds", "kept", "odd", "at", "way", "one", "kind"] ["pot", "row", "deeds"] (defScope sBad) := ⟨rfl, rfl, rfl, by decide +kernel, rfl, by decide +kernel, by decide +kernel⟩
theorem DdVs.nil {j : Addr} {H : Hp} : DdVs j H [] := ⟨[], .nil, fun _ h => by cases h⟩
theorem DdVs.cons {j : Addr} {H : Hp} {v : V} {vs : List V} (a : ∃ d, Rep j H v d ∧ Dd d) (b : DdVs j H vs) : DdVs j H (v :: vs) := by
  obtain ⟨d, r, f⟩ := a
  obtain ⟨ds, rs, fs⟩ := b
  exact ⟨d :: ds, .cons r rs, fun e he => by
    rcases List.mem_cons.mp he with q | q
    · rw [q]; exact f
    · exact fs e q⟩
theorem DdVs.of {j : Addr} {H : Hp} {vs : List V} {ds : List PyData} (r : Reps j H vs ds) (h : ds.all ddB = true) : DdVs j H vs := ⟨ds, r, all_ok h⟩
section
variable {P : Program} {w : World} {K : PySem.W.Frag} {mg : Str → Option Value} {base : Heap} {f g : Addr} {fd gd : FuncData}
theorem ok_bad (F : Fun K "_law_bad" "_law_bad" sBad f fd) (G : FnOk P w K mg base CX0 1 g gd ["pot", "many"] spPick) (bG : Binds K gd ["pot", "many"] []) (kG : PySem.W.keepIn K (.ref g) = true) (mG : mg "_law_pick" = some (.ref g)) (ml : mg "len" = none) :
    FnOk P w K mg base CX0 2 f fd ["pot", "row", "deeds"] spBad := by
  refine F.ok scBad (fun vs H Q E h => ?_) (fun cdv A outer s H vs Q E hr h => ?_)
  · obtain ⟨j, r, l, C, row, us, rfl, _⟩ := h
    rfl
  obtain ⟨j, r, l, C, row, us, rfl, hj, hC, rj, lj, hrow, hl, hrl, hul, txr, dus, q⟩ := h
  refine ⟨_, pss_cons (ps_set (i := 3) scBad.nd rfl (.inl rfl) (pe_ix ix_list (pe_lst (pa_cons pe_str (pa_cons pe_str (pa_cons pe_str (pa_cons pe_str pa_nil))))) (pe_op op_mod (pe_callB call_len_seq rfl ml PySem.boot_len (pa_cons (pv 1) pa_nil)) pe_int) (fun _ _ => rfl)))
    (pss_cons (ps_set (i := 4) scBad.nd rfl (.inl rfl) (pe_lst (da_cons (dt_tup (da_cons dt_str (da_cons dt_str da_nil))) (da_cons (dt_tup (da_cons dt_str (da_cons dt_str da_nil))) (da_cons (dt_tup (da_cons dt_str da_nil)) (da_cons (dt_tup (da_cons dt_str da_nil)) (da_cons (dt_tup (da_cons dt_str (da_cons dt_str da_nil))) (da_cons (dt_tup (da_cons dt_str (da_cons dt_str da_nil))) (da_cons (dt_tup (da_cons dt_str (da_cons dt_str da_nil))) (da_cons (dt_tup da_nil) da_nil))))))))))
    (pss_cons (ps_set (i := 4) scBad.nd rfl (.inl rfl) (pe_op op_cat (pv 4) (pe_lst (pa_cons dt_non (pa_cons dt_str (pa_cons (dt_lst (da_cons dt_str da_nil)) (pa_cons (pe_tup (pa_cons pe_str (pa_cons (pv 3) pa_nil))) (da_cons (dt_tup (da_cons dt_str (da_cons dt_str (da_cons dt_str da_nil)))) (da_cons (dt_tup (da_cons dt_str da_nil)) (da_cons (dt_tup (da_cons dt_non da_nil)) (da_cons (dt_tup (da_cons dt_str (da_cons dt_int da_nil))) da_nil)))))))))))
    (pss_cons (ps_set (i := 4) scBad.nd rfl (.inl rfl) (pe_op op_cat (pe_op op_cat (pv 4)
        (pe_lc (own := [("kind", 8)]) (g := gName 8) (tt := tYes) rfl scBad.nd (pi_list (pe_slice sl_list (pv 1) po_none (po_some pe_int))) (blkOk_by (N := ["pot", "row", "deeds", "kept", "odd", "at", "way", "one", "kind"]) (sc := defScope sBad) (by decide +kernel)) (fun _ _ _ _ _ => pg_name (i := 8) scBad.nd rfl (Or.inl rfl)) (fun _ _ _ _ _ => pts_nil)
          (fun _ _ _ _ _ => pe_tup (pa_cons pe_str (pa_cons (pv 8) pa_nil))))) (pe_lst (da_cons (dt_tup (da_cons dt_str da_nil)) (da_cons (dt_tup (da_cons dt_str da_nil)) (da_cons (dt_tup (da_cons dt_str (da_cons dt_str da_nil))) (da_cons (dt_tup (da_cons dt_str (da_cons dt_str da_nil))) da_nil)))))))
    (pss_cons (ps_set (i := 5) scBad.nd rfl (.inl rfl) (pe_call G hr rfl mG kG bG .nil pass0 (pa_cons (pv 0) (pa_cons (pe_op op_add (pe_callB call_len_seq rfl ml PySem.boot_len (pa_cons (pv 2) pa_nil)) pe_int) pa_nil))))
    (pss_cons (ps_set (i := 6) scBad.nd rfl (.inl rfl) (pe_call G hr rfl mG kG bG .nil pass0 (pa_cons (pv 0) (pa_cons pe_int pa_nil))))
    (pss_cons (ps_set (i := 7) scBad.nd rfl (.inl rfl) (pe_ix ix_list (pv 4) (pe_call G hr rfl mG kG bG .nil pass0 (pa_cons (pv 0) (pa_cons (pe_callB call_len_seq rfl ml PySem.boot_len (pa_cons (pv 4) pa_nil)) pa_nil))) (fun _ _ => rfl)))
    (pss_cons (ps_if (pt_cmpR op_eq (pv 6) pe_int (nomark _)) (pss_one (ps_ret (pe_op op_cat (pe_slice sl_list (pv 2) po_none (po_some (pv 5))) (pe_slice sl_list (pv 2) (po_some (pe_op op_add (pv 5) pe_int)) po_none)))) pss_nil)
    (pss_cons (ps_if (pt_cmpR op_eq (pv 6) pe_int (nomark _)) (pss_one (ps_ret (pe_op op_cat (pe_slice sl_list (pv 2) po_none (po_some (pe_op op_add (pv 5) pe_int))) (pe_slice sl_list (pv 2) (po_some (pv 5)) po_none)))) pss_nil)
    (pss_one (ps_ret (pe_op op_cat (pe_op op_cat (pe_slice sl_list (pv 2) po_none (po_some (pv 5))) (pe_lst (pa_cons (pv 7) pa_nil))) (pe_slice sl_list (pv 2) (po_some (pe_op op_sub (pe_op op_add (pv 5) (pv 6)) pe_int)) po_none)))))))))))), ?_⟩
  refine ⟨(by show 4 ≤ sizeLine; decide), fun p0 hp0 => ?_⟩
  have n0 := same_new hp0 (.lst [.str "top", .str "skip", .str "rule", .str "word"])
  refine ⟨_, rfl, r, _, rfl, .inl (SqL.of (n0 _ _ hrow)), _, _, rfl, rfl, (show (0 : Int) < 4 by decide), ?_⟩
  obtain ⟨kept', k1, tk⟩ := tok_at (toks := ["top", "skip", "rule", "word"]) (r := (((row.map V.str).length : Nat) : Int) % 4) (by
    intro x hx
    simp only [List.mem_cons, List.not_mem_nil, or_false] at hx
    rcases hx with rfl | rfl | rfl | rfl <;> exact txB_ok (by decide +kernel)) (Int.emod_nonneg _ (by decide)) (Int.emod_lt_of_pos _ (by decide))
  refine ⟨p0, _, _, _, rfl, rfl, SqL.of upd_same, k1, ?_⟩
  have g0 : Good j H _ C := ⟨hj.keep n0, Keep.of_same n0⟩
  have G1 := g0
  -- the first eight
  refine fun v1 H1 s1 l1 r1 => ⟨by rw [l1]; decide, fun p1 hp1 => ?_⟩
  have g1 := (g0.same s1)
  have D1 : DdVs j H1 v1 := .of (r1 j g0.jar.some) (by decide +kernel)
  have n1 := same_new hp1 (.lst v1)
  have g1' := g1.same n1
  have p1j := g1.jar.ne hp1
  -- the next eight
  refine ⟨_, rfl, ?_⟩
  refine fun a1 A1 t1 q1 a2 A2 t2 q2 a3 A3 t3 q3 => ⟨_, rfl, (by show 2 ≤ sizeLine; decide), fun p2 hp2 => ?_⟩
  have gA := ((g1'.same t1).same t2).same t3
  have n2 := same_new hp2 (.tup [.str "turn", .str kept'])
  have gB := gA.same n2
  have p2j := gA.jar.ne hp2
  refine fun v3 H3 s3 l3 r3 => ⟨by show v3.length + 4 ≤ _; rw [l3]; decide, fun p3 hp3 => ?_⟩
  have gC := gB.same s3
  have n3 := same_new hp3 (.lst (a1 :: a2 :: a3 :: .ref p2 :: v3))
  have gD := gC.same n3
  have D2 : DdVs j H3 (a1 :: a2 :: a3 :: .ref p2 :: v3) := by
    refine .cons ⟨_, (q1 j g1'.jar.some).all_keep (t2.trans (t3.trans (n2.trans s3))), .flat .non⟩ (.cons ⟨_, (q2 j (g1'.same t1).jar.some).all_keep (t3.trans (n2.trans s3)), .flat (.str (txB_ok (by decide +kernel)))⟩
      (.cons ⟨_, (q3 j ((g1'.same t1).same t2).jar.some).all_keep (n2.trans s3), .lst (txB_ok (by decide +kernel))⟩ (.cons ?_ (.of (r3 j gB.jar.some) (by decide +kernel)))))
    exact (TupV.at_ (tup2 p2j upd_same turn_tx tk) fun b xs _ e => s3 _ _ e).dd
  have T13 := n1.trans (t1.trans (t2.trans (t3.trans (n2.trans (s3.trans n3)))))
  refine ⟨p1, p3, v1, _, rfl, rfl, (t1.trans (t2.trans (t3.trans (n2.trans (s3.trans n3))))) _ _ upd_same, upd_same, (by show v1.length + (v3.length + 4) ≤ _; rw [l1, l3]; decide), fun p4 hp4 => ?_⟩
  have n4 := same_new hp4 (.lst (v1 ++ (a1 :: a2 :: a3 :: .ref p2 :: v3)))
  have gE := gD.same n4
  have p4j := gD.jar.ne hp4
  have D12 : DdVs j _ (v1 ++ (a1 :: a2 :: a3 :: .ref p2 :: v3)) := .cat (D1.keep (Keep.of_same (T13.trans n4))) (D2.keep (Keep.of_same (n3.trans n4)))
  have e4 : (upd (upd H3 p3 (.lst (a1 :: a2 :: a3 :: .ref p2 :: v3))) p4 (.lst (v1 ++ (a1 :: a2 :: a3 :: .ref p2 :: v3)))) p4 = some (.lst (v1 ++ (a1 :: a2 :: a3 :: .ref p2 :: v3))) := upd_same
  have l12 : (v1 ++ (a1 :: a2 :: a3 :: .ref p2 :: v3)).length = 16 := by rw [List.length_append, List.length_cons, List.length_cons, List.length_cons, List.length_cons, l1, l3]; rfl
  generalize (upd (upd H3 p3 (.lst (a1 :: a2 :: a3 :: .ref p2 :: v3))) p4 (.lst (v1 ++ (a1 :: a2 :: a3 :: .ref p2 :: v3)))) = H4 at *
  generalize (v1 ++ (a1 :: a2 :: a3 :: .ref p2 :: v3)) = o12 at *
  -- [('turn', kind) for kind in row[:1]]
  refine ⟨_, rfl, _, rfl, _, rfl, r, _, rfl, SqL.of (gE.keep _ _ rj hrow), fun p5 hp5 => ?_⟩
  have n5 := same_new hp5 (.lst (cutV (row.map V.str) none (some 1)))
  have g5 := gE.same n5
  refine ⟨p5, rfl, ⟨_, SqL.of upd_same⟩, fun D hD => ?_⟩
  have Dj := g5.jar.ne hD
  have e5 : (upd H4 p5 (.lst (cutV (row.map V.str) none (some 1)))) p5 = some (.lst (cutV (row.map V.str) none (some 1))) := upd_same
  have k5 : (cutV (row.map V.str) none (some 1)).length ≤ 1 := by
    rw [show cutV (row.map V.str) none (some 1) = (row.map V.str).take 1 from cut_to (b := 1), List.length_take]
    omega
  have m5 : ∀ v, v ∈ cutV (row.map V.str) none (some 1) → ∃ x, v = .str x ∧ Tx x := fun v hv => by
    have h1 : v ∈ row.map V.str := List.mem_of_mem_drop (List.mem_of_mem_take (show v ∈ (List.take _ (List.drop _ (row.map V.str))) from hv))
    obtain ⟨x, hx, rfl⟩ := List.mem_map.mp h1
    exact ⟨x, rfl, txr x hx⟩
  have e45 := n5 _ _ e4
  generalize (upd H4 p5 (.lst (cutV (row.map V.str) none (some 1)))) = H5 at *
  refine lc_list (xs := cutV (row.map V.str) none (some 1)) (fun i H' => ∃ ys : List V, H' D = some (.lst ys) ∧ ys.length = i ∧ (∀ v, v ∈ ys → TupV j H' v) ∧ Same H5 H') ⟨[], upd_same, rfl, (fun _ h => by cases h), same_new hD _⟩ (fun i H' _ p => ?_) (fun i x H' hx p => ?_) (fun H6 p => ?_)
  · obtain ⟨_, _, _, _, s⟩ := p
    exact SqL.of (s _ _ e5)
  · obtain ⟨ys, ey, ly, ty, sy⟩ := p
    obtain ⟨x, rfl, tx⟩ := m5 x (List.mem_of_getElem? hx)
    refine ⟨rfl, ?_⟩
    simp only [tYes, ↓reduceIte]
    refine ⟨_, rfl, (by show 2 ≤ sizeLine; decide), fun p6 hp6 => ?_⟩
    have n6 := same_new hp6 (.tup [.str "turn", .str x])
    have p6j : p6 ≠ j := (g5.jar.keep sy).ne hp6
    have hi : i < 1 := by
      have := List.getElem?_eq_some_iff.mp hx
      obtain ⟨h1, _⟩ := this
      omega
    have up : ∀ b xs, b ≠ j → (upd H' p6 (.tup [.str "turn", .str x])) b = some (.tup xs) → (upd (upd H' p6 (.tup [.str "turn", .str x])) D (.lst (ys ++ [.ref p6]))) b = some (.tup xs) := fun b xs _ e => by
      rw [upd_ne (fun z => by rw [z, n6 _ _ ey] at e; cases e)]; exact e
    refine ⟨ys, n6 _ _ ey, by rw [ly, sizeLine_eq]; omega, ys ++ [.ref p6], upd_same, by rw [List.length_append, ly]; rfl, fun v hv => ?_, fun b o e => ?_⟩
    · rcases List.mem_append.mp hv with h | h
      · exact ((ty v h).at_ fun b xs _ e => n6 _ _ e).at_ up
      · rw [List.mem_singleton.mp h]
        exact (tup2 p6j upd_same turn_tx tx).at_ up
    · rw [upd_ne (ne_of_none e hD)]
      exact n6 _ _ (sy _ _ e)
  obtain ⟨ys, ey, ly, ty, sy⟩ := p
  have g6 := g5.same sy
  have D6 : DdVs j H6 ys := dds_of fun v h => (ty v h).dd
  have hyl : ys.length ≤ 1 := by rw [ly]; exact k5
  refine ⟨p4, D, o12, ys, rfl, rfl, sy _ _ e45, ey, (by rw [l12, sizeLine_eq]; omega), fun p7 hp7 => ?_⟩
  have n7 := same_new hp7 (.lst (o12 ++ ys))
  have g7 := g6.same n7
  have p7j := g6.jar.ne hp7
  refine fun v8 H8 s8 l8 r8 => ⟨by rw [l8]; decide, fun p8 hp8 => ?_⟩
  have g8 := g7.same s8
  have n8 := same_new hp8 (.lst v8)
  have g8' := g8.same n8
  refine ⟨p7, p8, _, v8, rfl, rfl, n8 _ _ (s8 _ _ upd_same), upd_same, (by rw [List.length_append, l12, l8, sizeLine_eq]; show 16 + ys.length + 4 ≤ _; omega), fun p9 hp9 => ?_⟩
  have n9 := same_new hp9 (.lst (o12 ++ ys ++ v8))
  have g9 := g8'.same n9
  have p9j := g8'.jar.ne hp9
  have DD : DdVs j _ (o12 ++ ys ++ v8) := .cat (.cat (D12.keep (Keep.of_same (n5.trans (sy.trans (n7.trans (s8.trans (n8.trans n9))))))) (D6.keep (Keep.of_same (n7.trans (s8.trans (n8.trans n9))))))
    (.of ((r8 j g7.jar.some).all_keep (n8.trans n9)) (by decide +kernel))
  have e9 : (upd (upd H8 p8 (.lst v8)) p9 (.lst (o12 ++ ys ++ v8))) p9 = some (.lst (o12 ++ ys ++ v8)) := upd_same
  have lo : (o12 ++ ys ++ v8).length ≤ 100 ∧ 0 < (o12 ++ ys ++ v8).length := by
    rw [List.length_append, List.length_append, l12, l8]
    have : odd3.length = 4 := rfl
    show 16 + ys.length + 4 ≤ 100 ∧ 0 < 16 + ys.length + 4
    omega
  generalize (upd (upd H8 p8 (.lst v8)) p9 (.lst (o12 ++ ys ++ v8))) = H9 at *
  generalize (o12 ++ ys ++ v8) = oo at *
  -- at, way, one
  have dl : ∀ {H' : Hp} {C' : Nat}, Good j H H' C' → H' l = some (.lst us) := fun g => g.keep _ _ lj hl
  have dd : ∀ {H' : Hp} {C' : Nat}, Good j H H' C' → DdVs j H' us := fun g => dus.keep g.keep
  refine ⟨_, rfl, _, rfl, l, _, rfl, .inl (SqL.of (dl g9)), _, _, rfl, rfl, j, C, _, rfl, g9.jar, by omega, (by show (0 : Int) < ((us.length : Nat) : Int) + 1; omega), (by show ((us.length : Nat) : Int) + 1 < 1000000; omega), fun ra HA ra0 ra1 jA kA => ?_⟩
  obtain ⟨t, rfl⟩ : ∃ t : Nat, ra = (t : Int) := ⟨ra.toNat, by omega⟩
  have gA2 := g9.on kA jA
  refine ⟨_, rfl, j, C + 1, 4, rfl, jA, by omega, by decide, by decide, fun way HB w0 w4 jB kB => ?_⟩
  have gB2 := gA2.on kB jB
  have eB := kB _ _ p9j (kA _ _ p9j e9)
  refine ⟨_, rfl, _, rfl, _, rfl, p9, _, rfl, .inl (SqL.of eB), j, C + 1 + 1, _, rfl, jB, by omega, (by have := lo.2; omega), (by have := lo.1; omega), fun ro HC ro0 ro1 jC kC => ?_⟩
  have gC2 := gB2.on kC jC
  obtain ⟨u, u1, u2⟩ := at_in (l := oo) ro0 ro1
  have eC := kC _ _ p9j eB
  have du : ∃ d, Rep j HC u d ∧ Dd d := (DD.keep (kA.trans (kB.trans kC))).get (List.mem_of_getElem? u2)
  refine ⟨p9, _, _, _, rfl, rfl, SqL.of eC, u1, ?_⟩
  have fresh : ∀ {H' : Hp} {C' : Nat} {p : Addr}, Good j H H' C' → H' p = none → H p = none := fun {H' C' p} g hp => by
    cases e : H p with
    | none => rfl
    | some o =>
      by_cases h : p = j
      · rw [h] at hp
        exact absurd hp g.jar.some
      · rw [g.keep p o h e] at hp; cases hp
  have ct : cutV us none (some (t : Int)) = us.take t := cut_to
  have ct1 : cutV us none (some ((t : Int) + 1)) = us.take (t + 1) := cut_to (b := t + 1)
  have cf : cutV us (some (t : Int)) none = us.drop t := cut_from
  have cf1 : cutV us (some ((t : Int) + 1)) none = us.drop (t + 1) := cut_from (b := t + 1)
  have cl : ∀ lo hi, (cutV us lo hi).length ≤ us.length := cutV_length us
  refine ⟨_, rfl, rfl, _, rfl, ?_⟩
  refine ite2 (fun c => ?_) (fun c => ?_)
  · refine ⟨_, rfl, _, rfl, _, rfl, l, us, rfl, SqL.of (dl gC2), fun pa hpa => ?_⟩
    have na := same_new hpa (.lst (cutV us none (some (t : Int))))
    have ga := gC2.same na
    refine ⟨_, rfl, _, rfl, _, _, rfl, rfl, _, rfl, l, us, rfl, SqL.of (dl ga), fun pb hpb => ?_⟩
    have nb := same_new hpb (.lst (cutV us (some ((t : Int) + 1)) none))
    have gb := ga.same nb
    refine ⟨pa, pb, _, _, rfl, rfl, nb _ _ upd_same, upd_same, (by have h1 := cl none (some (t : Int)); have h2 := cl (some ((t : Int) + 1)) none; rw [sizeLine_eq]; omega), fun pc hpc => ?_⟩
    have nc := same_new hpc (.lst (cutV us none (some (t : Int)) ++ cutV us (some ((t : Int) + 1)) none))
    have gc := gb.same nc
    refine q pc _ _ (fresh gb hpc) upd_same (by have h1 := cl none (some (t : Int)); have h2 := cl (some ((t : Int) + 1)) none; rw [List.length_append]; omega) (.cat (.cut (dd gc) _ _) (.cut (dd gc) _ _)) (gc.jar.mono (by omega)) gc.keep
  refine ⟨_, rfl, rfl, _, rfl, ?_⟩
  refine ite2 (fun c2 => ?_) (fun c2 => ?_)
  · refine ⟨_, rfl, _, rfl, _, _, rfl, rfl, _, rfl, l, us, rfl, SqL.of (dl gC2), fun pa hpa => ?_⟩
    have na := same_new hpa (.lst (cutV us none (some ((t : Int) + 1))))
    have ga := gC2.same na
    refine ⟨_, rfl, _, rfl, _, rfl, l, us, rfl, SqL.of (dl ga), fun pb hpb => ?_⟩
    have nb := same_new hpb (.lst (cutV us (some (t : Int)) none))
    have gb := ga.same nb
    refine ⟨pa, pb, _, _, rfl, rfl, nb _ _ upd_same, upd_same, (by have h1 := cl none (some ((t : Int) + 1)); have h2 := cl (some (t : Int)) none; rw [sizeLine_eq]; omega), fun pc hpc => ?_⟩
    have nc := same_new hpc (.lst (cutV us none (some ((t : Int) + 1)) ++ cutV us (some (t : Int)) none))
    have gc := gb.same nc
    refine q pc _ _ (fresh gb hpc) upd_same (by have h1 := cl none (some ((t : Int) + 1)); have h2 := cl (some (t : Int)) none; rw [List.length_append]; omega) (.cat (.cut (dd gc) _ _) (.cut (dd gc) _ _)) (gc.jar.mono (by omega)) gc.keep
  · refine ⟨_, rfl, _, rfl, _, rfl, l, us, rfl, SqL.of (dl gC2), fun pa hpa => ?_⟩
    have na := same_new hpa (.lst (cutV us none (some (t : Int))))
    have ga := gC2.same na
    refine ⟨_, rfl, (by show 1 ≤ sizeLine; decide), fun pb hpb => ?_⟩
    have nb := same_new hpb (.lst [u])
    have gb := ga.same nb
    refine ⟨pa, pb, _, _, rfl, rfl, nb _ _ upd_same, upd_same, (by have h1 := cl none (some (t : Int)); rw [sizeLine_eq]; show _ + 1 ≤ _; omega), fun pc hpc => ?_⟩
    have nc := same_new hpc (.lst (cutV us none (some (t : Int)) ++ [u]))
    have gc := gb.same nc
    refine ⟨_, rfl, _, rfl, _, rfl, _, _, rfl, rfl, _, _, rfl, rfl, _, rfl, l, us, rfl, SqL.of (dl gc), fun pd hpd => ?_⟩
    have nd := same_new hpd (.lst (cutV us (some ((t : Int) + way - 2)) none))
    have gd' := gc.same nd
    refine ⟨pc, pd, _, _, rfl, rfl, nd _ _ upd_same, upd_same, (by have h1 := cl none (some (t : Int)); have h2 := cl (some ((t : Int) + way - 2)) none; rw [sizeLine_eq, List.length_append]; show _ + 1 + _ ≤ _; omega), fun pe hpe => ?_⟩
    have ne := same_new hpe (.lst (cutV us none (some (t : Int)) ++ [u] ++ cutV us (some ((t : Int) + way - 2)) none))
    have ge := gd'.same ne
    obtain ⟨du1, du2, du3⟩ := du
    refine q pe _ _ (fresh gd' hpe) upd_same (by have h1 := cl none (some (t : Int)); have h2 := cl (some ((t : Int) + way - 2)) none; rw [List.length_append, List.length_append, List.length_singleton]; omega)
      (.cat (.cat (.cut (dd ge) _ _) (.cons ⟨du1, (((((du2.all_keep na).all_keep nb).all_keep nc).all_keep nd).all_keep ne), du3⟩ .nil)) (.cut (dd ge) _ _)) (ge.jar.mono (by omega)) ge.keep
end
end Dz
namespace Dz
open PySem PySem.Spec PyProof.Rows L2 Ty
/-! ### deeds as data that are compared -/
theorem lay_flat {d : PyData} (f : Flat d) : d.canLay0 = true ∧ d.depth = 0 := by
  cases f with
  | non => exact ⟨rfl, rfl⟩
  | int i => exact ⟨rfl, rfl⟩
  | str h => exact ⟨h.ok, rfl⟩
theorem lay_flats : ∀ {ds : List PyData}, (∀ d, d ∈ ds → Flat d) → PyData.canLayAll0 ds = true ∧ PyData.depthAll ds = 0
  | [], _ => ⟨rfl, rfl⟩
  | d :: ds, h => by
    obtain ⟨a, b⟩ := lay_flat (h d List.mem_cons_self)
    obtain ⟨c, e⟩ := lay_flats fun x hx => h x (List.mem_cons_of_mem _ hx)
    constructor
    · show (d.canLay0 && PyData.canLayAll0 ds) = true
      rw [a, c]; rfl
    · show max d.depth (PyData.depthAll ds) = 0
      rw [b, e]; rfl
theorem lay_dd {d : PyData} (f : Dd d) : d.canLay0 = true ∧ d.depth ≤ 1 := by
  cases f with
  | flat h => exact ⟨(lay_flat h).1, by rw [(lay_flat h).2]; omega⟩
  | @lst x h =>
    have := lay_flats (ds := [.str x]) fun d hd => by rw [List.mem_singleton.mp hd]; exact .str h
    exact ⟨this.1, by show PyData.depthAll [.str x] + 1 ≤ 1; rw [this.2]; omega⟩
  | @tup ds hl h =>
    have := lay_flats h
    exact ⟨this.1, by show PyData.depthAll ds + 1 ≤ 1; rw [this.2]; omega⟩
theorem lay_dds : ∀ {ds : List PyData}, (∀ d, d ∈ ds → Dd d) → PyData.canLayAll0 ds = true ∧ PyData.depthAll ds ≤ 1
  | [], _ => ⟨rfl, Nat.zero_le _⟩
  | d :: ds, h => by
    obtain ⟨a, b⟩ := lay_dd (h d List.mem_cons_self)
    obtain ⟨c, e⟩ := lay_dds fun x hx => h x (List.mem_cons_of_mem _ hx)
    constructor
    · show (d.canLay0 && PyData.canLayAll0 ds) = true
      rw [a, c]; rfl
    · show max d.depth (PyData.depthAll ds) ≤ 1
      omega
def both (row : List Str) (ds : List PyData) : PyData := .list [.list (row.map PyData.str), .list ds]
theorem lay_both {row : List Str} {ds : List PyData} (h1 : ∀ x, x ∈ row → Tx x) (h2 : ∀ d, d ∈ ds → Dd d) : (both row ds).canLay0 = true := by
  show (PyData.canLayAll0 (row.map PyData.str) && (PyData.canLayAll0 ds && true)) = true
  rw [lay_strs h1, (lay_dds h2).1]; rfl
theorem shaped_both {row : List Str} {ds : List PyData} (h1 : ∀ x, x ∈ row → Tx x) (h2 : ∀ d, d ∈ ds → Dd d) : SeqAt.shaped (both row ds) = true := by
  show ((both row ds).canLay0 && decide ((both row ds).depth ≤ 64)) = true
  rw [lay_both h1 h2, Bool.true_and]
  refine decide_eq_true ?_
  have := (lay_dds h2).2
  show max (PyData.depthAll (row.map PyData.str) + 1) (max (PyData.depthAll ds + 1) 0) + 1 ≤ 64
  rw [depth_strs]
  omega
mutual
theorem rep_dp {K : PySem.W.Frag} {j : Addr} {H : Hp} : ∀ (d : PyData) (v : V), d.canLay0 = true → Rep j H v d → Dp K H v d
  | .none, _, _, h => by cases h; exact .non
  | .bool _, _, _, h => by cases h; exact .bl _
  | .int _, _, _, h => by cases h; exact .int _
  | .str _, _, _, h => by cases h; exact .str _
  | .list ds, _, c, h => by
    cases h with
    | lst n g e r => exact .lst (SqL.of e) (reps_dp ds _ c r)
  | .tuple ds, _, c, h => by
    cases h with
    | tup n e r => exact .tup (SqT.of e) (reps_dp ds _ c r)
  | .dict _, _, c, _ => by cases c
theorem reps_dp {K : PySem.W.Frag} {j : Addr} {H : Hp} : ∀ (ds : List PyData) (vs : List V), PyData.canLayAll0 ds = true → Reps j H vs ds → DpAll K H vs ds
  | [], _, _, h => by cases h; exact .nil
  | d :: ds, _, c, h => by
    have c' : (d.canLay0 && PyData.canLayAll0 ds) = true := c
    rw [Bool.and_eq_true] at c'
    cases h with
    | cons r t => exact .cons (rep_dp d _ c'.1 r) (reps_dp ds _ c'.2 t)
end
theorem scRight : FnScope ["pot", "tokens", "row", "deeds", "some", "handed", "want", "told", "k"] ["pot"] (defScope sRight) := ⟨rfl, rfl, rfl, by decide +kernel, rfl, by decide +kernel, by decide +kernel⟩
theorem scLaw : FnScope ["script", "k"] ["script"] (defScope sLaw) := ⟨rfl, rfl, rfl, by decide +kernel, rfl, by decide +kernel, by decide +kernel⟩
def spRight : Sp := fun vs H Q _ => ∃ (j : Addr), vs = [.ref j] ∧ Jar j H 0 ∧ ∀ H', Keep j H H' → Q (.bl true) H'
def spLaw (K : PySem.W.Frag) : Sp := fun vs H Q _ => ∃ (a : Addr) (ns : List Int), vs = [.ref a] ∧ SqL K H a (ns.map V.int) ∧ ns.length ≤ 63 ∧ ∀ H', Q (.bl true) H'
theorem zz_one : Tx ("zz" : Str) := txB_ok (by decide +kernel)
theorem no_one : Tx ("" : Str) := txB_ok (by decide +kernel)
def SomeOk (j : Addr) (H : Hp) (v : V) : Prop := ∃ ls us, v = .ref ls ∧ ls ≠ j ∧ H ls = some (.lst us) ∧ DdVs j H us ∧ us.length ≤ 300
theorem SomeOk.keep {j : Addr} {H H' : Hp} {v : V} (s : SomeOk j H v) (k : Keep j H H') : SomeOk j H' v := by
  obtain ⟨ls, us, rfl, n, e, d, l⟩ := s
  exact ⟨ls, us, rfl, n, k _ _ n e, d.keep k, l⟩
section
variable {P : Program} {w : World} {K : PySem.W.Frag} {mg : Str → Option Value} {base : Heap} {f a1 a2 a3 a4 a5 a6 a7 : Addr} {fd d1 d2 d3 d4 d5 d6 d7 : FuncData}
theorem ok_right (F : Fun K "_law_right" "_law_right" sRight f fd)
    (GN : FnOk P w K mg base CX0 2 a1 d1 ["pot", "many"] spNames) (bN : Binds K d1 ["pot", "many"] []) (kN : PySem.W.keepIn K (.ref a1) = true) (mN : mg "_law_names" = some (.ref a1))
    (GP : FnOk P w K mg base CX0 1 a2 d2 ["pot", "many"] spPick) (bP : Binds K d2 ["pot", "many"] []) (kP : PySem.W.keepIn K (.ref a2) = true) (mP : mg "_law_pick" = some (.ref a2))
    (GD : FnOk P w K mg base CX0 2 a3 d3 ["pot", "row", "tokens"] spDeeds) (bD : Binds K d3 ["pot", "row", "tokens"] []) (kD : PySem.W.keepIn K (.ref a3) = true) (mD : mg "_law_deeds" = some (.ref a3))
    (GB : FnOk P w K mg base CX0 2 a4 d4 ["pot", "row", "deeds"] spBad) (bB : Binds K d4 ["pot", "row", "deeds"] []) (kB : PySem.W.keepIn K (.ref a4) = true) (mB : mg "_law_bad" = some (.ref a4))
    (GW : FnOk P w K mg base CX0 2 a5 d5 ["row", "deeds"] spWant) (bW : Binds K d5 ["row", "deeds"] []) (kW : PySem.W.keepIn K (.ref a5) = true) (mW : mg "_law_want" = some (.ref a5))
    (GT : FnOk P w K mg base CX0 4 a6 d6 ["row", "deeds"] spWant) (bT : Binds K d6 ["row", "deeds"] []) (kT : PySem.W.keepIn K (.ref a6) = true) (mT : mg "_law_told" = some (.ref a6))
    (mr : mg "range" = none) (mll : mg "list" = none) (mi : mg "isinstance" = none) (mb : mg "bool" = none) : FnOk P w K mg base CX0 5 f fd ["pot"] spRight := by
  refine F.ok scRight (fun vs H Q E h => ?_) (fun cdv A outer s H vs Q E hr h => ?_)
  · obtain ⟨j, rfl, _⟩ := h
    rfl
  obtain ⟨j, rfl, hj, q⟩ := h
  have hu := hr.units
  have GN' := GN.mono (show 2 ≤ 4 by decide)
  have GP' := GP.mono (show 1 ≤ 4 by decide)
  have GD' := GD.mono (show 2 ≤ 4 by decide)
  have GB' := GB.mono (show 2 ≤ 4 by decide)
  have GW' := GW.mono (show 2 ≤ 4 by decide)
  refine ⟨_, pss_cons (ps_set (i := 1) scRight.nd rfl (.inr rfl) (pe_op op_cat (pe_call GN' hr rfl mN kN bN .nil pass0 (pa_cons (pv 0) (pa_cons pe_int pa_nil))) (pe_lst (pa_cons pe_str pa_nil))))
    (pss_cons (ps_setLc (i := 2) (own := [("k", 8)]) (g := gName 8) (tt := tYes) rfl scRight.nd rfl rfl (sw_true rfl rfl rfl (by decide +kernel)) (pi_range1 rfl mr (pa_cons (pe_call GP' hr rfl mP kP bP .nil pass0 (pa_cons (pv 0) (pa_cons pe_int pa_nil))) pa_nil))
        (blkOk_by (N := ["pot", "tokens", "row", "deeds", "some", "handed", "want", "told", "k"]) (sc := defScope sRight) (by decide +kernel)) (fun _ _ _ _ _ => pg_name (i := 8) scRight.nd rfl (Or.inl rfl)) (fun _ _ _ _ _ => pts_nil)
        (fun _ _ _ _ _ => pe_ix (show IxR _ (rIxL K) from ix_list) (pe_op op_cat (pv 1) (pe_lst (pa_cons pe_str pa_nil))) (pe_call GP' hr rfl mP kP bP .nil pass0 (pa_cons (pv 0) (pa_cons pe_int pa_nil))) (fun _ _ => rfl)))
    (pss_cons (ps_set (i := 3) scRight.nd rfl (.inl rfl) (pe_call GD' hr rfl mD kD bD .nil pass0 (pa_cons (pv 0) (pa_cons (pv 2) (pa_cons (pv 1) pa_nil)))))
    (pss_cons (ps_for PassesOwn.never rfl (pi_list (pe_lst (pa_cons (pv 3) (pa_cons (pe_call GB' hr rfl mB kB bB .nil pass0 (pa_cons (pv 0) (pa_cons (pv 2) (pa_cons (pv 3) pa_nil))))
          (pa_cons (pe_call GB' hr rfl mB kB bB .nil pass0 (pa_cons (pv 0) (pa_cons (pv 2) (pa_cons (pe_call GB' hr rfl mB kB bB .nil pass0 (pa_cons (pv 0) (pa_cons (pv 2) (pa_cons (pv 3) pa_nil)))) pa_nil)))) (pa_cons (pe_lst pa_nil) pa_nil)))))) (pg_name (i := 4) scRight.nd rfl (Or.inl rfl))
      (pss_cons (ps_set (i := 5) scRight.nd rfl (.inl rfl) (pe_lst (pa_cons (pe_callTy call_list_of rfl mll (by decide +kernel) (pa_cons (pv 2) pa_nil)) (pa_cons (pe_callTy call_list_of rfl mll (by decide +kernel) (pa_cons (pv 4) pa_nil)) pa_nil))))
      (pss_cons (ps_set (i := 6) scRight.nd rfl (.inl rfl) (pe_call GW' hr rfl mW kW bW .nil pass0 (pa_cons (pv 2) (pa_cons (pv 4) pa_nil))))
      (pss_cons (ps_set (i := 7) scRight.nd rfl (.inl rfl) (pe_call GT hr rfl mT kT bT .nil pass0 (pa_cons (pe_ix ix_list (pv 5) pe_int (fun _ _ => rfl)) (pa_cons (pe_ix ix_list (pv 5) pe_int (fun _ _ => rfl)) pa_nil))))
      (pss_cons (ps_if (PW.pt (pw_or (pt_val (pe_callB call_isi rfl mi (by decide +kernel) (pa_cons (pv 7) (pa_cons (pe_bltn rfl mb (by decide +kernel) (show RelV (.ty "bool") (.type "bool") from rfl)) pa_nil))))
          (pw_or (pt_cmpR op_ne (pe_callB call_isi rfl mi (by decide +kernel) (pa_cons (pv 7) (pa_cons (pe_bltn rfl mll (by decide +kernel) (show RelV (.ty "list") (.type "list") from rfl)) pa_nil))) (pe_callB call_isi rfl mi (by decide +kernel) (pa_cons (pv 6) (pa_cons (pe_bltn rfl mll (by decide +kernel) (show RelV (.ty "list") (.type "list") from rfl)) pa_nil))) (nomark _))
          (pw_or1 (pt_cmpR (op_neD hu) (pv 7) (pv 6) (nomark _)))))) (pss_one (ps_ret pe_bl)) pss_nil)
      (pss_cons (ps_if (pt_cmpR (op_neD hu) (pv 5) (pe_lst (pa_cons (pv 2) (pa_cons (pv 4) pa_nil))) (nomark _)) (pss_one (ps_ret pe_bl)) pss_nil)
      (pss_one (ps_if (pt_val (pe_callB call_isi rfl mi (by decide +kernel) (pa_cons (pv 7) (pa_cons (pe_bltn rfl mll (by decide +kernel) (show RelV (.ty "list") (.type "list") from rfl)) pa_nil))))
        (pss_cons (ps_expr (pe_bm PySem.F.plainAttrs_list PySem.F.slot_list_append PySem.F.type_list_append mt_append (pv 7) (pa_cons pe_str pa_nil)))
        (pss_one (ps_if (pt_cmpR (op_neD hu) (pe_call GT hr rfl mT kT bT .nil pass0 (pa_cons (pe_ix ix_list (pv 5) pe_int (fun _ _ => rfl)) (pa_cons (pe_ix ix_list (pv 5) pe_int (fun _ _ => rfl)) pa_nil))) (pv 6) (nomark _)) (pss_one (ps_ret pe_bl)) pss_nil))) pss_nil))))))))
    (pss_one (ps_ret pe_bl))))), ?_⟩
  refine ⟨_, rfl, j, 0, rfl, hj, by decide, fun p1 toks4 H1 hp1 e1 l4 t4 j1 k1 => ?_⟩
  have p1j := hj.ne hp1
  refine ⟨(by show 1 ≤ sizeLine; decide), fun p2 hp2 => ?_⟩
  have n2 := same_new hp2 (.lst [.str "zz"])
  refine ⟨p1, p2, _, _, rfl, rfl, n2 _ _ e1, upd_same, (by rw [List.length_map, l4]; decide), fun pt hpt => ?_⟩
  have n3 := same_new hpt (.lst (toks4.map V.str ++ [.str "zz"]))
  have ptj := (j1.keep n2).ne hpt
  have et : (toks4.map V.str ++ [.str "zz"]) = (toks4 ++ [("zz" : Str)]).map V.str := by rw [List.map_append]; rfl
  have e3 : (upd (upd H1 p2 (.lst [.str "zz"])) pt (.lst (toks4.map V.str ++ [.str "zz"]))) pt = some (.lst ((toks4 ++ [("zz" : Str)]).map V.str)) := by rw [upd_same, et]
  have j3 := (j1.keep n2).keep n3
  have k3 : Keep j H (upd (upd H1 p2 (.lst [.str "zz"])) pt (.lst (toks4.map V.str ++ [.str "zz"]))) := k1.trans (Keep.of_same (n2.trans n3))
  have tt : ∀ x, x ∈ toks4 ++ [("zz" : Str)] → Tx x := fun x h => (List.mem_append.mp h).elim (t4 x) (fun h => by rw [List.mem_singleton.mp h]; exact zz_one)
  have lt : (toks4 ++ [("zz" : Str)]).length = 5 := by rw [List.length_append, l4]; rfl
  generalize (upd (upd H1 p2 (.lst [.str "zz"])) pt (.lst (toks4.map V.str ++ [.str "zz"]))) = H3 at *
  generalize (toks4 ++ [("zz" : Str)]) = toks at *
  -- the row
  refine ⟨_, rfl, j, _, 9, rfl, j3, by omega, by decide, by decide, fun r H4 r0 r1 j4 k4 => ⟨_, rfl, by omega, by omega, fun D hD => ?_⟩⟩
  have Dj := j4.ne hD
  have e4 := k4 _ _ ptj e3
  refine lc_range (lo := 0) (n := r.toNat) (fun i H' => ∃ ys : List Str, H' D = some (.lst (ys.map V.str)) ∧ ys.length = i ∧ (∀ y, y ∈ ys → Tx y) ∧ Jar j H' (100 + i) ∧ Keep j H4 H') ⟨[], upd_same, rfl, (fun _ h => by cases h), (j4.keep (same_new hD _)).mono (by omega), keep_new hD _⟩ (fun i H' hi p => ?_) (fun H5 p => ?_)
  · obtain ⟨ys, ey, ly, ty, jy, ky⟩ := p
    refine ⟨rfl, ?_⟩
    simp only [tYes, ↓reduceIte]
    refine ⟨_, rfl, (by show 1 ≤ sizeLine; decide), fun p5 hp5 => ?_⟩
    have n5 := same_new hp5 (.lst [.str ""])
    refine ⟨pt, p5, _, _, rfl, rfl, n5 _ _ (ky _ _ ptj e4), upd_same, (by rw [List.length_map, lt]; decide), fun p6 hp6 => ?_⟩
    have n6 := same_new hp6 (.lst (toks.map V.str ++ [.str ""]))
    have p6j := (jy.keep n5).ne hp6
    refine ⟨_, rfl, j, _, 6, rfl, (jy.keep n5).keep n6, by omega, by decide, by decide, fun r2 H7 r20 r21 j7 k7 => ?_⟩
    obtain ⟨x, x1, tx⟩ := tok_at (toks := toks ++ [("" : Str)]) (fun x h => (List.mem_append.mp h).elim (tt x) (fun h => by rw [List.mem_singleton.mp h]; exact no_one)) r20 (by rw [List.length_append, lt]; exact r21)
    rw [List.map_append] at x1
    have eD := k7 _ _ Dj (n6 _ _ (n5 _ _ ey))
    refine ⟨p6, _, _, _, rfl, rfl, SqL.of (k7 _ _ p6j upd_same), x1, _, eD, (by rw [List.length_map, sizeLine_eq]; omega), ys ++ [x], ?_, ?_, ?_, ?_, ?_⟩
    · rw [upd_same, List.map_append]; rfl
    · rw [List.length_append, ly]; rfl
    · exact fun y hy => (List.mem_append.mp hy).elim (ty y) (fun h => by rw [List.mem_singleton.mp h]; exact tx)
    · obtain ⟨b1, b2, b3, h1, h2⟩ := j7
      exact ⟨b1, b2, b3, by rw [upd_ne (Ne.symm Dj)]; exact h1, h2.1, h2.2.1, by have := h2.2.2; omega⟩
    · intro b o hb ho
      rw [upd_ne (ne_of_none ho hD)]
      exact k7 b o hb (n6 _ _ (n5 _ _ (ky b o hb ho)))
  obtain ⟨row, ey, ly, ty, jy, ky⟩ := p
  have hrl : row.length ≤ 9 := by omega
  have e5 := ky _ _ ptj e4
  -- the deeds
  refine ⟨_, rfl, _, rfl, _, rfl, j, D, pt, _, row, toks, rfl, jy, by omega, Dj, ptj, ey, e5, by omega, lt, ty, tt, fun pd us H6 hpd ed lu du j6 k6 => ?_⟩
  have pdj := jy.ne hpd
  have sd : SomeOk j H6 (.ref pd) := ⟨pd, us, rfl, pdj, ed, du, by omega⟩
  have er6 := k6 _ _ Dj ey
  refine ⟨_, rfl, _, rfl, _, rfl, _, rfl, j, D, pd, _, row, us, rfl, j6, by omega, Dj, pdj, er6, ed, by omega, by omega, ty, du, fun pb us2 H7 hpb eb lb db j7 k7 => ?_⟩
  have pbj := j6.ne hpb
  have sb : SomeOk j H7 (.ref pb) := ⟨pb, us2, rfl, pbj, eb, db, by omega⟩
  have er7 := k7 _ _ Dj er6
  refine ⟨_, rfl, _, rfl, _, rfl, _, rfl, _, rfl, j, D, pd, _, row, us, rfl, j7, by omega, Dj, pdj, er7, k7 _ _ pdj ed, by omega, by omega, ty, du.keep k7, fun pc us3 H8 hpc ec lc dc j8 k8 => ?_⟩
  have pcj := j7.ne hpc
  have er8 := k8 _ _ Dj er7
  refine ⟨j, D, pc, _, row, us3, rfl, j8, by omega, Dj, pcj, er8, ec, by omega, by omega, ty, dc, fun pe us4 H9 hpe ee le de j9 k9 => ?_⟩
  have pej := j8.ne hpe
  have er9 := k9 _ _ Dj er8
  refine ⟨(by show 0 ≤ sizeLine; decide), fun pf hpf => ?_⟩
  have nf := same_new hpf (.lst [])
  have pfj := j9.ne hpf
  refine ⟨(by show 4 ≤ sizeLine; decide), fun pl hpl => ?_⟩
  have nl := same_new hpl (.lst [.ref pd, .ref pb, .ref pe, .ref pf])
  have el : (upd (upd H9 pf (.lst [])) pl (.lst [.ref pd, .ref pb, .ref pe, .ref pf])) pl = some (.lst [.ref pd, .ref pb, .ref pe, .ref pf]) := upd_same
  have eR := nl _ _ (nf _ _ er9)
  have kS : Keep j H (upd (upd H9 pf (.lst [])) pl (.lst [.ref pd, .ref pb, .ref pe, .ref pf])) := k3.trans (k4.trans (ky.trans (k6.trans (k7.trans (k8.trans (k9.trans (Keep.of_same (nf.trans nl))))))))
  have all : ∀ x, x ∈ ([.ref pd, .ref pb, .ref pe, .ref pf] : List V) → SomeOk j (upd (upd H9 pf (.lst [])) pl (.lst [.ref pd, .ref pb, .ref pe, .ref pf])) x := fun x hx => by
    simp only [List.mem_cons, List.not_mem_nil, or_false] at hx
    rcases hx with rfl | rfl | rfl | rfl
    · exact sd.keep (k7.trans (k8.trans (k9.trans (Keep.of_same (nf.trans nl)))))
    · exact sb.keep (k8.trans (k9.trans (Keep.of_same (nf.trans nl))))
    · exact SomeOk.keep ⟨pe, us4, rfl, pej, ee, de, by omega⟩ (Keep.of_same (nf.trans nl))
    · exact SomeOk.keep ⟨pf, [], rfl, pfj, upd_same, .nil, by decide⟩ (Keep.of_same nl)
  generalize (upd (upd H9 pf (.lst [])) pl (.lst [.ref pd, .ref pb, .ref pe, .ref pf])) = HS at *
  refine ⟨pl, rfl, ⟨_, SqL.of el⟩, ?_⟩
  refine for_list (xs := [.ref pd, .ref pb, .ref pe, .ref pf]) (fun i σ H' => (∃ x3 x4 x5 x6 x7 x8, σ = [some (.ref j), some (.ref pt), some (.ref D), x3, x4, x5, x6, x7, x8]) ∧ Same HS H') ⟨⟨_, _, _, _, _, _, rfl⟩, same_refl⟩
    (fun i σ H' _ p => SqL.of (p.2 _ _ el)) (fun i x σ H0 hx p => ?turn) (fun σ H' p => q _ (kS.trans (Keep.of_same p.2)))
  obtain ⟨⟨x3, x4, x5, x6, x7, x8, rfl⟩, s0⟩ := p
  obtain ⟨ls, us, rfl, lsj, eus, ⟨ds, rds, fds⟩, lus⟩ := all x (List.mem_of_getElem? hx)
  have hds := rds.length
  refine ⟨_, rfl, D, _, rfl, .inl (SqL.of (s0 _ _ eR)), fun l1 hl1 => ?_⟩
  have m1 := same_new hl1 (.lst (row.map V.str))
  refine ⟨_, rfl, ls, _, rfl, .inl (SqL.of ((s0.trans m1) _ _ eus)), fun l2 hl2 => ?_⟩
  have m2 := same_new hl2 (.lst us)
  refine ⟨(by show 2 ≤ sizeLine; decide), fun lh hlh => ?_⟩
  have m3 := same_new hlh (.lst [.ref l1, .ref l2])
  have sA := s0.trans (m1.trans (m2.trans m3))
  have eA1 := m3 _ _ (m2 _ _ (show (upd H0 l1 (.lst (row.map V.str))) l1 = some (.lst (row.map V.str)) from upd_same))
  have eA2 := m3 _ _ (show (upd (upd H0 l1 (.lst (row.map V.str))) l2 (.lst us)) l2 = some (.lst us) from upd_same)
  have eAh : (upd (upd (upd H0 l1 (.lst (row.map V.str))) l2 (.lst us)) lh (.lst [.ref l1, .ref l2])) lh = some (.lst [.ref l1, .ref l2]) := upd_same
  generalize (upd (upd (upd H0 l1 (.lst (row.map V.str))) l2 (.lst us)) lh (.lst [.ref l1, .ref l2])) = HA at *
  have twoA : Two j HA D ls row us ds := ⟨sA _ _ eR, sA _ _ eus, rds.all_keep sA, by omega, by omega, ty, fds⟩
  have twoAt : ∀ {H' : Hp}, Same HA H' → Two j H' l1 l2 row us ds := fun sH => ⟨sH _ _ eA1, sH _ _ eA2, rds.all_keep (sA.trans sH), by omega, by omega, ty, fds⟩
  have lay := shaped_both ty fds
  have dpH : ∀ {H' : Hp}, Same HA H' → Dp K H' (.ref lh) (both row ds) := fun sH => .lst (SqL.of (sH _ _ eAh)) (.cons (.lst (SqL.of (sH _ _ eA1)) (dp_strs row)) (.cons (.lst (SqL.of (sH _ _ eA2)) (reps_dp ds us (lay_dds fds).1 (rds.all_keep (sA.trans sH)))) .nil))
  have dpN : ∀ {H' : Hp} {p : Addr}, Same HA H' → H' p = some (.lst [.ref D, .ref ls]) → Dp K H' (.ref p) (both row ds) := fun sH e => .lst (SqL.of e) (.cons (.lst (SqL.of (sH _ _ (sA _ _ eR))) (dp_strs row)) (.cons (.lst (SqL.of (sH _ _ (sA _ _ eus))) (reps_dp ds us (lay_dds fds).1 (rds.all_keep (sA.trans sH)))) .nil))
  have eqvB : PyData.eqv (both row ds) (both row ds) = true := SeqAt.eqv_refl _ (lay_both ty fds)
  refine ⟨_, rfl, _, rfl, j, D, ls, row, us, ds, rfl, twoA, fun out ho pw HB hpw sB ew tx hol => ?_, fun n hn HB sB => ?_⟩
  · -- both answer with a list
    refine ⟨_, rfl, lh, _, _, _, rfl, rfl, SqL.of (sB _ _ eAh), (show atI [V.ref l1, V.ref l2] 0 = some (V.ref l1) from rfl), _, rfl, lh, _, _, _, rfl, rfl, SqL.of (sB _ _ eAh), (show atI [V.ref l1, V.ref l2] 1 = some (V.ref l2) from rfl), j, l1, l2, row, us, ds, rfl, twoAt sB, fun out2 ho2 pq HC hpq sC eq2 tx2 hol2 => ?_, fun n hn => by rw [ho] at hn; cases hn⟩
    have eo : out2 = out := by rw [ho] at ho2; injection ho2 with ho2; exact ho2.symm
    subst eo
    have ewC := sC _ _ ew
    refine ⟨_, rfl, .ref pq, .ty "bool", _, _, _, rfl, .ty _, .base (.lst eq2), kit_ty (show kitB "list" "bool" = some false by decide +kernel), _, rfl, ?_⟩
    refine iteF ?_
    refine ⟨_, rfl, .ref pq, .ty "list", _, _, _, rfl, .ty _, .base (.lst eq2), kit_ty (show kitB "list" "list" = some true by decide +kernel), _, rfl, .ref pw, .ty "list", _, _, _, rfl, .ty _, .base (.lst ewC), kit_ty (show kitB "list" "list" = some true by decide +kernel), rfl, _, rfl, ?_⟩
    rw [show (!decide (V.bl true = V.bl true)) = false from by rw [decide_eq_true rfl]; rfl]
    refine iteF ?_
    refine ⟨_, rfl, _, rfl, .list (out2.map PyData.str), .list (out2.map PyData.str), .lst (SqL.of eq2) (dp_strs out2), .lst (SqL.of ewC) (dp_strs out2), shaped_strs tx, shaped_strs tx, _, rfl, ?_⟩
    rw [eqv_self tx]
    refine iteF ?_
    refine ⟨_, rfl, _, rfl, _, rfl, (by show 2 ≤ sizeLine; decide), fun pn hpn => ?_⟩
    have m5 := same_new hpn (.lst [.ref D, .ref ls])
    have sAC := sB.trans (sC.trans m5)
    refine ⟨both row ds, both row ds, dpH sAC, dpN sAC upd_same, lay, lay, _, rfl, ?_⟩
    rw [eqvB]
    refine iteF ?_
    have eq5 := m5 _ _ eq2
    refine ⟨_, rfl, .ref pq, .ty "list", _, _, _, rfl, .ty _, .base (.lst eq5), kit_ty (show kitB "list" "list" = some true by decide +kernel), _, rfl, ?_⟩
    refine iteT ?_
    refine ⟨_, rfl, .inl ⟨rfl, _, SqL.of eq5⟩, pq, _, _, rfl, rfl, eq5, (by rw [List.length_map, sizeLine_eq]; omega), ?_⟩
    have sE : Same HB (upd (upd HC pn (.lst [.ref D, .ref ls])) pq (.lst (out2.map V.str ++ [.str "zz"]))) := fun b o e => by
      rw [upd_ne (ne_of_none e hpq)]
      exact m5 _ _ (sC _ _ e)
    have sAE := sB.trans sE
    refine ⟨_, rfl, lh, _, _, _, rfl, rfl, SqL.of (sAE _ _ eAh), (show atI [V.ref l1, V.ref l2] 0 = some (V.ref l1) from rfl), _, rfl, lh, _, _, _, rfl, rfl, SqL.of (sAE _ _ eAh), (show atI [V.ref l1, V.ref l2] 1 = some (V.ref l2) from rfl), j, l1, l2, row, us, ds, rfl, twoAt sAE, fun out3 ho3 pz HF hpz sF ez tx3 hol3 => ?_, fun n hn => by rw [ho] at hn; cases hn⟩
    have eo3 : out3 = out2 := by rw [ho] at ho3; injection ho3 with ho3; exact ho3.symm
    subst eo3
    refine ⟨_, rfl, .list (out3.map PyData.str), .list (out3.map PyData.str), .lst (SqL.of ez) (dp_strs out3), .lst (SqL.of (sF _ _ (sE _ _ ew))) (dp_strs out3), shaped_strs tx, shaped_strs tx, _, rfl, ?_⟩
    rw [eqv_self tx]
    exact iteF ⟨⟨_, _, _, _, _, _, rfl⟩, sA.trans (sAE.trans sF)⟩
  · -- both answer with a place
    refine ⟨_, rfl, lh, _, _, _, rfl, rfl, SqL.of (sB _ _ eAh), (show atI [V.ref l1, V.ref l2] 0 = some (V.ref l1) from rfl), _, rfl, lh, _, _, _, rfl, rfl, SqL.of (sB _ _ eAh), (show atI [V.ref l1, V.ref l2] 1 = some (V.ref l2) from rfl), j, l1, l2, row, us, ds, rfl, twoAt sB, (fun out ho => by rw [hn] at ho; cases ho), fun n2 hn2 HC sC => ?_⟩
    have en : n2 = n := by rw [hn] at hn2; injection hn2 with hn2; exact hn2.symm
    subst en
    refine ⟨_, rfl, .int (n2 : Nat), .ty "bool", _, _, _, rfl, .ty _, .base (.int _), kit_ty (show kitB "int" "bool" = some false by decide +kernel), _, rfl, ?_⟩
    refine iteF ?_
    refine ⟨_, rfl, .int (n2 : Nat), .ty "list", _, _, _, rfl, .ty _, .base (.int _), kit_ty (show kitB "int" "list" = some false by decide +kernel), _, rfl, .int (n2 : Nat), .ty "list", _, _, _, rfl, .ty _, .base (.int _), kit_ty (show kitB "int" "list" = some false by decide +kernel), rfl, _, rfl, ?_⟩
    rw [show (!decide (V.bl false = V.bl false)) = false from by rw [decide_eq_true rfl]; rfl]
    refine iteF ?_
    refine ⟨_, rfl, _, rfl, .int (n2 : Nat), .int (n2 : Nat), .int _, .int _, rfl, rfl, _, rfl, ?_⟩
    rw [show PyData.eqv (.int (n2 : Nat)) (.int (n2 : Nat)) = true from SeqAt.eqv_refl _ rfl]
    refine iteF ?_
    refine ⟨_, rfl, _, rfl, _, rfl, (by show 2 ≤ sizeLine; decide), fun pn hpn => ?_⟩
    have m5 := same_new hpn (.lst [.ref D, .ref ls])
    have sAC := sB.trans (sC.trans m5)
    refine ⟨both row ds, both row ds, dpH sAC, dpN sAC upd_same, lay, lay, _, rfl, ?_⟩
    rw [eqvB]
    refine iteF ?_
    refine ⟨_, rfl, .int (n2 : Nat), .ty "list", _, _, _, rfl, .ty _, .base (.int _), kit_ty (show kitB "int" "list" = some false by decide +kernel), _, rfl, ?_⟩
    exact iteF ⟨⟨_, _, _, _, _, _, rfl⟩, sA.trans sAC⟩
theorem ok_law (F : Fun K "law" "law" sLaw f fd)
    (GC : FnOk P w K mg base CX0 1 a1 d1 ["script", "k"] (spCell K)) (bC : Binds K d1 ["script", "k"] []) (kC : PySem.W.keepIn K (.ref a1) = true) (mC : mg "_law_cell_at" = some (.ref a1))
    (GP : FnOk P w K mg base CX0 1 a2 d2 ["cell"] spPot) (bP : Binds K d2 ["cell"] []) (kP : PySem.W.keepIn K (.ref a2) = true) (mP : mg "_law_pot" = some (.ref a2))
    (GR : FnOk P w K mg base CX0 5 a3 d3 ["pot"] spRight) (bR : Binds K d3 ["pot"] []) (kR : PySem.W.keepIn K (.ref a3) = true) (mR : mg "_law_right" = some (.ref a3))
    (mr : mg "range" = none) (mx : mg "max" = none) (mn : mg "min" = none) (ml : mg "len" = none) : FnOk P w K mg base CX0 6 f fd ["script"] (spLaw K) := by
  refine F.ok scLaw (fun vs H Q E h => ?_) (fun cdv A outer s H vs Q E hr h => ?_)
  · obtain ⟨a, ns, rfl, _⟩ := h
    rfl
  obtain ⟨a, ns, rfl, hS, h63, q⟩ := h
  have GC' := GC.mono (show 1 ≤ 5 by decide)
  have GP' := GP.mono (show 1 ≤ 5 by decide)
  refine ⟨_, pss_cons (ps_for PassesOwn.never rfl (pi_range1 rfl mr (pa_cons (pe_callB (call_max2 rfl) rfl mx (by decide +kernel) (pa_cons pe_int (pa_cons (pe_callB (call_min2 rfl) rfl mn (by decide +kernel) (pa_cons pe_int (pa_cons (pe_callB call_len_seq rfl ml PySem.boot_len (pa_cons (pv 0) pa_nil)) pa_nil))) pa_nil))) pa_nil)) (pg_name (i := 1) scLaw.nd rfl (Or.inl rfl))
      (pss_one (ps_if (pt_not (pt_val (pe_call GR hr rfl mR kR bR .nil pass0 (pa_cons (pe_call GP' hr rfl mP kP bP .nil pass0 (pa_cons (pe_call GC' hr rfl mC kC bC .nil pass0 (pa_cons (pv 0) (pa_cons (pv 1) pa_nil))) pa_nil)) pa_nil)))) (pss_one (ps_ret pe_bl)) pss_nil)))
    (pss_one (ps_ret pe_bl)), ?_⟩
  have hm : ∃ m : Int, m = (if (if ((((ns.map V.int).length : Nat) : Int)) < 6 then ((((ns.map V.int).length : Nat) : Int)) else 6) > 1 then (if ((((ns.map V.int).length : Nat) : Int)) < 6 then ((((ns.map V.int).length : Nat) : Int)) else 6) else 1) ∧ 0 ≤ m ∧ m ≤ 30 := by
    refine ⟨_, rfl, ?_, ?_⟩ <;> split <;> (try split) <;> omega
  obtain ⟨m, hm, m0, m30⟩ := hm
  refine ⟨_, rfl, a, _, rfl, .inl hS, _, _, rfl, _, _, rfl, m, congrArg (fun z => [V.int z]) hm.symm, by omega, by omega, ?_⟩
  refine for_range (lo := 0) (n := m.toNat) (fun i σ H' => (∃ x1, σ = [some (.ref a), x1]) ∧ SqL K H' a (ns.map V.int)) ⟨⟨_, rfl⟩, hS⟩ (fun i σ H0 hi p => ?turn) (fun σ H0 p => q _)
  obtain ⟨⟨x1, rfl⟩, hS0⟩ := p
  refine ⟨_, rfl, _, rfl, a, ns, 0 + (i : Int), rfl, hS0, by rw [sizeLine_eq]; omega, by omega, fun z => ⟨z, rfl, fun j H1 hjn s1 hj1 => ⟨j, rfl, hj1, fun H2 k2 => ⟨_, rfl, ?_⟩⟩⟩⟩
  refine iteF ⟨⟨_, rfl⟩, (show Same H0 H2 from fun b o e => k2 b o (ne_of_none e hjn) (s1 b o e)).seq hS0⟩
end
end Dz
namespace Dz
open PySem PySem.Spec PyProof.Rows L2 Ty
theorem kept_at {K : PySem.W.Frag} {d : Addr} {dd : Option Addr} {its : Array Value} {n : Nat} {sl : Array (Option Value)} {t0 t1 t2 t3 t4 : Tok} (hl : K.lookup d = some ⟨.type "tuple", dd, .seq its n, sl⟩)
    (he : its.toList = [.str "word" t0, .str "skip" t1, .str "rule" t2, .str "top" t3, .str "bar" t4]) (H : Hp) : SqT K H d (kept.map V.str) := by
  refine .inr ⟨_, its, n, hl, rfl, rfl, ?_, ?_⟩
  · have : its.toList.length = 5 := by rw [he]; rfl
    have e : its.toList.length = its.size := Array.length_toList
    rw [sizeLine_eq]; omega
  · rw [he]
    exact .cons ⟨_, rfl⟩ (.cons ⟨_, rfl⟩ (.cons ⟨_, rfl⟩ (.cons ⟨_, rfl⟩ (.cons ⟨_, rfl⟩ .nil))))
theorem all_mk {l : PySem.W.OpenLaw} {w : World} {K : PySem.W.Frag} {h : Heap} {mg : Str → Option Value} {fa f1 f2 f3 f4 f5 f6 f7 f8 f9 f10 f11 f12 f13 f14 dK C CY fI : Addr} (X : K.In h) (G : h.Ns mainGlobals mg) (hfa : mg "law" = some (.ref fa))
    {nm q : Str} {NN : Addr} {bs : List Value} {sn : List Str} {sub : List Value} {ab : Bool} {col : Option Bool} {dd : Option Addr} {kx0 kx1 kx2 kx3 kx5 : Option Value}
    {od1 an1 od2 an2 od3 an3 od4 an4 od5 an5 od6 an6 od7 an7 od8 an8 od9 an9 od10 an10 od11 an11 od12 an12 od13 an13 od14 an14 odI anI ddK : Option Addr} {sl1 sl2 sl3 sl4 sl5 sl6 sl7 sl8 sl9 sl10 sl11 sl12 sl13 sl14 slI slK : Array (Option Value)} {oc1 kV1 dc1 pm1 cd1 ct1 oc2 kV2 dc2 pm2 cd2 ct2 oc3 kV3 dc3 pm3 cd3 ct3 oc4 kV4 dc4 pm4 cd4 ct4 oc5 kV5 dc5 pm5 cd5 ct5 oc6 kV6 dc6 pm6 cd6 ct6 oc7 kV7 dc7 pm7 cd7 ct7 oc8 kV8 dc8 pm8 cd8 ct8 oc9 kV9 dc9 pm9 cd9 ct9 oc10 kV10 dc10 pm10 cd10 ct10 oc11 kV11 dc11 pm11 cd11 ct11 oc12 kV12 dc12 pm12 cd12 ct12 oc13 kV13 dc13 pm13 cd13 ct13 oc14 kV14 dc14 pm14 cd14 ct14 ocI dcI pmI kVI cdI ctI : Value} {tL tN t0 t1 t2 t3 t4 : Tok} {zL : Str} {its : Array Value} {nK : Nat}
    (a1 : PySem.W.nsIn K mainGlobals "is_name" = some (some (.ref f1)))
    (l1 : K.lookup f1 = some ⟨oc1, od1, .func (PySem.W.fnOf "is_name" "is_name" (defArgs sName) (defBody sName) (defScope sName) .none kV1 dc1 pm1 an1 cd1 ct1), sl1⟩)
    (c1 : PySem.W.codeIn K cd1 "is_name" = true)
    (k1 : PySem.W.keepIn K (.ref f1) = true)
    (a2 : PySem.W.nsIn K mainGlobals "is_deed" = some (some (.ref f2)))
    (l2 : K.lookup f2 = some ⟨oc2, od2, .func (PySem.W.fnOf "is_deed" "is_deed" (defArgs sDeed) (defBody sDeed) (defScope sDeed) .none kV2 dc2 pm2 an2 cd2 ct2), sl2⟩)
    (c2 : PySem.W.codeIn K cd2 "is_deed" = true)
    (k2 : PySem.W.keepIn K (.ref f2) = true)
    (a3 : PySem.W.nsIn K mainGlobals "mended" = some (some (.ref f3)))
    (l3 : K.lookup f3 = some ⟨oc3, od3, .func (PySem.W.fnOf "mended" "mended" (defArgs sMend) (defBody sMend) (defScope sMend) .none kV3 dc3 pm3 an3 cd3 ct3), sl3⟩)
    (c3 : PySem.W.codeIn K cd3 "mended" = true)
    (k3 : PySem.W.keepIn K (.ref f3) = true)
    (a4 : PySem.W.nsIn K mainGlobals "_law_cell_at" = some (some (.ref f4)))
    (l4 : K.lookup f4 = some ⟨oc4, od4, .func (PySem.W.fnOf "_law_cell_at" "_law_cell_at" (defArgs sCell) (defBody sCell) (defScope sCell) .none kV4 dc4 pm4 an4 cd4 ct4), sl4⟩)
    (c4 : PySem.W.codeIn K cd4 "_law_cell_at" = true)
    (k4 : PySem.W.keepIn K (.ref f4) = true)
    (a5 : PySem.W.nsIn K mainGlobals "_law_pot" = some (some (.ref f5)))
    (l5 : K.lookup f5 = some ⟨oc5, od5, .func (PySem.W.fnOf "_law_pot" "_law_pot" (defArgs sPot) (defBody sPot) (defScope sPot) .none kV5 dc5 pm5 an5 cd5 ct5), sl5⟩)
    (c5 : PySem.W.codeIn K cd5 "_law_pot" = true)
    (k5 : PySem.W.keepIn K (.ref f5) = true)
    (a6 : PySem.W.nsIn K mainGlobals "_law_pick" = some (some (.ref f6)))
    (l6 : K.lookup f6 = some ⟨oc6, od6, .func (PySem.W.fnOf "_law_pick" "_law_pick" (defArgs sPick) (defBody sPick) (defScope sPick) .none kV6 dc6 pm6 an6 cd6 ct6), sl6⟩)
    (c6 : PySem.W.codeIn K cd6 "_law_pick" = true)
    (k6 : PySem.W.keepIn K (.ref f6) = true)
    (a7 : PySem.W.nsIn K mainGlobals "_law_names" = some (some (.ref f7)))
    (l7 : K.lookup f7 = some ⟨oc7, od7, .func (PySem.W.fnOf "_law_names" "_law_names" (defArgs sNames) (defBody sNames) (defScope sNames) .none kV7 dc7 pm7 an7 cd7 ct7), sl7⟩)
    (c7 : PySem.W.codeIn K cd7 "_law_names" = true)
    (k7 : PySem.W.keepIn K (.ref f7) = true)
    (a8 : PySem.W.nsIn K mainGlobals "_law_good_name" = some (some (.ref f8)))
    (l8 : K.lookup f8 = some ⟨oc8, od8, .func (PySem.W.fnOf "_law_good_name" "_law_good_name" (defArgs sGood) (defBody sGood) (defScope sGood) .none kV8 dc8 pm8 an8 cd8 ct8), sl8⟩)
    (c8 : PySem.W.codeIn K cd8 "_law_good_name" = true)
    (k8 : PySem.W.keepIn K (.ref f8) = true)
    (a9 : PySem.W.nsIn K mainGlobals "_law_want" = some (some (.ref f9)))
    (l9 : K.lookup f9 = some ⟨oc9, od9, .func (PySem.W.fnOf "_law_want" "_law_want" (defArgs sWant) (defBody sWant) (defScope sWant) .none kV9 dc9 pm9 an9 cd9 ct9), sl9⟩)
    (c9 : PySem.W.codeIn K cd9 "_law_want" = true)
    (k9 : PySem.W.keepIn K (.ref f9) = true)
    (a10 : PySem.W.nsIn K mainGlobals "_law_deeds" = some (some (.ref f10)))
    (l10 : K.lookup f10 = some ⟨oc10, od10, .func (PySem.W.fnOf "_law_deeds" "_law_deeds" (defArgs sDeeds) (defBody sDeeds) (defScope sDeeds) .none kV10 dc10 pm10 an10 cd10 ct10), sl10⟩)
    (c10 : PySem.W.codeIn K cd10 "_law_deeds" = true)
    (k10 : PySem.W.keepIn K (.ref f10) = true)
    (a11 : PySem.W.nsIn K mainGlobals "_law_bad" = some (some (.ref f11)))
    (l11 : K.lookup f11 = some ⟨oc11, od11, .func (PySem.W.fnOf "_law_bad" "_law_bad" (defArgs sBad) (defBody sBad) (defScope sBad) .none kV11 dc11 pm11 an11 cd11 ct11), sl11⟩)
    (c11 : PySem.W.codeIn K cd11 "_law_bad" = true)
    (k11 : PySem.W.keepIn K (.ref f11) = true)
    (a12 : PySem.W.nsIn K mainGlobals "_law_told" = some (some (.ref f12)))
    (l12 : K.lookup f12 = some ⟨oc12, od12, .func (PySem.W.fnOf "_law_told" "_law_told" (defArgs sTold) (defBody sTold) (defScope sTold) .none kV12 dc12 pm12 an12 cd12 ct12), sl12⟩)
    (c12 : PySem.W.codeIn K cd12 "_law_told" = true)
    (k12 : PySem.W.keepIn K (.ref f12) = true)
    (a13 : PySem.W.nsIn K mainGlobals "_law_right" = some (some (.ref f13)))
    (l13 : K.lookup f13 = some ⟨oc13, od13, .func (PySem.W.fnOf "_law_right" "_law_right" (defArgs sRight) (defBody sRight) (defScope sRight) .none kV13 dc13 pm13 an13 cd13 ct13), sl13⟩)
    (c13 : PySem.W.codeIn K cd13 "_law_right" = true)
    (k13 : PySem.W.keepIn K (.ref f13) = true)
    (a14 : PySem.W.nsIn K mainGlobals "law" = some (some (.ref f14)))
    (l14 : K.lookup f14 = some ⟨oc14, od14, .func (PySem.W.fnOf "law" "law" (defArgs sLaw) (defBody sLaw) (defScope sLaw) .none kV14 dc14 pm14 an14 cd14 ct14), sl14⟩)
    (c14 : PySem.W.codeIn K cd14 "law" = true)
    (k14 : PySem.W.keepIn K (.ref f14) = true)
    (aC : PySem.W.nsIn K mainGlobals "NoDeeds" = some (some (.ref C)))
    (aY : PySem.W.nsIn K mainGlobals "YardError" = some (some (.ref CY)))
    (xC : K.lookup C = some (excClassObj nm q C NN bs [.ref CY, .type "ValueError", .type "Exception", .type "BaseException", .type "object"] true sn sub ab col dd kx0 kx1 kx2 kx3 kx5 "ValueError.__new__"))
    (sa : PySem.W.findIn K (.ref C) "__setattr__" = some (some (.builtin "object.__setattr__")))
    (exC : PySem.W.subIn K (.ref C) (.type "BaseException") = some true)
    (tyC : PySem.W.typeIn K (.ref C) = some (.type "type"))
    (kC : PySem.W.keepIn K (.ref C) = true)
    (noA : PySem.W.findIn K (.ref C) "at" = some none)
    (aI : PySem.W.findIn K (.ref C) "__init__" = some (some (.ref fI)))
    (tI : PySem.W.typeIn K (.ref fI) = some (.type "function"))
    (lI : K.lookup fI = some ⟨ocI, odI, .func (PySem.W.fnOf "__init__" "NoDeeds.__init__" (defArgs sInit) (defBody sInit) (defScope sInit) .none kVI dcI pmI anI cdI ctI), slI⟩)
    (cI : PySem.W.codeIn K cdI "NoDeeds.__init__" = true)
    (kI : PySem.W.keepIn K (.ref fI) = true)
    (rY : PySem.W.readsIn K CY (.type "type") = true)
    (gY : PySem.W.specialIn K (.ref CY) "__getattribute__" = some (some (.builtin "type.__getattribute__")))
    (vY : PySem.W.findCls K (.ref CY) (.type "type") "__init__" = some (.val (.builtin "ValueError.__init__")))
    (eG : PySem.W.findIn K (.ref C) "__getattribute__" = some (some (.builtin "BaseException.__getattribute__")))
    (eK : PySem.W.findIn K (.ref C) "__getattr__" = some none)
    (eD : PySem.W.hasDictIn K C = true)
    (eA : PySem.W.findIn K (.ref C) "__class__" = some (some (.builtin "object.__class__")))
    (eN : PySem.W.specialIn K (.builtin "object.__class__") "__get__" = some (some (.builtin "getset_descriptor.__get__")))
    (eT : PySem.W.takesIn K (.builtin "object.__class__") = some true)
    (eM : PySem.W.mroIn K C (.type "object") = some true)
    (yB : PySem.W.subIn K (.ref CY) (.type "BaseException") = some true)
    (yD : PySem.W.hasDictIn K CY = true)
    (yT : PySem.W.typeIn K (.ref CY) = some (.type "type"))
    (sCY : PySem.W.subIn K (.ref C) (.ref CY) = some true)
    (q1 : PySem.W.kitOne K (.ref C) (.ref C) = some true)
    (q2 : PySem.W.kitOne K (.ref C) (.type "ValueError") = some true)
    (aL : PySem.W.nsIn K mainGlobals "LETTERS" = some (some (.str zL tL)))
    (eL : zL = lettS)
    (aN : PySem.W.nsIn K mainGlobals "LONGEST" = some (some (.int 8 tN)))
    (aK : PySem.W.nsIn K mainGlobals "KEPT" = some (some (.ref dK)))
    (lK : K.lookup dK = some ⟨.type "tuple", ddK, .seq its nK, slK⟩)
    (eKK : its.toList = [.str "word" t0, .str "skip" t1, .str "rule" t2, .str "top" t3, .str "bar" t4])
    (z_isinstance : PySem.W.nsIn K mainGlobals "isinstance" = some none)
    (z_str : PySem.W.nsIn K mainGlobals "str" = some none)
    (z_all : PySem.W.nsIn K mainGlobals "all" = some none)
    (z_tuple : PySem.W.nsIn K mainGlobals "tuple" = some none)
    (z_len : PySem.W.nsIn K mainGlobals "len" = some none)
    (z_max : PySem.W.nsIn K mainGlobals "max" = some none)
    (z_int : PySem.W.nsIn K mainGlobals "int" = some none)
    (z_range : PySem.W.nsIn K mainGlobals "range" = some none)
    (z_list : PySem.W.nsIn K mainGlobals "list" = some none)
    (z_bool : PySem.W.nsIn K mainGlobals "bool" = some none)
    (z_min : PySem.W.nsIn K mainGlobals "min" = some none)
    (z_enumerate : PySem.W.nsIn K mainGlobals "enumerate" = some none)
    (z_ValueError : PySem.W.nsIn K mainGlobals "ValueError" = some none)
    : ∃ fd : FuncData, (∀ (s : Shared) (v : Value), BindsTo s fd ⟨[v], []⟩ [("script", v)]) ∧ ∀ base : Heap, K.In base → base.Ns mainGlobals mg → FnOk l.prog w K mg base CX0 6 fa fd ["script"] (spLaw K) := by
  subst eL
  have e := hfa.symm.trans (PySem.W.mg_of X G a14)
  cases e
  have F1 := fun_mk (st := sName) l1 c1 k1
  have b1 := F1.binds (ps := ["thing"]) fun _ _ _ _ _ _ us hl => match us, hl with | [_], _ => rfl
  have m1 := PySem.W.mg_of X G a1
  have F2 := fun_mk (st := sDeed) l2 c2 k2
  have b2 := F2.binds (ps := ["thing"]) fun _ _ _ _ _ _ us hl => match us, hl with | [_], _ => rfl
  have m2 := PySem.W.mg_of X G a2
  have F3 := fun_mk (st := sMend) l3 c3 k3
  have b3 := F3.binds (ps := ["row", "deeds"]) fun _ _ _ _ _ _ us hl => match us, hl with | [_, _], _ => rfl
  have m3 := PySem.W.mg_of X G a3
  have F4 := fun_mk (st := sCell) l4 c4 k4
  have b4 := F4.binds (ps := ["script", "k"]) fun _ _ _ _ _ _ us hl => match us, hl with | [_, _], _ => rfl
  have m4 := PySem.W.mg_of X G a4
  have F5 := fun_mk (st := sPot) l5 c5 k5
  have b5 := F5.binds (ps := ["cell"]) fun _ _ _ _ _ _ us hl => match us, hl with | [_], _ => rfl
  have m5 := PySem.W.mg_of X G a5
  have F6 := fun_mk (st := sPick) l6 c6 k6
  have b6 := F6.binds (ps := ["pot", "many"]) fun _ _ _ _ _ _ us hl => match us, hl with | [_, _], _ => rfl
  have m6 := PySem.W.mg_of X G a6
  have F7 := fun_mk (st := sNames) l7 c7 k7
  have b7 := F7.binds (ps := ["pot", "many"]) fun _ _ _ _ _ _ us hl => match us, hl with | [_, _], _ => rfl
  have m7 := PySem.W.mg_of X G a7
  have F8 := fun_mk (st := sGood) l8 c8 k8
  have b8 := F8.binds (ps := ["kind"]) fun _ _ _ _ _ _ us hl => match us, hl with | [_], _ => rfl
  have m8 := PySem.W.mg_of X G a8
  have F9 := fun_mk (st := sWant) l9 c9 k9
  have b9 := F9.binds (ps := ["row", "deeds"]) fun _ _ _ _ _ _ us hl => match us, hl with | [_, _], _ => rfl
  have m9 := PySem.W.mg_of X G a9
  have F10 := fun_mk (st := sDeeds) l10 c10 k10
  have b10 := F10.binds (ps := ["pot", "row", "tokens"]) fun _ _ _ _ _ _ us hl => match us, hl with | [_, _, _], _ => rfl
  have m10 := PySem.W.mg_of X G a10
  have F11 := fun_mk (st := sBad) l11 c11 k11
  have b11 := F11.binds (ps := ["pot", "row", "deeds"]) fun _ _ _ _ _ _ us hl => match us, hl with | [_, _, _], _ => rfl
  have m11 := PySem.W.mg_of X G a11
  have F12 := fun_mk (st := sTold) l12 c12 k12
  have b12 := F12.binds (ps := ["row", "deeds"]) fun _ _ _ _ _ _ us hl => match us, hl with | [_, _], _ => rfl
  have m12 := PySem.W.mg_of X G a12
  have F13 := fun_mk (st := sRight) l13 c13 k13
  have b13 := F13.binds (ps := ["pot"]) fun _ _ _ _ _ _ us hl => match us, hl with | [_], _ => rfl
  have m13 := PySem.W.mg_of X G a13
  have F14 := fun_mk (st := sLaw) l14 c14 k14
  have FI := fun_mk (st := sInit) lI cI kI
  have bI := FI.binds (ps := ["self", "at"]) fun _ _ _ _ _ _ us hl => match us, hl with | [_, _], _ => rfl
  have mC := PySem.W.mg_of X G aC
  have mY := PySem.W.mg_of X G aY
  have mL := PySem.W.mg_of X G aL
  have mN := PySem.W.mg_of X G aN
  have mK := PySem.W.mg_of X G aK
  have y_isinstance := PySem.W.mg_none_of X G z_isinstance
  have y_str := PySem.W.mg_none_of X G z_str
  have y_all := PySem.W.mg_none_of X G z_all
  have y_tuple := PySem.W.mg_none_of X G z_tuple
  have y_len := PySem.W.mg_none_of X G z_len
  have y_max := PySem.W.mg_none_of X G z_max
  have y_int := PySem.W.mg_none_of X G z_int
  have y_range := PySem.W.mg_none_of X G z_range
  have y_list := PySem.W.mg_none_of X G z_list
  have y_bool := PySem.W.mg_none_of X G z_bool
  have y_min := PySem.W.mg_none_of X G z_min
  have y_enumerate := PySem.W.mg_none_of X G z_enumerate
  have y_ValueError := PySem.W.mg_none_of X G z_ValueError
  have T : OexC K C := ⟨⟨nm, q, NN, bs, _, sn, sub, ab, col, dd, kx0, kx1, kx2, kx3, kx5, xC, rfl⟩, sa, exC, tyC, kC⟩
  have EC : ExcC K C := ⟨eG, eK, exC, eD, eA, eN, eT, eM⟩
  have XT : XfC K C := ⟨eG, eK, exC, eD⟩
  have te := PySem.W.exm_ref yB yD yT sCY
  refine ⟨PySem.W.fnOf "law" "law" (defArgs sLaw) (defBody sLaw) (defScope sLaw) .none kV14 dc14 pm14 an14 cd14 ct14, fun s v => .of_eq rfl, fun base _ _ => ?_⟩
  have Oi := ok_init (P := l.prog) (w := w) (base := base) (C := C) FI mY ⟨rY, gY⟩ vY
  have On := ok_name (P := l.prog) (w := w) (base := base) F1 mL mN mK (kept_at lK eKK) y_isinstance y_str y_len y_all
  have Od := ok_deed F2 On b1 k1 m1 y_isinstance y_tuple y_len
  have Om := ok_mend F3 Od b2 k2 m2 T noA aI tI Oi bI mC y_list y_enumerate y_len
  have Oc := ok_cell (P := l.prog) (w := w) (base := base) F4 y_len
  have Op := ok_pot (P := l.prog) (w := w) (base := base) F5 y_max
  have Ok := ok_pick (P := l.prog) (w := w) (mg := mg) (base := base) F6
  have Onn := ok_names F7 Ok b6 k6 m6 y_range
  have Og := ok_good (P := l.prog) (w := w) (base := base) F8 y_isinstance y_str y_len y_all
  have Ow := ok_want F9 Og b8 k8 m8 y_range y_len y_isinstance y_tuple y_str y_int y_list
  have Ods := ok_deeds F10 Ok b6 k6 m6 y_range y_len
  have Ob := ok_bad F11 Ok b6 k6 m6 y_len
  have Ot := ok_told F12 Om b3 k3 m3 mC mY y_ValueError y_isinstance EC XT noA te q1 q2
  have Or := ok_right F13 Onn b7 k7 m7 Ok b6 k6 m6 Ods b10 k10 m10 Ob b11 k11 m11 Ow b9 k9 m9 Ot b12 k12 m12 y_range y_list y_isinstance y_bool
  exact ok_law F14 Oc b4 k4 m4 Op b5 k5 m5 Or b13 k13 m13 y_range y_max y_min y_len
theorem walk {l : PySem.W.OpenLaw} {q : Program} {loose : List Str} {XP : (Str → Option Value) → Heap → Prop} {YP : World → Heap → Prop} {d : DefRec} {K : Params → PySem.W.Frag} (hn : l.most = some 63) (hdf : d.params.defaults = [])
    (hY : ∀ (w : World) (h : Heap), YP w h → (K w.params).In h)
    (F : ∀ (w : World) (mg : Str → Option Value) (fa : Addr) (h : Heap), (K w.params).In h → h.Ns mainGlobals mg → mg d.name = some (.ref fa) →
      ∃ fd : FuncData, (∀ (s : Shared) (u : Value), BindsTo s fd ⟨[u], []⟩ [("script", u)]) ∧ ∀ base : Heap, (K w.params).In base → base.Ns mainGlobals mg → FnOk l.prog w (K w.params) mg base CX0 6 fa fd ["script"] (spLaw (K w.params))) :
    PySem.W.WalkO q loose XP YP l.row.toRowW d [] (fun f vs => PySem.call f vs) :=
  L2.walk_of (n := 63) (k := 6) (x := "script") (CX := fun _ => CX0) (sp := fun w => spLaw (K w.params)) hn (by decide) hdf ⟨rfl, by decide, by decide⟩ hY F (fun _ _ a ns hl _ hS => ⟨a, ns, rfl, hS, hl, fun _ => rfl⟩) fun _ _ _ _ _ z => z
end Dz
open PySem PySem.W PyProof.Rows
set_option maxRecDepth 100000 in
set_option maxHeartbeats 0 in
theorem PySem.Challenge.cw_tongueyard_k49_deeds_done_holds : PySem.Challenge.rw_tongueyard_k49_deeds_done.Holds := by
  w_on; o_law; k_head; (case hw => w_witness2)
  k_fill
  refine Dz.walk (l := PySem.Challenge.rw_tongueyard_k49_deeds_done) rfl rfl (fun w h Y => PySem.W.kIn_of Y) ?F
  case F =>
    intro w mg fa h KX G hmg
    refine' Dz.all_mk KX G hmg ?a1 ?l1 ?c1 ?k1 ?a2 ?l2 ?c2 ?k2 ?a3 ?l3 ?c3 ?k3 ?a4 ?l4 ?c4 ?k4 ?a5 ?l5 ?c5 ?k5 ?a6 ?l6 ?c6 ?k6 ?a7 ?l7 ?c7 ?k7 ?a8 ?l8 ?c8 ?k8 ?a9 ?l9 ?c9 ?k9 ?a10 ?l10 ?c10 ?k10 ?a11 ?l11 ?c11 ?k11 ?a12 ?l12 ?c12 ?k12 ?a13 ?l13 ?c13 ?k13 ?a14 ?l14 ?c14 ?k14 ?aC ?aY ?xC ?sa ?exC ?tyC ?kC ?noA ?aI ?tI ?lI ?cI ?kI ?rY ?gY ?vY ?eG ?eK ?eD ?eA ?eN ?eT ?eM ?yB ?yD ?yT ?sCY ?q1 ?q2 ?aL ?eL ?aN ?aK ?lK ?eKK ?z_isinstance ?z_str ?z_all ?z_tuple ?z_len ?z_max ?z_int ?z_range ?z_list ?z_bool ?z_min ?z_enumerate ?z_ValueError
    (case a1 => k_is)
    (case l1 => k_is)
    (case c1 => k_is)
    (case k1 => k_is)
    (case a2 => k_is)
    (case l2 => k_is)
    (case c2 => k_is)
    (case k2 => k_is)
    (case a3 => k_is)
    (case l3 => k_is)
    (case c3 => k_is)
    (case k3 => k_is)
    (case a4 => k_is)
    (case l4 => k_is)
    (case c4 => k_is)
    (case k4 => k_is)
    (case a5 => k_is)
    (case l5 => k_is)
    (case c5 => k_is)
    (case k5 => k_is)
    (case a6 => k_is)
    (case l6 => k_is)
    (case c6 => k_is)
    (case k6 => k_is)
    (case a7 => k_is)
    (case l7 => k_is)
    (case c7 => k_is)
    (case k7 => k_is)
    (case a8 => k_is)
    (case l8 => k_is)
    (case c8 => k_is)
    (case k8 => k_is)
    (case a9 => k_is)
    (case l9 => k_is)
    (case c9 => k_is)
    (case k9 => k_is)
    (case a10 => k_is)
    (case l10 => k_is)
    (case c10 => k_is)
    (case k10 => k_is)
    (case a11 => k_is)
    (case l11 => k_is)
    (case c11 => k_is)
    (case k11 => k_is)
    (case a12 => k_is)
    (case l12 => k_is)
    (case c12 => k_is)
    (case k12 => k_is)
    (case a13 => k_is)
    (case l13 => k_is)
    (case c13 => k_is)
    (case k13 => k_is)
    (case a14 => k_is)
    (case l14 => k_is)
    (case c14 => k_is)
    (case k14 => k_is)
    (case aC => k_is)
    (case aY => k_is)
    (case xC => k_is)
    (case sa => k_is)
    (case exC => k_is)
    (case tyC => k_is)
    (case kC => k_is)
    (case noA => k_is)
    (case aI => k_is)
    (case tI => k_is)
    (case lI => k_is)
    (case cI => k_is)
    (case kI => k_is)
    (case rY => k_is)
    (case gY => k_is)
    (case vY => k_is)
    (case eG => k_is)
    (case eK => k_is)
    (case eD => k_is)
    (case eA => k_is)
    (case eN => k_is)
    (case eT => k_is)
    (case eM => k_is)
    (case yB => k_is)
    (case yD => k_is)
    (case yT => k_is)
    (case sCY => first | rfl | k_is)
    (case q1 => first | rfl | k_is)
    (case q2 => first | rfl | k_is)
    (case aL => k_is)
    (case eL => decide +kernel)
    (case aN => k_is)
    (case aK => k_is)
    (case lK => k_is)
    (case eKK => rfl)
    (case z_isinstance => k_is)
    (case z_str => k_is)
    (case z_all => k_is)
    (case z_tuple => k_is)
    (case z_len => k_is)
    (case z_max => k_is)
    (case z_int => k_is)
    (case z_range => k_is)
    (case z_list => k_is)
    (case z_bool => k_is)
    (case z_min => k_is)
    (case z_enumerate => k_is)
    (case z_ValueError => k_is)
#print axioms PySem.Challenge.cw_tongueyard_k49_deeds_done_holds
