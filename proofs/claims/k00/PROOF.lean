import PyProof.Rows.All
import Wide.All
import OpenK.AllK
import Wide.FinOn
import HandS.ForMost
import HandS.Wide
import HandS.IsInst
import HandS.TupAny
import HandS.Walk
import HandS.SetKeys
import HandS.ExcValue
import KE.KUnpackStar
import KE.KRevSl
import KE.GoesZip
import KE.GoesMore
import HandS.Set
import HandS.More
import PySem.Challenge.RW_tongueyard_k00_which_are_patterns
set_option Elab.async false
set_option linter.all false
set_option maxRecDepth 100000
/-! own rules over the hand layer: powers of wide ints, a starred name behind one name, texts and tuples turned round -/
namespace Ty
open PySem PySem.Spec PyProof.Rows L2
section
variable {X : Cx}
/-- a ** b of wide ints: few bits in all -/
def CPowW (i j : Int) : Prop := 0 ≤ j ∧ (i.natAbs.log2 + 1) * j.toNat ≤ 1000000
theorem bits_le_log (i : Int) : Builtin.Int.intBits i ≤ i.natAbs.log2 + 1 := by
  unfold Builtin.Int.intBits
  split <;> omega
theorem op_powW : OpR X (binaryOp .Pow) (rI CPowW fun i j => .int (i ^ j.toNat)) := opI fun i j t u s Q E hc q => by
  obtain ⟨h0, h1⟩ := hc
  refine pow_int h0 ?_ q
  have e : j = ((j.toNat : Nat) : Int) := by omega
  have h2 : Builtin.Int.intBits i * j.toNat ≤ 1000000 := Nat.le_trans (Nat.mul_le_mul_right _ (bits_le_log i)) h1
  have h3 : ((Builtin.Int.intBits i : Nat) : Int) * ((j.toNat : Nat) : Int) ≤ 1000000 := by
    have := Int.ofNat_le.mpr h2
    simpa using this
  rw [← e] at h3
  omega
theorem powW_of {i : Int} {k n : Nat} (h : i.natAbs < 2 ^ n) (h0 : 0 < n) (hk : n * k ≤ 1000000) : CPowW i (k : Int) := by
  refine ⟨by omega, ?_⟩
  have x := PySem.Flt.log2_lt_of h0 h
  have : (i.natAbs.log2 + 1) * ((k : Int)).toNat ≤ n * k := by
    rw [Int.toNat_natCast]
    exact Nat.mul_le_mul_right _ x
  omega
/-- where something is tracked there is an object -/
theorem there {P : Program} {w : World} {H : Hp} {h : Heap} {a : Addr} {o : HO} (x : ObjOk P w H h a o) : ∃ u, h.get? a = some u := by
  cases o with
  | lst xs => obtain ⟨_, _, _, _, e⟩ := x; exact ⟨_, e⟩
  | tup xs => obtain ⟨_, _, _, q, e, _⟩ := x; exact ⟨q, e⟩
  | dK kvs => obtain ⟨_, _, _, _, q, _, _, e, _⟩ := x; exact ⟨q, e⟩
  | dT kvs => obtain ⟨_, _, _, _, q, _, _, e, _⟩ := x; exact ⟨q, e⟩
  | set S n => obtain ⟨q, _, _, _, e, _⟩ := x; exact ⟨q, e⟩
  | ins C dx fs => obtain ⟨_, _, _, e, _⟩ := x; exact ⟨_, e⟩
  | own y => exact x
  | xd fs => obtain ⟨_, ⟨q, _, _, e, _⟩, _⟩ := x; exact ⟨q, e⟩
  | rng lo hi => obtain ⟨_, _, _, e⟩ := x; exact ⟨_, e⟩
  | frz ob u => exact ⟨ob, x.1⟩
  | tbl ps => exact ⟨_, (show h.get? a = some _ from x)⟩
  | met f y => exact ⟨_, (show h.get? a = some _ from x)⟩
  | ext φ => exact x.2.1
/-- a new object where the heap had none: all that stood stands, the new one is tracked -/
theorem laidG {pins : List (Addr × Obj)} {σ : L2.St} {H : Hp} {s : Shared} {g : Heap} {o : HO} {ob : Obj} {tk : Nat} (I : Inv X pins σ H s) (k : ∀ b u, s.heap.get? b = some u → g.get? b = some u)
    (new : ObjOk X.prog X.w (upd H g.objs.size o) (g.push ob) g.objs.size o) : H g.objs.size = none ∧ Inv X pins σ (upd H g.objs.size o) { s with heap := g.push ob, toks := tk } := by
  have hp : s.heap.get? g.objs.size = none := by
    cases e : s.heap.get? g.objs.size with
    | none => rfl
    | some u => exact absurd (Heap.lt_size (k _ _ e)) (Nat.lt_irrefl _)
  have hn : H g.objs.size = none := by
    cases e : H g.objs.size with
    | none => rfl
    | some u =>
      obtain ⟨q, eq⟩ := there (I.hok _ _ e)
      rw [hp] at eq
      cases eq
  exact ⟨hn, I.laidN (t' := tk) (fun b u e => Heap.get?_push_of_some _ (k b u e)) hp hn new⟩
/-- a tuple of one item or more, drawn into its first item and a new list of the others -/
theorem unpack_head {prog : Program} {w : World} {A : Around} {E : Value → Shared → Prop} {s : Shared} {t : Addr} {x : Value} {xs : List Value} {Q : List Value → Shared → Prop} (hh : A.handled = none)
    (ht : IsTup s.heap t (x :: xs).toArray) (hz : xs.length ≤ 16000)
    (h : ∀ (g : Heap) (tk : Nat), (∀ b o, s.heap.get? b = some o → g.get? b = some o) → Q [x, .ref g.objs.size] { s with heap := g.push { cls := .type "list", data := .seq xs.toArray }, toks := tk }) :
    wpAny (model prog w) A (unpackItems (.ref t) 2 (some 1)) Q E s := by
  have hlt : t < s.heap.objs.size := by obtain ⟨o, ho, _⟩ := ht; exact Heap.lt_size ho
  have hne : t ≠ s.heap.objs.size := Nat.ne_of_lt hlt
  have hsz : (x :: xs).toArray.size = xs.length + 1 := by simp
  unfold unpackItems
  refine wpAny_bind ?_
  unfold notIterableAtAll
  refine wpAny_bind (wpAny_specialOf ht.typeIs slot_tuple_iter.lookup (wpAny_pure ?_))
  simp only [Bool.false_eq_true, if_false]
  refine wpAny_bind (wpAny_holding (iter_tuple ht ?_))
  refine wpAny_bind (wpAny_holding (draw_tuple hne 1 0 _ _ ⟨_, Heap.get?_push_size _ rfl, rfl, rfl⟩ (ht.push _) (by omega) fun g1 it1 same1 => ?_))
  have ht1 : IsTup g1 t (x :: xs).toArray := (ht.push _).extBut same1.extBut hne
  have ht1' := ht1
  have it1' := it1
  obtain ⟨ot, hot, _⟩ := ht1'
  obtain ⟨oi, hoi, _⟩ := it1'
  show wpAny _ _ (if ([x] : List Value).length < 1 then _ else _) _ _ _
  rw [if_neg (show ¬ ([x] : List Value).length < 1 from Nat.lt_irrefl 1)]
  refine wpAny_bind (wpAny_holding (PySem.W.kun_collect (s := { s with heap := g1 }) (T := "tuple_iterator") (.inr (.inr (.inr rfl))) (Walks.tuple (A := A.in1) hh s.heap.objs.size t hne (x :: xs).toArray) (fun j u st => st.1.typeIs) (k := 1) (by omega) ⟨it1, ht1⟩ (Heap.lt_size hoi) (Heap.lt_size hot) (fun g2 tk kp => ?_) (by rw [sizeLine_eq]; omega)))
  show wpAny _ _ (if xs.length < 0 then _ else _) _ _ _
  rw [if_neg (by omega)]
  show wpAny _ _ (newList (xs.take (xs.length - 0)) >>= fun d => pure ([x] ++ [d] ++ xs.drop (xs.length - 0))) _ _ _
  rw [Nat.sub_zero, List.take_length, List.drop_length]
  have kp2 : ∀ b o, s.heap.get? b = some o → g2.get? b = some o := fun b o e =>
    have hb : b ≠ s.heap.objs.size := Nat.ne_of_lt (Heap.lt_size e)
    kp b o hb (same1.extBut b o hb (Heap.get?_push_of_some _ e))
  exact wpAny_bind (wpAny_newList (wpAny_pure (h g2 tk kp2)) (by rw [sizeLine_eq]; omega))
/-- (name, *names) = a tuple of one item or more -/
def gStar1 (K : PySem.W.Frag) (g : TG) (g2 : TG) : TG := fun v σ H Q => ∃ a x xs, v = .ref a ∧ SqT K H a (x :: xs) ∧ xs.length ≤ 16000 ∧
  ∀ D, H D = none → g x σ (upd H D (.lst xs)) fun σ1 H1 => g2 (.ref D) σ1 H1 Q
theorem pg_star1 {e1 e2 : Expr} {g g2 : TG} {k : Nat} {sp pos : Pos} (hc : X.calm = true) (h1 : PG X e1 g) (h2 : PG X e2 g2)
    (hs : assignEach [e1, .Starred e2 sp] X.env = [(false, assign e1 X.env), (true, assign e2 X.env)] := by rfl) : PG X (.Tuple [e1, .Starred e2 sp] k pos) (gStar1 X.K g g2) := by
  refine ⟨fun pins s σ H v u Q I r hw => ?_⟩
  obtain ⟨a, x, xs, rfl, hq, hl, hw⟩ := hw
  cases r
  obtain ⟨its, rv, ht, hz⟩ := I.tuple hq
  cases rv with
  | @cons _ u1 _ us r1 rr =>
    have hlen := Paired.length rr
    rw [assign_Tuple]
    refine wpAny_bind (wpAny_standAt ?_)
    unfold unpack
    rw [hs]
    refine wpAny_bind (wpAny_holding (unpack_head (I.ok.hd hc) ht (by omega) fun g1 tk kp => ?_))
    obtain ⟨hn, I1⟩ := laidG (o := .lst xs) (ob := { cls := .type "list", data := .seq us.toArray }) (tk := tk) I kp ⟨by rw [sizeLine_eq]; omega, us, 0, rr, Heap.get?_push_size _ rfl⟩
    refine assignInOrder_cons (thn (h1.run pins _ σ _ x u1 _ I1 r1 (hw _ hn)) fun _ s1 ⟨σ1, H1, J1, q1⟩ => ?_)
    exact assignInOrder_cons (thn (h2.run pins s1 σ1 H1 (.ref g1.objs.size) _ Q J1 rfl q1) fun _ s2 ⟨σ2, H2, J2, q2⟩ => assignInOrder_nil ⟨σ2, H2, J2, q2⟩)
end
end Ty
namespace Ty
open PySem PySem.Spec PyProof.Rows L2
section
variable {X : Cx}
/-- the turned text -/
def revS (z : Str) : Str := ⟨z.cps.toList.reverse.toArray⟩
theorem revS_is (z : Str) (u : Tok) : Txt.sliceBy z none none (-1, u) = revS z := by
  have h := step_rev_list z u
  apply str_of_list
  rw [h]
  show _ = z.cps.toList.reverse.toArray.toList
  rw [List.toList_toArray]
  apply List.ext_getElem
  · simp [Str.length]
  · intro i h1 h2
    have h3 : i < z.cps.size := by simpa using h2
    have h4 : z.cps.size - 1 - i < z.cps.size := by omega
    simp [Str.length, Array.getD, h4]
/-- the parts of [::-1], evaluated -/
theorem part_back {σ : L2.St} {H : Hp} {pins : List (Addr × Obj)} {s : Shared} {k : Nat} {p1 p2 : Pos} (I : Inv X pins σ H s) {Q : Value → Shared → Prop}
    (h : ∀ (vs : Value) (u : Tok) (s4 : Shared), vs = .int (-1) u → Inv X pins σ H s4 → Q vs s4) : wpAny (model X.prog X.w) X.A (evalPart (some (.UnaryOp .USub (.Constant (.int 1) k p1) p2)) X.env) Q X.xe s := by
  have hst : PO X (some (.UnaryOp .USub (.Constant (.int 1) k p1) p2)) (tPart (tUn (rU fun i => .int (-i)) (tC (.int 1)))) := po_some (pe_un un_neg pe_int)
  refine thn (hst.run pins s σ H (fun o H4 => o = some (-1) ∧ H4 = H) I ⟨1, rfl, -1, rfl, rfl, rfl⟩) fun v s4 hv => ?_
  obtain ⟨o, H4, I4, ps, rfl, rfl⟩ := hv
  cases ps with
  | int i t => exact h _ t s4 rfl I4
/-- e[::-1] of a text -/
def tRevS (te : TE) : TE := fun σ H Q => te σ H fun x H1 => ∃ z, x = .str z ∧ z.length ≤ sizeLine ∧ Q (.str (revS z)) H1
theorem pe_revS {e : Expr} {te : TE} {k : Nat} {p1 p2 p3 pos : Pos} (he : PE X e te) : PE X (.Subscript e (.Slice none none (some (.UnaryOp .USub (.Constant (.int 1) k p1) p2)) p3) pos) (tRevS te) := by
  refine ⟨fun pins s σ H Q I h => ?_⟩
  refine Subscript_ (thn (he.run pins s σ H _ I h) fun v s1 hv => ?_)
  obtain ⟨x, H1, I1, r1, z, rfl, hz, q⟩ := hv
  obtain ⟨t, rfl⟩ := r1
  refine wpAny_Slice (thn (po_none.run pins s1 σ H1 (fun o H2 => o = none ∧ H2 = H1) I1 ⟨rfl, rfl⟩) fun vl s2 hv => ?_)
  obtain ⟨o1, H2, I2, pl, rfl, rfl⟩ := hv
  refine thn (po_none.run pins s2 σ H2 (fun o H3 => o = none ∧ H3 = H2) I2 ⟨rfl, rfl⟩) fun vu s3 hv => ?_
  obtain ⟨o2, H3, I3, pu, rfl, rfl⟩ := hv
  refine part_back I3 fun vs u s4 ev I4 => ?_
  subst ev
  cases pl
  cases pu
  have I5 : Inv X pins σ H3 { s4 with heap := s4.heap.push { cls := .type "slice", data := .fields #[.none, .none, .int (-1) u] } } := I4.kept (t' := s4.toks) fun b ob q => Heap.get?_push_of_some _ q
  refine tail_any (ops := [.ref s4.heap.objs.size, .str z t]) (typeIs_str _ z t) F.slot_str_getitem.lookup ?_ (by with_unfolding_all rfl)
  refine wpAny_getItem_str_slice (l := none) (u := none) (st := some (-1, u)) ⟨_, Heap.get?_push_size _ rfl, rfl, rfl⟩ rfl ?_
  refine post_val_or_str ⟨?_, fun t' c => ?_⟩
  · exact Nat.le_trans (Txt.sliceBy_le z none none (-1, u) (show (-1 : Int) ≠ 0 by decide)) hz
  · exact ⟨.str (revS z), H3, I5.tok c, ⟨t', by rw [← revS_is z u]; rfl⟩, q⟩
/-! ### a tuple turned round -/
theorem filterMap_same {α β : Type} {f g : α → Option β} : ∀ (l : List α), (∀ x ∈ l, f x = g x) → l.filterMap f = l.filterMap g
  | [], _ => rfl
  | x :: l, h => by
    rw [List.filterMap_cons, List.filterMap_cons, h x List.mem_cons_self, filterMap_same l fun y hy => h y (List.mem_cons_of_mem _ hy)]
theorem places_back (n : Nat) : Builtin.Slice.slicePlaces ((n : Int) - 1) (-1) (-1) = n := by
  unfold Builtin.Slice.slicePlaces
  rw [if_neg (by decide)]
  by_cases h : (n : Int) - 1 > -1
  · rw [if_pos h]
    have e : (-(-1 : Int)) = 1 := rfl
    rw [e, Int.ediv_one]
    omega
  · rw [if_neg h]
    omega
theorem pick_back {α : Type} (l : List α) : ((List.range l.length).filterMap fun (k : Nat) => l.toArray[((l.length : Int) - 1 + (k : Int) * (-1)).toNat]?) = l.reverse := by
  have e : ((List.range l.length).filterMap fun (k : Nat) => l.toArray[((l.length : Int) - 1 + (k : Int) * (-1)).toNat]?) = ((List.range l.length).map fun k => l.length - 1 - k).filterMap (l[·]?) := by
    rw [List.filterMap_map]
    refine filterMap_same _ fun k hk => ?_
    have hk' := List.mem_range.mp hk
    have : ((l.length : Int) - 1 + (k : Int) * (-1)).toNat = l.length - 1 - k := by omega
    rw [this]
    simp
  have z := PySem.W.krv_all l.toArray
  rw [e, PySem.W.krv_range, List.filterMap_reverse]
  have z2 : (List.range l.length).filterMap (l[·]?) = l := by
    simpa using z
  rw [z2]
theorem getItem_tuple_back {prog : Program} {w : World} {A : Around} {E : Value → Shared → Prop} {s : Shared} {t sl : Addr} {items : List Value} {u : Tok} {Q : Value → Shared → Prop} (ht : IsTup s.heap t items.toArray) (hs : s.heap.IsSliceOf sl .none .none (.int (-1) u))
    (h : Q (.ref s.heap.objs.size) { s with heap := s.heap.push { cls := .type "tuple", data := .seq items.reverse.toArray } }) (hsz : items.length ≤ sizeLine) : wpAny (model prog w) A (getItem (.ref t) (.ref sl)) Q E s := by
  obtain ⟨os, hos, hcs, hds⟩ := id hs
  have hTs : s.TypeIs (.ref sl) "slice" := ⟨os, hos, hcs⟩
  unfold getItem
  try with_reducible refine wpAny_holding ?_
  refine wpAny_bind (wpAny_sequenceKey ht.typeIs (by decide) ?_)
  refine wpAny_bind (wpAny_callSpecial?_slot (name := Str.ofString "__getitem__") ht.typeIs PyProof.Rows.slot_tuple_getitem
    (wpAny_call_entry PyProof.Rows.slot_tuple_getitem ht.typeIs entry_tuple_getitem ?_ (args_tuple_getitem _ _)))
  show wpAny _ _ (Builtin.Tuple.tupleItemsOf (.ref t) >>= _) _ _ s
  refine wpAny_bind (tupleItemsOf_ ht ?_)
  refine wpAny_bind (wpAny_typeOf hTs ?_)
  rw [if_pos (by decide)]
  have hap : wpAny (model prog w) A.in1 (Builtin.Slice.sliceApplied (.ref sl) (pure (items.toArray.size : Int))) (fun r s' => r = ((items.length : Int) - 1, -1, items.length) ∧ s' = s) E s := by
    unfold Builtin.Slice.sliceApplied Builtin.Slice.sliceFields
    refine wpAny_bind (wpAny_bind (wpAny_field hos hds (x := .none) rfl (wpAny_bind (wpAny_field hos hds (x := .none) rfl (wpAny_bind (wpAny_field hos hds (x := .int (-1) u) rfl (wpAny_pure ?_)))))))
    refine wpAny_bind (HT.slicePart_ (.int (-1) u) ?_)
    show wpAny _ _ (if ((-1 : Int) == 0) = true then _ else _) _ _ s
    rw [if_neg (by decide)]
    refine wpAny_bind (HT.slicePart_ .none (wpAny_bind (HT.slicePart_ .none (wpAny_bind (wpAny_pure (wpAny_pure ⟨?_, rfl⟩))))))
    show (((items.toArray.size : Int) - 1, (-1 : Int), Builtin.Slice.slicePlaces ((items.toArray.size : Int) - 1) (-1) (-1)) : Int × Int × Nat) = _
    rw [List.size_toArray, places_back]
  refine wpAny_bind (wpAny_mono hap (fun r s' hr => ?_) fun _ _ x => x)
  obtain ⟨rfl, rfl⟩ := hr
  show wpAny _ _ (if (((items.length : Int) - 1 == 0 && (-1 : Int) == 1 && items.length == items.toArray.size) = true) then _ else _) _ _ s'
  rw [if_neg (by simp)]
  rw [show ((List.range items.length).filterMap fun (k : Nat) => items.toArray[((items.length : Int) - 1 + (k : Int) * (-1)).toNat]?) = items.reverse from pick_back items]
  have hsz' : sizeOk (.seq items.reverse.toArray) := by
    show items.reverse.toArray.size ≤ sizeLine
    rw [List.size_toArray, List.length_reverse]
    exact hsz
  first
    | exact wpAny_bind (m := Builtin.Tuple.tupleExact _) (wpAny_newObj_type (wpAny_pure ⟨_, rfl, wpAny_pure h⟩) hsz')
    | exact wpAny_bind (m := Builtin.Tuple.tupleExact _) (wpAny_newObj_type (wpAny_bind (wpAny_pure (wpAny_pure ⟨_, rfl, wpAny_pure h⟩))) hsz')
end
end Ty
namespace Ty
open PySem PySem.Spec PyProof.Rows L2
/-! ### zip of two texts, walked by a target of several names -/
def ItzS (x y : Str) : It :=
  ⟨fun i _ => i < min x.cps.size y.cps.size,
    fun i H v H' => ∃ T c d, v = .ref T ∧ H T = none ∧ H' = upd H T (.tup [.str ⟨#[c]⟩, .str ⟨#[d]⟩]) ∧ x.cps[i]? = some c ∧ y.cps[i]? = some d,
    fun i _ => i = min x.cps.size y.cps.size⟩
/-- the zip's cells at turn i -/
def zsAt (z TI TO i1 i2 : Addr) (x y : Str) (t u : Tok) (i : Nat) (h : Heap) : Prop :=
  IsZip h z TI TO .none ∧ IsTupOf2 h TI (.ref i1) (.ref i2) ∧ (∃ a1 a2, IsTupOf2 h TO a1 a2) ∧ h.IsStrIter i1 (strIterType x) x t i ∧ h.IsStrIter i2 (strIterType y) y u i
theorem zs_walks {P : Program} {w : World} {A : Around} (hh : A.handled = none) {z TI TO i1 i2 : Addr} (S : ZipSep2 z TI TO i1 i2 [i1] [i2]) (x y : Str) (t u : Tok) :
    WalksT P w A z (z :: TI :: TO :: ([i1] ++ [i2])) [z, TO, i1, i2] (min x.cps.size y.cps.size)
      (fun i vals => ∃ v1 v2, (∃ c k, x.cps[i]? = some c ∧ v1 = .str ⟨#[c]⟩ k) ∧ (∃ c k, y.cps[i]? = some c ∧ v2 = .str ⟨#[c]⟩ k) ∧ vals = #[v1, v2]) (zsAt z TI TO i1 i2 x y t u)
      (fun i T h => IsZip h z TI TO (rawInt T) ∧ IsTupOf2 h TI (.ref i1) (.ref i2) ∧ (∃ a1 a2, IsTupOf2 h TO a1 a2) ∧ h.IsStrIter i1 (strIterType x) x t (i + 1) ∧ h.IsStrIter i2 (strIterType y) y u (i + 1) ∧ T ≠ z ∧ T ≠ TO ∧ T ≠ i1 ∧ T ≠ i2) :=
  WalksT.zipD2 S (Draws.text (A := A.in1) hh i1 x t) (Draws.text (A := A.in1) hh i2 y u)
theorem five_le {n c : Nat} (h : c = n + 4 ∨ c = n + 2 ∨ c = n + 3 ∨ c = n ∨ c = n + 1) : n ≤ c := by omega
theorem sep_nat (n : Nat) : ZipSep2 (n + 4) (n + 2) (n + 3) n (n + 1) [n] [n + 1] := by
  constructor <;> simp <;> omega
theorem sep_new (n : Addr) : ZipSep2 (n + 4) (n + 2) (n + 3) n (n + 1) [n] [n + 1] := sep_nat n
theorem turn_zipS {P : Program} {w : World} {K : PySem.W.Frag} {elts : List Expr} {kk : Nat} {tpos : Pos} {z TI TO i1 i2 : Addr} (S : ZipSep2 z TI TO i1 i2 [i1] [i2]) (x y : Str) (t u : Tok) :
    Turn P w K (.Tuple elts kk tpos) (ItzS x y) (z :: TI :: TO :: ([i1] ++ [i2])) z (zsAt z TI TO i1 i2 x y t u) where
  mem := List.mem_cons_self
  obj := fun i h st c hc => by
    obtain ⟨hz, hTI, ⟨a, b, hTO⟩, ⟨o1, e1, _, d1⟩, ⟨o2, e2, _, d2⟩⟩ := st
    have hc' : c = z ∨ c = TI ∨ c = TO ∨ c = i1 ∨ c = i2 := by simpa using hc
    rcases hc' with rfl | rfl | rfl | rfl | rfl
    · exact ⟨_, hz, fun v q => nomatch q⟩
    · exact ⟨_, hTI, fun v q => nomatch q⟩
    · exact ⟨_, hTO, fun v q => nomatch q⟩
    · exact ⟨o1, e1, fun v q => by rw [d1] at q; cases q⟩
    · exact ⟨o2, e2, fun v q => by rw [d2] at q; cases q⟩
  keep := fun i h h' st k => by
    obtain ⟨hz, hTI, ⟨a, b, hTO⟩, ⟨o1, e1, r1⟩, ⟨o2, e2, r2⟩⟩ := st
    exact ⟨k z (by simp) _ hz, k TI (by simp) _ hTI, ⟨a, b, k TO (by simp) _ hTO⟩, ⟨o1, k i1 (by simp) _ e1, r1⟩, ⟨o2, k i2 (by simp) _ e2, r2⟩⟩
  item := by
    intro X hP hw hK hc i pins s σ H E I hf st hg
    subst hP hw hK
    have W := zs_walks (P := X.prog) (w := X.w) (A := X.A) (I.ok.hd hc) S x y t u
    refine W.item i s _ _ hg st fun T vals g tk pt hT isT mid kp => ⟨_, rfl, ?_⟩
    refine W.go elts kk tpos i T { s with heap := g, toks := tk } _ _ mid fun g2 st2 kp2 => ?_
    obtain ⟨v1, v2, ⟨c, k1, ec, rfl⟩, ⟨d, k2, ed, rfl⟩, rfl⟩ := pt
    have hap := W.apart i T g mid
    have sub : ∀ b, b ∉ (z :: TI :: TO :: ([i1] ++ [i2])) → b ∉ [z, TO, i1, i2] := fun b hb q => hb (W.sub b q)
    obtain ⟨oT, eT, cT, nT, dT⟩ := isT
    have new : ObjOk X.prog X.w (upd H T (.tup [.str ⟨#[c]⟩, .str ⟨#[d]⟩])) g2 T (.tup [.str ⟨#[c]⟩, .str ⟨#[d]⟩]) :=
      ⟨by show 2 ≤ sizeLine; decide, [.str ⟨#[c]⟩ k1, .str ⟨#[d]⟩ k2], .cons ⟨k1, rfl⟩ (.cons ⟨k2, rfl⟩ .nil), oT, kp2 T oT hap eT, cT, nT, dT⟩
    have I1 := I.turnedNew (t' := tk) (h' := g2) (fun b o hb e => kp2 b o (sub b hb) (kp b o (sub b hb) e)) hf hT new
    refine ⟨.ref T, _, I1, rfl, ⟨T, c, d, rfl, I.hok.fresh hT, rfl, ec, ed⟩, st2, fun b hb => ?_⟩
    have hlt : b < s.heap.objs.size := by
      obtain ⟨hz, hTI, ⟨a1, a2, hTO⟩, ⟨o1, e1, _⟩, ⟨o2, e2, _⟩⟩ := st
      have hb' : b = z ∨ b = TI ∨ b = TO ∨ b = i1 ∨ b = i2 := by simpa using hb
      rcases hb' with rfl | rfl | rfl | rfl | rfl
      · exact Heap.lt_size hz
      · exact Heap.lt_size hTI
      · exact Heap.lt_size hTO
      · exact Heap.lt_size e1
      · exact Heap.lt_size e2
    rw [upd_ne (Nat.ne_of_lt (Nat.lt_of_lt_of_le hlt hT))]
    exact (hf b hb).1
  done := by
    intro X hP hw hK hc i pins s σ H E I hf st hg
    subst hP hw hK
    have W := zs_walks (P := X.prog) (w := X.w) (A := X.A) (I.ok.hd hc) S x y t u
    have hg' : i = min x.cps.size y.cps.size := hg
    subst hg'
    exact W.done s _ _ st fun g tk kp => ⟨rfl, I.turnedL (t' := tk) (fun b o hb e => kp b o (fun q => hb (W.sub b q)) e) hf⟩
  self := fun A i s Q E st h => wpAny_pyIter_zip st.1 h
def iZipS (ta : TA) : TI := fun σ H R => ta σ H fun vs H1 => ∃ x y, vs = [.str x, .str y] ∧ R (ItzS x y) H1
theorem pi_zipS {X : Cx} {e e2 : Expr} {ta : TA} {p pos tpos : Pos} {elts : List Expr} {kk : Nat} (hg : Gl X "zip") (hm : X.mg "zip" = none) (ha : PA X [e, e2] ta)
    (hs : starEach [e, e2] X.env = (false, eval e X.env) :: starEach [e2] X.env := by rfl) (hpl : (backTo pos (starEach [e2] X.env)).any (·.1) = false := by rfl) :
    PI X (.Tuple elts kk tpos) (.Call (.Name "zip" p) [e, e2] [] pos) (iZipS ta) := by
  refine ⟨fun pins s σ H R I h => ?_⟩
  refine Call_ (ld_blt I hg hm PyProof.Rows.boot_zip (PyProof.Rows.callWith_type1 (thn (ha.run pos pins s σ H _ I h) fun us s1 hv => ?_) hs hpl))
  obtain ⟨vs, H1, I1, r1, x, y, rfl, q⟩ := hv
  obtain ⟨u1, u2, rfl, q1, q2⟩ := vals2 r1
  obtain ⟨t, rfl⟩ := q1
  obtain ⟨u, rfl⟩ := q2
  refine zip_begins2 (begins_text x t) (begins_text y u) trivial trivial fun g hz hTI hTO h1 h2 hsz kp => wpAny_pyIter_zip hz ?_
  have I2 : Inv X pins σ H1 { s1 with heap := g } := I1.kept (t' := s1.toks) kp
  have S : ZipSep2 (s1.heap.objs.size + 4) (s1.heap.objs.size + 2) (s1.heap.objs.size + 3) s1.heap.objs.size (s1.heap.objs.size + 1) [s1.heap.objs.size] [s1.heap.objs.size + 1] := sep_new _
  refine ⟨s1.heap.objs.size + 4, _, _, _, H1, rfl, I2, turn_zipS S x y t u, ⟨hz, hTI, ⟨_, _, hTO⟩, ⟨_, h1, rfl, rfl⟩, ⟨_, h2, rfl, rfl⟩⟩, fun c hc => ?_, q⟩
  have hle : s1.heap.objs.size ≤ c := by
    have hc' : c = s1.heap.objs.size + 4 ∨ c = s1.heap.objs.size + 2 ∨ c = s1.heap.objs.size + 3 ∨ c = s1.heap.objs.size ∨ c = s1.heap.objs.size + 1 := by simpa using hc
    exact five_le hc'
  exact I1.fpOk hle (I1.hok.fresh hle)
end Ty
/-! sets of keys of any kind as they are made from a list, and sorted: own text -/
namespace Ty
open PySem PySem.Spec PyProof.Rows L2
section
variable {P : Program} {w : World} {K : Type} [DecidableEq K] [BEq K] [LawfulBEq K]
/-- an entry of a key -/
def EntOf (knd : PySem.KeyKind P w K) (e : Int × Value) (k : K) : Prop := knd.is k e.2 = true ∧ e.1 = knd.hash k ∧ e.2.scannable = true
theorem paired_perm {α β : Type} {R : α → β → Prop} {l l' : List α} (p : l'.Perm l) : ∀ {ks : List β}, Paired R l ks → ∃ ks', Paired R l' ks' ∧ ks'.Perm ks := by
  induction p with
  | nil => exact fun h => ⟨_, h, .refl _⟩
  | cons x _ ih =>
    intro ks h
    cases h with
    | cons r t =>
      obtain ⟨ks', h1, h2⟩ := ih t
      exact ⟨_, .cons r h1, h2.cons _⟩
  | swap x y l =>
    intro ks h
    cases h with
    | cons r t =>
      cases t with
      | cons r' t' => exact ⟨_, .cons r' (.cons r t'), .swap ..⟩
  | trans _ _ ih1 ih2 =>
    intro ks h
    obtain ⟨k1, h1, p1⟩ := ih2 h
    obtain ⟨k2, h2, p2⟩ := ih1 h1
    exact ⟨k2, h2, p2.trans p1⟩
theorem paired_left {α β : Type} {R : α → β → Prop} : ∀ {l : List α} {ks : List β}, Paired R l ks → ∀ x ∈ l, ∃ k ∈ ks, R x k
  | _, _, .nil, _, h => nomatch h
  | _, _, .cons r t, x, h => by
    rcases List.mem_cons.mp h with e | h
    · subst e
      exact ⟨_, List.mem_cons_self, r⟩
    · obtain ⟨k, h1, h2⟩ := paired_left t x h
      exact ⟨k, List.mem_cons_of_mem _ h1, h2⟩
theorem paired_right {α β : Type} {R : α → β → Prop} : ∀ {l : List α} {ks : List β}, Paired R l ks → ∀ k ∈ ks, ∃ x ∈ l, R x k
  | _, _, .nil, _, h => nomatch h
  | _, _, .cons r t, x, h => by
    rcases List.mem_cons.mp h with e | h
    · subst e
      exact ⟨_, List.mem_cons_self, r⟩
    · obtain ⟨k, h1, h2⟩ := paired_right t x h
      exact ⟨k, List.mem_cons_of_mem _ h1, h2⟩
/-- the set at a has just the keys L, each once -/
def SetG (knd : PySem.KeyKind P w K) (h : Heap) (a : Addr) (L : List K) : Prop :=
  ∃ o es ep t ks, h.get? a = some o ∧ o.ExactSet ∧ o.data = .set es ep t ∧ Paired (EntOf knd) es.toList ks ∧ ks.Perm L ∧ L.Nodup ∧ es.size < scanBound ∧ t.fits es.size = true ∧ Ris t.place.toList ∧
    (w.params.followText "set-order" = true ∨ t.led = true)
variable {knd : PySem.KeyKind P w K}
theorem SetG.at {h h' : Heap} {a : Addr} {L : List K} (R : SetG knd h a L) (k : ∀ o, h.get? a = some o → h'.get? a = some o) : SetG knd h' a L := by
  obtain ⟨o, es, ep, t, ks, ho, r⟩ := R
  exact ⟨o, es, ep, t, ks, k o ho, r⟩
theorem ents_elems {l : List (Int × Value)} {ks : List K} (p : Paired (EntOf knd) l ks) : ElemsOf knd l := fun e he => by
  obtain ⟨k, _, h1, h2, h3⟩ := paired_left p e he
  exact ⟨⟨k, h1, h2⟩, h3⟩
/-- one more key -/
def addK (L : List K) (k : K) : List K := if k ∈ L then L else k :: L
section
variable {A : Around} {E : Value → Shared → Prop} {s : Shared} {a : Addr} {L : List K}
theorem setG_tail {g : Bool → Sem Unit} (hg : ∀ (b : Bool) (s₁ : Shared) (Q' : Unit → Shared → Prop), Q' () s₁ → wpAny (model P w) A (g b) Q' E s₁)
    {o : Obj} {es : Array (Int × Value)} {ep : Nat} {t : SetTable} (ho : s.heap.get? a = some o) (hex : o.ExactSet) (hd : o.data = .set es ep t)
    {es1 : Array (Int × Value)} {t2 : SetTable} {ks : List K} (g1 : Paired (EntOf knd) es1.toList ks) (pm1 : ks.Perm L) (nd : L.Nodup)
    (hb1 : es1.size < scanBound) (hf2 : t2.fits es1.size = true) (hr : Ris t2.place.toList) (hl : w.params.followText "set-order" = true ∨ t2.led = true) {wasDummy : Bool} {R : Option Bool → Shared → Prop}
    (hR : ∀ h', Heap.SameBut a s.heap h' → SetG knd h' a L → R (some true) { s with heap := h' }) :
    wpAny (model P w) A (do
        storeSet a es1 t2
        if (!wasDummy && t2.tooFull) = true then do
            g (relayAll t2 es1 (SetTable.grown es1.size)).2.2
            storeSet a (relayAll t2 es1 (SetTable.grown es1.size)).1 (relayAll t2 es1 (SetTable.grown es1.size)).2.1
            pure (some true)
          else pure (some true)) R E s := by
  have at1 := store_at (es' := es1) (t' := t2) ho hd
  have same1 := Heap.SameBut.update s.heap a (Obj.putSet es1 t2)
  refine wpAny_bind (wpAny_storeSet_of ho hd ?_ (fits_of_scanBound hb1))
  by_cases hc : (!wasDummy && t2.tooFull) = true
  · rw [if_pos hc]
    have pm := relayAll_perm t2 es1 (SetTable.grown es1.size)
    have f3 := relayAll_fits t2 es1 (SetTable.grown es1.size)
    have r3 := relayAll_ris t2 es1 (SetTable.grown es1.size)
    have l3 := relayAll_led t2 es1 (SetTable.grown es1.size)
    generalize relayAll t2 es1 (SetTable.grown es1.size) = Z at pm f3 r3 l3 ⊢
    have sz : Z.1.size = es1.size := by rw [← Array.length_toList, pm.length_eq, Array.length_toList]
    have b2 : Z.1.size < scanBound := by rw [sz]; exact hb1
    obtain ⟨ks2, q1, q2⟩ := paired_perm pm g1
    refine wpAny_bind (hg _ _ _ (wpAny_bind (wpAny_storeSet_of at1 rfl (wpAny_pure (hR _ (same1.trans (Heap.SameBut.update _ a _)) ?_)) (fits_of_scanBound b2))))
    exact ⟨_, Z.1, _, Z.2.1, ks2, store_at (es' := Z.1) (t' := Z.2.1) at1 rfl, hex, rfl, q1, q2.trans pm1, nd, b2, f3, r3, hl.imp id fun z => by rw [l3]; exact z⟩
  · rw [if_neg hc]
    exact wpAny_pure (hR _ same1 ⟨_, es1, _, t2, ks, at1, hex, rfl, g1, pm1, nd, hb1, hf2, hr, hl⟩)
theorem setG_add_hashed {k : K} {x : Value} {Q : Bool → Shared → Prop} (hkey : knd.is k x = true) (hsc : x.scannable = true) (R : SetG knd s.heap a L) (room : L.length + 1 < scanBound)
    (hQ : ∀ h' b, Heap.SameBut a s.heap h' → SetG knd h' a (addK L k) → Q b { s with heap := h' }) :
    wpAny (model P w) A (setAddHashed a x (knd.hash k)) Q E s := by
  obtain ⟨o, es, ep, t, ks, ho, hex, hd, g, pm0, nd, hb, hf, hr, hl⟩ := R
  have hel : ElemsOf knd es.toList := ents_elems g
  have hlen : es.size = L.length := by rw [← Array.length_toList, Paired.length g, pm0.length_eq]
  unfold setAddHashed setAddHashedIn
  refine wpAny_holding (wpAny_bind (wpAny_setState_of ho hd hf ?_))
  dsimp only
  rw [byScan_of hsc hb hel]
  simp only [↓reduceIte]
  unfold setAddByScan
  refine wpAny_bind ?_
  refine wpAny_bind (wpAny_rule ?_)
  refine wpAny_bind (wpAny_setScan_of hkey ho hd hf hel ?_)
  cases hfi : List.findIdx? (fun e => knd.is k e.2) es.toList with
  | some j =>
    dsimp only
    obtain ⟨hj, pj, _⟩ := List.findIdx?_eq_some_iff_getElem.mp hfi
    obtain ⟨k', hk', e1, _⟩ := paired_left g es.toList[j] (List.getElem_mem hj)
    have ek : k' = k := knd.inj _ _ _ e1 pj
    subst ek
    refine wpAny_pure (wpAny_pure (hQ s.heap _ (Heap.SameBut.refl a s.heap) ?_))
    unfold addK
    rw [if_pos (pm0.mem_iff.mp hk')]
    exact ⟨o, es, ep, t, ks, ho, hex, hd, g, pm0, nd, hb, hf, hr, hl⟩
  | none =>
    dsimp only
    have hnk : k ∉ L := fun z => by
      obtain ⟨e, he, q, _⟩ := paired_right g k (pm0.mem_iff.mpr z)
      have c := List.findIdx?_eq_none_iff.mp hfi e he
      rw [q] at c
      cases c
    have eL : addK L k = k :: L := if_neg hnk
    have hgw : ∀ (b : Bool) {s₁ : Shared} {Q' : Unit → Shared → Prop}, Q' () s₁ → wpAny (model P w) A (match b with | true => rule "set.scan.the-table-gave-way" | false => pure ()) Q' E s₁ :=
      fun b s₁ Q' q => by cases b <;> first | exact wpAny_pure q | exact wpAny_rule q
    have pm := layNew_perm t es (knd.hash k) x
    have f1 := layNew_fits t es (knd.hash k) x
    have r1 := layNew_ris t es (knd.hash k) x hr
    have l1 := layNew_led t es (knd.hash k) x
    generalize layNew t es (knd.hash k) x = Z at pm f1 r1 l1 ⊢
    obtain ⟨es1, t1, wasDummy, gave⟩ := Z
    dsimp only at pm f1 r1 l1 ⊢
    rw [Array.toList_push] at pm
    obtain ⟨ks1, g1, p1⟩ := paired_perm (pm.trans (List.perm_append_singleton _ _)) (Paired.cons (⟨hkey, rfl, hsc⟩ : EntOf knd (knd.hash k, x) k) g)
    have pL : ks1.Perm (addK L k) := by rw [eL]; exact p1.trans (pm0.cons k)
    have ndL : (addK L k).Nodup := by rw [eL]; exact List.nodup_cons.mpr ⟨hnk, nd⟩
    have hb1 : es1.size < scanBound := by
      have : es1.size = L.length + 1 := by rw [← Array.length_toList, Paired.length g1, p1.length_eq, List.length_cons, pm0.length_eq]
      omega
    have hled : w.params.followText "set-order" = true ∨ t1.led = true := hl.imp id fun z => by rw [l1]; exact z
    refine wpAny_bind (hgw _ ?_)
    split
    · refine wpAny_bind ?_
      rw [hashByValue_scannable 8 hsc]
      refine wpAny_pure ?_
      refine setG_tail ?_ ho hex hd g1 pL ndL hb1 ?_ ?_ ?_ fun h' sb r => ?_
      · intro b s₁ Q' q; cases b <;> first | exact wpAny_pure q | exact wpAny_rule q
      · first | (split <;> first | exact f1 | exact SetTable.fits_plain_off f1) | exact f1
      · first | (split <;> exact r1) | exact r1
      · first | (split <;> exact hled) | exact hled
      · dsimp only; exact wpAny_pure (hQ h' _ sb r)
    · refine wpAny_bind (wpAny_pure ?_)
      simp only [↓reduceIte]
      refine setG_tail ?_ ho hex hd g1 pL ndL hb1 f1 r1 hled fun h' sb r => ?_
      · intro b s₁ Q' q; cases b <;> first | exact wpAny_pure q | exact wpAny_rule q
      · dsimp only; exact wpAny_pure (hQ h' _ sb r)
/-- the keys of a list, one after another put in -/
def gather (L : List K) (ks : List K) : List K := ks.foldl addK L
theorem addK_len (L : List K) (k : K) : (addK L k).length ≤ L.length + 1 := by
  unfold addK
  split
  · omega
  · simp
theorem mem_addK {L : List K} {k j : K} : j ∈ addK L k ↔ j ∈ L ∨ j = k := by
  unfold addK
  split
  · rename_i h
    exact ⟨.inl, fun z => z.elim id fun e => e ▸ h⟩
  · rw [List.mem_cons]
    exact Or.comm
theorem mem_gather {j : K} : ∀ {ks L : List K}, j ∈ gather L ks ↔ j ∈ L ∨ j ∈ ks
  | [], L => by simp [gather]
  | k :: ks, L => by
    show j ∈ gather (addK L k) ks ↔ _
    rw [mem_gather, mem_addK, List.mem_cons, or_assoc]
theorem gather_len : ∀ (ks L : List K), (gather L ks).length ≤ L.length + ks.length
  | [], L => by simp [gather]
  | k :: ks, L => by
    have h1 := gather_len ks (addK L k)
    have h2 := addK_len L k
    show (gather (addK L k) ks).length ≤ _
    rw [List.length_cons]
    omega
theorem setG_loop {R : Result → Shared → Prop} {I : Addr} {fp wr : List Addr} {G : Array GenState → Array GenState → Prop} {n : Nat} {Pv : Nat → Value → Prop} {St : Nat → Shared → Prop} (W : WalksS P w A.in1 I fp wr G n Pv St) (T : Addr) (hT : T ∉ fp)
    (ks : List K) (hn : ks.length = n) (hval : ∀ i v, Pv i v → ∃ k, ks[i]? = some k ∧ knd.is k v = true ∧ v.scannable = true) :
    ∀ (m i : Nat) (L : List K) (s : Shared), n - i = m → i ≤ n → St i s → L.length + m + 1 < scanBound → SetG knd s.heap T L →
      (∀ s', Moved (T :: wr) G s s' → SetG knd s'.heap T (gather L (ks.drop i)) → R (.ok (.ret .none)) s') →
      codeAny (model P w) A (.builtin "set.update.loop" ⟨[.ref T, .ref I], []⟩) R s := by
  have hTw : T ∉ wr := fun h => hT (W.sub _ h)
  have up : ∀ b ∈ wr, b ∈ T :: wr := fun b hb => List.mem_cons_of_mem _ hb
  intro m
  induction m with
  | zero =>
    intro i L s hm hi st hb hS hR
    obtain rfl : i = n := by omega
    refine codeAny_builtin F.entry_set_update_loop ?_
    rw [Around.under_plainId F.plain_set_update_loop _]
    show wpAny _ A.in1 (pyNext (.ref I) >>= _) _ _ s
    refine wpAny_bind (W.done s _ _ st fun s' mv => ?_)
    show wpAny _ A.in1 (ret Value.none) _ _ s'
    refine wpAny_pure (hR s' (mv.mono up) ?_)
    rw [List.drop_of_length_le (by omega)]
    exact hS.at fun o e => mv.heap T o hTw e
  | succ m ih =>
    intro i L s hm hi st hb hS hR
    have hlt : i < n := by omega
    refine codeAny_builtin F.entry_set_update_loop ?_
    rw [Around.under_plainId F.plain_set_update_loop _]
    show wpAny _ A.in1 (pyNext (.ref I) >>= _) _ _ s
    refine wpAny_bind (W.item i s _ _ hlt st fun v s1 hP st1 mv => ?_)
    obtain ⟨k, ek, hkey, hsc⟩ := hval i v hP
    have hS1 : SetG knd s1.heap T L := hS.at fun o e => mv.heap T o hTw e
    show wpAny _ A.in1 (holding [v] (setAdd T v) >>= _) _ _ s1
    refine wpAny_bind (wpAny_holding ?_)
    unfold setAdd
    refine wpAny_holding (wpAny_bind (knd.pyHash hkey ?_))
    refine setG_add_hashed (s := { s1 with toks := s1.toks + 1 }) hkey hsc hS1 (by omega) fun g b sb hS2 => ?_
    have hb2 := addK_len L k
    refine wpAny_pure ⟨plainId_quiet F.plain_set_update_loop _, ih (i + 1) (addK L k) _ (by omega) hlt (W.frame _ s1 _ _ st1 (Nat.le_succ _) fun c hc o e => ?_) (by omega) hS2 fun s2 mv2 hS3 => ?_⟩
    · rw [sb.2 c (fun h : c = T => hT (by rw [← h]; exact hc))]; exact e
    · refine hR s2 (Moved.trans W.gtrans ((mv.mono up).then_heap (Nat.le_succ _) fun c o hc e => ?_) mv2) ?_
      · rw [sb.2 c (fun h : c = T => hc (by rw [h]; exact List.mem_cons_self))]; exact e
      · have ed : ks.drop i = k :: ks.drop (i + 1) := by
          obtain ⟨hi', ek'⟩ := List.getElem?_eq_some_iff.mp ek
          rw [← ek']
          exact List.drop_eq_getElem_cons hi'
        rw [ed]
        exact hS3
end
end
end Ty
namespace Ty
open PySem PySem.Spec PyProof.Rows L2
section
variable {P : Program} {w : World} {K : Type} [DecidableEq K] [BEq K] [LawfulBEq K] {knd : PySem.KeyKind P w K}
variable {A : Around} {E : Value → Shared → Prop} {s : Shared}
theorem paired_at {α β : Type} {R : α → β → Prop} : ∀ {l : List α} {ks : List β}, Paired R l ks → ∀ (i : Nat) (x : α), l[i]? = some x → ∃ k, ks[i]? = some k ∧ R x k
  | _, _, .nil, i, x, h => by simp at h
  | _, _, .cons r t, 0, x, h => by
    simp at h
    subst h
    exact ⟨_, rfl, r⟩
  | _, _, .cons r t, i + 1, x, h => paired_at t i x (by simpa using h)
theorem setG_fresh {h : Heap} {a : Addr} (ho : h.get? a = some { cls := .type "set", dict := none, data := .set #[] 0 (.fresh 0 0 (!w.params.followText "set-order")) }) : SetG knd h a [] :=
  ⟨_, #[], 0, _, [], ho, ⟨rfl, rfl, rfl⟩, rfl, .nil, .refl _, .nil, by decide, rfl, List.Pairwise.nil, by
    show _ ∨ (!w.params.followText "set-order") = true
    cases w.params.followText "set-order"
    · exact .inr rfl
    · exact .inl rfl⟩
abbrev newSet (w : World) : Obj := { cls := .type "set", dict := none, data := .set #[] 0 (.fresh 0 0 (!w.params.followText "set-order")) }
theorem code_new_set1 (b : Value) {Q₁ : Value → Shared → Prop} (h : Q₁ (.ref s.heap.objs.size) { s with heap := s.heap.push (newSet w) }) :
    codeAny (model P w) A (.call (.builtin "set.__new__") ⟨[.type "set", b], []⟩) (wants Q₁ E) s := by
  refine codeAny_of_tree ?_
  show wpAny _ A.in1 (do checkBuiltinCall "set.__new__" ⟨[.type "set", b], []⟩; again (.builtin "set.__new__" ⟨[.type "set", b], []⟩)) _ _ s
  refine wpAny_bind (wpAny_of_eq (F.newCall_set_1 b) (wpAny_pure ⟨plainId_quiet F.plain_set_new _, codeAny_builtin F.entry_set_new ?_⟩))
  rw [Around.under_plainId F.plain_set_new _]
  unfold Builtin.«set.__new__» Builtin.Frozenset.newClass
  have hsub := sub_set_self
  obtain ⟨hp, g, d, tk, os⟩ := s
  dsimp only
  wp_walk
  refine wpAny_askSetting (wpAny_pure ?_)
  dsimp only
  simp only [newObj]
  exact wpAny_bind (wpAny_alloc (wpAny_pure (wpAny_pure h)))
set_option maxHeartbeats 3200000 in
/-- set(a list of keys) -/
theorem call_setL {l : Addr} {items : List Value} {ks : List K} {Q : Value → Shared → Prop} (hh : A.handled = none) (hl : s.heap.IsList l items.toArray) (hk : Paired (fun v k => knd.is k v = true ∧ v.scannable = true) items ks) (hb : items.length + 1 < scanBound)
    (h : ∀ (g : Heap) (tk : Nat), SetG knd g s.heap.objs.size (gather [] ks) → (∀ b o, s.heap.get? b = some o → g.get? b = some o) → Q (.ref s.heap.objs.size) { s with heap := g, toks := tk }) :
    wpAny (model P w) A (call (.type "set") [.ref l]) Q E s := by
  obtain ⟨c, tl, hmro⟩ := F.called_set.mro
  have hmade := F.called_set.made
  have hsub := F.called_set.sub
  refine wpAny_call (codeAny_of_tree ?_)
  show wpAny _ _ (callAny (.type "set") _) _ _ _
  refine wpAny_pure ⟨Code.quiet_builtin _ (by decide +kernel), codeAny_builtin F.entry_type_call ?_⟩
  rw [Around.under_plain (weight_type_call_type "set" [.ref l] []) rfl]
  have h1 := F.called_set.notType
  have h2 := F.called_set.canCreate
  have hct := F.typeCall_set_1 (.ref l)
  repeat (any_goals (first | assumption | wp_step))
  refine codeAny_mono (code_new_set1 (.ref l) (E := E) (Q₁ := fun obj s₁ => obj = .ref s.heap.objs.size ∧ s₁ = { s with heap := s.heap.push (newSet w) }) ⟨rfl, rfl⟩) fun r s₁ hr => ?_
  cases r with
  | error e => exact hr
  | ok fl =>
    cases fl with
    | next => exact hr.elim
    | brk => exact hr.elim
    | cont => exact hr.elim
    | ret obj =>
      obtain ⟨rfl, rfl⟩ := hr
      have hS : (s.heap.push (newSet w)).get? s.heap.objs.size = some (newSet w) := Heap.get?_push_size _ rfl
      have hT : Shared.TypeIs { s with heap := s.heap.push (newSet w) } (.ref s.heap.objs.size) "set" := ⟨_, hS, rfl⟩
      have hli := F.called_set.init.lookup
      have hbi := F.called_set.init.bind (.ref s.heap.objs.size)
      repeat (any_goals (first | assumption | wp_step))
      refine codeAny_mono (codeAny_call_builtin (R := wants (fun r s₂ => r = .none ∧ ∃ g tk, s₂ = { s with heap := g, toks := tk } ∧ SetG knd g s.heap.objs.size (gather [] ks) ∧ (∀ b o, s.heap.get? b = some o → g.get? b = some o)) E)
        F.called_set.init.plain F.entry_set_init (check_set_init_1 hT ?_)) fun r₂ s₂ hr₂ => ?_
      · obtain ⟨⟨ocls, odict, odata, oslots⟩, hol, hcl, nl, hdl⟩ := hl
        simp only at hcl hdl
        subst hcl hdl
        have hol' : (s.heap.push (newSet w)).get? l = some { cls := .type "list", dict := odict, data := .seq items.toArray nl, slots := oslots } := Heap.get?_push_of_some _ hol
        have hsls := F.sub_list_set
        have hslf := F.sub_list_frozenset
        have hne : (Value.type "list" == Value.type "dict") = false := by decide
        have hl1 : (s.heap.push (newSet w)).IsList l items.toArray := ⟨_, hol', rfl, nl, rfl⟩
        unfold Builtin.«set.__init__» noKeywords Builtin.Frozenset.updateFrom
        generalize hPI : pyIter = PI
        wp_walk
        subst hPI
        refine wpAny_pyIter_list hl1 (wpAny_bind (wpAny_runValue ?_))
        have hlS : l < s.heap.objs.size := Heap.lt_size hol
        have hh3 : A.in1.in1.in1.handled = none := by simp [hh]
        have z1 : (s.heap.push (newSet w)).objs.size = s.heap.objs.size + 1 := Heap.size_push ..
        have hneI : l ≠ (s.heap.push (newSet w)).objs.size := by rw [z1]; exact Nat.ne_of_lt (Nat.lt_succ_of_lt hlS)
        have hSf : s.heap.objs.size ∉ [(s.heap.push (newSet w)).objs.size, l] := by
          rw [z1]
          simp only [List.mem_cons, List.not_mem_nil, or_false, not_or]
          exact ⟨Nat.ne_of_lt (Nat.lt_succ_self _), Nat.ne_of_gt hlS⟩
        have hlen := Paired.length hk
        have hval : ∀ (i : Nat) (v : Value), items.toArray[i]? = some v → ∃ k, ks[i]? = some k ∧ knd.is k v = true ∧ v.scannable = true := fun i v hv => paired_at hk i v (by simpa using hv)
        refine setG_loop ((Walks.list hh3 _ l hneI items.toArray).toS) s.heap.objs.size hSf ks (by simp [hlen]) hval items.length 0 [] _ (by simp) (Nat.zero_le _)
          ⟨⟨_, Heap.get?_push_size _ rfl, rfl, rfl⟩, hl1.push _⟩ (by simpa using hb) (setG_fresh (Heap.get?_push_of_some _ hS)) fun s' hm hS' => ?_
        obtain ⟨g, g', d', tk', os'⟩ := s'
        have eg : g' = s.gens := hm.gens
        have ed : d' = s.drawn := hm.drawn
        have eo : os' = s.os := hm.os
        subst eg ed eo
        show wpAny _ _ _ _ _ _
        refine wpAny_pure ?_
        show wpAny _ _ (ret Value.none) _ _ _
        refine wpAny_pure ⟨rfl, g, tk', rfl, hS', fun b o e => ?_⟩
        have hb0 : b < s.heap.objs.size := Heap.lt_size e
        have hb1 : b ≠ s.heap.objs.size := Nat.ne_of_lt hb0
        have hb2 : b ≠ (s.heap.push (newSet w)).objs.size := by rw [z1]; exact Nat.ne_of_lt (Nat.lt_succ_of_lt hb0)
        exact hm.heap b o (by simp only [List.mem_cons, List.not_mem_nil, or_false, not_or]; exact ⟨hb1, hb2⟩) (Heap.get?_push_of_some _ (Heap.get?_push_of_some _ e))
      · cases r₂ with
        | error e => exact hr₂
        | ok fl₂ =>
          cases fl₂ with
          | next => exact hr₂.elim
          | brk => exact hr₂.elim
          | cont => exact hr₂.elim
          | ret r =>
            obtain ⟨rfl, g, tk, rfl, hS', hk'⟩ := hr₂
            repeat (any_goals (first | assumption | wp_step))
            exact h _ _ hS' hk'
end
end Ty
namespace Ty
open PySem PySem.Spec PyProof.Rows L2
/-- a set of texts, in the abstract heap -/
def SetTx (P : Program) (w : World) (a : Addr) (L : List Str) : HO := .ext fun h => SetG (PySem.strKind P w) h a L
section
variable {P : Program} {w : World} {A : Around} {E : Value → Shared → Prop} {s : Shared}
theorem strs_scan : ∀ {xs : List Str} {us : List Value}, Vals (xs.map V.str) us → Paired (fun v k => (PySem.strKind P w).is k v = true ∧ v.scannable = true) us xs
  | [], _, h => by
    cases h
    exact .nil
  | x :: xs, _, h => by
    cases h with
    | cons r t =>
      obtain ⟨k, rfl⟩ := r
      exact .cons ⟨by show Value.isStrOf x (.str x k) = true; simp [Value.isStrOf], rfl⟩ (strs_scan t)
theorem strs_are : ∀ {es : List (Int × Value)} {ks : List Str}, Paired (EntOf (PySem.strKind P w)) es ks → StrsAre (es.map (·.2)) ks
  | [], _, h => by
    cases h
    exact .nil
  | e :: es, _, h => by
    cases h with
    | @cons _ k _ ks r t =>
      obtain ⟨u, hu⟩ := Value.isStrOf_shape (x := k) (v := e.2) r.1
      rw [List.map_cons, hu]
      exact .cons k u (strs_are t)
theorem strs_perm {l l' : List Value} (p : l'.Perm l) : ∀ {ks : List Str}, StrsAre l ks → ∃ ks', StrsAre l' ks' ∧ ks'.Perm ks := by
  induction p with
  | nil => exact fun h => ⟨_, h, .refl _⟩
  | cons x _ ih =>
    intro ks h
    cases h with
    | cons k u t =>
      obtain ⟨ks', h1, h2⟩ := ih t
      exact ⟨_, .cons k u h1, h2.cons _⟩
  | swap x y l =>
    intro ks h
    cases h with
    | cons k u t =>
      cases t with
      | cons k' u' t' => exact ⟨_, .cons k' u' (.cons k u t'), .swap ..⟩
  | trans _ _ ih1 ih2 =>
    intro ks h
    obtain ⟨k1, h1, p1⟩ := ih2 h
    obtain ⟨k2, h2, p2⟩ := ih1 h1
    exact ⟨k2, h2, p2.trans p1⟩
/-- sorted(a set of texts) -/
theorem sorted_setTx {a : Addr} {L : List Str} {Q : Value → Shared → Prop} (R : SetG (PySem.strKind P w) s.heap a L) (hh : A.handled = none) (h64 : L.length < 64)
    (hQ : ∀ s' p (out : Array Value) (c : Nat) (ys : List Str), (∀ b o, s.heap.get? b = some o → s'.heap.get? b = some o) → s'.gens = s.gens → s'.os = s.os → s.heap.objs.size ≤ p →
      s'.heap.get? p = some (seqObj "list" out c) → StrsAre out.toList ys → ys.Perm L → sortedS ys = true → Q (.ref p) s') :
    wpAny (model P w) A (call (.builtin "sorted") [.ref a]) Q E s := by
  obtain ⟨o, es, ep, t, ks, ho, hex, hd, g, pk, nd, hb, hf, hr, hl⟩ := R
  refine Calls.call_function_entry kind_sorted plain_sorted entry_sorted (args_sorted1 _) ?_
  unfold Builtin.«sorted»
  refine wpAny_bind (m := checkCount "sorted" 1 1 _) (wpAny_pure ?_)
  refine wpAny_bind (collect_set (A := A.in1) hh ⟨o, ho, hex.1, hd⟩ hf hb hr hl fun s1 vs k1 hz g1 o1 pm => ?_)
  obtain ⟨k2, hS, pk2⟩ := strs_perm pm (strs_are g)
  have hvl : vs.length < 64 := by
    have e1 := pm.length_eq
    rw [List.length_map, Paired.length g, pk.length_eq] at e1
    omega
  refine wpAny_bind (wpAny_newList ?_ (by rw [sizeLine_eq]; omega))
  have hoL : (s1.heap.push (seqObj "list" vs.toArray 0)).get? s1.heap.objs.size = some (seqObj "list" vs.toArray 0) := Heap.get?_push_size _ rfl
  refine wpAny_bind (wpAny_holding (wpAny_call_entry PyProof.Rows.slot_list_sort ⟨_, hoL, rfl⟩ PyProof.Rows.entry_list_sort
    (list_sort_treeK strKind_oneLt hoL hS.keysOf (fun v₁ v₂ rest e => keyKind_strs (by rw [← e]; exact hS)) hvl fun st' hp hs => ?_) (PyProof.Rows.args_list_sort _)))
  obtain ⟨ys, q1, q2, q3⟩ := sorted_out_str hS hp hs
  obtain ⟨c, hc⟩ := PyProof.Rows.sortedHeap_at (vs := vs) (out := (arrOf st').map (·.2)) hoL
  refine ⟨_, rfl, wpAny_pure ⟨_, rfl, hQ _ s1.heap.objs.size _ c ys (fun b u e => ?_) g1 o1 hz hc q1 ((q2.trans pk2).trans pk) q3⟩⟩
  have q := k1 b u e
  have hlt := Heap.lt_size q
  rw [PyProof.Rows.sortedHeap_old (Nat.ne_of_lt hlt) (by rw [Heap.size_push]; exact Nat.lt_succ_of_lt hlt)]
  exact Heap.get?_push_of_some _ q
end
section
variable {X : Cx}
/-- set(a list of texts) -/
def rSetTx (K : PySem.W.Frag) (P : Program) (w : World) : List V → Hp → VK → Prop := fun vs H Q => ∃ (l : Addr) (xs : List Str), vs = [.ref l] ∧ SqL K H l (xs.map V.str) ∧ xs.length + 1 < scanBound ∧
  ∀ p, H p = none → Q (.ref p) (upd H p (SetTx P w p (gather [] xs)))
theorem cr_setTx (hc : X.calm = true) : CallR X (.type "set") (rSetTx X.K X.prog X.w) := by
  intro pins s σ H vs us Q I r h
  obtain ⟨l, xs, rfl, hq, hb, q⟩ := h
  obtain ⟨u, rfl, rx⟩ := vals1 r
  cases rx
  obtain ⟨its, rv, hl, _⟩ := I.list hq
  have hlen := rv.length
  rw [List.length_map] at hlen
  refine call_setL (knd := PySem.strKind X.prog X.w) (I.ok.hd hc) hl.isList (strs_scan rv) (by rw [← hlen]; exact hb) fun g tk hS kp => ?_
  have new : ObjOk X.prog X.w (upd H s.heap.objs.size (SetTx X.prog X.w s.heap.objs.size (gather [] xs))) g s.heap.objs.size (SetTx X.prog X.w s.heap.objs.size (gather [] xs)) := by
    have ⟨o, _, _, _, _, ho, _⟩ := hS
    exact ⟨hS, ⟨o, ho⟩, fun h1 h2 p k => p.at k⟩
  exact ⟨.ref _, _, I.laid (t' := tk) kp (Nat.le_refl _) new, rfl, q _ (I.hok.fresh (Nat.le_refl _))⟩
/-- sorted(a set of texts) -/
def rSortedTx (P : Program) (w : World) : List V → Hp → VK → Prop := fun vs H Q => ∃ (a : Addr) (L : List Str), vs = [.ref a] ∧ H a = some (SetTx P w a L) ∧ L.length < 64 ∧
  ∀ ys p, ys.Perm L → sortedS ys = true → H p = none → Q (.ref p) (upd H p (.lst (ys.map V.str)))
theorem cr_sortedTx (hc : X.calm = true) : CallR X (.builtin "sorted") (rSortedTx X.prog X.w) := by
  intro pins s σ H vs us Q I r h
  obtain ⟨a, L, rfl, ha, h64, q⟩ := h
  obtain ⟨u, rfl, rx⟩ := vals1 r
  cases rx
  have hS : SetG (PySem.strKind X.prog X.w) s.heap a L := (I.hok a _ ha).1
  refine sorted_setTx hS (I.ok.hd hc) h64 fun s' p out c ys kp eg eo hp hat h1 h2 h3 => ?_
  obtain ⟨g, g', d', t', o'⟩ := s'
  have eg : g' = s.gens := eg
  have eo : o' = s.os := eo
  subst eg eo
  have hlen : (ys.map V.str).length ≤ sizeLine := by
    rw [List.length_map, h2.length_eq, sizeLine_eq]
    omega
  have I1 : Inv X pins σ (upd H p (.lst (ys.map V.str))) { s with heap := g, toks := t' } := I.laid (t' := t') (fun b o e => kp b o e) hp ⟨hlen, out.toList, c, vals_of_strs h1, by simpa [seqObj] using hat⟩
  exact ⟨.ref p, _, ⟨I1.ok, I1.os, I1.bare, I1.base, I1.loc, I1.cell, I1.free, I1.freeC, I1.pin, I1.hok, I1.len⟩, rfl, q ys p h2 h3 (I.hok.fresh hp)⟩
end
end Ty
namespace Ty
open PySem PySem.Spec PyProof.Rows L2
/-! ### data in the abstract heap, apart from the jar's address -/
mutual
/-- v reads as d; none of its lists lies at j -/
inductive Rep (j : Addr) (H : Hp) : V → PyData → Prop
  | non : Rep j H .non .none
  | bl (b : Bool) : Rep j H (.bl b) (.bool b)
  | int (i : Int) : Rep j H (.int i) (.int i)
  | str (x : Str) : Rep j H (.str x) (.str x)
  | lst {a : Addr} {xs : List V} {ds : List PyData} : a ≠ j → sysModules < a → H a = some (.lst xs) → Reps j H xs ds → Rep j H (.ref a) (.list ds)
  | tup {a : Addr} {xs : List V} {ds : List PyData} : a ≠ j → H a = some (.tup xs) → Reps j H xs ds → Rep j H (.ref a) (.tuple ds)
  | dct {a : Addr} : a ≠ j → H a = some (.dK []) → Rep j H (.ref a) (.dict [])
inductive Reps (j : Addr) (H : Hp) : List V → List PyData → Prop
  | nil : Reps j H [] []
  | cons {v : V} {vs : List V} {d : PyData} {ds : List PyData} : Rep j H v d → Reps j H vs ds → Reps j H (v :: vs) (d :: ds)
end
/-- all that is tracked apart from j stands -/
def Keep (j : Addr) (H H' : Hp) : Prop := ∀ b o, b ≠ j → H b = some o → H' b = some o
theorem Keep.refl {j : Addr} {H : Hp} : Keep j H H := fun _ _ _ h => h
theorem Keep.trans {j : Addr} {H H1 H2 : Hp} (a : Keep j H H1) (b : Keep j H1 H2) : Keep j H H2 := fun c o n h => b c o n (a c o n h)
theorem Keep.of_same {j : Addr} {H H' : Hp} (s : Same H H') : Keep j H H' := fun b o _ h => s b o h
theorem same_new {H : Hp} {p : Addr} (h : H p = none) (o : HO) : Same H (upd H p o) := fun b u q => by rw [upd_ne (ne_of_none q h)]; exact q
theorem keep_new {j : Addr} {H : Hp} {p : Addr} (h : H p = none) (o : HO) : Keep j H (upd H p o) := .of_same (same_new h o)
theorem keep_jar {j : Addr} {H : Hp} (o : HO) : Keep j H (upd H j o) := fun b u n q => by rw [upd_ne n]; exact q
section
variable {j : Addr} {H H' : Hp}
mutual
theorem Rep.keep (k : Keep j H H') : ∀ (d : PyData) (v : V), Rep j H v d → Rep j H' v d
  | .none, _, h => by cases h; exact .non
  | .bool _, _, h => by cases h; exact .bl _
  | .int _, _, h => by cases h; exact .int _
  | .str _, _, h => by cases h; exact .str _
  | .list ds, _, h => by
    cases h with
    | lst n g e r => exact .lst n g (k _ _ n e) (Reps.keep k ds _ r)
  | .tuple ds, _, h => by
    cases h with
    | tup n e r => exact .tup n (k _ _ n e) (Reps.keep k ds _ r)
  | .dict _, _, h => by
    cases h with
    | dct n e => exact .dct n (k _ _ n e)
theorem Reps.keep (k : Keep j H H') : ∀ (ds : List PyData) (vs : List V), Reps j H vs ds → Reps j H' vs ds
  | [], _, h => by cases h; exact .nil
  | d :: ds, _, h => by
    cases h with
    | cons r t => exact .cons (Rep.keep k d _ r) (Reps.keep k ds _ t)
end
theorem Reps.length : ∀ {vs : List V} {ds : List PyData}, Reps j H vs ds → vs.length = ds.length
  | _, _, .nil => rfl
  | _, _, .cons _ t => by rw [List.length_cons, List.length_cons, Reps.length t]
theorem Reps.get : ∀ {vs : List V} {ds : List PyData} {i : Nat} {v : V}, Reps j H vs ds → vs[i]? = some v → ∃ d, ds[i]? = some d ∧ Rep j H v d
  | _, _, _, _, .nil, e => by simp at e
  | _, _, 0, _, .cons r _, e => by simp at e; subst e; exact ⟨_, rfl, r⟩
  | _, _, i + 1, v, .cons _ t, e => by
    obtain ⟨d, h1, h2⟩ := Reps.get (i := i) (v := v) t (by simpa using e)
    exact ⟨d, by simpa using h1, h2⟩
theorem Reps.append : ∀ {vs ws : List V} {ds es : List PyData}, Reps j H vs ds → Reps j H ws es → Reps j H (vs ++ ws) (ds ++ es)
  | _, _, _, _, .nil, t => t
  | _, _, _, _, .cons r q, t => .cons r (Reps.append q t)
theorem Reps.take : ∀ {vs : List V} {ds : List PyData} (n : Nat), Reps j H vs ds → Reps j H (vs.take n) (ds.take n)
  | _, _, 0, _ => .nil
  | _, _, _ + 1, .nil => .nil
  | _, _, n + 1, .cons r t => .cons r (Reps.take n t)
theorem Reps.drop : ∀ {vs : List V} {ds : List PyData} (n : Nat), Reps j H vs ds → Reps j H (vs.drop n) (ds.drop n)
  | _, _, 0, r => r
  | _, _, _ + 1, .nil => .nil
  | _, _, n + 1, .cons _ t => Reps.drop n t
theorem Reps.reverse : ∀ {vs : List V} {ds : List PyData}, Reps j H vs ds → Reps j H vs.reverse ds.reverse
  | _, _, .nil => .nil
  | _, _, .cons r t => by
    rw [List.reverse_cons, List.reverse_cons]
    exact Reps.append (Reps.reverse t) (.cons r .nil)
end
section
variable {X : Cx} {pins : List (Addr × Obj)} {σ : L2.St} {H : Hp} {s : Shared} {j : Addr}
mutual
theorem Rep.reads (I : Inv X pins σ H s) : ∀ (d : PyData) (v : V) (u : Value), Rep j H v d → RelV v u → ∃ as, Reads s.heap u d as ∧ sysModules ∉ as
  | .none, _, _, h, r => by
    cases h
    cases r
    exact ⟨_, Reads.none, by simp⟩
  | .bool b, _, _, h, r => by
    cases h
    cases r
    exact ⟨_, Reads.bool b, by simp⟩
  | .int i, _, _, h, r => by
    cases h
    obtain ⟨t, rfl⟩ := r
    exact ⟨_, Reads.int i t, by simp⟩
  | .str x, _, _, h, r => by
    cases h
    obtain ⟨t, rfl⟩ := r
    exact ⟨_, Reads.str x t, by simp⟩
  | .list ds, _, _, h, r => by
    cases h with
    | lst n g e q =>
      cases r
      obtain ⟨z, its, m, rv, ho⟩ := I.hok _ _ e
      obtain ⟨as, hr, hn⟩ := Reps.reads I ds _ its q rv
      exact ⟨_, Reads.list ho rfl rfl (by simpa using hr), by simp only [List.mem_cons, not_or]; exact ⟨Nat.ne_of_lt g, hn⟩⟩
  | .tuple ds, _, _, h, r => by
    cases h with
    | tup n e q =>
      cases r
      obtain ⟨z, its, rv, o, ho, hc, m, hd⟩ := I.hok _ _ e
      obtain ⟨as, hr, hn⟩ := Reps.reads I ds _ its q rv
      exact ⟨_, Reads.tuple ho hc hd (by simpa using hr), hn⟩
  | .dict _, _, _, h, r => by
    cases h with
    | @dct a n e =>
      cases r
      obtain ⟨z, hs, vs, rel, dd⟩ := I.hok _ _ e
      cases rel
      obtain ⟨o, es, ep, ho, hx, hd, _, hp, _⟩ := dd
      have he : es.toList = [] := by
        cases q : es.toList with
        | nil => rfl
        | cons e l =>
          rw [q] at hp
          cases hp
      have hn : (a == sysModules) = false := hs
      exact ⟨_, Reads.dict (kvs := []) ho hx.1 hd (by rw [he]; exact ReadsAll.nil) (by rw [he]; exact ReadsAll.nil), by
        simp only [List.append_nil, List.mem_cons, List.not_mem_nil, or_false]
        intro z
        rw [← z] at hn
        simp at hn⟩
theorem Reps.reads (I : Inv X pins σ H s) : ∀ (ds : List PyData) (vs : List V) (us : List Value), Reps j H vs ds → Vals vs us → ∃ as, ReadsAll s.heap us ds as ∧ sysModules ∉ as
  | [], _, _, h, r => by
    cases h
    cases r
    exact ⟨_, ReadsAll.nil, by simp⟩
  | d :: ds, _, _, h, r => by
    cases h with
    | cons h1 h2 =>
      cases r with
      | cons r1 r2 =>
        obtain ⟨as, q1, n1⟩ := Rep.reads I d _ _ h1 r1
        obtain ⟨bs, q2, n2⟩ := Reps.reads I ds _ _ h2 r2
        exact ⟨_, ReadsAll.cons q1 q2, by simp only [List.mem_append, not_or]; exact ⟨n1, n2⟩⟩
end
end
end Ty
namespace Ty
open PySem PySem.Spec PyProof.Rows L2
section
variable {X : Cx}
/-! ### new lists that lie behind the modules' table -/
def tLstN (t : TA) : TE := fun σ H Q => t σ H fun xs H1 => xs.length ≤ sizeLine ∧ ∀ p, H1 p = none → sysModules < p → Q (.ref p) (upd H1 p (.lst xs))
theorem pe_lstN {es : List Expr} {t : TA} {pos : Pos} (h : PA X es t) : PE X (.List es pos) (tLstN t) := by
  refine ⟨fun pins s σ H Q I hq => ?_⟩
  refine wpAny_List_spliced (thn (h.run pos pins s σ H _ I hq) fun us s1 hv => ?_)
  obtain ⟨xs, H1, I1, r, z, q⟩ := hv
  refine ⟨by rw [← r.length]; exact z, .ref s1.heap.objs.size, upd H1 s1.heap.objs.size (.lst xs), I1.laid (t' := s1.toks) (fun b u e => Heap.get?_push_of_some _ e) (Nat.le_refl _) ⟨z, us, 0, r, Heap.get?_push_size _ rfl⟩, rfl, q _ (I1.hok.fresh (Nat.le_refl _)) I1.big⟩
def rListN (K : PySem.W.Frag) : List V → Hp → VK → Prop := fun xs H Q => ∃ p ys, xs = [.ref p] ∧ SqT K H p ys ∧ ∀ l, H l = none → sysModules < l → Q (.ref l) (upd H l (.lst ys))
theorem call_listN : CallR X (.type "list") (rListN X.K) := by
  intro pins s σ H xs us Q I r h
  obtain ⟨p, ys, rfl, hq, q⟩ := h
  obtain ⟨u, rfl, rx⟩ := vals1 r
  cases rx
  obtain ⟨its, r', pl, hz⟩ := I.tuple hq
  have hlen := r'.length
  obtain ⟨o, ho, hc, n, hd⟩ := pl
  refine call_list_seq p (.inr rfl) ho hc hd (fun g c kp e => ?_) (by rw [List.size_toArray, ← hlen]; exact hz)
  exact ⟨.ref s.heap.objs.size, _, I.laid (t' := s.toks) kp (Nat.le_refl _) (show ObjOk X.prog X.w _ g _ (.lst ys) from ⟨hz, its, c, r', e⟩), rfl, q _ (I.hok.fresh (Nat.le_refl _)) I.big⟩
/-! ### str of data, where no repr is under way -/
def strD : PyData → Str
  | .str x => x
  | d => d.shown
def rStrD (j : Addr) : List V → Hp → VK → Prop := fun vs H Q => ∃ v d, vs = [v] ∧ Rep j H v d ∧ d.showable = true ∧ d.shown.length ≤ sizeLine ∧ d.depth ≤ 60 ∧ Q (.str (strD d)) H
theorem call_strD {j : Addr} (hg : X.A.guards = some []) (hu : X.A.units + 64 < cLine) : CallR X (.type "str") (rStrD j) := by
  intro pins s σ H xs us Q I r h
  obtain ⟨v, d, rfl, rp, hs, hz, hd, q⟩ := h
  obtain ⟨u, rfl, rx⟩ := vals1 r
  cases rp with
  | non => cases rx; exact PySem.P.str_of_none ⟨.str _, H, I.tok _, ⟨_, rfl⟩, q⟩
  | bl b => cases rx; exact PySem.P.str_of_bool ⟨.str _, H, I.tok _, ⟨_, rfl⟩, q⟩
  | int i => obtain ⟨t, rfl⟩ := rx; exact PySem.P.str_of_int (of_decide_eq_true hs) ⟨.str _, H, I.tok _, ⟨_, rfl⟩, q⟩
  | str x => obtain ⟨t, rfl⟩ := rx; exact PySem.P.str_of_str ⟨.str x, H, I, ⟨_, rfl⟩, q⟩
  | lst n g e rs =>
    obtain ⟨as, rd, hn⟩ := Rep.reads I _ _ _ (.lst n g e rs) rx
    cases rx
    exact str_of_reads rd hs (fun _ => hn) hg (by omega) (fun _ _ e => e) (fun g u tk kp => ⟨.str _, H, I.kept (t' := tk) kp, ⟨_, rfl⟩, q⟩) hz
  | tup n e rs =>
    obtain ⟨as, rd, hn⟩ := Rep.reads I _ _ _ (.tup n e rs) rx
    cases rx
    exact str_of_reads rd hs (fun _ => hn) hg (by omega) (fun _ _ e => e) (fun g u tk kp => ⟨.str _, H, I.kept (t' := tk) kp, ⟨_, rfl⟩, q⟩) hz
  | dct n e =>
    obtain ⟨as, rd, hn⟩ := Rep.reads I _ _ _ (.dct n e) rx
    cases rx
    exact str_of_reads rd hs (fun _ => hn) hg (by omega) (fun _ _ e => e) (fun g u tk kp => ⟨.str _, H, I.kept (t' := tk) kp, ⟨_, rfl⟩, q⟩) hz
/-! ### a tuple against the empty one -/
def rEqT0 (K : PySem.W.Frag) : R2 := fun x y H Q => ∃ a b xs, x = .ref a ∧ y = .ref b ∧ SqT K H a xs ∧ SqT K H b [] ∧ Q (.bl (decide (xs = []))) H
theorem op_eqT0 (hu : X.A.units < cLine) : OpR X (compareOp .Eq) (rEqT0 X.K) := by
  intro pins s σ H x y v u Q I rx ry h
  obtain ⟨a, b, xs, rfl, rfl, ha, hb, q⟩ := h
  cases rx
  cases ry
  obtain ⟨its, r1, p1, _⟩ := I.tuple ha
  obtain ⟨its2, r2, p2, _⟩ := I.tuple hb
  cases r2
  have hlen := r1.length
  refine SeqAt.eq_tupleAt (e := fun _ => true) p1 p2 hu (fun k h1 h2 => absurd h2 (by simp)) ⟨.bl _, H, I, rfl, ?_⟩
  have e : ((List.range (min its.toArray.size ([] : List Value).toArray.size)).all (fun _ => true) && its.toArray.size == ([] : List Value).toArray.size) = decide (xs = []) := by
    cases xs with
    | nil =>
      cases its with
      | nil => rfl
      | cons => cases hlen
    | cons =>
      cases its with
      | nil => cases hlen
      | cons => simp
  rw [e]
  exact q
end
end Ty
namespace Ty
open PySem PySem.Spec PyProof.Rows L2
abbrev top (i : Nat) : Stmt := PySem.Challenge.pw_tongueyard_k00_which_are_patterns.main.body.getD i (.Pass ⟨0, 0, 0, 0⟩)
abbrev sSigns : Stmt := top 4
abbrev sWithin : Stmt := top 5
abbrev sPattern : Stmt := top 6
abbrev sJar : Stmt := top 8
abbrev sDip : Stmt := top 9
abbrev sAll : Stmt := top 10
abbrev sOf : Stmt := top 11
abbrev sMould : Stmt := top 12
abbrev sIs : Stmt := top 13
abbrev sOdd : Stmt := top 14
abbrev sPut : Stmt := top 15
abbrev sSame : Stmt := top 16
abbrev sLaw : Stmt := top 17
theorem scDip : FnScope ["jar", "many", "digit", "mixed"] ["jar", "many"] (defScope sDip) := ⟨rfl, rfl, rfl, by decide +kernel, rfl, by decide +kernel, by decide +kernel⟩
theorem scJar : FnScope ["script", "k", "cell"] ["script", "k"] (defScope sJar) := ⟨rfl, rfl, rfl, by decide +kernel, rfl, by decide +kernel, by decide +kernel⟩
theorem scAll : FnScope ["low"] [] (defScope sAll) := ⟨rfl, rfl, rfl, by decide +kernel, rfl, by decide +kernel, by decide +kernel⟩
/-! ### the jar -/
def Jar (j : Addr) (H : Hp) (C : Nat) : Prop := ∃ a b c : Int, H j = some (.lst [.int a, .int b, .int c]) ∧ b.natAbs < 2 ^ 100 ∧ 0 ≤ c ∧ c ≤ (C : Int)
theorem Jar.mono {j : Addr} {H : Hp} {C D : Nat} (h : Jar j H C) (l : C ≤ D) : Jar j H D := by
  obtain ⟨a, b, c, h1, h2, h3, h4⟩ := h
  exact ⟨a, b, c, h1, h2, h3, by omega⟩
theorem Jar.keep {j : Addr} {H H' : Hp} {C : Nat} (h : Jar j H C) (s : Same H H') : Jar j H' C := by
  obtain ⟨a, b, c, h1, h2⟩ := h
  exact ⟨a, b, c, s _ _ h1, h2⟩
theorem Jar.ne {j p : Addr} {H : Hp} {C : Nat} (h : Jar j H C) (n : H p = none) : p ≠ j := by
  obtain ⟨a, b, c, h1, _⟩ := h
  intro e
  rw [e, h1] at n
  cases n
def spDip : Sp := fun vs H Q _ => ∃ (j : Addr) (C : Nat) (m : Int), vs = [.ref j, .int m] ∧ Jar j H C ∧ C ≤ 1000000000 ∧ 0 < m ∧ m < 1000000 ∧
  ∀ (r : Int) (H' : Hp), 0 ≤ r → r < m → Jar j H' (C + 1) → Keep j H H' → Q (.int r) H'
def spJar (K : PySem.W.Frag) : Sp := fun vs H Q _ => ∃ (a : Addr) (ns : List Int) (k : Int), vs = [.ref a, .int k] ∧ SqL K H a (ns.map V.int) ∧ ns.length ≤ sizeLine ∧ 0 ≤ k ∧ k < 1000 ∧
  ∀ (j : Addr) (H' : Hp), H j = none → Same H H' → Jar j H' 0 → Q (.ref j) H'
section
variable {P : Program} {w : World} {K : PySem.W.Frag} {mg : Str → Option Value} {base : Heap} {f : Addr} {fd : FuncData}
theorem ok_dip (F : Fun K "_law_dip" "_law_dip" sDip f fd) : FnOk P w K mg base CX0 1 f fd ["jar", "many"] spDip := by
  refine F.ok scDip (fun vs H Q E h => ?_) (fun cdv A outer s H vs Q E hr h => ?_)
  · obtain ⟨j, C, m, rfl, _⟩ := h
    rfl
  obtain ⟨j, C, m, rfl, ⟨a, b, c, hj, hb, hc0, hc⟩, hC, m0, m1, q⟩ := h
  have jx : ∀ {X : Cx}, IxR X (rIxL X.K) := fun {X} => ix_list
  refine ⟨_, pss_cons (ps_if (pt_cmpR op_gt (pe_ix ix_list (pv 0) pe_int (fun _ _ => rfl)) pe_int (nomark _))
      (pss_cons (ps_set (i := 2) scDip.nd rfl (.inl rfl) (pe_op op_mod (pe_ix ix_list (pv 0) pe_int (fun _ _ => rfl)) (pv 1)))
        (pss_cons (ps_asg (pe_op op_fdivN (pe_ix ix_list (pv 0) pe_int (fun _ _ => rfl)) (pv 1)) (pg_sub (pv 0) pe_int set_list))
          (pss_one (ps_ret (pv 2))))) pss_nil)
    (pss_cons (ps_asg (pe_op op_add (pe_ix ix_list (pv 0) pe_int (fun _ _ => rfl)) pe_int) (pg_sub (pv 0) pe_int set_list))
    (pss_cons (ps_set (i := 3) scDip.nd rfl (.inl rfl) (pe_op op_mod (pe_op op_powW (pe_op op_add (pe_ix ix_list (pv 0) pe_int (fun _ _ => rfl)) (pe_op op_mul pe_int (pe_ix ix_list (pv 0) pe_int (fun _ _ => rfl)))) pe_int) pe_int))
    (pss_cons (ps_set (i := 3) scDip.nd rfl (.inl rfl) (pe_op op_mod (pe_op op_powW (pe_op op_add (pv 3) (pe_op op_mul pe_int (pe_ix ix_list (pv 0) pe_int (fun _ _ => rfl)))) pe_int) pe_int))
    (pss_one (ps_ret (pe_op op_mod (pe_op op_fdivN (pv 3) pe_int) (pv 1))))))), ?_⟩
  have e0 : ∀ (x y z : V), atI [x, y, z] 0 = some x := fun _ _ _ => rfl
  have e1 : ∀ (x y z : V), atI [x, y, z] 1 = some y := fun _ _ _ => rfl
  have e2 : ∀ (x y z : V), atI [x, y, z] 2 = some z := fun _ _ _ => rfl
  refine ⟨_, rfl, j, _, _, _, rfl, rfl, SqL.of hj, e0 _ _ _, _, _, rfl, rfl, _, rfl, ?_⟩
  refine ite2 (fun g => ?_) (fun g => ?_)
  · refine ⟨_, rfl, j, _, _, _, rfl, rfl, SqL.of hj, e0 _ _ _, _, rfl, _, _, rfl, rfl, m0, ?_⟩
    refine ⟨_, rfl, j, _, _, _, rfl, rfl, SqL.of hj, e0 _ _ _, _, rfl, _, _, rfl, rfl, ⟨by omega, by omega⟩, ?_⟩
    refine ⟨_, rfl, j, _, _, 0, rfl, rfl, hj, rfl, ?_⟩
    refine ⟨_, rfl, q _ _ (Int.emod_nonneg _ (by omega)) (Int.emod_lt_of_pos _ m0) ?_ (keep_jar _)⟩
    exact ⟨_, b, c, upd_same, hb, hc0, by omega⟩
  · refine ⟨_, rfl, j, _, _, _, rfl, rfl, SqL.of hj, e2 _ _ _, _, _, rfl, rfl, ?_⟩
    refine ⟨_, rfl, j, _, _, 2, rfl, rfl, hj, rfl, ?_⟩
    have hj2 : (upd H j (.lst [.int a, .int b, .int (c + 1)])) j = some (.lst [.int a, .int b, .int (c + 1)]) := upd_same
    refine ⟨_, rfl, j, _, _, _, rfl, rfl, SqL.of hj2, e1 _ _ _, _, rfl, j, _, _, _, rfl, rfl, SqL.of hj2, e2 _ _ _, _, _, rfl, rfl, .inl ⟨by decide, by decide⟩, _, _, rfl, rfl, ?_⟩
    have hp1 : (b + 104729 * (c + 1)).natAbs < 2 ^ 200 := by
      have : (2 : Nat) ^ 100 + 104729 * 1000000001 < 2 ^ 200 := by decide
      omega
    refine ⟨_, _, rfl, rfl, powW_of hp1 (by decide) (k := 3) (by decide), _, _, rfl, rfl, (show (0 : Int) < 618970019642690137449562111 by decide), ?_⟩
    have hm1 : ∀ x : Int, (x % 618970019642690137449562111).natAbs < 2 ^ 100 := fun x => by
      have h1 := Int.emod_nonneg x (b := 618970019642690137449562111) (by decide)
      have h2 := Int.emod_lt_of_pos x (b := 618970019642690137449562111) (by decide)
      have : (2 : Nat) ^ 100 = 1267650600228229401496703205376 := by decide
      omega
    refine ⟨_, rfl, _, rfl, j, _, _, _, rfl, rfl, SqL.of hj2, e2 _ _ _, _, _, rfl, rfl, .inl ⟨by decide, by decide⟩, _, _, rfl, rfl, ?_⟩
    refine ⟨_, _, rfl, rfl, powW_of (n := 200) ?_ (by decide) (k := 5) (by decide), _, _, rfl, rfl, (show (0 : Int) < 162259276829213363391578010288127 by decide), ?_⟩
    · have := hm1 ((b + 104729 * (c + 1)) ^ (3 : Int).toNat)
      have : (2 : Nat) ^ 100 + 15485863 * 1000000001 < 2 ^ 200 := by decide
      omega
    refine ⟨_, rfl, _, _, rfl, rfl, ⟨by decide, by decide⟩, _, rfl, _, _, rfl, rfl, m0, ?_⟩
    exact q _ _ (Int.emod_nonneg _ (by omega)) (Int.emod_lt_of_pos _ m0) ⟨a, b, c + 1, upd_same, hb, by omega, by omega⟩ (keep_jar _)
end
end Ty
namespace Ty
open PySem PySem.Spec PyProof.Rows L2
/-! ### bounds of data -/
mutual
def wt : PyData → Nat
  | .str x => 12 * x.length + 10
  | .list ds => wts ds + 10
  | .tuple ds => wts ds + 10
  | .none => 10
  | .bool _ => 10
  | .int _ => 10
  | .dict _ => 10
def wts : List PyData → Nat
  | [] => 0
  | d :: ds => wt d + wts ds
end
theorem wts_append : ∀ a b : List PyData, wts (a ++ b) = wts a + wts b
  | [], b => by simp [wts]
  | d :: a, b => by simp only [List.cons_append, wts, wts_append a b]; omega
theorem wts_take_drop (n : Nat) (a : List PyData) : wts (a.take n) + wts (a.drop n) = wts a := by
  rw [← wts_append, List.take_append_drop]
theorem wts_reverse : ∀ a : List PyData, wts a.reverse = wts a
  | [] => rfl
  | d :: a => by rw [List.reverse_cons, wts_append, wts_reverse a]; simp only [wts]; omega
theorem wts_mem : ∀ {a : List PyData} {d : PyData}, d ∈ a → wt d ≤ wts a
  | _ :: a, _, .head _ => by simp only [wts]; omega
  | _ :: a, d, .tail _ h => by
    have := wts_mem h
    simp only [wts]; omega
theorem wt_ten : ∀ d : PyData, 10 ≤ wt d
  | .str x => by simp only [wt]; omega
  | .list ds => by simp only [wt]; omega
  | .tuple ds => by simp only [wt]; omega
  | .none => by simp only [wt]; omega
  | .bool _ => by simp only [wt]; omega
  | .int _ => by simp only [wt]; omega
  | .dict _ => by simp only [wt]; omega
theorem wts_len : ∀ a : List PyData, 10 * a.length ≤ wts a
  | [] => by simp [wts]
  | d :: a => by
    have h1 := wts_len a
    have h2 := wt_ten d
    simp only [wts, List.length_cons]; omega
/-- tuples of at most L parts, at most n deep, plain signs -/
inductive Fine (L : Nat) : Nat → PyData → Prop
  | non {n : Nat} : Fine L n .none
  | bl {n : Nat} (b : Bool) : Fine L n (.bool b)
  | int {n : Nat} {i : Int} (h0 : 0 ≤ i) (h7 : i ≤ 7) : Fine L n (.int i)
  | str {n : Nat} {x : Str} (h : ∀ c, c ∈ x.cps.toList → c < 128) : Fine L n (.str x)
  | lst {n : Nat} {ds : List PyData} (h : ∀ d, d ∈ ds → Fine L n d) : Fine L (n + 1) (.list ds)
  | tup {n : Nat} {ds : List PyData} (hl : ds.length ≤ L) (h : ∀ d, d ∈ ds → Fine L n d) : Fine L (n + 1) (.tuple ds)
  | dct {n : Nat} : Fine L n (.dict [])
theorem Fine.mono {L n : Nat} {d : PyData} (f : Fine L n d) : ∀ {L' n' : Nat}, L ≤ L' → n ≤ n' → Fine L' n' d := by
  induction f with
  | non => intros; exact .non
  | bl b => intros; exact .bl b
  | int h0 h7 => intros; exact .int h0 h7
  | str h => intros; exact .str h
  | dct => intros; exact .dct
  | lst h ih =>
    intro L' n' hL hn
    cases n' with
    | zero => omega
    | succ n' => exact .lst fun d hd => ih d hd hL (by omega)
  | tup hl h ih =>
    intro L' n' hL hn
    cases n' with
    | zero => omega
    | succ n' => exact .tup (by omega) fun d hd => ih d hd hL (by omega)
theorem Fine.depth : ∀ {L n : Nat} {d : PyData}, Fine L n d → d.depth ≤ n + 1 := by
  intro L n d f
  have all : ∀ (n : Nat) (ds : List PyData), (∀ d, d ∈ ds → d.depth ≤ n) → PyData.depthAll ds ≤ n := by
    intro n ds
    induction ds with
    | nil => intro _; simp [PyData.depthAll]
    | cons d ds ih =>
      intro h
      have h1 := h d List.mem_cons_self
      have h2 := ih fun e he => h e (List.mem_cons_of_mem _ he)
      simp only [PyData.depthAll]
      omega
  induction f with
  | non => simp [PyData.depth]
  | bl b => simp [PyData.depth]
  | int h0 h7 => simp [PyData.depth]
  | str h => simp [PyData.depth]
  | dct => simp [PyData.depth, PyData.depthKv]
  | lst h ih =>
    have := all _ _ ih
    simp only [PyData.depth]
    omega
  | tup hl h ih =>
    have := all _ _ ih
    simp only [PyData.depth]
    omega
theorem Fine.showable : ∀ {L n : Nat} {d : PyData}, Fine L n d → d.showable = true := by
  intro L n d f
  have all : ∀ (ds : List PyData), (∀ d, d ∈ ds → d.showable = true) → PyData.showableAll ds = true := by
    intro ds
    induction ds with
    | nil => intro _; simp [PyData.showableAll]
    | cons d ds ih =>
      intro h
      simp only [PyData.showableAll, h d List.mem_cons_self, ih fun e he => h e (List.mem_cons_of_mem _ he), Bool.and_self]
  induction f with
  | non => simp [PyData.showable]
  | bl b => simp [PyData.showable]
  | @int n i h0 h7 =>
    have : i.natAbs ≤ 7 := by omega
    have h2 : i.natAbs.log2 ≤ i.natAbs := by
      have := Nat.log2_le_self i.natAbs
      exact this
    simp only [PyData.showable, decide_eq_true_eq]
    omega
  | str h => simp [PyData.showable]
  | dct => simp [PyData.showable, PyData.showableKv]
  | lst h ih =>
    simp only [PyData.showable]
    exact all _ ih
  | tup hl h ih =>
    simp only [PyData.showable]
    exact all _ ih
end Ty
namespace Ty
open PySem PySem.Spec PyProof.Rows L2
theorem listText_le (ts : List Str) : (listText ts).length ≤ piled ts + 2 := by
  cases ts with
  | nil => decide
  | cons t r =>
    have h := textFrom_length_pos r 1 (("[" : Str) ++ (if (0 : Nat) > 0 then ", " else "" : String) ++ t) (Nat.succ_pos 0)
    show (textFrom 1 (("[" : Str) ++ (if (0 : Nat) > 0 then ", " else "" : String) ++ t) r ++ "]").length ≤ _
    rw [strLen_append, h, strLen_append, strLen_append, piled_cons]
    have e1 : ((("[" : String) : Str)).length = 1 := rfl
    have e2 : ((("]" : String) : Str)).length = 1 := rfl
    have e3 : (((if (0 : Nat) > 0 then ", " else "" : String) : Str)).length = 0 := rfl
    omega
theorem tupleText_le (ts : List Str) : (tupleText ts).length ≤ piled ts + 3 := by
  unfold tupleText
  rw [strLen_append, strLen_append]
  have e1 : ((("(" : String) : Str)).length = 1 := rfl
  have e3 : (((if ts.length == 1 then ",)" else ")" : String) : Str)).length ≤ 2 := by split <;> decide
  rw [e1]
  by_cases h : ts = []
  · subst h
    have : (Str.join ", " ([] : List Str)).length = 0 := rfl
    omega
  · have := join_length_add ts h
    omega
theorem small_int : ∀ k : Nat, k ≤ 7 → (Str.ofString (toString (k : Int))).length = 1 := by decide +kernel
theorem Fine.shown_le : ∀ {L n : Nat} {d : PyData}, Fine L n d → d.shown.length + 2 ≤ wt d := by
  intro L n d f
  have all : ∀ (ds : List PyData), (∀ d, d ∈ ds → d.shown.length + 2 ≤ wt d) → piled (PyData.shownAll ds) ≤ wts ds := by
    intro ds
    induction ds with
    | nil => intro _; simp [PyData.shownAll, piled, wts]
    | cons d ds ih =>
      intro h
      have h1 := h d List.mem_cons_self
      have h2 := ih fun e he => h e (List.mem_cons_of_mem _ he)
      simp only [PyData.shownAll, piled_cons, wts]
      omega
  induction f with
  | non => simp only [PyData.shown, wt]; decide
  | bl b => simp only [PyData.shown, wt]; cases b <;> decide
  | @int n i h0 h7 =>
    have e : i = ((i.toNat : Nat) : Int) := by omega
    have h := small_int i.toNat (by omega)
    rw [← e] at h
    have h' : (PyData.int i).shown.length = 1 := by
      simp only [PyData.shown]
      exact h
    rw [h']
    simp only [wt]
    omega
  | @str n x h =>
    have := PySem.StrLaws.reprText_len x fun c hc => by have := h c hc; omega
    simp only [PyData.shown, wt]
    omega
  | dct => simp only [PyData.shown, PyData.shownKv, wt]; decide
  | @lst n ds h ih =>
    have h1 := all _ ih
    have h2 := listText_le (PyData.shownAll ds)
    simp only [PyData.shown, wt]
    omega
  | @tup n ds hl h ih =>
    have h1 := all _ ih
    have h2 := tupleText_le (PyData.shownAll ds)
    simp only [PyData.shown, wt]
    omega
/-! ### capitals of plain signs -/
theorem upper_one : ∀ c : Nat, c < 128 → (Unicode.upperOf c).length = 1 ∧ ∀ x ∈ Unicode.upperOf c, x < 128 := by decide +kernel
/-! ### the signs -/
def signs : List Nat := 10 :: (List.range' 32 5 ++ List.range' 38 89)
def allS : Str := ⟨signs.toArray⟩
theorem signs_up : signs.Pairwise (· < ·) := by decide +kernel
theorem signs_low : ∀ c ∈ signs, c < 128 := by decide +kernel
theorem signs_len : signs.length = 95 := rfl
theorem asc_eq : ∀ {a b : List Nat}, a.Pairwise (· < ·) → b.Pairwise (· < ·) → (∀ x, x ∈ a ↔ x ∈ b) → a = b
  | [], [], _, _, _ => rfl
  | [], y :: b, _, _, h => by
    have := (h y).mpr List.mem_cons_self
    cases this
  | x :: a, [], _, _, h => by
    have := (h x).mp List.mem_cons_self
    cases this
  | x :: a, y :: b, ha, hb, h => by
    obtain ⟨h1, h2⟩ := List.pairwise_cons.mp ha
    obtain ⟨k1, k2⟩ := List.pairwise_cons.mp hb
    have e : x = y := by
      rcases List.mem_cons.mp ((h x).mp List.mem_cons_self) with e | e
      · exact e
      · rcases List.mem_cons.mp ((h y).mpr List.mem_cons_self) with e' | e'
        · exact e'.symm
        · have := h1 _ e'
          have := k1 _ e
          omega
    subst e
    rw [asc_eq h2 k2 fun z => ?_]
    constructor
    · intro hz
      rcases List.mem_cons.mp ((h z).mp (List.mem_cons_of_mem _ hz)) with e | e
      · have := h1 _ hz
        omega
      · exact e
    · intro hz
      rcases List.mem_cons.mp ((h z).mpr (List.mem_cons_of_mem _ hz)) with e | e
      · have := k1 _ hz
        omega
      · exact e
/-- each sign ahead of the next -/
def rises : List Nat → Bool
  | a :: b :: r => decide (a < b) && rises (b :: r)
  | _ => true
theorem rises_iff : ∀ l : List Nat, rises l = true ↔ l.Pairwise (· < ·)
  | [] => by simp [rises]
  | [a] => by simp [rises]
  | a :: b :: r => by
    have ih := rises_iff (b :: r)
    rw [rises, Bool.and_eq_true, ih, decide_eq_true_eq]
    constructor
    · rintro ⟨h1, h2⟩
      refine List.pairwise_cons.mpr ⟨fun x hx => ?_, h2⟩
      rcases List.mem_cons.mp hx with e | e
      · omega
      · have := (List.pairwise_cons.mp h2).1 _ e
        omega
    · intro h
      obtain ⟨h1, h2⟩ := List.pairwise_cons.mp h
      exact ⟨h1 _ List.mem_cons_self, h2⟩
theorem signs_two (l : List Nat) : (l.all (fun c => decide (c ∈ signs)) && rises l) = decide (signs.filter (fun c => decide (c ∈ l)) = l) := by
  rw [Bool.eq_iff_iff, Bool.and_eq_true, rises_iff, List.all_eq_true, decide_eq_true_eq]
  constructor
  · rintro ⟨h1, h2⟩
    refine asc_eq (signs_up.filter _) h2 fun x => ?_
    rw [List.mem_filter, decide_eq_true_eq]
    exact ⟨fun h => h.2, fun h => ⟨of_decide_eq_true (h1 x h), h⟩⟩
  · intro h
    constructor
    · intro x hx
      rw [← h, List.mem_filter] at hx
      exact decide_eq_true hx.1
    · rw [← h]
      exact signs_up.filter _
/-- a text of signs, each once and in their order -/
def good (x : Str) : Bool := decide (x ≠ ⟨#[]⟩) && decide (signs.filter (fun c => decide (c ∈ x.cps.toList)) = x.cps.toList)
def cnt (w : Str) : Option Nat := if w = "empty" then some 0 else if w = "then" then some 2 else if w = "or" then some 2 else if w = "again" then some 1 else if w = "more" then some 1 else if w = "maybe" then some 1 else none
/-- what is a pattern; b: whether a word of no kind passes with nine parts -/
def mold (b : Bool) : Nat → PyData → Bool
  | 0, _ => false
  | n + 1, .tuple (.str w :: ds) =>
    if w = "signs" then (match ds with | [.str x] => good x | _ => false)
    else match cnt w with
      | some k => decide (ds.length = k) && ds.all (mold b n)
      | none => b && decide (ds.length = 9) && ds.all (mold b n)
  | _ + 1, _ => false
theorem mold_two : ∀ {n m : Nat} {d : PyData}, Fine 9 m d → mold true n d = mold false n d
  | 0, m, d, f => by cases d <;> rfl
  | n + 1, m, d, f => by
    cases f with
    | non => rfl
    | bl b => rfl
    | int h0 h7 => rfl
    | str h => rfl
    | dct => rfl
    | lst h => rfl
    | @tup m ds hl h =>
      cases ds with
      | nil => rfl
      | cons d ds =>
        cases d with
        | str w =>
          have e : ds.all (mold true n) = ds.all (mold false n) := by
            rw [Bool.eq_iff_iff, List.all_eq_true, List.all_eq_true]
            constructor
            · intro q x hx
              rw [← mold_two (h x (List.mem_cons_of_mem _ hx))]
              exact q x hx
            · intro q x hx
              rw [mold_two (h x (List.mem_cons_of_mem _ hx))]
              exact q x hx
          simp only [mold]
          rw [e]
          have z : decide (ds.length = 9) = false := by
            simp only [List.length_cons] at hl
            exact decide_eq_false (by omega)
          rw [z]
          simp
        | _ => rfl
end Ty
namespace Ty
open PySem PySem.Spec PyProof.Rows L2
/-! ### types of data -/
def tyOf : PyData → String
  | .none => "NoneType"
  | .bool _ => "bool"
  | .int _ => "int"
  | .str _ => "str"
  | .list _ => "list"
  | .tuple _ => "tuple"
  | .dict _ => "dict"
def isT : PyData → Bool
  | .tuple _ => true
  | _ => false
def isS : PyData → Bool
  | .str _ => true
  | _ => false
theorem Rep.ty {K : PySem.W.Frag} {j : Addr} {H : Hp} {v : V} {d : PyData} (r : Rep j H v d) : TyX K H v (.type (tyOf d)) := by
  cases r with
  | non => exact .base .non
  | bl b => exact .base (.bl b)
  | int i => exact .base (.int i)
  | str x => exact .base (.str x)
  | lst n g e q => exact .base (.lst e)
  | tup n e q => exact .base (.tup e)
  | dct n e => exact .base (.dK e)
theorem kit_s (K : PySem.W.Frag) : ∀ d : PyData, PySem.W.kitOne K (.type (tyOf d)) (.type "str") = some (isS d)
  | .none => kit_ty (show kitB "NoneType" "str" = some false by decide +kernel)
  | .bool _ => kit_ty (show kitB "bool" "str" = some false by decide +kernel)
  | .int _ => kit_ty (show kitB "int" "str" = some false by decide +kernel)
  | .str _ => kit_ty (show kitB "str" "str" = some true by decide +kernel)
  | .list _ => kit_ty (show kitB "list" "str" = some false by decide +kernel)
  | .tuple _ => kit_ty (show kitB "tuple" "str" = some false by decide +kernel)
  | .dict _ => kit_ty (show kitB "dict" "str" = some false by decide +kernel)
theorem kit_t (K : PySem.W.Frag) : ∀ d : PyData, PySem.W.kitOne K (.type (tyOf d)) (.type "tuple") = some (isT d)
  | .none => kit_ty (show kitB "NoneType" "tuple" = some false by decide +kernel)
  | .bool _ => kit_ty (show kitB "bool" "tuple" = some false by decide +kernel)
  | .int _ => kit_ty (show kitB "int" "tuple" = some false by decide +kernel)
  | .str _ => kit_ty (show kitB "str" "tuple" = some false by decide +kernel)
  | .list _ => kit_ty (show kitB "list" "tuple" = some false by decide +kernel)
  | .tuple _ => kit_ty (show kitB "tuple" "tuple" = some true by decide +kernel)
  | .dict _ => kit_ty (show kitB "dict" "tuple" = some false by decide +kernel)
theorem Rep.isS_ex {j : Addr} {H : Hp} {v : V} {d : PyData} (r : Rep j H v d) (h : isS d = true) : ∃ x, d = .str x ∧ v = .str x := by
  cases d with
  | str x => cases r; exact ⟨_, rfl, rfl⟩
  | _ => cases h
theorem Rep.isT_ex {j : Addr} {H : Hp} {v : V} {d : PyData} (r : Rep j H v d) (h : isT d = true) : ∃ a xs ds, d = .tuple ds ∧ v = .ref a ∧ a ≠ j ∧ H a = some (.tup xs) ∧ Reps j H xs ds := by
  cases d with
  | tuple ds => cases r with | tup n e q => exact ⟨_, _, _, rfl, rfl, n, e, q⟩
  | _ => cases h
/-- what a pattern's signs must be -/
def goodD : PyData → Bool
  | .str x => good x
  | _ => false
theorem tail_cut (z : Str) : (cutS z (some 1) none).cps.toList = z.cps.toList.drop 1 := by
  unfold cutS
  have e1 : HT.sIx z.length 0 (some 1) = min 1 z.length := by
    unfold HT.sIx
    simp
  have e2 : HT.sIx z.length z.length none = z.length := rfl
  rw [e1, e2]
  have hl : z.cps.toList.length = z.length := by simp [Str.length]
  show List.take _ _ = _
  by_cases h : z.length = 0
  · have : z.cps.toList = [] := List.eq_nil_of_length_eq_zero (by omega)
    simp [this]
  · have : min 1 z.length = 1 := by omega
    rw [this]
    exact List.take_of_length_le (by rw [List.length_drop, hl]; omega)
/-- each with the next -/
def lts (l : List Nat) : List Bool := List.zipWith (fun a b => decide (a < b)) l (l.drop 1)
theorem lts_length (l : List Nat) : (lts l).length = l.length - 1 := by
  unfold lts
  rw [List.length_zipWith, List.length_drop]
  omega
theorem lts_get {l : List Nat} {i c e : Nat} (h1 : l[i]? = some c) (h2 : l[i + 1]? = some e) : (lts l)[i]? = some (decide (c < e)) := by
  unfold lts
  rw [List.getElem?_zipWith, h1, List.getElem?_drop, Nat.add_comm 1 i, h2]
theorem lts_all : ∀ l : List Nat, (lts l).all id = rises l
  | [] => rfl
  | [_] => rfl
  | a :: b :: r => by
    have ih := lts_all (b :: r)
    rw [rises, ← ih]
    rfl
theorem lt_one (c e : Nat) : decide (([c] : List Nat) < [e]) = decide (c < e) := by
  rw [Bool.eq_iff_iff, decide_eq_true_eq, decide_eq_true_eq]
  constructor
  · intro h
    rcases List.cons_lt_cons_iff.mp h with h | ⟨_, h⟩
    · exact h
    · cases h
  · intro h
    exact List.cons_lt_cons_iff.mpr (.inl h)
theorem walk_zipS {x y : Str} : Walk (ItzS x y) (min x.cps.size y.cps.size) (fun _ => True) (fun i H v H' => ∃ T c d, v = .ref T ∧ H T = none ∧ H' = upd H T (.tup [.str ⟨#[c]⟩, .str ⟨#[d]⟩]) ∧ x.cps[i]? = some c ∧ y.cps[i]? = some d) :=
  ⟨fun _ _ hi _ => hi, fun _ _ => rfl, fun _ _ _ _ _ _ y => y⟩
def spSigns : Sp := fun vs H Q _ => ∃ (j : Addr) (v : V) (d : PyData), vs = [v] ∧ Rep j H v d ∧ wt d ≤ 10000000 ∧ ∀ H', Same H H' → Q (.bl (goodD d)) H'
theorem scSigns : FnScope ["thing", "sign", "one", "other"] ["thing"] (defScope sSigns) := ⟨rfl, rfl, rfl, by decide +kernel, rfl, by decide +kernel, by decide +kernel⟩
/-- a list that is made beside what stands -/
def Acc (H1 : Hp) (D : Addr) (ys : List V) (H : Hp) : Prop := Same H1 H ∧ H D = some (.lst ys)
theorem Acc.nil {H : Hp} {D : Addr} (n : H D = none) : Acc H D [] (upd H D (.lst [])) := ⟨same_new n _, upd_same⟩
theorem Acc.push {H1 H : Hp} {D : Addr} {ys : List V} (a : Acc H1 D ys H) (n : H1 D = none) (y : V) : Acc H1 D (ys ++ [y]) (upd H D (.lst (ys ++ [y]))) :=
  ⟨fun b o e => by rw [upd_ne (ne_of_none e n)]; exact a.1 b o e, upd_same⟩
theorem Acc.same {H1 H H' : Hp} {D : Addr} {ys : List V} (a : Acc H1 D ys H) (s : Same H H') : Acc H1 D ys H' := ⟨a.1.trans s, s _ _ a.2⟩
section
variable {P : Program} {w : World} {K : PySem.W.Frag} {mg : Str → Option Value} {base : Heap} {f : Addr} {fd : FuncData}
theorem ok_signs {t : Tok} (F : Fun K "is_signs" "is_signs" sSigns f fd) (mS : mg "SIGNS" = some (.str allS t)) (mi : mg "isinstance" = none) (ms : mg "str" = none) (ma : mg "all" = none) (mz : mg "zip" = none) :
    FnOk P w K mg base CX0 1 f fd ["thing"] spSigns := by
  refine F.ok scSigns (fun vs H Q E h => ?_) (fun cdv A outer s H vs Q E hr h => ?_)
  · obtain ⟨j, v, d, rfl, _⟩ := h
    rfl
  obtain ⟨j, v, d, rfl, rp, hw, q⟩ := h
  refine ⟨_, pss_cons (ps_if (PW.pt (pw_or (pt_not (pt_val (pe_callB call_isi rfl mi (by decide +kernel) (pa_cons (pv 0) (pa_cons (pe_bltn rfl ms (by decide +kernel) (show RelV (.ty "str") (.type "str") from rfl)) pa_nil)))))
      (pw_or (pt_cmpR op_eq (pv 0) pe_str (nomark _)) (pw_or1 (pt_not (pt_val (pe_callB (cr_all rfl) rfl ma (by decide +kernel) (pa_cons
        (pe_lc (own := [("sign", 1)]) (g := gName 1) (tt := tYes) rfl scSigns.nd (pi_str (pv 0)) (blkOk_by (N := ["thing", "sign", "one", "other"]) (sc := defScope sSigns) (by decide +kernel)) (fun _ _ _ _ _ => pg_name (i := 1) scSigns.nd rfl (Or.inl rfl)) (fun _ _ _ _ _ => pts_nil)
          (fun _ _ _ _ _ => pe_cmpR op_in_sign (pv 1) (pe_glob rfl mS (show RelV (.str allS) (.str allS t) from ⟨_, rfl⟩)) rfl)) pa_nil))))))))
      (pss_one (ps_ret pe_bl)) pss_nil)
    (pss_one (ps_ret (pe_callB (cr_all rfl) rfl ma (by decide +kernel) (pa_cons
        (pe_lc (own := [("one", 2), ("other", 3)]) (g := gTup K 2 (gCons (gName 2) (gCons (gName 3) gNil))) (tt := tYes) rfl scSigns.nd (pi_zipS rfl mz (pa_cons (pv 0) (pa_cons (pe_slice sl_str (pv 0) (po_some pe_int) po_none) pa_nil))) (blkOk_by (N := ["thing", "sign", "one", "other"]) (sc := defScope sSigns) (by decide +kernel)) (fun _ _ _ _ _ => pg_tup rfl (pgs_cons (pg_name (i := 2) scSigns.nd rfl (Or.inl rfl)) (pgs_cons (pg_name (i := 3) scSigns.nd rfl (Or.inl rfl)) pgs_nil))) (fun _ _ _ _ _ => pts_nil)
          (fun _ _ _ _ _ => pe_cmpR op_lt_str (pv 2) (pv 3) (nomark _))) pa_nil)))), ?_⟩
  refine ⟨_, rfl, v, .ty "str", _, _, _, rfl, .ty _, rp.ty, kit_s K d, _, rfl, ?_⟩
  cases hs : isS d with
  | false =>
    refine iteT ?_
    have e : goodD d = false := by cases d <;> first | rfl | cases hs
    rw [← e]
    exact q H (fun b o h => h)
  | true =>
    obtain ⟨x, rfl, rfl⟩ := rp.isS_ex hs
    refine iteF ?_
    have hx : x.length ≤ sizeLine := by rw [sizeLine_eq]; simp only [wt] at hw; omega
    have hx2 : x.length < sizeLine := by rw [sizeLine_eq]; simp only [wt] at hw; omega
    have hl : x.cps.toList.length = x.cps.size := Array.length_toList
    have hS : allS.cps.toList = signs := rfl
    have hle : x.cps.size < sizeLine := hx2
    refine ⟨_, rfl, rfl, _, rfl, ?_⟩
    refine ite2 (fun c => ?_) (fun c => ?_)
    · have e : x = ⟨#[]⟩ := by
        have := of_decide_eq_true c
        injection this
      have e2 : goodD (.str x) = false := by rw [e]; rfl
      rw [← e2]
      exact q H (fun b o h => h)
    · have c' : x ≠ ⟨#[]⟩ := by
        intro e
        have c2 := Bool.eq_false_iff.mpr c
        have := of_decide_eq_false c2
        exact this (by rw [e]; rfl)
      refine ⟨_, rfl, x, rfl, fun D hD => ?_⟩
      refine lc_it walk_str (fun i H' => Acc H D (((x.cps.toList.take i).map fun c => decide (c ∈ signs)).map V.bl) H') (.nil hD) (fun _ _ _ _ => trivial) (fun i y H1 H2 hi p z => ?_) (fun H1 p => ?_)
      · obtain ⟨rfl, c, hc, rfl⟩ := z
        refine ⟨rfl, ?_⟩
        simp only [tYes, ↓reduceIte]
        refine ⟨_, rfl, c, allS, rfl, rfl, _, p.2, ?_, ?_⟩
        · rw [List.length_map, List.length_map, List.length_take, hl]; omega
        · have h2 := p.push hD (.bl (decide (c ∈ allS.cps.toList)))
          have h3 : x.cps.toList[i]? = some c := by rw [Array.getElem?_toList]; exact hc
          rw [List.take_add_one, h3, Option.toList_some, List.map_append, List.map_append]
          exact h2
      · refine ⟨D, _, rfl, SqL.of p.2, _, rfl, ?_⟩
        rw [List.take_of_length_le (by rw [hl]; exact Nat.le_refl _)]
        have ea : (x.cps.toList.map fun c => decide (c ∈ signs)).all id = x.cps.toList.all fun c => decide (c ∈ signs) := by
          rw [List.all_map]; rfl
        rw [ea]
        have two := signs_two x.cps.toList
        have eg : goodD (.str x) = (x.cps.toList.all (fun c => decide (c ∈ signs)) && rises x.cps.toList) := by
          rw [two]
          show (decide (x ≠ ⟨#[]⟩) && _) = _
          rw [decide_eq_true c', Bool.true_and]
        cases hall : x.cps.toList.all fun c => decide (c ∈ signs) with
        | false =>
          refine iteT ?_
          rw [hall, Bool.false_and] at eg
          rw [← eg]
          exact q H1 p.1
        | true =>
          refine iteF ?_
          rw [hall, Bool.true_and] at eg
          refine ⟨_, rfl, _, rfl, _, rfl, x, rfl, hx, x, _, rfl, fun D2 hD2 => ?_⟩
          refine lc_it walk_zipS (fun i H' => Acc H1 D2 (((lts x.cps.toList).take i).map V.bl) H') (.nil hD2) (fun _ _ _ _ => trivial) (fun i y H2 H3 hi p2 z => ?_) (fun H2 p2 => ?_)
          · obtain ⟨T, c, e, rfl, hT, rfl, hc, he⟩ := z
            have h3 : x.cps.toList[i]? = some c := by rw [Array.getElem?_toList]; exact hc
            have h4 : x.cps.toList[i + 1]? = some e := by
              have : (cutS x (some 1) none).cps.toList[i]? = some e := by rw [Array.getElem?_toList]; exact he
              rw [tail_cut, List.getElem?_drop, Nat.add_comm] at this
              exact this
            have p3 := p2.same (same_new hT (.tup [.str ⟨#[c]⟩, .str ⟨#[e]⟩]))
            refine ⟨T, _, rfl, SqT.of upd_same, rfl, _, _, rfl, _, _, rfl, rfl, rfl, ?_⟩
            simp only [tYes, ↓reduceIte]
            refine ⟨_, rfl, _, rfl, _, _, rfl, rfl, _, p3.2, ?_, ?_⟩
            · rw [List.length_map, List.length_take, lts_length, hl]; omega
            · have h5 := p3.push hD2 (.bl (decide (([c] : List Nat) < [e])))
              rw [List.take_add_one, lts_get h3 h4, ← lt_one, Option.toList_some, List.map_append]
              exact h5
          · refine ⟨D2, _, rfl, SqL.of p2.2, ?_⟩
            have hn : (lts x.cps.toList).length ≤ min x.cps.size (cutS x (some 1) none).cps.size := by
              rw [lts_length, hl, ← Array.length_toList (xs := (cutS x (some 1) none).cps), tail_cut, List.length_drop, hl]; omega
            rw [List.take_of_length_le hn, lts_all, ← eg]
            exact q H2 (p.1.trans p2.1)
end
end Ty
namespace Ty
open PySem PySem.Spec PyProof.Rows L2
/-- the written table of how many parts a word takes, at d -/
structure Counts (K : PySem.W.Frag) (w : World) (d : Addr) : Prop where
  kd : ∃ es n, KDict K w d es n
  at_ : ∀ z : Str, ∃ r, PySem.W.nsIn K d z = some r ∧ (∀ k, cnt z = some k → ∃ t, r = some (.int (k : Nat) t)) ∧ (cnt z = none → r = none)
/-- one good text alone -/
def sole : List PyData → Bool
  | [d] => goodD d
  | _ => false
theorem mold_signs {b : Bool} {n : Nat} : ∀ {ds : List PyData}, mold b (n + 1) (.tuple (.str "signs" :: ds)) = sole ds
  | [] => rfl
  | [d] => by cases d <;> rfl
  | d :: _ :: _ => by cases d <;> rfl
theorem mold_word {b : Bool} {n i : Nat} {x : Str} {ds : List PyData} (h : x ≠ "signs") (hc : cnt x = some i) : mold b (n + 1) (.tuple (.str x :: ds)) = (decide (ds.length = i) && ds.all (mold b n)) := by
  show (if x = "signs" then _ else _) = _
  rw [if_neg h, hc]
theorem mold_none {b : Bool} {n : Nat} {x : Str} {ds : List PyData} (h : x ≠ "signs") (hc : cnt x = none) : mold b (n + 1) (.tuple (.str x :: ds)) = (b && decide (ds.length = 9) && ds.all (mold b n)) := by
  show (if x = "signs" then _ else _) = _
  rw [if_neg h, hc]
def spWithin (b : Bool) (n : Nat) : Sp := fun vs H Q _ => ∃ (j : Addr) (v : V) (d : PyData) (k m : Nat), vs = [v, .int (k : Nat)] ∧ k < n ∧ Rep j H v d ∧ Fine 9 m d ∧ wt d ≤ 10000000 ∧ ∀ H', Same H H' → Q (.bl (mold b k d)) H'
theorem Reps.all_keep {j : Addr} {H H' : Hp} {vs : List V} {ds : List PyData} (r : Reps j H vs ds) (s : Same H H') : Reps j H' vs ds := Reps.keep (Keep.of_same s) ds vs r
theorem Rep.all_keep {j : Addr} {H H' : Hp} {v : V} {d : PyData} (r : Rep j H v d) (s : Same H H') : Rep j H' v d := Rep.keep (Keep.of_same s) d v r
theorem scWithin : FnScope ["thing", "most", "word", "parts", "part"] ["thing", "most"] (defScope sWithin) := ⟨rfl, rfl, rfl, by decide +kernel, rfl, by decide +kernel, by decide +kernel⟩
theorem at_zero {α : Type} {x : α} {xs : List α} : atI (x :: xs) 0 = some x := by
  have : (0 : Int) < (((x :: xs).length : Nat) : Int) := by rw [List.length_cons]; omega
  unfold atI ixN
  rw [if_pos (Int.le_refl 0), if_pos this]
  rfl
theorem not_two {b : Bool} : ∀ {n : Nat} {d : PyData}, isT d = false → mold b n d = false
  | 0, _, _ => rfl
  | _ + 1, .none, _ => rfl
  | _ + 1, .bool _, _ => rfl
  | _ + 1, .int _, _ => rfl
  | _ + 1, .str _, _ => rfl
  | _ + 1, .list _, _ => rfl
  | _ + 1, .tuple _, h => by cases h
  | _ + 1, .dict _, _ => rfl
theorem not_word {b : Bool} {n : Nat} {d : PyData} {ds : List PyData} (h : isS d = false) : mold b n (.tuple (d :: ds)) = false := by
  cases n with
  | zero => rfl
  | succ n => cases d <;> first | rfl | cases h
theorem none_left {P : Program} {w : World} {K : PySem.W.Frag} {mg : Str → Option Value} {base : Heap} {f : Addr} {fd : FuncData} {ps : List Str} {b : Bool} : FnOk P w K mg base CX0 1 f fd ps (spWithin b 0) := by
  have no : ∀ vs H Q E, ¬ spWithin b 0 vs H Q E := fun vs H Q E h => by
    obtain ⟨j, v, d, k, m, _, h, _⟩ := h
    omega
  exact ⟨fun vs H Q E h => absurd h (no vs H Q E), fun A outer s H args us vs Q E _ _ _ _ h => absurd h (no vs H Q E)⟩
section
variable {P : Program} {w : World} {K : PySem.W.Frag} {mg : Str → Option Value} {base : Heap} {f g : Addr} {fd gd : FuncData}
theorem ok_within {n : Nat} {dP : Addr} (F : Fun K "is_within" "is_within" sWithin f fd) (G : FnOk P w K mg base CX0 (n + 1) f fd ["thing", "most"] (spWithin false n)) (bF : Binds K fd ["thing", "most"] []) (mF : mg "is_within" = some (.ref f))
    (GS : FnOk P w K mg base CX0 1 g gd ["thing"] spSigns) (bG : Binds K gd ["thing"] []) (kG : PySem.W.keepIn K (.ref g) = true) (mG : mg "is_signs" = some (.ref g)) (mP : mg "PART_COUNTS" = some (.ref dP)) (C : Counts K w dP)
    (mi : mg "isinstance" = none) (mt : mg "tuple" = none) (ms : mg "str" = none) (ml : mg "len" = none) (ma : mg "all" = none) :
    FnOk P w K mg base CX0 (n + 2) f fd ["thing", "most"] (spWithin false (n + 1)) := by
  refine F.ok scWithin (fun vs H Q E h => ?_) (fun cdv A outer s H vs Q E hr h => ?_)
  · obtain ⟨j, v, d, k, m, rfl, _⟩ := h
    rfl
  obtain ⟨j, v, d, k, m, rfl, hk, rp, hf, hw, q⟩ := h
  obtain ⟨es, ne, D⟩ := C.kd
  have GS' := GS.mono (show 1 ≤ n + 1 by omega)
  refine ⟨_, pss_cons (ps_if (PW.pt (pw_or (pt_cmpR op_lt (pv 1) pe_int (nomark _))
      (pw_or (pt_not (pt_val (pe_callB call_isi rfl mi (by decide +kernel) (pa_cons (pv 0) (pa_cons (pe_bltn rfl mt (by decide +kernel) (show RelV (.ty "tuple") (.type "tuple") from rfl)) pa_nil)))))
      (pw_or (pt_cmpR op_lt (pe_callB call_len_seq rfl ml PySem.boot_len (pa_cons (pv 0) pa_nil)) pe_int (nomark _))
      (pw_or1 (pt_not (pt_val (pe_callB call_isi rfl mi (by decide +kernel) (pa_cons (pe_ix ix_tup (pv 0) pe_int (fun _ _ => rfl)) (pa_cons (pe_bltn rfl ms (by decide +kernel) (show RelV (.ty "str") (.type "str") from rfl)) pa_nil))))))))))
      (pss_one (ps_ret pe_bl)) pss_nil)
    (pss_cons (ps_asg (pv 0) (pg_star1 rfl (pg_name (i := 2) scWithin.nd rfl (.inl rfl)) (pg_name (i := 3) scWithin.nd rfl (.inl rfl))))
    (pss_cons (ps_if (pt_cmpR op_eq (pv 2) pe_str (nomark _))
      (pss_one (ps_ret (pe_and (pe_cmpR op_eq (pe_callB call_len_seq rfl ml PySem.boot_len (pa_cons (pv 3) pa_nil)) pe_int (nomark _)) (pe_one (pe_call GS' hr rfl mG kG bG .nil pass0 (pa_cons (pe_ix ix_list (pv 3) pe_int (fun _ _ => rfl)) pa_nil)))))) pss_nil)
    (pss_cons (ps_if (PW.pt (pw_or (pt_cmpR (op_notIn_kd D) (pv 2) (pe_glob rfl mP (show RelV (.ref dP) (.ref dP) from rfl)) rfl)
        (pw_or1 (pt_cmpR op_ne (pe_callB call_len_seq rfl ml PySem.boot_len (pa_cons (pv 3) pa_nil)) (pe_ix ix_kdict (pe_glob rfl mP (show RelV (.ref dP) (.ref dP) from rfl)) (pv 2) (fun _ _ => rfl)) (nomark _)))))
      (pss_one (ps_ret pe_bl)) pss_nil)
    (pss_one (ps_ret (pe_callB (cr_all rfl) rfl ma (by decide +kernel) (pa_cons
        (pe_lc (own := [("part", 4)]) (g := gName 4) (tt := tYes) rfl scWithin.nd (pi_list (pv 3)) (blkOk_by (N := ["thing", "most", "word", "parts", "part"]) (sc := defScope sWithin) (by decide +kernel)) (fun _ _ _ _ _ => pg_name (i := 4) scWithin.nd rfl (Or.inl rfl)) (fun _ _ _ _ _ => pts_nil)
          (fun _ _ _ _ _ => pe_call G hr rfl mF F.kp bF .nil pass0 (pa_cons (pv 4) (pa_cons (pe_op op_sub (pv 1) pe_int) pa_nil)))) pa_nil))))))), ?_⟩
  refine ⟨_, rfl, _, _, rfl, rfl, _, rfl, ?_⟩
  cases k with
  | zero => exact iteT (q H fun b o h => h)
  | succ k =>
    have e0 : decide (((k + 1 : Nat) : Int) < 1) = false := decide_eq_false (by omega)
    rw [e0]
    refine iteF ?_
    refine ⟨_, rfl, v, .ty "tuple", _, _, _, rfl, .ty _, rp.ty, kit_t K d, _, rfl, ?_⟩
    cases ht : isT d with
    | false =>
      refine iteT ?_
      have := q H fun b o h => h
      rw [not_two ht] at this
      exact this
    | true =>
      refine iteF ?_
      obtain ⟨a, xs, ds, rfl, rfl, hj, ha, rs⟩ := rp.isT_ex ht
      have hlen := rs.length
      refine ⟨_, rfl, a, _, rfl, .inr (SqT.of ha), _, _, rfl, rfl, _, rfl, ?_⟩
      cases rs with
      | nil => exact iteT (q H fun b o h => h)
      | @cons v0 vs d0 ds r0 rs =>
        have e1 : decide (((v0 :: vs).length : Int) < 1) = false := decide_eq_false (by rw [List.length_cons]; omega)
        rw [e1]
        refine iteF ?_
        have hf' := hf
        cases hf' with
        | @tup m _ hl9 hfs =>
        have hvl : vs.length ≤ 9 := by
          have := rs.length
          rw [List.length_cons] at hl9
          omega
        refine ⟨_, rfl, a, _, _, _, rfl, rfl, SqT.of ha, at_zero, v0, .ty "str", _, _, _, rfl, .ty _, r0.ty, kit_s K d0, _, rfl, ?_⟩
        cases hs : isS d0 with
        | false =>
          refine iteT ?_
          have := q H fun b o h => h
          rw [not_word hs] at this
          exact this
        | true =>
          refine iteF ?_
          obtain ⟨x, rfl, rfl⟩ := r0.isS_ex hs
          refine ⟨_, rfl, a, _, _, rfl, SqT.of ha, by omega, fun D1 hD1 => ?_⟩
          have s1 : Same H (upd H D1 (.lst vs)) := same_new hD1 _
          have hD : (upd H D1 (.lst vs)) D1 = some (.lst vs) := upd_same
          have rs1 := rs.all_keep s1
          have hlen2 := rs.length
          refine ⟨_, rfl, rfl, _, rfl, ?_⟩
          refine ite2 (fun c => ?_) (fun c => ?_)
          · have e : x = "signs" := by
              have := of_decide_eq_true c
              injection this
            subst e
            refine ⟨_, rfl, D1, _, rfl, .inl (SqL.of hD), rfl, _, rfl, ?_⟩
            have q2 : ∀ H', Same H H' → Q (.bl (sole ds)) H' := fun H' s2 => by
              have := q H' s2
              rw [mold_signs] at this
              exact this
            cases rs1 with
            | nil => exact q2 _ s1
            | @cons v1 vs1 d1 ds1 r1 rt =>
              cases rt with
              | nil =>
                refine iteT ⟨_, rfl, D1, _, _, _, rfl, rfl, SqL.of hD, at_zero, j, v1, d1, rfl, r1, ?_, fun H' s2 => q2 H' (s1.trans s2)⟩
                simp only [wt, wts] at hw; omega
              | @cons v2 vs2 d2 ds2 r2 rt =>
                have e2 : decide (V.int (((v1 :: v2 :: vs2).length : Nat) : Int) = V.int 1) = false := decide_eq_false fun e => by
                  injection e with e
                  simp only [List.length_cons] at e
                  omega
                rw [e2]
                refine iteF ?_
                exact q2 _ s1
          · have c' : x ≠ "signs" := fun e => of_decide_eq_false (Bool.eq_false_iff.mpr c) (by rw [e])
            obtain ⟨r, hr1, hr2, hr3⟩ := C.at_ x
            refine ⟨_, rfl, x, r, rfl, rfl, hr1, _, rfl, ?_⟩
            cases hc : cnt x with
            | none =>
              have := hr3 hc
              subst this
              refine iteT ?_
              have := q _ s1
              rw [mold_none c' hc] at this
              exact this
            | some i =>
              obtain ⟨ti, rfl⟩ := hr2 i hc
              refine iteF ?_
              have q2 : ∀ H', Same H H' → Q (.bl (decide (ds.length = i) && ds.all (mold false k))) H' := fun H' s2 => by
                have := q H' s2
                rw [mold_word c' hc] at this
                exact this
              refine ⟨_, rfl, D1, _, rfl, .inl (SqL.of hD), _, rfl, dP, x, .int (i : Nat), rfl, rfl, ⟨es, ne, _, D.at_, D.lit, hr1, ⟨_, rfl⟩⟩, rfl, _, rfl, ?_⟩
              by_cases hi : ds.length = i
              · have e2 : (!decide (V.int ((vs.length : Nat) : Int) = V.int (i : Nat))) = false := by
                  rw [decide_eq_true (by rw [hlen2, hi])]; rfl
                rw [e2]
                refine iteF ?_
                rw [decide_eq_true hi, Bool.true_and] at q2
                refine ⟨_, rfl, D1, rfl, ⟨_, SqL.of hD⟩, fun D2 hD2 => ?_⟩
                refine lc_list (xs := vs) (fun i H' => Acc (upd H D1 (.lst vs)) D2 (((ds.take i).map (mold false k)).map V.bl) H') (.nil hD2) (fun i H' _ p => SqL.of (p.1 _ _ hD)) (fun i y H2 hy p => ?_) (fun H2 p => ?_)
                · obtain ⟨dy, hdy, ry⟩ := rs1.get hy
                  refine ⟨rfl, ?_⟩
                  simp only [tYes, ↓reduceIte]
                  refine ⟨_, rfl, _, rfl, _, _, rfl, rfl, j, y, dy, k, m, ?_, by omega, ry.all_keep p.1, hfs dy (List.mem_cons_of_mem _ (List.mem_of_getElem? hdy)), ?_, fun H' s2 => ?_⟩
                  · have : ((k + 1 : Nat) : Int) - 1 = (k : Nat) := by omega
                    show [y, V.int (((k + 1 : Nat) : Int) - 1)] ++ [] = _
                    rw [this]; rfl
                  · have := wts_mem (List.mem_of_getElem? hdy)
                    simp only [wt, wts] at hw; omega
                  · have p2 := p.same s2
                    refine ⟨_, p2.2, ?_, ?_⟩
                    · rw [List.length_map, List.length_map, List.length_take, sizeLine_eq]; omega
                    · have h2 := p2.push hD2 (.bl (mold false k dy))
                      rw [List.take_add_one, hdy, Option.toList_some, List.map_append, List.map_append]
                      exact h2
                · refine ⟨D2, _, rfl, SqL.of p.2, ?_⟩
                  rw [List.take_of_length_le (by rw [hlen2]; exact Nat.le_refl _), List.all_map]
                  exact q2 _ (s1.trans p.1)
              · have e2 : (!decide (V.int ((vs.length : Nat) : Int) = V.int (i : Nat))) = true := by
                  rw [decide_eq_false (fun e => by injection e with e; omega)]; rfl
                rw [e2]
                refine iteT ?_
                rw [decide_eq_false hi, Bool.false_and] at q2
                exact q2 _ s1
end
end Ty
namespace Ty
open PySem PySem.Spec PyProof.Rows L2
theorem join_one : ∀ l : List Nat, Txt.join "" (l.map fun c => (⟨#[c]⟩ : Str)) = ⟨l.toArray⟩ := by
  intro l
  rw [TL.join_eq]
  induction l with
  | nil => rfl
  | cons c l ih =>
    cases l with
    | nil => rfl
    | cons d l =>
      show (⟨#[c]⟩ : Str) ++ "" ++ Str.join "" ((d :: l).map fun c => (⟨#[c]⟩ : Str)) = _
      rw [ih]
      refine str_of_list ?_
      rw [Str.cps_append, Array.toList_append, Str.cps_append, Array.toList_append]
      rfl
def kvC : List (Key × V) := [(.inr "empty", .int 0), (.inr "then", .int 2), (.inr "or", .int 2), (.inr "again", .int 1), (.inr "more", .int 1), (.inr "maybe", .int 1)]
theorem merge_kvC : mergeK [] kvC = kvC := rfl
theorem val_kvC (x : Str) : valV kvC (.inr x) = (cnt x).map fun k => V.int (k : Nat) := by
  unfold cnt
  by_cases h1 : x = "empty"
  · subst h1; rfl
  by_cases h2 : x = "then"
  · subst h2; rfl
  by_cases h3 : x = "or"
  · subst h3; rfl
  by_cases h4 : x = "again"
  · subst h4; rfl
  by_cases h5 : x = "more"
  · subst h5; rfl
  by_cases h6 : x = "maybe"
  · subst h6; rfl
  rw [if_neg h1, if_neg h2, if_neg h3, if_neg h4, if_neg h5, if_neg h6]
  have n : ∀ y : Str, x ≠ y → decide ((Sum.inr y : Key) = Sum.inr x) = false := fun y h => decide_eq_false fun e => h (by injection e with e; exact e.symm)
  unfold valV kvC
  simp only [List.find?, n _ h1, n _ h2, n _ h3, n _ h4, n _ h5, n _ h6]
  rfl
theorem scIs : FnScope ["item", "most", "good", "many", "sign", "part"] ["item", "most"] (defScope sIs) := ⟨rfl, rfl, rfl, by decide +kernel, rfl, by decide +kernel, by decide +kernel⟩
theorem sIx_one {n : Nat} : HT.sIx (n + 1) 0 (some 1) = 1 := by
  unfold HT.sIx
  simp
theorem cut_tail {v : V} {vs : List V} : cutV (v :: vs) (some 1) none = vs := by
  unfold cutV
  rw [List.length_cons, sIx_one]
  show List.take (vs.length + 1 - 1) (List.drop 1 (v :: vs)) = vs
  rw [Nat.add_sub_cancel]
  exact List.take_length
def spAll : Sp := fun vs H Q _ => vs = [] ∧ Q (.str allS) H
def spPattern : Sp := fun vs H Q _ => ∃ (j : Addr) (v : V) (d : PyData) (m : Nat), vs = [v] ∧ Rep j H v d ∧ Fine 9 m d ∧ wt d ≤ 10000000 ∧ ∀ H', Same H H' → Q (.bl (mold false 12 d)) H'
def spSame : Sp := fun vs H Q _ => ∃ (a b : Bool), vs = [.bl a, .bl b] ∧ Q (.bl (decide (a = b))) H
theorem scPattern : FnScope ["thing"] ["thing"] (defScope sPattern) := ⟨rfl, rfl, rfl, by decide +kernel, rfl, by decide +kernel, by decide +kernel⟩
theorem scSame : FnScope ["found", "owed"] ["found", "owed"] (defScope sSame) := ⟨rfl, rfl, rfl, by decide +kernel, rfl, by decide +kernel, by decide +kernel⟩
section
variable {P : Program} {w : World} {K : PySem.W.Frag} {mg : Str → Option Value} {base : Heap} {f g : Addr} {fd gd : FuncData}
theorem ok_all (F : Fun K "_law_all_signs" "_law_all_signs" sAll f fd) : FnOk P w K mg base CX0 1 f fd [] spAll := by
  refine F.ok scAll (fun vs H Q E h => ?_) (fun cdv A outer s H vs Q E hr h => ?_)
  · obtain ⟨rfl, _⟩ := h
    rfl
  obtain ⟨rfl, q⟩ := h
  refine ⟨_, pss_cons (ps_set (i := 0) scAll.nd rfl (.inl rfl) pe_str) (pss_one (ps_ret (pe_op op_add_str (pv 0) pe_str))), ?_⟩
  refine ⟨_, rfl, _, _, rfl, rfl, by decide +kernel, ?_⟩
  refine cast (congrArg (fun z => Q (V.str z) H) ?_) q
  decide +kernel
theorem ok_pattern {t : Tok} (F : Fun K "is_pattern" "is_pattern" sPattern f fd) (G : FnOk P w K mg base CX0 14 g gd ["thing", "most"] (spWithin false 13)) (bG : Binds K gd ["thing", "most"] []) (kG : PySem.W.keepIn K (.ref g) = true) (mG : mg "is_within" = some (.ref g))
    (mD : mg "MOST_DEEP" = some (.int 12 t)) : FnOk P w K mg base CX0 15 f fd ["thing"] spPattern := by
  refine F.ok scPattern (fun vs H Q E h => ?_) (fun cdv A outer s H vs Q E hr h => ?_)
  · obtain ⟨j, v, d, m, rfl, _⟩ := h
    rfl
  obtain ⟨j, v, d, m, rfl, rp, hf, hw, q⟩ := h
  refine ⟨_, pss_one (ps_ret (pe_call G hr rfl mG kG bG .nil pass0 (pa_cons (pv 0) (pa_cons (pe_glob rfl mD (show RelV (.int 12) (.int 12 t) from ⟨_, rfl⟩)) pa_nil)))), ?_⟩
  exact ⟨_, rfl, j, v, d, 12, m, rfl, by decide, rp, hf, hw, q⟩
theorem ok_same (F : Fun K "_law_same" "_law_same" sSame f fd) (mi : mg "isinstance" = none) (mb : mg "bool" = none) : FnOk P w K mg base CX0 1 f fd ["found", "owed"] spSame := by
  refine F.ok scSame (fun vs H Q E h => ?_) (fun cdv A outer s H vs Q E hr h => ?_)
  · obtain ⟨a, b, rfl, _⟩ := h
    rfl
  obtain ⟨a, b, rfl, q⟩ := h
  refine ⟨_, pss_one (ps_ret (pe_and (pe_callB call_isi rfl mi (by decide +kernel) (pa_cons (pv 0) (pa_cons (pe_bltn rfl mb (by decide +kernel) (show RelV (.ty "bool") (.type "bool") from rfl)) pa_nil))) (pe_one (pe_cmpR op_eq (pv 0) (pv 1) (nomark _))))), ?_⟩
  refine ⟨_, rfl, .bl a, .ty "bool", _, _, true, rfl, .ty _, .base (.bl a), kit_ty (show kitB "bool" "bool" = some true by decide +kernel), _, rfl, iteT ?_⟩
  refine ⟨_, rfl, _, rfl, rfl, ?_⟩
  have e : decide (V.bl a = V.bl b) = decide (a = b) := by cases a <;> cases b <;> rfl
  rw [e]
  exact q
theorem ok_is {n : Nat} (F : Fun K "_law_is_mould" "_law_is_mould" sIs f fd) (G : FnOk P w K mg base CX0 (n + 1) f fd ["item", "most"] (spWithin true n)) (bF : Binds K fd ["item", "most"] []) (mF : mg "_law_is_mould" = some (.ref f))
    (GS : FnOk P w K mg base CX0 1 g gd [] spAll) (bG : Binds K gd [] []) (kG : PySem.W.keepIn K (.ref g) = true) (mG : mg "_law_all_signs" = some (.ref g))
    (mi : mg "isinstance" = none) (mt : mg "tuple" = none) (ms : mg "str" = none) (ml : mg "len" = none) (ma : mg "all" = none) :
    FnOk P w K mg base CX0 (n + 2) f fd ["item", "most"] (spWithin true (n + 1)) := by
  refine F.ok scIs (fun vs H Q E h => ?_) (fun cdv A outer s H vs Q E hr h => ?_)
  · obtain ⟨j, v, d, k, m, rfl, _⟩ := h
    rfl
  obtain ⟨j, v, d, k, m, rfl, hk, rp, hf, hw, q⟩ := h
  have GS' := GS.mono (show 1 ≤ n + 1 by omega)
  refine ⟨_, pss_cons (ps_if (PW.pt (pw_or (pt_cmpR op_eq (pv 1) pe_int (nomark _))
      (pw_or (pt_not (pt_val (pe_callB call_isi rfl mi (by decide +kernel) (pa_cons (pv 0) (pa_cons (pe_bltn rfl mt (by decide +kernel) (show RelV (.ty "tuple") (.type "tuple") from rfl)) pa_nil)))))
      (pw_or (pt_cmpR (op_eqT0 hr.units0) (pv 0) (pe_tup pa_nil) (nomark _))
      (pw_or1 (pt_not (pt_val (pe_callB call_isi rfl mi (by decide +kernel) (pa_cons (pe_ix ix_tup (pv 0) pe_int (fun _ _ => rfl)) (pa_cons (pe_bltn rfl ms (by decide +kernel) (show RelV (.ty "str") (.type "str") from rfl)) pa_nil))))))))))
      (pss_one (ps_ret pe_bl)) pss_nil)
    (pss_cons (ps_if (pt_cmpR op_eq (pe_ix ix_tup (pv 0) pe_int (fun _ _ => rfl)) pe_str (nomark _))
      (pss_cons (ps_if (PW.pt (pw_or (pt_cmpR op_ne (pe_callB call_len_seq rfl ml PySem.boot_len (pa_cons (pv 0) pa_nil)) pe_int (nomark _))
          (pw_or (pt_not (pt_val (pe_callB call_isi rfl mi (by decide +kernel) (pa_cons (pe_ix ix_tup (pv 0) pe_int (fun _ _ => rfl)) (pa_cons (pe_bltn rfl ms (by decide +kernel) (show RelV (.ty "str") (.type "str") from rfl)) pa_nil)))))
          (pw_or1 (pt_cmpR op_eq (pe_ix ix_tup (pv 0) pe_int (fun _ _ => rfl)) pe_str (nomark _))))))
          (pss_one (ps_ret pe_bl)) pss_nil)
        (pss_cons (ps_setLc (i := 2) (own := [("sign", 4)]) (g := gName 4) rfl scIs.nd rfl rfl (sw_true rfl rfl rfl (by decide +kernel)) (pi_str (pe_call0 GS' hr rfl mG kG bG .nil pass0)) (blkOk_by (N := ["item", "most", "good", "many", "sign", "part"]) (sc := defScope sIs) (by decide +kernel))
            (fun _ _ _ _ _ => pg_name (i := 4) scIs.nd rfl (Or.inl rfl)) (fun _ _ _ _ _ => pts_one (pt_cmpR op_in_sign (pv 4) (pe_ix (show IxR _ (rIxT K) from ix_tup) (pv 0) pe_int (fun _ _ => rfl)) rfl)) (fun _ _ _ _ _ => pv 4))
        (pss_one (ps_ret (pe_cmpR op_eq (pe_join pe_str (pv 2)) (pe_ix ix_tup (pv 0) pe_int (fun _ _ => rfl)) (nomark _)))))) pss_nil)
    (pss_cons (ps_set (i := 3) scIs.nd rfl (.inl rfl) (pe_dget2 (hu_of hr) (pe_disp (pps_cons pe_str pe_int (pps_cons pe_str pe_int (pps_cons pe_str pe_int (pps_cons pe_str pe_int (pps_cons pe_str pe_int (pps_cons pe_str pe_int pps_nil)))))) rfl rfl (fun z => by cases z) (by decide)) (pe_ix ix_tup (pv 0) pe_int (fun _ _ => rfl)) pe_int ⟨rfl, rfl, rfl, rfl⟩))
    (pss_one (ps_ret (pe_and (pe_cmpR op_eq (pe_callB call_len_seq rfl ml PySem.boot_len (pa_cons (pv 0) pa_nil)) (pe_op op_add (pv 3) pe_int) (nomark _)) (pe_one (pe_callB (cr_all rfl) rfl ma (by decide +kernel) (pa_cons
        (pe_lc (own := [("part", 5)]) (g := gName 5) (tt := tYes) rfl scIs.nd (pi_tup (pe_slice sl_tup (pv 0) (po_some pe_int) po_none)) (blkOk_by (N := ["item", "most", "good", "many", "sign", "part"]) (sc := defScope sIs) (by decide +kernel)) (fun _ _ _ _ _ => pg_name (i := 5) scIs.nd rfl (Or.inl rfl)) (fun _ _ _ _ _ => pts_nil)
          (fun _ _ _ _ _ => pe_call G hr rfl mF F.kp bF .nil pass0 (pa_cons (pv 5) (pa_cons (pe_op op_sub (pv 1) pe_int) pa_nil)))) pa_nil)))))))), ?_⟩
  refine ⟨_, rfl, rfl, _, rfl, ?_⟩
  cases k with
  | zero => exact iteT (q H fun b o h => h)
  | succ k =>
    have e0 : decide (V.int ((k + 1 : Nat) : Int) = V.int 0) = false := decide_eq_false fun e => by injection e with e; omega
    have e0' : decide (V.int (((k + 1 : Nat) : Int)) = V.int 0) = false := e0
    rw [e0']
    refine iteF ?_
    refine ⟨_, rfl, v, .ty "tuple", _, _, _, rfl, .ty _, rp.ty, kit_t K d, _, rfl, ?_⟩
    cases ht : isT d with
    | false =>
      refine iteT ?_
      have := q H fun b o h => h
      rw [not_two ht] at this
      exact this
    | true =>
      refine iteF ?_
      obtain ⟨a, xs, ds, rfl, rfl, hj, ha, rs⟩ := rp.isT_ex ht
      have hlen := rs.length
      refine ⟨_, rfl, (by show 0 ≤ sizeLine; decide), fun p0 hp0 => ?_⟩
      have s0 : Same H (upd H p0 (.tup [])) := same_new hp0 _
      have ha0 := s0 _ _ ha
      have rs0 := rs.all_keep s0
      clear rs
      refine ⟨a, p0, xs, rfl, rfl, SqT.of ha0, SqT.of upd_same, _, rfl, ?_⟩
      cases rs0 with
      | nil => exact iteT (q _ s0)
      | @cons v0 vs d0 ds r0 rs =>
        have e1 : decide ((v0 :: vs) = []) = false := decide_eq_false fun e => by cases e
        rw [e1]
        refine iteF ?_
        have hf' := hf
        cases hf' with
        | @tup m _ hl9 hfs =>
        have hvl : vs.length ≤ 9 := by
          have := rs.length
          rw [List.length_cons] at hl9
          omega
        refine ⟨_, rfl, a, _, _, _, rfl, rfl, SqT.of ha0, at_zero, v0, .ty "str", _, _, _, rfl, .ty _, r0.ty, kit_s K d0, _, rfl, ?_⟩
        cases hs : isS d0 with
        | false =>
          refine iteT ?_
          have := q _ s0
          rw [not_word hs] at this
          exact this
        | true =>
          refine iteF ?_
          obtain ⟨x, rfl, rfl⟩ := r0.isS_ex hs
          have hlen2 := rs.length
          refine ⟨_, rfl, a, _, _, _, rfl, rfl, SqT.of ha0, at_zero, rfl, _, rfl, ?_⟩
          refine ite2 (fun c => ?_) (fun c => ?_)
          · have e : x = "signs" := by
              have := of_decide_eq_true c
              injection this
            subst e
            have q2 : ∀ H', Same H H' → Q (.bl (sole ds)) H' := fun H' s2 => by
              have := q H' s2
              rw [mold_signs] at this
              exact this
            refine ⟨_, rfl, a, _, rfl, .inr (SqT.of ha0), rfl, _, rfl, ?_⟩
            cases rs with
            | nil => exact q2 _ s0
            | @cons v1 vs1 d1 ds1 r1 rt =>
              cases rt with
              | @cons v2 vs2 d2 ds2 r2 rt =>
                have e2 : (!decide (V.int (((V.str "signs" :: v1 :: v2 :: vs2).length : Nat) : Int) = V.int 2)) = true := by
                  rw [decide_eq_false fun e => by
                    injection e with e
                    simp only [List.length_cons] at e
                    omega]
                  rfl
                rw [e2]
                exact iteT (q2 _ s0)
              | nil =>
                refine iteF ?_
                have at1 : atI [V.str "signs", v1] 1 = some v1 := rfl
                refine ⟨_, rfl, a, _, _, _, rfl, rfl, SqT.of ha0, at1, v1, .ty "str", _, _, _, rfl, .ty _, r1.ty, kit_s K d1, _, rfl, ?_⟩
                cases hs1 : isS d1 with
                | false =>
                  refine iteT ?_
                  have e3 : sole [d1] = false := by cases d1 <;> first | rfl | cases hs1
                  have := q2 _ s0
                  rw [e3] at this
                  exact this
                | true =>
                  refine iteF ?_
                  obtain ⟨y, rfl, rfl⟩ := r1.isS_ex hs1
                  refine ⟨_, rfl, a, _, _, _, rfl, rfl, SqT.of ha0, at1, rfl, _, rfl, ?_⟩
                  refine ite2 (fun c => ?_) (fun c => ?_)
                  · have e : y = ⟨#[]⟩ := by
                      have := of_decide_eq_true c
                      injection this
                    subst e
                    exact q2 _ s0
                  · have c' : y ≠ ⟨#[]⟩ := by
                      intro e
                      have c2 := Bool.eq_false_iff.mpr c
                      have := of_decide_eq_false c2
                      exact this (by rw [e]; rfl)
                    refine ⟨rfl, allS, rfl, fun D hD => ?_⟩
                    refine lc_it walk_str (fun i H' => Acc (upd H p0 (.tup [])) D (((signs.take i).filter fun c => decide (c ∈ y.cps.toList)).map fun c => V.str ⟨#[c]⟩) H') (.nil hD) (fun _ _ _ _ => trivial) (fun i u H1 H2 hi p z => ?_) (fun H1 p => ?_)
                    · obtain ⟨rfl, c, hc, rfl⟩ := z
                      have h3 : signs[i]? = some c := by
                        have : allS.cps.toList[i]? = some c := by rw [Array.getElem?_toList]; exact hc
                        exact this
                      refine ⟨rfl, _, rfl, _, rfl, a, _, _, _, rfl, rfl, SqT.of (p.1 _ _ ha0), at1, c, y, rfl, rfl, _, rfl, ?_⟩
                      refine ite2 (fun hc => ?_) (fun hc => ?_)
                      · refine ⟨_, rfl, _, p.2, ?_, ?_⟩
                        · have h5 : ((signs.take i).filter fun c => decide (c ∈ y.cps.toList)).length ≤ (signs.take i).length := List.length_filter_le ..
                          have h6 : (signs.take i).length ≤ 95 := by rw [List.length_take, signs_len]; omega
                          rw [List.length_map, sizeLine_eq]; omega
                        · have h2 := p.push hD (.str ⟨#[c]⟩)
                          rw [List.take_add_one, h3, Option.toList_some, List.filter_append, List.filter_cons_of_pos (by exact hc), List.filter_nil, List.map_append]
                          exact h2
                      · rw [List.take_add_one, h3, Option.toList_some, List.filter_append, List.filter_cons_of_neg (by exact hc), List.filter_nil, List.append_nil]
                        exact p
                    · have e95 : allS.cps.size = signs.length := rfl
                      rw [e95, List.take_length] at p
                      have hF : (signs.filter fun c => decide (c ∈ y.cps.toList)).length ≤ 95 := Nat.le_trans (List.length_filter_le ..) (by rw [signs_len]; exact Nat.le_refl _)
                      refine ⟨⟨_, rfl⟩, _, rfl, _, D, (signs.filter fun c => decide (c ∈ y.cps.toList)).map (fun c => (⟨#[c]⟩ : Str)), rfl, rfl, .inl ?_, ?_, ?_⟩
                      · have := SqL.of (K := K) p.2
                        rw [List.map_map]
                        exact this
                      · have e1 : ∀ l : List Nat, ((l.map (fun c => (⟨#[c]⟩ : Str))).map (·.length)).sum = l.length := by
                          intro l
                          induction l with
                          | nil => rfl
                          | cons c l ih =>
                            rw [List.map_cons, List.map_cons, List.sum_cons, ih, List.length_cons]
                            show 1 + _ = _
                            omega
                        rw [e1]
                        show _ + _ * 0 ≤ _
                        omega
                      · refine ⟨_, rfl, a, _, _, _, rfl, rfl, SqT.of (p.1 _ _ ha0), at1, rfl, ?_⟩
                        have e9 : decide (V.str (Txt.join "" ((signs.filter fun c => decide (c ∈ y.cps.toList)).map (fun c => (⟨#[c]⟩ : Str)))) = V.str y) = sole [.str y] := by
                          rw [join_one]
                          show _ = (decide (y ≠ ⟨#[]⟩) && decide _)
                          rw [decide_eq_true c', Bool.true_and, Bool.eq_iff_iff, decide_eq_true_eq, decide_eq_true_eq]
                          constructor
                          · intro e
                            injection e with e
                            exact congrArg (fun z : Str => z.cps.toList) e
                          · intro e
                            exact congrArg V.str (str_of_list e)
                        exact (congrArg (fun z => Q (V.bl z) H1) e9).mpr (q2 _ (s0.trans p.1))
          · have c' : x ≠ "signs" := fun e => of_decide_eq_false (Bool.eq_false_iff.mpr c) (by rw [e])
            have q2 : ∀ H', Same H H' → Q (.bl (decide (ds.length = (cnt x).getD 9) && ds.all (mold true k))) H' := fun H' s2 => by
              have := q H' s2
              cases hc : cnt x with
              | none =>
                rw [mold_none c' hc, Bool.true_and] at this
                exact this
              | some i =>
                rw [mold_word c' hc] at this
                exact this
            refine fun p1 hp1 => ⟨upd_same, kvC, rfl, by decide, ?_⟩
            have s2 : Same (upd H p0 (.tup [])) (upd (upd (upd H p0 (.tup [])) p1 (.dK [])) p1 (.dK (mergeK [] kvC))) := fun b o e => by
              rw [upd_ne (ne_of_none e hp1), upd_ne (ne_of_none e hp1)]
              exact e
            have ha2 := s2 _ _ ha0
            have e9 : (valV (mergeK [] kvC) (.inr x)).getD (.int 9) = V.int (((cnt x).getD 9 : Nat) : Int) := by
              rw [merge_kvC, val_kvC]
              cases cnt x <;> rfl
            refine ⟨p1, rfl, .inl ⟨_, .inl upd_same⟩, _, rfl, a, _, _, _, rfl, rfl, SqT.of ha2, at_zero, _, DGet.k (k := .inr x) upd_same, ?_⟩
            rw [e9]
            refine ⟨_, rfl, a, _, rfl, .inr (SqT.of ha2), _, rfl, _, _, rfl, rfl, rfl, _, rfl, ?_⟩
            by_cases hi : ds.length = (cnt x).getD 9
            · have e2 : decide (V.int (((V.str x :: vs).length : Nat) : Int) = V.int ((((cnt x).getD 9 : Nat) : Int) + 1)) = true := by
                rw [decide_eq_true_eq, List.length_cons, hlen2, hi]
                rfl
              rw [e2]
              refine iteT ?_
              rw [decide_eq_true hi, Bool.true_and] at q2
              have hcut : cutV (V.str x :: vs) (some 1) none = vs := cut_tail
              refine ⟨_, rfl, _, rfl, a, _, rfl, SqT.of ha2, (by rw [List.length_cons, sIx_one]; omega), fun p3 hp3 => ?_⟩
              rw [hcut]
              have s3 := s2.trans (same_new hp3 (.tup vs))
              refine ⟨p3, rfl, ⟨_, SqT.of upd_same⟩, fun D2 hD2 => ?_⟩
              refine lc_tup (xs := vs) (fun i H' => Acc (upd _ p3 (.tup vs)) D2 (((ds.take i).map (mold true k)).map V.bl) H') (.nil hD2) (fun i H' _ p => SqT.of (p.1 _ _ upd_same)) (fun i y H2 hy p => ?_) (fun H2 p => ?_)
              · obtain ⟨dy, hdy, ry⟩ := rs.get hy
                refine ⟨rfl, ?_⟩
                simp only [tYes, ↓reduceIte]
                refine ⟨_, rfl, _, rfl, _, _, rfl, rfl, j, y, dy, k, m, ?_, by omega, ry.all_keep (s3.trans p.1), hfs dy (List.mem_cons_of_mem _ (List.mem_of_getElem? hdy)), ?_, fun H' s4 => ?_⟩
                · have : ((k + 1 : Nat) : Int) - 1 = (k : Nat) := by omega
                  show [y, V.int (((k + 1 : Nat) : Int) - 1)] ++ [] = _
                  rw [this]; rfl
                · have := wts_mem (List.mem_of_getElem? hdy)
                  simp only [wt, wts] at hw; omega
                · have p2 := p.same s4
                  refine ⟨_, p2.2, ?_, ?_⟩
                  · rw [List.length_map, List.length_map, List.length_take, sizeLine_eq]; omega
                  · have h2 := p2.push hD2 (.bl (mold true k dy))
                    rw [List.take_add_one, hdy, Option.toList_some, List.map_append, List.map_append]
                    exact h2
              · refine ⟨D2, _, rfl, SqL.of p.2, ?_⟩
                rw [List.take_of_length_le (by rw [hlen2]; exact Nat.le_refl _), List.all_map]
                exact q2 _ (s0.trans (s3.trans p.1))
            · have e2 : decide (V.int (((V.str x :: vs).length : Nat) : Int) = V.int ((((cnt x).getD 9 : Nat) : Int) + 1)) = false := decide_eq_false fun e => by
                injection e with e
                rw [List.length_cons] at e
                omega
              rw [e2]
              refine iteF ?_
              rw [decide_eq_false hi, Bool.false_and] at q2
              exact q2 _ (s0.trans s2)
end
end Ty
namespace Ty
open PySem PySem.Spec PyProof.Rows L2
/-! ### written data -/
section
variable {X : Cx}
def tDat (d : PyData) : TE := fun σ H Q => ∀ v H', Same H H' → (∀ j, H j ≠ none → Rep j H' v d) → Q v H'
def tDats (ds : List PyData) : TA := fun σ H Q => ∀ vs H', Same H H' → vs.length = ds.length → (∀ j, H j ≠ none → Reps j H' vs ds) → Q vs H'
theorem same_refl {H : Hp} : Same H H := fun b o h => h
theorem new_ne {H H' : Hp} {p j : Addr} (s : Same H H') (hp : H' p = none) (hj : H j ≠ none) : p ≠ j := by
  intro e
  subst e
  cases q : H p with
  | none => exact hj q
  | some o => rw [s _ _ q] at hp; cases hp
theorem dt_non {j : Nat} {pos : Pos} : PE X (.Constant .none j pos) (tDat .none) := ⟨fun pins s σ H Q I h => (pe_non (X := X)).run pins s σ H Q I (h _ _ same_refl fun _ _ => .non)⟩
theorem dt_bl {b : Bool} {j : Nat} {pos : Pos} : PE X (.Constant (.bool b) j pos) (tDat (.bool b)) := ⟨fun pins s σ H Q I h => (pe_bl (X := X)).run pins s σ H Q I (h _ _ same_refl fun _ _ => .bl b)⟩
theorem dt_int {i : Int} {j : Nat} {pos : Pos} : PE X (.Constant (.int i) j pos) (tDat (.int i)) := ⟨fun pins s σ H Q I h => (pe_int (X := X)).run pins s σ H Q I (h _ _ same_refl fun _ _ => .int i)⟩
theorem dt_str {x : Str} {j : Nat} {pos : Pos} : PE X (.Constant (.str x) j pos) (tDat (.str x)) := ⟨fun pins s σ H Q I h => (pe_str (X := X)).run pins s σ H Q I (h _ _ same_refl fun _ _ => .str x)⟩
theorem da_nil : PA X [] (tDats []) := ⟨fun pos pins s σ H Q I h => (pa_nil (X := X)).run pos pins s σ H Q I (h _ _ same_refl rfl fun _ _ => .nil)⟩
theorem da_cons {e : Expr} {es : List Expr} {d : PyData} {ds : List PyData} (he : PE X e (tDat d)) (ha : PA X es (tDats ds)) (hs : starEach (e :: es) X.env = (false, eval e X.env) :: starEach es X.env := by rfl) : PA X (e :: es) (tDats (d :: ds)) :=
  ⟨fun pos pins s σ H Q I h => (pa_cons he ha hs).run pos pins s σ H Q I fun v H1 s1 r1 vs H2 s2 hl r2 => h _ _ (s1.trans s2) (by rw [List.length_cons, List.length_cons, hl]) fun j hj =>
    have hj1 : H1 j ≠ none := fun e => by
      cases q : H j with
      | none => exact hj q
      | some o => rw [s1 _ _ q] at e; cases e
    .cons ((r1 j hj).all_keep s2) (r2 j hj1)⟩
theorem dt_tup {es : List Expr} {ds : List PyData} {k : Nat} {pos : Pos} (ha : PA X es (tDats ds)) (hl : ds.length ≤ 1000 := by decide) : PE X (.Tuple es k pos) (tDat (.tuple ds)) :=
  ⟨fun pins s σ H Q I h => (pe_tup ha).run pins s σ H Q I fun vs H1 s1 hv r =>
    ⟨by rw [hv, sizeLine_eq]; omega, fun p hp => h _ _ (s1.trans (same_new hp _)) fun i hi => .tup (new_ne s1 hp hi) upd_same ((r i hi).all_keep (same_new hp _))⟩⟩
theorem dt_lst {es : List Expr} {ds : List PyData} {pos : Pos} (ha : PA X es (tDats ds)) (hl : ds.length ≤ 1000 := by decide) : PE X (.List es pos) (tDat (.list ds)) :=
  ⟨fun pins s σ H Q I h => (pe_lstN ha).run pins s σ H Q I fun vs H1 s1 hv r =>
    ⟨by rw [hv, sizeLine_eq]; omega, fun p hp hlt => h _ _ (s1.trans (same_new hp _)) fun i hi => .lst (new_ne s1 hp hi) hlt upd_same ((r i hi).all_keep (same_new hp _))⟩⟩
theorem dt_dct {pos : Pos} : PE X (.Dict [] [] pos) (tDat (.dict [])) :=
  ⟨fun pins s σ H Q I h => (pe_dnewK (X := X)).run pins s σ H Q I fun p hp => h _ _ (same_new hp _) fun i hi => .dct (new_ne same_refl hp hi) upd_same⟩
end
/-! ### what is odd -/
def tw (ds : List PyData) : PyData := .tuple ds
def st (x : String) : PyData := .str x
def odd1 : List PyData := [.none, .bool true, .int 0, .int 7, st "", st "a", st "ba", st "aa", st "signs", st "then", tw [], .list [], .dict [], tw [st "empty"], tw [st "signs", st "a"], tw [st "signs"]]
def odd2 : List PyData := [tw [st "signs", st ""], tw [st "signs", st "ba"], tw [st "signs", .int 1], tw [st "signs", st "a\t"], tw [st "none"], tw [st "again"], tw [st "or", .int 1, .int 2]]
def odd3 : List PyData := [.list [st "empty"], tw [st "empty", tw [st "empty"]], tw [st "more", st "a"], tw [st "Signs", st "a"], tw [tw [st "empty"]]]
mutual
def fineB (L : Nat) : Nat → PyData → Bool
  | _, .none => true
  | _, .bool _ => true
  | _, .int i => decide (0 ≤ i ∧ i ≤ 7)
  | _, .str x => x.cps.toList.all fun c => decide (c < 128)
  | 0, .list _ => false
  | n + 1, .list ds => finesB L n ds
  | 0, .tuple _ => false
  | n + 1, .tuple ds => decide (ds.length ≤ L) && finesB L n ds
  | _, .dict kvs => kvs.isEmpty
termination_by structural _ d => d
def finesB (L : Nat) : Nat → List PyData → Bool
  | _, [] => true
  | n, d :: ds => fineB L n d && finesB L n ds
termination_by structural _ ds => ds
end
mutual
theorem fineB_ok (L : Nat) : ∀ (n : Nat) (d : PyData), fineB L n d = true → Fine L n d
  | _, .none, _ => .non
  | _, .bool _, _ => .bl _
  | _, .int i, h => by
    have h' : decide (0 ≤ i ∧ i ≤ 7) = true := by simpa [fineB] using h
    have := of_decide_eq_true h'
    exact .int this.1 this.2
  | _, .str x, h => .str fun c hc => by
    have h' : (x.cps.toList.all fun c => decide (c < 128)) = true := by rw [fineB] at h; exact h
    exact of_decide_eq_true (List.all_eq_true.mp h' c hc)
  | 0, .list _, h => by simp [fineB] at h
  | n + 1, .list ds, h => .lst (finesB_ok L n ds (by rw [fineB] at h; exact h))
  | 0, .tuple _, h => by simp [fineB] at h
  | n + 1, .tuple ds, h => by
    rw [fineB, Bool.and_eq_true] at h
    exact .tup (of_decide_eq_true h.1) (finesB_ok L n ds h.2)
  | _, .dict kvs, h => by
    have h' : kvs.isEmpty = true := by rw [fineB] at h; exact h
    cases kvs with
    | nil => exact .dct
    | cons _ _ => cases h'
termination_by structural _ d => d
theorem finesB_ok (L : Nat) : ∀ (n : Nat) (ds : List PyData), finesB L n ds = true → ∀ d, d ∈ ds → Fine L n d
  | _, [], _, _, h => by cases h
  | n, d :: ds, h, e, he => by
    rw [finesB, Bool.and_eq_true] at h
    rcases List.mem_cons.mp he with q | q
    · rw [q]
      exact fineB_ok L n d h.1
    · exact finesB_ok L n ds h.2 e q
termination_by structural _ ds => ds
end
theorem odd_fine : finesB 3 2 (odd1 ++ odd2 ++ odd3) = true := by decide +kernel
theorem odd_len : (odd1 ++ odd2 ++ odd3).length = 28 := rfl
theorem odd_wt : (odd1 ++ odd2 ++ odd3).all (fun d => decide (wt d ≤ 300)) = true := by decide +kernel
/-- what is drawn: data with bounds, at some value; the jar one dip or more further -/
def Drawn (j : Addr) (H : Hp) (C L n W : Nat) (Q : VK) : Prop := ∀ (v : V) (d : PyData) (H' : Hp), Rep j H' v d → Fine L n d → wt d ≤ W → Jar j H' C → Keep j H H' → Q v H'
def spOdd : Sp := fun vs H Q _ => ∃ (j : Addr) (C : Nat), vs = [.ref j] ∧ Jar j H C ∧ C ≤ 1000000000 ∧ Drawn j H (C + 1) 3 2 300 Q
theorem scOdd : FnScope ["jar", "some"] ["jar"] (defScope sOdd) := ⟨rfl, rfl, rfl, by decide +kernel, rfl, by decide +kernel, by decide +kernel⟩
theorem at_of {α : Type} {l : List α} {i : Int} (h0 : 0 ≤ i) (h1 : i < (l.length : Nat)) : ∃ x, atI l i = some x ∧ l[i.toNat]? = some x := by
  have h2 : i.toNat < l.length := by omega
  refine ⟨l[i.toNat], ?_, List.getElem?_eq_getElem h2⟩
  unfold atI ixN
  rw [if_pos h0, if_pos h1]
  exact List.getElem?_eq_getElem h2
theorem Jar.some {j : Addr} {H : Hp} {C : Nat} (h : Jar j H C) : H j ≠ none := by
  obtain ⟨a, b, c, h1, _⟩ := h
  rw [h1]
  simp
section
variable {P : Program} {w : World} {K : PySem.W.Frag} {mg : Str → Option Value} {base : Heap} {f g : Addr} {fd gd : FuncData}
theorem ok_odd (F : Fun K "_law_odd" "_law_odd" sOdd f fd) (G : FnOk P w K mg base CX0 1 g gd ["jar", "many"] spDip) (bG : Binds K gd ["jar", "many"] []) (kG : PySem.W.keepIn K (.ref g) = true) (mG : mg "_law_dip" = some (.ref g)) :
    FnOk P w K mg base CX0 2 f fd ["jar"] spOdd := by
  refine F.ok scOdd (fun vs H Q E h => ?_) (fun cdv A outer s H vs Q E hr h => ?_)
  · obtain ⟨j, C, rfl, _⟩ := h
    rfl
  obtain ⟨j, C, rfl, hj, hC, q⟩ := h
  refine ⟨_, pss_cons (ps_set (i := 1) scOdd.nd rfl (.inl rfl) (pe_lst (da_cons dt_non (da_cons dt_bl (da_cons dt_int (da_cons dt_int (da_cons dt_str (da_cons dt_str (da_cons dt_str (da_cons dt_str (da_cons dt_str (da_cons dt_str (da_cons (dt_tup da_nil) (da_cons (dt_lst da_nil) (da_cons dt_dct (da_cons (dt_tup (da_cons dt_str da_nil)) (da_cons (dt_tup (da_cons dt_str (da_cons dt_str da_nil))) (da_cons (dt_tup (da_cons dt_str da_nil)) da_nil))))))))))))))))))
    (pss_cons (ps_set (i := 1) scOdd.nd rfl (.inl rfl) (pe_op op_cat (pv 1) (pe_lst (da_cons (dt_tup (da_cons dt_str (da_cons dt_str da_nil))) (da_cons (dt_tup (da_cons dt_str (da_cons dt_str da_nil))) (da_cons (dt_tup (da_cons dt_str (da_cons dt_int da_nil))) (da_cons (dt_tup (da_cons dt_str (da_cons dt_str da_nil))) (da_cons (dt_tup (da_cons dt_str da_nil)) (da_cons (dt_tup (da_cons dt_str da_nil)) (da_cons (dt_tup (da_cons dt_str (da_cons dt_int (da_cons dt_int da_nil)))) da_nil))))))))))
    (pss_one (ps_ret (pe_ix ix_list (pe_op op_cat (pv 1) (pe_lst (da_cons (dt_lst (da_cons dt_str da_nil)) (da_cons (dt_tup (da_cons dt_str (da_cons (dt_tup (da_cons dt_str da_nil)) da_nil))) (da_cons (dt_tup (da_cons dt_str (da_cons dt_str da_nil))) (da_cons (dt_tup (da_cons dt_str (da_cons dt_str da_nil))) (da_cons (dt_tup (da_cons (dt_tup (da_cons dt_str da_nil)) da_nil)) da_nil))))))) (pe_call G hr rfl mG kG bG .nil pass0 (pa_cons (pv 0) (pa_cons pe_int pa_nil))) (fun _ _ => rfl))))), ?_⟩
  intro v1 H1 s1 l1 r1
  have hj1 := hj.keep s1
  refine ⟨by rw [l1]; decide, fun p1 hp1 => ?_⟩
  have e1 : (upd H1 p1 (.lst v1)) p1 = some (.lst v1) := upd_same
  have k1 := same_new hp1 (.lst v1)
  refine ⟨_, rfl, ?_⟩
  intro v2 H2 s2 l2 r2
  refine ⟨by rw [l2]; decide, fun p2 hp2 => ?_⟩
  have k2 := same_new hp2 (.lst v2)
  refine ⟨p1, p2, v1, v2, rfl, rfl, k2 _ _ (s2 _ _ e1), upd_same, by rw [l1, l2]; decide, fun p3 hp3 => ?_⟩
  have k3 := same_new hp3 (.lst (v1 ++ v2))
  have e3 : (upd (upd H2 p2 (.lst v2)) p3 (.lst (v1 ++ v2))) p3 = some (.lst (v1 ++ v2)) := upd_same
  refine ⟨_, rfl, ?_⟩
  intro v4 H4 s4 l4 r4
  refine ⟨by rw [l4]; decide, fun p4 hp4 => ?_⟩
  have k4 := same_new hp4 (.lst v4)
  refine ⟨p3, p4, _, v4, rfl, rfl, k4 _ _ (s4 _ _ e3), upd_same, by rw [List.length_append, l1, l2, l4]; decide, fun p5 hp5 => ?_⟩
  have k5 := same_new hp5 (.lst (v1 ++ v2 ++ v4))
  have hs3 : Same H1 (upd (upd H2 p2 (.lst v2)) p3 (.lst (v1 ++ v2))) := k1.trans (s2.trans (k2.trans k3))
  have hs5 : Same (upd (upd H2 p2 (.lst v2)) p3 (.lst (v1 ++ v2))) (upd (upd H4 p4 (.lst v4)) p5 (.lst (v1 ++ v2 ++ v4))) := s4.trans (k4.trans k5)
  have hj3 := hj1.keep hs3
  have hj5 := hj3.keep hs5
  have R1 := (r1 j hj.some).all_keep (hs3.trans hs5)
  have R2 := (r2 j (hj1.keep k1).some).all_keep (k2.trans (k3.trans hs5))
  have R4 := (r4 j hj3.some).all_keep (k4.trans k5)
  have R : Reps j _ (v1 ++ v2 ++ v4) (odd1 ++ odd2 ++ odd3) := Reps.append (Reps.append R1 R2) R4
  have hp5j : p5 ≠ j := (hj3.keep (s4.trans k4)).ne hp5
  have e5 : (upd (upd H4 p4 (.lst v4)) p5 (.lst (v1 ++ v2 ++ v4))) p5 = some (.lst (v1 ++ v2 ++ v4)) := upd_same
  refine ⟨_, rfl, j, C, 28, rfl, hj5, hC, by decide, by decide, fun r H' r0 r28 hj' kp => ?_⟩
  have hlen := R.length
  rw [odd_len] at hlen
  obtain ⟨x, hx1, hx2⟩ := at_of (l := v1 ++ v2 ++ v4) r0 (by rw [hlen]; exact r28)
  obtain ⟨d, hd, rd⟩ := R.get hx2
  have hm := List.mem_of_getElem? hd
  refine ⟨p5, _, _, _, rfl, rfl, SqL.of (kp _ _ hp5j e5), hx1, ?_⟩
  exact q x d H' (Rep.keep kp _ _ rd) (finesB_ok 3 2 _ odd_fine d hm) (of_decide_eq_true (List.all_eq_true.mp odd_wt d hm)) hj' ((Keep.of_same (s1.trans (hs3.trans hs5))).trans kp)
end
end Ty
namespace Ty
open PySem PySem.Spec PyProof.Rows L2
/-- a text to draw signs from -/
structure Plain (x : Str) : Prop where
  one : 1 ≤ x.length
  few : x.length ≤ 200
  low : ∀ c, c ∈ x.cps.toList → c < 128
theorem plain_all : Plain allS := ⟨by decide, by decide, fun c h => signs_low c h⟩
def spOf : Sp := fun vs H Q _ => ∃ (j : Addr) (C : Nat) (x : Str), vs = [.ref j, .str x] ∧ Jar j H C ∧ C ≤ 999999000 ∧ Plain x ∧ Drawn j H (C + 5) 3 1 200 Q
theorem scOf : FnScope ["jar", "plain", "pool", "some", "k"] ["jar", "plain"] (defScope sOf) := ⟨rfl, rfl, rfl, by decide +kernel, rfl, by decide +kernel, by decide +kernel⟩
theorem Keep.lst {j p : Addr} {H H' : Hp} {xs : List V} (k : Keep j H H') (n : p ≠ j) (e : H p = some (.lst xs)) : H' p = some (.lst xs) := k _ _ n e
/-- texts of one low sign each -/
def Ones (ys : List Str) : Prop := ∀ y, y ∈ ys → ∃ c, c < 128 ∧ y = ⟨#[c]⟩
theorem Ones.codes : ∀ {ys : List Str}, Ones ys → ∃ l : List Nat, ys = l.map (fun c => (⟨#[c]⟩ : Str)) ∧ ∀ c, c ∈ l → c < 128
  | [], _ => ⟨[], rfl, fun _ h => by cases h⟩
  | y :: ys, h => by
    obtain ⟨c, hc, rfl⟩ := h y List.mem_cons_self
    obtain ⟨l, rfl, hl⟩ := Ones.codes (ys := ys) fun z hz => h z (List.mem_cons_of_mem _ hz)
    exact ⟨c :: l, rfl, fun d hd => by
      rcases List.mem_cons.mp hd with e | e
      · rw [e]; exact hc
      · exact hl d e⟩
theorem ones_sum : ∀ l : List Nat, ((l.map (fun c => (⟨#[c]⟩ : Str))).map (·.length)).sum = l.length
  | [] => rfl
  | c :: l => by
    rw [List.map_cons, List.map_cons, List.sum_cons, ones_sum l, List.length_cons]
    show 1 + _ = _
    omega
section
variable {P : Program} {w : World} {K : PySem.W.Frag} {mg : Str → Option Value} {base : Heap} {f g e : Addr} {fd gd ed : FuncData}
theorem ok_jar (F : Fun K "_law_jar" "_law_jar" sJar f fd) (ml : mg "len" = none) (mm : mg "max" = none) : FnOk P w K mg base CX0 1 f fd ["script", "k"] (spJar K) := by
  refine F.ok scJar (fun vs H Q E h => ?_) (fun cdv A outer s H vs Q E hr h => ?_)
  · obtain ⟨a, ns, k, rfl, _⟩ := h
    rfl
  obtain ⟨a, ns, k, rfl, hS, hl, k0, k1, q⟩ := h
  refine ⟨_, pss_cons (ps_set (i := 2) scJar.nd rfl (.inl rfl) pe_int)
    (pss_cons (ps_if (pt_cmpR op_lt (pv 1) (pe_callB call_len_seq rfl ml PySem.boot_len (pa_cons (pv 0) pa_nil)) (nomark _)) (pss_one (ps_set (i := 2) scJar.nd rfl (.inl rfl) (pe_ix ix_list (pv 0) (pv 1) (fun _ _ => rfl)))) pss_nil)
    (pss_one (ps_ret (pe_lst (pa_cons (pe_callB (call_max2 rfl) rfl mm (by decide +kernel) (pa_cons pe_int (pa_cons (pe_op op_sub (pv 2) (pe_op op_pow pe_int pe_int)) pa_nil)))
      (pa_cons (pe_op op_add (pe_op op_mod (pv 2) pe_int) (pe_op op_mul pe_int (pv 1))) (pa_cons pe_int pa_nil))))))), ?_⟩
  refine ⟨_, rfl, _, rfl, a, _, rfl, .inl hS, _, _, rfl, rfl, _, rfl, ?_⟩
  have fin : ∀ (z : Int) (p : Addr), H p = none → ∀ u : Int, Q (.ref p) (upd H p (.lst [.int u, .int (z % 618970019642690137449562111 + 7919 * k), .int 0])) := fun z p hp u => by
    refine q p _ hp (same_new hp _) ⟨_, _, _, upd_same, ?_, Int.le_refl 0, Int.le_refl 0⟩
    have h1 := Int.emod_nonneg z (b := 618970019642690137449562111) (by decide)
    have h2 := Int.emod_lt_of_pos z (b := 618970019642690137449562111) (by decide)
    have h3 : (2 : Nat) ^ 100 = 1267650600228229401496703205376 := by decide
    omega
  refine ite2 (fun c => ?_) (fun c => ?_)
  · have c' : k < (((ns.map V.int).length : Nat) : Int) := of_decide_eq_true c
    obtain ⟨x, hx1, hx2⟩ := at_of (l := ns.map V.int) k0 c'
    obtain ⟨z, _, rfl⟩ : ∃ z, ns[k.toNat]? = some z ∧ V.int z = x := by
      rw [List.getElem?_map] at hx2
      cases e : ns[k.toNat]? with
      | none => rw [e] at hx2; cases hx2
      | some z => rw [e] at hx2; exact ⟨z, rfl, by injection hx2⟩
    refine ⟨_, rfl, _, rfl, a, _, _, _, rfl, rfl, hS, hx1, ?_⟩
    exact ⟨_, rfl, _, _, rfl, rfl, ⟨by decide, by decide, by decide⟩, _, _, rfl, rfl, _, _, rfl, _, rfl, _, _, rfl, rfl, (show (0 : Int) < 618970019642690137449562111 by decide), _, rfl, _, _, rfl, rfl, .inl ⟨by decide, by decide⟩, _, _, rfl, rfl, (by show 3 ≤ sizeLine; decide), fun p hp => fin z p hp _⟩
  · exact ⟨_, rfl, _, _, rfl, rfl, ⟨by decide, by decide, by decide⟩, _, _, rfl, rfl, _, _, rfl, _, rfl, _, _, rfl, rfl, (show (0 : Int) < 618970019642690137449562111 by decide), _, rfl, _, _, rfl, rfl, .inl ⟨by decide, by decide⟩, _, _, rfl, rfl, (by show 3 ≤ sizeLine; decide), fun p hp => fin 0 p hp _⟩
theorem ok_of (F : Fun K "_law_signs_of" "_law_signs_of" sOf f fd) (G : FnOk P w K mg base CX0 1 g gd ["jar", "many"] spDip) (bG : Binds K gd ["jar", "many"] []) (kG : PySem.W.keepIn K (.ref g) = true) (mG : mg "_law_dip" = some (.ref g))
    (GA : FnOk P w K mg base CX0 1 e ed [] spAll) (bA : Binds K ed [] []) (kA : PySem.W.keepIn K (.ref e) = true) (mA : mg "_law_all_signs" = some (.ref e))
    (mi : mg "int" = none) (ms : mg "sorted" = none) (mt : mg "set" = none) (mr : mg "range" = none) (ml : mg "len" = none) :
    FnOk P w K mg base CX0 2 f fd ["jar", "plain"] spOf := by
  refine F.ok scOf (fun vs H Q E h => ?_) (fun cdv A outer s H vs Q E hr h => ?_)
  · obtain ⟨j, C, x, rfl, _⟩ := h
    rfl
  obtain ⟨j, C, x, rfl, hj, hC, hx, q⟩ := h
  refine ⟨_, pss_cons (ps_set (i := 2) scOf.nd rfl (.inr rfl) (pe_ix ix_list (pe_lst (pa_cons (pv 1) (pa_cons (pe_call0 GA hr rfl mA kA bA .nil pass0) pa_nil)))
      (pe_callTy call_int1 rfl mi (by decide +kernel) (pa_cons (pe_cmpR op_eq (pe_call G hr rfl mG kG bG .nil pass0 (pa_cons (pv 0) (pa_cons pe_int pa_nil))) pe_int (nomark _)) pa_nil)) (fun _ _ => rfl)))
    (pss_cons (ps_set (i := 3) scOf.nd rfl (.inl rfl) (pe_callB (cr_sortedTx rfl) rfl ms (by decide +kernel) (pa_cons (pe_callTy (cr_setTx rfl) rfl mt (by decide +kernel) (pa_cons
        (pe_lc (own := [("k", 4)]) (g := gName 4) (tt := tYes) rfl scOf.nd (pi_range1 rfl mr (pa_cons (pe_op op_add pe_int (pe_call G hr rfl mG kG bG .nil pass0 (pa_cons (pv 0) (pa_cons pe_int pa_nil)))) pa_nil)) (blkOk_by (N := ["jar", "plain", "pool", "some", "k"]) (sc := defScope sOf) (by decide +kernel)) (fun _ _ _ _ _ => pg_name (i := 4) scOf.nd rfl (Or.inl rfl)) (fun _ _ _ _ _ => pts_nil)
          (fun _ _ _ _ _ => pe_ix ix_str (pv 2) (pe_call G hr rfl mG kG bG .nil pass0 (pa_cons (pv 0) (pa_cons (pe_callB call_len_str rfl ml PySem.boot_len (pa_cons (pv 2) pa_nil)) pa_nil))) (fun _ _ => rfl))) pa_nil)) pa_nil)))
    (pss_one (ps_ret (pe_tup (pa_cons pe_str (pa_cons (pe_join pe_str (pv 3)) pa_nil)))))), ?_⟩
  refine ⟨_, rfl, rfl, (by show 2 ≤ sizeLine; decide), fun p hp => ?_⟩
  have k0 := same_new hp (.lst [.str x, .str allS])
  refine ⟨_, rfl, j, C, 12, rfl, hj.keep k0, by omega, by decide, by decide, fun r H1 r0 r1 hj1 kp1 => ?_⟩
  have hpj := hj.ne hp
  refine ⟨rfl, .inr ⟨_, rfl, ?_⟩⟩
  obtain ⟨y, hat, hy⟩ : ∃ y, atI [V.str x, V.str allS] (if decide (V.int r = V.int 0) = true then 1 else 0) = some (.str y) ∧ Plain y := by
    by_cases c : decide (V.int r = V.int 0) = true
    · rw [if_pos c]; exact ⟨allS, rfl, plain_all⟩
    · rw [if_neg c]; exact ⟨x, rfl, hx⟩
  refine ⟨p, _, _, _, rfl, rfl, SqL.of (kp1 _ _ hpj upd_same), hat, ?_⟩
  refine ⟨_, rfl, j, C + 1, 3, rfl, hj1, by omega, by decide, by decide, fun r2 H2 r20 r21 hj2 kp2 => ?_⟩
  refine ⟨_, _, rfl, rfl, _, rfl, by omega, by omega, fun D hD => ?_⟩
  have hDj := hj2.ne hD
  have k3 : Keep j H H2 := (Keep.of_same k0).trans (kp1.trans kp2)
  refine lc_range (lo := 0) (n := (1 + r2).toNat) (fun i H' => ∃ ys : List Str, H' D = some (.lst (ys.map V.str)) ∧ ys.length = i ∧ Ones ys ∧ Jar j H' (C + 2 + i) ∧ Keep j H H') ⟨[], upd_same, rfl, (fun _ h => by cases h), hj2.keep (same_new hD _), k3.trans (keep_new hD _)⟩ (fun i H' hi p => ?_) (fun H' p => ?_)
  · obtain ⟨ys, hys, hl, ho, hj', kp'⟩ := p
    refine ⟨rfl, ?_⟩
    simp only [tYes, ↓reduceIte]
    have hyl : y.length ≤ sizeLine := by rw [sizeLine_eq]; have := hy.few; omega
    have hy1 := hy.one
    have hy2 := hy.few
    refine ⟨_, rfl, _, rfl, _, rfl, y, rfl, hyl, j, C + 2 + i, _, rfl, hj', by omega, by omega, by omega, fun r3 H3 r30 r31 hj3 kp3 => ?_⟩
    have hyc : y.cps.toList.length = y.length := Array.length_toList
    obtain ⟨c, hc1, hc2⟩ := at_of (l := y.cps.toList) r30 (by rw [hyc]; exact r31)
    refine ⟨y, _, c, rfl, rfl, hyl, hc1, _, kp3.lst hDj hys, by rw [List.length_map, sizeLine_eq]; omega, ys ++ [⟨#[c]⟩], ?_, ?_, ?_, ?_, ?_⟩
    · rw [upd_same, List.map_append]
      rfl
    · rw [List.length_append, hl]; rfl
    · intro z hz
      rcases List.mem_append.mp hz with h | h
      · exact ho z h
      · exact ⟨c, hy.low c (List.mem_of_getElem? hc2), List.mem_singleton.mp h⟩
    · obtain ⟨a1, b1, c1, h1, h2⟩ := hj3
      exact ⟨a1, b1, c1, by rw [upd_ne (Ne.symm hDj)]; exact h1, h2.1, h2.2.1, by have := h2.2.2; omega⟩
    · intro b o hb ho
      rw [upd_ne (ne_of_none (k3 b o hb ho) hD)]
      exact kp3 b o hb (kp' b o hb ho)
  · obtain ⟨ys, hys, hl, ho, hj', kp'⟩ := p
    have h4 : ys.length ≤ 3 := by rw [hl]; omega
    refine ⟨D, ys, rfl, SqL.of hys, by show ys.length + 1 < 4096; omega, fun p2 hp2 => ?_⟩
    have hgl := gather_len ys ([] : List Str)
    rw [List.length_nil, Nat.zero_add] at hgl
    have n2 := same_new hp2 (SetTx P w p2 (gather [] ys))
    refine ⟨p2, gather [] ys, rfl, upd_same, by omega, fun zs p3 pm hs hp3 => ?_⟩
    have hzl : zs.length ≤ 3 := by rw [pm.length_eq]; omega
    have hzo : Ones zs := fun z hz => by
      have := (mem_gather (L := ([] : List Str))).mp (pm.mem_iff.mp hz)
      rcases this with h | h
      · cases h
      · exact ho z h
    obtain ⟨l, rfl, hlow⟩ := hzo.codes
    rw [List.length_map] at hzl
    have n3 := same_new hp3 (.lst ((l.map fun c => (⟨#[c]⟩ : Str)).map V.str))
    refine ⟨⟨_, rfl⟩, _, rfl, _, p3, _, rfl, rfl, .inl (SqL.of upd_same), ?_, ?_⟩
    · rw [ones_sum]
      show _ + _ * 0 ≤ _
      omega
    · rw [join_one]
      refine ⟨(by show 2 ≤ sizeLine; decide), fun p4 hp4 => ?_⟩
      have s4 := (n2.trans n3).trans (same_new hp4 (.tup [.str "signs", .str ⟨l.toArray⟩]))
      have hj4 := hj'.keep s4
      refine q _ (.tuple [.str "signs", .str ⟨l.toArray⟩]) _ (.tup (((hj'.keep n2).keep n3).ne hp4) upd_same (.cons (.str _) (.cons (.str _) .nil))) (.tup (Nat.le_succ 2) fun d hd => ?_) ?_ (hj4.mono (by omega)) (kp'.trans (Keep.of_same s4))
      · rcases List.mem_cons.mp hd with h | h
        · rw [h]
          exact .str (by decide)
        · rw [List.mem_singleton.mp h]
          exact .str hlow
      · have e1 : (⟨l.toArray⟩ : Str).length = l.length := by simp [Str.length]
        have e2 : ("signs" : Str).length = 5 := rfl
        simp only [wt, wts, e1, e2]
        omega
/-! ### moulds -/
def nd : Nat → Nat
  | 0 => 6
  | k + 1 => 2 * nd k + 6
def wm : Nat → Nat
  | 0 => 200
  | k + 1 => 2 * wm k + 200
theorem nd_six : ∀ k, 6 ≤ nd k
  | 0 => Nat.le_refl _
  | k + 1 => by unfold nd; omega
theorem wm_ge : ∀ k, 200 ≤ wm k
  | 0 => Nat.le_refl _
  | k + 1 => by unfold wm; omega
def spMould (n : Nat) : Sp := fun vs H Q _ => ∃ (j : Addr) (C k : Nat) (x : Str), vs = [.ref j, .str x, .int (k : Nat)] ∧ k < n ∧ Jar j H C ∧ C + nd k ≤ 999998000 ∧ Plain x ∧ Drawn j H (C + nd k) 3 (k + 1) (wm k) Q
theorem scMould : FnScope ["jar", "plain", "deep", "way", "one"] ["jar", "plain", "deep"] (defScope sMould) := ⟨rfl, rfl, rfl, by decide +kernel, rfl, by decide +kernel, by decide +kernel⟩
theorem mould_left : FnOk P w K mg base CX0 2 f fd ["jar", "plain", "deep"] (spMould 0) := by
  have no : ∀ vs H Q E, ¬ spMould 0 vs H Q E := fun vs H Q E h => by
    obtain ⟨j, C, k, x, _, h, _⟩ := h
    omega
  exact ⟨fun vs H Q E h => absurd h (no vs H Q E), fun A outer s H args us vs Q E _ _ _ _ h => absurd h (no vs H Q E)⟩
theorem ok_mould {n : Nat} (F : Fun K "_law_mould" "_law_mould" sMould f fd) (GM : FnOk P w K mg base CX0 (n + 2) f fd ["jar", "plain", "deep"] (spMould n)) (bF : Binds K fd ["jar", "plain", "deep"] []) (mF : mg "_law_mould" = some (.ref f))
    (G : FnOk P w K mg base CX0 1 g gd ["jar", "many"] spDip) (bG : Binds K gd ["jar", "many"] []) (kG : PySem.W.keepIn K (.ref g) = true) (mG : mg "_law_dip" = some (.ref g))
    (GS : FnOk P w K mg base CX0 2 e ed ["jar", "plain"] spOf) (bS : Binds K ed ["jar", "plain"] []) (kS : PySem.W.keepIn K (.ref e) = true) (mS : mg "_law_signs_of" = some (.ref e)) :
    FnOk P w K mg base CX0 (n + 3) f fd ["jar", "plain", "deep"] (spMould (n + 1)) := by
  refine F.ok scMould (fun vs H Q E h => ?_) (fun cdv A outer s H vs Q E hr h => ?_)
  · obtain ⟨j, C, k, x, rfl, _⟩ := h
    rfl
  obtain ⟨j, C, k, x, rfl, hk, hj, hC, hx, q⟩ := h
  have G' := G.mono (show 1 ≤ n + 2 by omega)
  have GS' := GS.mono (show 2 ≤ n + 2 by omega)
  have h6 := nd_six k
  have h20 := wm_ge k
  refine ⟨_, pss_cons (ps_set (i := 3) scMould.nd rfl (.inl rfl) (pe_call G' hr rfl mG kG bG .nil pass0 (pa_cons (pv 0) (pa_cons pe_int pa_nil))))
    (pss_cons (ps_if (PW.pt (pw_or (pt_cmpR op_lt (pv 2) pe_int (nomark _)) (pw_or1 (pt_cmpR op_lt (pv 3) pe_int (nomark _)))))
      (pss_one (ps_ret (pe_call GS' hr rfl mS kS bS .nil pass0 (pa_cons (pv 0) (pa_cons (pv 1) pa_nil))))) pss_nil)
    (pss_cons (ps_if (pt_cmpR op_eq (pv 3) pe_int (nomark _)) (pss_one (ps_ret (dt_tup (da_cons dt_str da_nil)))) pss_nil)
    (pss_cons (ps_set (i := 4) scMould.nd rfl (.inl rfl) (pe_call GM hr rfl mF F.kp bF .nil pass0 (pa_cons (pv 0) (pa_cons (pv 1) (pa_cons (pe_op op_sub (pv 2) pe_int) pa_nil)))))
    (pss_cons (ps_if (pt_cmpR op_lt (pv 3) pe_int (nomark _))
      (pss_one (ps_ret (pe_tup (pa_cons (pe_ix ix_list (pe_lst (pa_cons pe_str (pa_cons pe_str (pa_cons pe_str pa_nil)))) (pe_op op_sub (pv 3) pe_int) (fun _ _ => rfl)) (pa_cons (pv 4) (pa_cons (pe_call GM hr rfl mF F.kp bF .nil pass0 (pa_cons (pv 0) (pa_cons (pv 1) (pa_cons (pe_op op_sub (pv 2) pe_int) pa_nil)))) pa_nil)))))) pss_nil)
    (pss_one (ps_ret (pe_tup (pa_cons (pe_ix ix_list (pe_lst (pa_cons pe_str (pa_cons pe_str (pa_cons pe_str pa_nil)))) (pe_op op_sub (pv 3) pe_int) (fun _ _ => rfl)) (pa_cons (pv 4) pa_nil))))))))), ?_⟩
  refine ⟨_, rfl, j, C, 10, rfl, hj, by omega, by decide, by decide, fun r H1 r0 r1 hj1 kp1 => ?_⟩
  refine ⟨_, rfl, _, _, rfl, rfl, _, rfl, ?_⟩
  have leaf : ∀ (Q' : VK), (∀ v H', Q v H' → Q' v H') → Drawn j H1 (C + 1 + 5) 3 1 200 Q' := fun Q' hq v d H' rd fd wd jd kd => hq _ _ (q v d H' rd (fd.mono (Nat.le_refl _) (by omega)) (by omega) (jd.mono (by omega)) (kp1.trans kd))
  refine ite2 (fun c => ?_) (fun c => ?_)
  · exact ⟨_, rfl, _, rfl, j, C + 1, x, rfl, hj1, by omega, hx, leaf _ fun _ _ h => h⟩
  · refine ⟨_, rfl, _, _, rfl, rfl, _, rfl, ?_⟩
    refine ite2 (fun c2 => ?_) (fun c2 => ?_)
    · exact ⟨_, rfl, _, rfl, j, C + 1, x, rfl, hj1, by omega, hx, leaf _ fun _ _ h => h⟩
    · have c' : ¬ ((k : Nat) : Int) < 2 := of_decide_eq_false (Bool.eq_false_iff.mpr c)
      have c2' : ¬ r < 3 := of_decide_eq_false (Bool.eq_false_iff.mpr c2)
      obtain ⟨k, rfl⟩ : ∃ k', k = k' + 1 := ⟨k - 1, by omega⟩
      have hdeep : ((k + 1 : Nat) : Int) - 1 = (k : Nat) := by omega
      have end1 : nd (k + 1) = 2 * nd k + 6 := rfl
      have ewm : wm (k + 1) = 2 * wm k + 200 := rfl
      have h6' := nd_six k
      refine ⟨_, rfl, rfl, _, rfl, ?_⟩
      refine ite2 (fun c3 => ?_) (fun c3 => ?_)
      · intro v H2 s2 rd
        refine q v _ H2 (rd j hj1.some) (.tup (by decide) fun d hd => ?_) ?_ ((hj1.keep s2).mono (by omega)) (kp1.trans (Keep.of_same s2))
        · rw [List.mem_singleton.mp hd]
          exact .str (by decide)
        · have e2 : ("empty" : Str).length = 5 := rfl
          simp only [wt, wts, e2]
          omega
      · have c3' : r ≠ 9 := fun e => of_decide_eq_false (Bool.eq_false_iff.mpr c3) (by rw [e])
        refine ⟨_, rfl, _, rfl, _, rfl, _, _, rfl, rfl, j, C + 1, k, x, ?_, by omega, hj1, by omega, hx, fun v1 d1 H2 rd1 fd1 wd1 jd1 kd1 => ?_⟩
        · show [V.ref j, V.str x, V.int (((k + 1 : Nat) : Int) - 1)] ++ [] = _
          rw [hdeep]; rfl
        have word : ∀ (l : List Str), l.length = 3 → (∀ y, y ∈ l → y.length ≤ 5 ∧ ∀ c, c ∈ y.cps.toList → c < 128) → ∀ i : Int, 0 ≤ i → i < 3 → ∃ y : Str, atI (l.map V.str) i = some (.str y) ∧ y.length ≤ 5 ∧ ∀ c, c ∈ y.cps.toList → c < 128 := fun l hl hall i i0 i1 => by
          obtain ⟨z, z1, z2⟩ := at_of (l := l.map V.str) i0 (by rw [List.length_map, hl]; exact i1)
          obtain ⟨y, hy, rfl⟩ := List.mem_map.mp (List.mem_of_getElem? z2)
          exact ⟨y, z1, hall y hy⟩
        have w3 : ∀ y : Str, y ∈ (["then", "then", "or"] : List Str) → y.length ≤ 5 ∧ ∀ c, c ∈ y.cps.toList → c < 128 := by decide +kernel
        have w4 : ∀ y : Str, y ∈ (["again", "more", "maybe"] : List Str) → y.length ≤ 5 ∧ ∀ c, c ∈ y.cps.toList → c < 128 := by decide +kernel
        refine ⟨_, rfl, _, _, rfl, rfl, _, rfl, ?_⟩
        refine ite2 (fun c4 => ?_) (fun c4 => ?_)
        · have c4' : r < 6 := of_decide_eq_true c4
          obtain ⟨y, hy1, hy2, hy3⟩ := word _ rfl w3 (r - 3) (by omega) (by omega)
          refine ⟨(by show 3 ≤ sizeLine; decide), fun p hp => ?_⟩
          have s3 := same_new hp (.lst [.str "then", .str "then", .str "or"])
          refine ⟨_, rfl, _, _, rfl, rfl, p, _, _, _, rfl, rfl, SqL.of upd_same, hy1, _, rfl, _, rfl, _, rfl, _, rfl, _, _, rfl, rfl, j, C + 1 + nd k, k, x, ?_, by omega, jd1.keep s3, by omega, hx, fun v2 d2 H3 rd2 fd2 wd2 jd2 kd2 => ?_⟩
          · show [V.ref j, V.str x, V.int (((k + 1 : Nat) : Int) - 1)] ++ [] = _
            rw [hdeep]; rfl
          refine ⟨(by show 3 ≤ sizeLine; decide), fun p2 hp2 => ?_⟩
          have s4 := same_new hp2 (.tup [.str y, v1, v2])
          have rd1' := Rep.keep kd2 _ _ (rd1.all_keep s3)
          refine q _ (.tuple [.str y, d1, d2]) _ (.tup (jd2.ne hp2) upd_same (.cons (.str y) (.cons (rd1'.all_keep s4) (.cons (rd2.all_keep s4) .nil)))) (.tup (Nat.le_refl 3) fun d hd => ?_) ?_ ((jd2.keep s4).mono (by omega)) (kp1.trans (kd1.trans ((Keep.of_same s3).trans (kd2.trans (Keep.of_same s4)))))
          · rcases List.mem_cons.mp hd with h | h
            · rw [h]
              exact .str hy3
            · rcases List.mem_cons.mp h with h | h
              · rw [h]; exact fd1
              · rw [List.mem_singleton.mp h]; exact fd2
          · simp only [wt, wts]
            omega
        · have c4' : ¬ r < 6 := of_decide_eq_false (Bool.eq_false_iff.mpr c4)
          obtain ⟨y, hy1, hy2, hy3⟩ := word _ rfl w4 (r - 6) (by omega) (by omega)
          refine ⟨(by show 3 ≤ sizeLine; decide), fun p hp => ?_⟩
          have s3 := same_new hp (.lst [.str "again", .str "more", .str "maybe"])
          refine ⟨_, rfl, _, _, rfl, rfl, p, _, _, _, rfl, rfl, SqL.of upd_same, hy1, _, rfl, (by show 2 ≤ sizeLine; decide), fun p2 hp2 => ?_⟩
          have s4 := same_new hp2 (.tup [.str y, v1])
          have rd1' := rd1.all_keep s3
          refine q _ (.tuple [.str y, d1]) _ (.tup ((jd1.keep s3).ne hp2) upd_same (.cons (.str y) (.cons (rd1'.all_keep s4) .nil))) (.tup (Nat.le_succ 2) fun d hd => ?_) ?_ (((jd1.keep s3).keep s4).mono (by omega)) (kp1.trans (kd1.trans ((Keep.of_same s3).trans (Keep.of_same s4))))
          · rcases List.mem_cons.mp hd with h | h
            · rw [h]
              exact .str hy3
            · rw [List.mem_singleton.mp h]; exact fd1
          · simp only [wt, wts]
            omega
end
end Ty
namespace Ty
open PySem PySem.Spec PyProof.Rows L2
section
variable {X : Cx}
/-! ### a tuple against the empty one, slices and sums of tuples, by what the result holds -/
def rNeT0 (K : PySem.W.Frag) : R2 := fun x y H Q => ∃ a b xs, x = .ref a ∧ y = .ref b ∧ SqT K H a xs ∧ SqT K H b [] ∧ Q (.bl (!decide (xs = []))) H
theorem op_neT0 (hu : X.A.units < cLine) : OpR X (compareOp .NotEq) (rNeT0 X.K) := by
  intro pins s σ H x y v u Q I rx ry h
  obtain ⟨a, b, xs, rfl, rfl, ha, hb, q⟩ := h
  cases rx
  cases ry
  obtain ⟨its, r1, p1, _⟩ := I.tuple ha
  obtain ⟨its2, r2, p2, _⟩ := I.tuple hb
  cases r2
  have hlen := r1.length
  refine (SeqAt.RcNeAt.tuples (e := fun _ => true) p1 p2 hu (fun k h1 h2 => absurd h2 (by simp))) X.prog X.w _ _ ⟨.bl _, H, I, rfl, ?_⟩
  have e : ((List.range (min its.toArray.size ([] : List Value).toArray.size)).all (fun _ => true) && its.toArray.size == ([] : List Value).toArray.size) = decide (xs = []) := by
    cases xs with
    | nil =>
      cases its with
      | nil => rfl
      | cons => cases hlen
    | cons =>
      cases its with
      | nil => cases hlen
      | cons => simp
  rw [e]
  exact q
/-- a tuple that holds xs: one that stood, or a new one -/
def Got (H : Hp) (xs : List V) (Q : VK) (as : List Addr) : Prop := ∀ p H', Same H H' → H' p = some (.tup xs) → (∀ j, H j ≠ none → j ∉ as → p ≠ j) → Q (.ref p) H'
theorem Got.old {H : Hp} {xs : List V} {Q : VK} {as : List Addr} {a : Addr} (g : Got H xs Q as) (ha : H a = some (.tup xs)) (m : a ∈ as) : Q (.ref a) H :=
  g a H same_refl ha fun j _ n e => n (e ▸ m)
theorem Got.new {H : Hp} {xs : List V} {Q : VK} {as : List Addr} (g : Got H xs Q as) {p : Addr} (hp : H p = none) : Q (.ref p) (upd H p (.tup xs)) :=
  g p _ (same_new hp _) upd_same fun j hj _ => new_ne same_refl hp hj
theorem cut_whole {xs : List V} {lo hi : Option Int} (h : HT.sIx xs.length 0 lo = 0 ∧ HT.sIx xs.length xs.length hi = xs.length) : cutV xs lo hi = xs := by
  unfold cutV
  rw [h.1, h.2]
  show List.take xs.length xs = xs
  exact List.take_length
def rSlG : V → Option Int → Option Int → Hp → VK → Prop := fun x lo hi H Q => ∃ a xs, x = .ref a ∧ H a = some (.tup xs) ∧ Got H (cutV xs lo hi) Q [a]
theorem sl_got : SlR X rSlG := by
  intro pins s σ H x v vl vu lo hi sl Q I rx hs pl pu h
  obtain ⟨a, xs, rfl, ha, g⟩ := h
  exact sl_tupA pins s σ H _ v vl vu lo hi sl Q I rx hs pl pu ⟨a, xs, rfl, SqT.of ha, fun w => g.old (by rw [cut_whole w]; exact ha) (by simp), fun _ p hp => g.new hp⟩
def rCatG : R2 := fun x y H Q => ∃ a b xs ys, x = .ref a ∧ y = .ref b ∧ H a = some (.tup xs) ∧ H b = some (.tup ys) ∧ xs.length + ys.length ≤ sizeLine ∧ Got H (xs ++ ys) Q [a, b]
theorem op_catG : OpR X (binaryOp .Add) rCatG := by
  intro pins s σ H x y v u Q I rx ry h
  obtain ⟨a, b, xs, ys, rfl, rfl, ha, hb, hz, g⟩ := h
  refine op_catA pins s σ H _ _ v u Q I rx ry ⟨a, b, xs, ys, rfl, rfl, SqT.of ha, SqT.of hb, hz, fun e => ?_, fun _ e => ?_, fun _ _ p hp => g.new hp⟩
  · subst e
    exact g.old hb (by simp)
  · subst e
    rw [List.append_nil] at g
    exact g.old ha (by simp)
/-- a tuple turned round -/
def tRevT (te : TE) : TE := fun σ H Q => te σ H fun x H1 => ∃ a xs, x = .ref a ∧ H1 a = some (.tup xs) ∧ ∀ p, H1 p = none → Q (.ref p) (upd H1 p (.tup xs.reverse))
theorem pe_revT {e : Expr} {te : TE} {k : Nat} {p1 p2 p3 pos : Pos} (he : PE X e te) : PE X (.Subscript e (.Slice none none (some (.UnaryOp .USub (.Constant (.int 1) k p1) p2)) p3) pos) (tRevT te) := by
  refine ⟨fun pins s σ H Q I h => ?_⟩
  refine Subscript_ (thn (he.run pins s σ H _ I h) fun v s1 hv => ?_)
  obtain ⟨x, H1, I1, r1, a, xs, rfl, ha, q⟩ := hv
  cases r1
  refine wpAny_Slice (thn (po_none.run pins s1 σ H1 (fun o H2 => o = none ∧ H2 = H1) I1 ⟨rfl, rfl⟩) fun vl s2 hv => ?_)
  obtain ⟨o1, H2, I2, pl, rfl, rfl⟩ := hv
  refine thn (po_none.run pins s2 σ H2 (fun o H3 => o = none ∧ H3 = H2) I2 ⟨rfl, rfl⟩) fun vu s3 hv => ?_
  obtain ⟨o2, H3, I3, pu, rfl, rfl⟩ := hv
  refine part_back I3 fun vs u s4 ev I4 => ?_
  subst ev
  cases pl
  cases pu
  have I5 : Inv X pins σ H3 { s4 with heap := s4.heap.push { cls := .type "slice", data := .fields #[.none, .none, .int (-1) u] } } := I4.kept (t' := s4.toks) fun b ob q => Heap.get?_push_of_some _ q
  obtain ⟨its, r, ht, hz⟩ := I5.tuple (SqT.of ha)
  have hlen := r.length
  refine tail_any (ops := [.ref a, .ref s4.heap.objs.size]) ht.typeIs (PyProof.Rows.slot_tuple_getitem.lookup) ?_ (by with_unfolding_all rfl)
  refine getItem_tuple_back (u := u) ht ⟨_, Heap.get?_push_size _ rfl, rfl, rfl⟩ ?_ (by rw [← hlen]; exact hz)
  refine ⟨.ref _, _, I5.laid (t' := s4.toks) (o := .tup xs.reverse) (fun b ob q => Heap.get?_push_of_some _ q) (Nat.le_refl _) ?_, rfl, q _ (I5.hok.fresh (Nat.le_refl _))⟩
  exact ⟨by rw [List.length_reverse]; exact hz, _, r.reverse, _, Heap.get?_push_size _ rfl, rfl, 0, rfl⟩
end
theorem cut_to {xs : List V} {b : Nat} : cutV xs none (some (b : Nat)) = xs.take b := by
  unfold cutV
  rw [HT.sIx_nat]
  show List.take (min b xs.length - 0) (List.drop 0 xs) = _
  rw [Nat.sub_zero, List.drop_zero]
  by_cases h : b ≤ xs.length
  · rw [Nat.min_eq_left h]
  · rw [Nat.min_eq_right (by omega), List.take_length, List.take_of_length_le (by omega)]
theorem cut_from {xs : List V} {b : Nat} : cutV xs (some (b : Nat)) none = xs.drop b := by
  unfold cutV
  rw [HT.sIx_nat]
  show List.take (xs.length - min b xs.length) _ = _
  rw [List.take_of_length_le (by rw [List.length_drop]; exact Nat.le_refl _)]
  by_cases h : b ≤ xs.length
  · rw [Nat.min_eq_left h]
  · rw [Nat.min_eq_right (by omega), List.drop_length, List.drop_eq_nil_of_le (by omega)]
end Ty
namespace Ty
open PySem PySem.Spec PyProof.Rows L2
/-! ### texts of low signs -/
def Low (x : Str) : Prop := ∀ c, c ∈ x.cps.toList → c < 128
theorem Low.cat {x y : Str} (a : Low x) (b : Low y) : Low (x ++ y) := fun c h => by
  rw [Str.cps_append, Array.toList_append, List.mem_append] at h
  exact h.elim (a c) (b c)
theorem Low.rev {x : Str} (a : Low x) : Low (revS x) := fun c h => a c (by
  have : c ∈ x.cps.toList.reverse := h
  exact List.mem_reverse.mp this)
theorem rev_len (x : Str) : (revS x).length = x.length := by
  show x.cps.toList.reverse.toArray.size = x.cps.size
  simp
theorem Low.cut {x : Str} (a : Low x) (lo hi : Option Int) : Low (cutS x lo hi) := fun c h => a c (by
  have : c ∈ (x.cps.toList.drop (HT.sIx x.length 0 lo)).take (HT.sIx x.length x.length hi - HT.sIx x.length 0 lo) := h
  exact List.mem_of_mem_drop (List.mem_of_mem_take this))
theorem map_mapIdx' {α β γ : Type} (f : Nat → α → β) (g : β → γ) : ∀ l : List α, (l.mapIdx f).map g = l.mapIdx fun i c => g (f i c) := fun l => by
  apply List.ext_getElem?
  intro i
  rw [List.getElem?_map, List.getElem?_mapIdx, List.getElem?_mapIdx]
  cases l[i]? <;> rfl
theorem up_list : ∀ (l : List Nat), (∀ c, c ∈ l → c < 128) → ∀ k, (l.mapIdx fun i c => (fun (_ : Nat) c => Unicode.upperOf c) (i + k) c).flatten.length = l.length ∧ ∀ x, x ∈ (l.mapIdx fun i c => (fun (_ : Nat) c => Unicode.upperOf c) (i + k) c).flatten → x < 128
  | [], _, _ => ⟨rfl, fun _ h => by cases h⟩
  | c :: l, h, k => by
    obtain ⟨h1, h2⟩ := upper_one c (h c List.mem_cons_self)
    obtain ⟨i1, i2⟩ := up_list l (fun d hd => h d (List.mem_cons_of_mem _ hd)) (k + 1)
    rw [List.mapIdx_cons, List.flatten_cons]
    refine ⟨?_, fun x hx => ?_⟩
    · rw [List.length_append, List.length_cons]
      have : (l.mapIdx fun i c => Unicode.upperOf c).flatten.length = l.length := i1
      show (Unicode.upperOf c).length + (l.mapIdx fun i c => Unicode.upperOf c).flatten.length = _
      omega
    · rcases List.mem_append.mp hx with q | q
      · exact h2 x q
      · exact i2 x q
theorem up_ok {x : Str} (a : Low x) : (Txt.upper x).length = x.length ∧ Low (Txt.upper x) := by
  have e : (Txt.upper x).cps.toList = (x.cps.toList.mapIdx fun _ c => Unicode.upperOf c).flatten := by
    show ((x.cps.mapIdx fun i c => (Unicode.upperOf c).toArray).flatten).toList = _
    rw [Array.toList_flatten, Array.toList_mapIdx, map_mapIdx']
  obtain ⟨h1, h2⟩ := up_list x.cps.toList a 0
  have hl : (Txt.upper x).cps.toList.length = (Txt.upper x).length := Array.length_toList
  have hx : x.cps.toList.length = x.length := Array.length_toList
  constructor
  · rw [← hl, e, ← hx]
    exact h1
  · intro c hc
    rw [e] at hc
    exact h2 c hc
/-! ### values that fit -/
def Fit (j : Addr) (H : Hp) (L n W : Nat) (v : V) : Prop := ∃ d, Rep j H v d ∧ Fine L n d ∧ wt d ≤ W
def Fits (j : Addr) (H : Hp) (L n W : Nat) (vs : List V) : Prop := ∀ v, v ∈ vs → Fit j H L n W v
theorem Fit.keep {j : Addr} {H H' : Hp} {L n W : Nat} {v : V} (f : Fit j H L n W v) (k : Keep j H H') : Fit j H' L n W v := by
  obtain ⟨d, r, h⟩ := f
  exact ⟨d, Rep.keep k _ _ r, h⟩
theorem Fits.keep {j : Addr} {H H' : Hp} {L n W : Nat} {vs : List V} (f : Fits j H L n W vs) (k : Keep j H H') : Fits j H' L n W vs := fun v h => (f v h).keep k
theorem Fits.nil {j : Addr} {H : Hp} {L n W : Nat} : Fits j H L n W [] := fun _ h => by cases h
theorem Fits.cons {j : Addr} {H : Hp} {L n W : Nat} {v : V} {vs : List V} (a : Fit j H L n W v) (b : Fits j H L n W vs) : Fits j H L n W (v :: vs) := fun u h => by
  rcases List.mem_cons.mp h with e | e
  · rw [e]; exact a
  · exact b u e
theorem Fits.cat {j : Addr} {H : Hp} {L n W : Nat} {vs us : List V} (a : Fits j H L n W vs) (b : Fits j H L n W us) : Fits j H L n W (vs ++ us) := fun u h => (List.mem_append.mp h).elim (a u) (b u)
theorem Fit.tup {j p : Addr} {H : Hp} {L n W : Nat} {xs : List V} {es : List PyData} (n1 : p ≠ j) (e : H p = some (.tup xs)) (r : Reps j H xs es) (hl : es.length ≤ L) (hf : ∀ d, d ∈ es → Fine L n d) (hw : wts es + 10 ≤ W) : Fit j H L (n + 1) W (.ref p) :=
  ⟨_, .tup n1 e r, .tup hl hf, by simp only [wt]; exact hw⟩
theorem Fit.str {j : Addr} {H : Hp} {L n W : Nat} {x : Str} (l : Low x) (hw : 12 * x.length + 10 ≤ W) : Fit j H L n W (.str x) := ⟨_, .str x, .str l, by simp only [wt]; exact hw⟩
theorem wts_take_le (n : Nat) (a : List PyData) : wts (a.take n) ≤ wts a := by have := wts_take_drop n a; omega
theorem wts_drop_le (n : Nat) (a : List PyData) : wts (a.drop n) ≤ wts a := by have := wts_take_drop n a; omega
theorem Reps.cut {j : Addr} {H : Hp} {xs : List V} {ds : List PyData} (r : Reps j H xs ds) (lo hi : Option Int) : ∃ es, Reps j H (cutV xs lo hi) es ∧ (∀ d, d ∈ es → d ∈ ds) ∧ wts es ≤ wts ds ∧ es.length ≤ ds.length := by
  refine ⟨_, (r.drop (HT.sIx xs.length 0 lo)).take (HT.sIx xs.length xs.length hi - HT.sIx xs.length 0 lo), fun d h => List.mem_of_mem_drop (List.mem_of_mem_take h), Nat.le_trans (wts_take_le _ _) (wts_drop_le _ _), ?_⟩
  rw [List.length_take, List.length_drop]
  omega
theorem cut_one {xs : List V} {t : Nat} : (cutV xs (some (t : Nat)) (some ((t : Int) + 1))).length ≤ 1 := by
  have e : HT.sIx xs.length xs.length (some ((t : Int) + 1)) = min (t + 1) xs.length := HT.sIx_nat _ _ (t + 1)
  unfold cutV
  rw [e, HT.sIx_nat, List.length_take]
  omega
theorem wts_split {ds : List PyData} {t : Nat} {d : PyData} (h : ds[t]? = some d) : wts (ds.take t) + wt d + wts (ds.drop (t + 1)) = wts ds := by
  have e1 := wts_take_drop t ds
  have lt : t < ds.length := by
    rcases Nat.lt_or_ge t ds.length with h1 | h1
    · exact h1
    · rw [List.getElem?_eq_none h1] at h; cases h
  have e2 : ds.drop t = d :: ds.drop (t + 1) := by
    rw [List.drop_eq_getElem_cons lt]
    rw [List.getElem?_eq_getElem lt] at h
    injection h with h
    rw [h]
  rw [e2] at e1
  simp only [wts] at e1
  omega
theorem not_in {j a b : Addr} (h1 : a ≠ j) (h2 : b ≠ j) : j ∉ [a, b] := by simp [Ne.symm h1, Ne.symm h2]
theorem not_in1 {j a : Addr} (h1 : a ≠ j) : j ∉ [a] := by simp [Ne.symm h1]
/-- a heap on the way: the jar, and all else that stood -/
structure Good (j : Addr) (H0 H : Hp) (C : Nat) : Prop where
  jar : Jar j H C
  keep : Keep j H0 H
theorem Good.same {j : Addr} {H0 H H' : Hp} {C : Nat} (g : Good j H0 H C) (s : Same H H') : Good j H0 H' C := ⟨g.jar.keep s, g.keep.trans (Keep.of_same s)⟩
theorem Good.on {j : Addr} {H0 H H' : Hp} {C C' : Nat} (g : Good j H0 H C) (k : Keep j H H') (jr : Jar j H' C') : Good j H0 H' C' := ⟨jr, g.keep.trans k⟩
theorem Good.new {j : Addr} {H0 H : Hp} {C : Nat} (g : Good j H0 H C) {p : Addr} (hp : H p = none) (o : HO) : Good j H0 (upd H p o) C := g.same (same_new hp o)
theorem Good.got {j p : Addr} {H0 H : Hp} {C : Nat} (g : Good j H0 H C) {as : List Addr} (n : ∀ j, H j ≠ none → j ∉ as → p ≠ j) (h : j ∉ as) : p ≠ j := n j g.jar.some h
def spPut (n : Nat) : Sp := fun vs H Q _ => ∃ (j : Addr) (C k L m : Nat) (v : V) (d : PyData), vs = [.ref j, v, .int (k : Nat)] ∧ k < n ∧ Jar j H C ∧ C + k + 10 ≤ 999990000 ∧ 3 ≤ L ∧ L ≤ 8 ∧ Rep j H v d ∧ Fine L m d ∧ wt d ≤ 1000000 ∧
  Drawn j H (C + k + 5) (L + 1) (m + 2) (2 * wt d + 2000) Q
theorem scPut : FnScope ["jar", "item", "deep", "at", "way", "signs", "sign", "words", "some"] ["jar", "item", "deep"] (defScope sPut) := ⟨rfl, rfl, rfl, by decide +kernel, rfl, by decide +kernel, by decide +kernel⟩
section
variable {P : Program} {w : World} {K : PySem.W.Frag} {mg : Str → Option Value} {base : Heap} {f g e o : Addr} {fd gd ed od : FuncData}
theorem put_left : FnOk P w K mg base CX0 2 f fd ["jar", "item", "deep"] (spPut 0) := by
  have no : ∀ vs H Q E, ¬ spPut 0 vs H Q E := fun vs H Q E h => by
    obtain ⟨j, C, k, L, m, v, d, _, h, _⟩ := h
    omega
  exact ⟨fun vs H Q E h => absurd h (no vs H Q E), fun A outer s H args us vs Q E _ _ _ _ h => absurd h (no vs H Q E)⟩
theorem ok_put {n : Nat} (F : Fun K "_law_put_otherwise" "_law_put_otherwise" sPut f fd) (GP : FnOk P w K mg base CX0 (n + 2) f fd ["jar", "item", "deep"] (spPut n)) (bF : Binds K fd ["jar", "item", "deep"] []) (mF : mg "_law_put_otherwise" = some (.ref f))
    (G : FnOk P w K mg base CX0 1 g gd ["jar", "many"] spDip) (bG : Binds K gd ["jar", "many"] []) (kG : PySem.W.keepIn K (.ref g) = true) (mG : mg "_law_dip" = some (.ref g))
    (GA : FnOk P w K mg base CX0 1 e ed [] spAll) (bA : Binds K ed [] []) (kA : PySem.W.keepIn K (.ref e) = true) (mA : mg "_law_all_signs" = some (.ref e))
    (GO : FnOk P w K mg base CX0 2 o od ["jar"] spOdd) (bO : Binds K od ["jar"] []) (kO : PySem.W.keepIn K (.ref o) = true) (mO : mg "_law_odd" = some (.ref o))
    (mi : mg "isinstance" = none) (mt : mg "tuple" = none) (ms : mg "str" = none) (ml : mg "len" = none) (mll : mg "list" = none) :
    FnOk P w K mg base CX0 (n + 3) f fd ["jar", "item", "deep"] (spPut (n + 1)) := by
  refine F.ok scPut (fun vs H Q E h => ?_) (fun cdv A outer s H vs Q E hr h => ?_)
  · obtain ⟨j, C, k, L, m, v, d, rfl, _⟩ := h
    rfl
  obtain ⟨j, C, k, L, m, v, d, rfl, hk, hj, hC, hL, hL8, rd, fd', wd, q⟩ := h
  have G' := G.mono (show 1 ≤ n + 2 by omega)
  have GA' := GA.mono (show 1 ≤ n + 2 by omega)
  have GO' := GO.mono (show 2 ≤ n + 2 by omega)
  refine ⟨_, pss_cons (ps_if (PW.pt (pw_and (pt_val (pe_callB call_isi rfl mi (by decide +kernel) (pa_cons (pv 1) (pa_cons (pe_bltn rfl mt (by decide +kernel) (show RelV (.ty "tuple") (.type "tuple") from rfl)) pa_nil))))
        (pw_and (pt_cmpR op_gt (pe_callB call_len_seq rfl ml PySem.boot_len (pa_cons (pv 1) pa_nil)) pe_int (nomark _)) (pw_and1 (pt_cmpR op_gt (pv 2) pe_int (nomark _))))))
      (pss_cons (ps_set (i := 3) scPut.nd rfl (.inl rfl) (pe_op op_add pe_int (pe_call G' hr rfl mG kG bG .nil pass0 (pa_cons (pv 0) (pa_cons (pe_op op_sub (pe_callB call_len_seq rfl ml PySem.boot_len (pa_cons (pv 1) pa_nil)) pe_int) pa_nil)))))
      (pss_one (ps_ret (pe_op op_catG (pe_op op_catG (pe_slice sl_got (pv 1) po_none (po_some (pv 3))) (pe_tup (pa_cons (pe_call GP hr rfl mF F.kp bF .nil pass0 (pa_cons (pv 0) (pa_cons (pe_ix ix_tup (pv 1) (pv 3) (fun _ _ => rfl)) (pa_cons (pe_op op_sub (pv 2) pe_int) pa_nil)))) pa_nil))) (pe_slice sl_got (pv 1) (po_some (pe_op op_add (pv 3) pe_int)) po_none))))) pss_nil)
    (pss_cons (ps_set (i := 4) scPut.nd rfl (.inl rfl) (pe_call G' hr rfl mG kG bG .nil pass0 (pa_cons (pv 0) (pa_cons pe_int pa_nil))))
    (pss_cons (ps_if (PW.pt (pw_and (pt_val (pe_callB call_isi rfl mi (by decide +kernel) (pa_cons (pv 1) (pa_cons (pe_bltn rfl ms (by decide +kernel) (show RelV (.ty "str") (.type "str") from rfl)) pa_nil)))) (pw_and1 (pt_cmpR op_lt (pv 4) pe_int (nomark _)))))
      (pss_cons (ps_set (i := 5) scPut.nd rfl (.inl rfl) (pe_call0 GA' hr rfl mA kA bA .nil pass0))
      (pss_cons (ps_set (i := 6) scPut.nd rfl (.inl rfl) (pe_ix ix_str (pv 5) (pe_call G' hr rfl mG kG bG .nil pass0 (pa_cons (pv 0) (pa_cons pe_int pa_nil))) (fun _ _ => rfl)))
      (pss_one (ps_ret (pe_ix ix_list (pe_lst (pa_cons (pe_op op_add_str (pv 1) (pv 6)) (pa_cons (pe_op op_add_str (pv 6) (pv 1)) (pa_cons (pe_revS (pv 1)) (pa_cons (pe_op op_add_str (pv 1) (pe_slice sl_str (pv 1) (po_some (pe_un un_neg pe_int)) po_none)) (pa_cons (pe_slice sl_str (pv 1) (po_some pe_int) po_none) (pa_cons (pe_upper (pv 1)) pa_nil))))))) (pv 4) (fun _ _ => rfl)))))) pss_nil)
    (pss_cons (ps_if (PW.pt (pw_and (pt_val (pe_callB call_isi rfl mi (by decide +kernel) (pa_cons (pv 1) (pa_cons (pe_bltn rfl mt (by decide +kernel) (show RelV (.ty "tuple") (.type "tuple") from rfl)) pa_nil)))) (pw_and1 (pt_cmpR (op_neT0 hr.units0) (pv 1) (pe_tup pa_nil) (nomark _)))))
      (pss_cons (ps_set (i := 3) scPut.nd rfl (.inl rfl) (pe_call G' hr rfl mG kG bG .nil pass0 (pa_cons (pv 0) (pa_cons (pe_op op_add (pe_callB call_len_seq rfl ml PySem.boot_len (pa_cons (pv 1) pa_nil)) pe_int) pa_nil))))
      (pss_cons (ps_set (i := 7) scPut.nd rfl (.inl rfl) (pe_lst (pa_cons pe_str (pa_cons pe_str (pa_cons pe_str (pa_cons pe_str (pa_cons pe_str (pa_cons pe_str (pa_cons pe_str (pa_cons pe_str pa_nil))))))))))
      (pss_cons (ps_set (i := 8) scPut.nd rfl (.inl rfl) (pe_lst (pa_cons (pe_op op_catG (pe_slice sl_got (pv 1) po_none (po_some (pv 3))) (pe_slice sl_got (pv 1) (po_some (pe_op op_add (pv 3) pe_int)) po_none))
          (pa_cons (pe_op op_catG (pe_op op_catG (pe_slice sl_got (pv 1) po_none (po_some (pv 3))) (pe_slice sl_got (pv 1) (po_some (pv 3)) (po_some (pe_op op_add (pv 3) pe_int)))) (pe_slice sl_got (pv 1) (po_some (pv 3)) po_none))
          (pa_cons (pe_revT (pv 1)) (pa_cons (pe_callTy call_listN rfl mll (by decide +kernel) (pa_cons (pv 1) pa_nil)) pa_nil))))))
      (pss_cons (ps_set (i := 8) scPut.nd rfl (.inl rfl) (pe_op op_cat (pv 8) (pe_lst (pa_cons (pe_op op_catG (pe_tup (pa_cons (pe_ix ix_list (pv 7) (pe_call G' hr rfl mG kG bG .nil pass0 (pa_cons (pv 0) (pa_cons pe_int pa_nil))) (fun _ _ => rfl)) pa_nil)) (pe_slice sl_got (pv 1) (po_some pe_int) po_none))
          (pa_cons (pe_op op_catG (pv 1) (dt_tup (da_cons (dt_tup (da_cons dt_str da_nil)) da_nil))) (pa_cons (pe_slice sl_got (pv 1) po_none (po_some pe_int)) pa_nil))))))
      (pss_one (ps_ret (pe_ix ix_list (pe_op op_cat (pv 8) (pe_lst (pa_cons (pe_call GO' hr rfl mO kO bO .nil pass0 (pa_cons (pv 0) pa_nil)) pa_nil))) (pv 4) (fun _ _ => rfl)))))))) pss_nil)
    (pss_one (ps_ret (pe_call GO' hr rfl mO kO bO .nil pass0 (pa_cons (pv 0) pa_nil))))))), ?_⟩
  refine ⟨_, rfl, v, .ty "tuple", _, _, _, rfl, .ty _, rd.ty, kit_t K d, _, rfl, ?_⟩
  have aux : ∀ {R M : Prop}, (R → M) → R → M := fun f r => f r
  refine' aux (fun hR => ?main) ?rest
  case main =>
    cases ht : isT d with
    | false => exact iteF hR
    | true =>
      refine iteT ?_
      obtain ⟨a, xs, ds, rfl, rfl, haj, ha, rs⟩ := rd.isT_ex ht
      have hlen := rs.length
      refine ⟨_, rfl, a, _, rfl, .inr (SqT.of ha), _, _, rfl, rfl, _, rfl, ?_⟩
      refine ite2 (fun c => ?_) (fun c => hR)
      have c' : (1 : Int) < ((xs.length : Nat) : Int) := of_decide_eq_true c
      refine ⟨_, rfl, _, _, rfl, rfl, _, rfl, ?_⟩
      refine ite2 (fun c2 => ?_) (fun c2 => hR)
      have c2' : (0 : Int) < ((k : Nat) : Int) := of_decide_eq_true c2
      obtain ⟨k, rfl⟩ : ∃ k', k = k' + 1 := ⟨k - 1, by omega⟩
      have fd2 := fd'
      cases fd2 with
      | @tup m _ hdl hfs =>
      refine ⟨_, rfl, _, rfl, a, _, rfl, .inr (SqT.of ha), _, _, rfl, rfl, j, C, _, rfl, hj, by omega, (by show (0 : Int) < ((xs.length : Nat) : Int) - 1; omega), (by show ((xs.length : Nat) : Int) - 1 < 1000000; omega), fun r H1 r0 r1 hj1 kp1 => ?_⟩
      obtain ⟨t, rfl⟩ : ∃ t : Nat, r = (t : Int) := ⟨r.toNat, by omega⟩
      refine ⟨_, _, rfl, rfl, ?_⟩
      dsimp only
      rw [show (1 : Int) + (t : Int) = ((t + 1 : Nat) : Int) by omega]
      have ha1 := kp1 _ _ haj ha
      refine ⟨_, rfl, _, rfl, _, rfl, a, xs, rfl, ha1, fun p1 H2 s2 e2 n2 => ?_⟩
      have hj2 := hj1.keep s2
      have p1j := n2 j hj1.some (not_in1 haj)
      have ha2 := s2 _ _ ha1
      have k2 : Keep j H H2 := kp1.trans (Keep.of_same s2)
      obtain ⟨z, z1, z2⟩ := at_of (l := xs) (i := ((t + 1 : Nat) : Int)) (by omega) (by omega)
      rw [Int.toNat_natCast] at z2
      obtain ⟨dz, dz1, dz2⟩ := rs.get z2
      have hdz := List.mem_of_getElem? dz1
      have wsp : wts (ds.take (t + 1)) + wt dz + wts (ds.drop (t + 2)) = wts ds := wts_split dz1
      have hwt : wt (.tuple ds) = wts ds + 10 := by simp only [wt]
      have hdeep : ((k + 1 : Nat) : Int) - 1 = (k : Nat) := by omega
      refine ⟨_, rfl, _, rfl, _, rfl, a, xs, _, z, rfl, rfl, SqT.of ha2, z1, _, rfl, _, _, rfl, rfl, j, C + 1, k, L, m, z, dz, ?_, by omega, hj2, by omega, hL, hL8, Rep.keep k2 _ _ dz2, hfs dz hdz, by have := wts_mem hdz; omega, fun v2 d2 H3 rd2 fd2 wd2 jd2 kd2 => ?_⟩
      · show [V.ref j, z, V.int (((k + 1 : Nat) : Int) - 1)] ++ [] = _
        rw [hdeep]; rfl
      refine ⟨(by show 1 ≤ sizeLine; decide), fun p3 hp3 => ?_⟩
      have s3 := same_new hp3 (.tup [v2])
      have p3j := jd2.ne hp3
      have hj3 := jd2.keep s3
      have cl : ∀ lo hi, (cutV xs lo hi).length ≤ xs.length := cutV_length xs
      refine ⟨p1, p3, _, _, rfl, rfl, s3 _ _ (kd2 _ _ p1j e2), upd_same, (by have := cl none (some ((t + 1 : Nat) : Int)); rw [sizeLine_eq, List.length_singleton]; omega), fun p4 H4 s4 e4 n4 => ?_⟩
      have p4j := n4 j hj3.some (not_in p1j p3j)
      have hj4 := hj3.keep s4
      have k4 : Keep j H H4 := k2.trans (kd2.trans ((Keep.of_same s3).trans (Keep.of_same s4)))
      have ha4 := k4 _ _ haj ha
      refine ⟨_, rfl, _, rfl, _, _, rfl, rfl, _, rfl, a, xs, rfl, ha4, fun p5 H5 s5 e5 n5 => ?_⟩
      have p5j := n5 j hj4.some (not_in1 haj)
      have hj5 := hj4.keep s5
      refine ⟨p4, p5, _, _, rfl, rfl, s5 _ _ e4, e5, ?_, fun p6 H6 s6 e6 n6 => ?_⟩
      · have h1 := cl none (some ((t + 1 : Nat) : Int))
        have h2 := cl (some (((t + 1 : Nat) : Int) + 1)) none
        rw [sizeLine_eq, List.length_append, List.length_singleton]; omega
      have p6j := n6 j hj5.some (not_in p4j p5j)
      have k6 : Keep j H H6 := k4.trans ((Keep.of_same s5).trans (Keep.of_same s6))
      have rs6 := Reps.keep k6 _ _ rs
      have rd6 : Rep j H6 v2 d2 := ((((rd2.all_keep s3).all_keep s4).all_keep s5).all_keep s6)
      have ec1 : cutV xs none (some ((t + 1 : Nat) : Int)) = xs.take (t + 1) := cut_to
      have ec2 : cutV xs (some (((t + 1 : Nat) : Int) + 1)) none = xs.drop (t + 2) := cut_from (b := t + 2)
      rw [ec1, ec2] at e6
      have R6 : Reps j H6 (xs.take (t + 1) ++ [v2] ++ xs.drop (t + 2)) (ds.take (t + 1) ++ [d2] ++ ds.drop (t + 2)) := Reps.append (Reps.append (rs6.take _) (.cons rd6 .nil)) (rs6.drop _)
      refine q _ (.tuple (ds.take (t + 1) ++ [d2] ++ ds.drop (t + 2))) H6 (.tup p6j e6 R6) (.tup ?_ fun d hd => ?_) ?_ ((hj5.keep s6).mono (by omega)) k6
      · rw [List.length_append, List.length_append, List.length_take, List.length_drop, List.length_singleton]
        omega
      · rcases List.mem_append.mp hd with h | h
        · rcases List.mem_append.mp h with h | h
          · exact (hfs d (List.mem_of_mem_take h)).mono (by omega) (by omega)
          · rw [List.mem_singleton.mp h]
            exact fd2
        · exact (hfs d (List.mem_of_mem_drop h)).mono (by omega) (by omega)
      · simp only [wt]
        rw [wts_append, wts_append]
        simp only [wts]
        omega
  case rest =>
    refine iteF ?_
    refine ⟨_, rfl, j, C, 8, rfl, hj, by omega, by decide, by decide, fun way H1 w0 w8 hj1 kp1 => ?_⟩
    have rd1 := Rep.keep kp1 _ _ rd
    refine ⟨_, rfl, v, .ty "str", _, _, _, rfl, .ty _, rd1.ty, kit_s K d, _, rfl, ?_⟩
    refine' aux (fun hR => ?text) ?tuple
    case text =>
      cases hs : isS d with
      | false => exact iteF hR
      | true =>
        refine iteT ?_
        obtain ⟨x, rfl, rfl⟩ := rd1.isS_ex hs
        refine ⟨_, rfl, _, _, rfl, rfl, _, rfl, ?_⟩
        refine ite2 (fun c => ?_) (fun c => hR)
        have c' : way < 6 := of_decide_eq_true c
        have hx : Low x := by
          cases fd' with
          | str h => exact h
        have hwt : wt (.str x) = 12 * x.length + 10 := by simp only [wt]
        have hlen : x.length ≤ 100000 := by omega
        have hxl : x.length ≤ sizeLine := by rw [sizeLine_eq]; omega
        refine ⟨rfl, _, rfl, _, rfl, j, C + 1, 95, rfl, hj1, by omega, by decide, by decide, fun r H2 r0 r1 hj2 kp2 => ?_⟩
        obtain ⟨c0, c1, c2⟩ := at_of (l := signs) r0 (by rw [signs_len]; exact r1)
        have hc0 := signs_low c0 (List.mem_of_getElem? c2)
        have hy : Low ⟨#[c0]⟩ := fun d hd => by
          rw [List.mem_singleton.mp (show d ∈ [c0] from hd)]
          exact hc0
        have hyl : (⟨#[c0]⟩ : Str).length = 1 := rfl
        have cl1 := cutS_length x (some (-1)) none
        have cl2 := cutS_length x (some 1) none
        obtain ⟨ul, ulow⟩ := up_ok hx
        refine ⟨allS, r, c0, rfl, rfl, (by decide), c1, ?_⟩
        refine ⟨_, rfl, _, rfl, x, ⟨#[c0]⟩, rfl, rfl, (by rw [hyl, sizeLine_eq]; omega), _, rfl, _, rfl, ⟨#[c0]⟩, x, rfl, rfl, (by rw [hyl, sizeLine_eq]; omega), _, rfl, x, rfl, hxl, _, rfl, _, rfl, _, rfl, _, rfl, x, rfl, hxl, x, _, rfl, rfl, (by rw [sizeLine_eq]; show x.length + (cutS x (some (-1)) none).length ≤ _; omega), _, rfl, _, rfl, x, rfl, hxl, _, rfl, ⟨_, rfl⟩, x, rfl, rfl, (by omega), (by show 6 ≤ sizeLine; decide), fun p hp => ?_⟩
        have all6 : ∀ u, u ∈ ([.str (x ++ ⟨#[c0]⟩), .str (⟨#[c0]⟩ ++ x), .str (revS x), .str (x ++ cutS x (some (-1)) none), .str (cutS x (some 1) none), .str (Txt.upper x)] : List V) → ∃ y : Str, u = .str y ∧ Low y ∧ y.length ≤ 2 * x.length + 1 := by
          intro u hu
          simp only [List.mem_cons, List.not_mem_nil, or_false] at hu
          rcases hu with rfl | rfl | rfl | rfl | rfl | rfl
          · exact ⟨_, rfl, hx.cat hy, by rw [strLen_append, hyl]; omega⟩
          · exact ⟨_, rfl, hy.cat hx, by rw [strLen_append, hyl]; omega⟩
          · exact ⟨_, rfl, hx.rev, by rw [rev_len]; omega⟩
          · exact ⟨_, rfl, hx.cat (hx.cut _ _), by rw [strLen_append]; omega⟩
          · exact ⟨_, rfl, hx.cut _ _, by omega⟩
          · exact ⟨_, rfl, ulow, by omega⟩
        obtain ⟨u, u1, u2⟩ := at_of (l := ([.str (x ++ ⟨#[c0]⟩), .str (⟨#[c0]⟩ ++ x), .str (revS x), .str (x ++ cutS x (some (-1)) none), .str (cutS x (some 1) none), .str (Txt.upper x)] : List V)) w0 c'
        obtain ⟨y, rfl, y1, y2⟩ := all6 u (List.mem_of_getElem? u2)
        refine ⟨_, rfl, p, _, _, _, rfl, rfl, SqL.of upd_same, u1, ?_⟩
        exact q _ (.str y) _ (.str y) (.str y1) (by simp only [wt]; omega) ((hj2.keep (same_new hp _)).mono (by omega)) (kp1.trans (kp2.trans (Keep.of_same (same_new hp _))))
    case tuple =>
      refine iteF ?_
      have dodd : ∀ (H' : Hp) (C' : Nat), C' ≤ C + 4 → Good j H H' C' → Drawn j H' (C' + 1) 3 2 300 Q := fun H' C' hC' g v' d' H2 r f w jd kd =>
        q v' d' H2 r (f.mono (by omega) (by omega)) (by have := wt_ten d; omega) (jd.mono (by omega)) (g.keep.trans kd)
      have g1 : Good j H H1 (C + 1) := ⟨hj1, kp1⟩
      refine ⟨_, rfl, v, .ty "tuple", _, _, _, rfl, .ty _, rd1.ty, kit_t K d, _, rfl, ?_⟩
      cases ht : isT d with
      | false =>
        refine iteF ?_
        exact ⟨_, rfl, j, C + 1, rfl, hj1, by omega, dodd _ _ (by omega) g1⟩
      | true =>
        refine iteT ?_
        obtain ⟨a, xs, ds, rfl, rfl, haj, ha, rs⟩ := rd.isT_ex ht
        clear rd1
        have hlen := rs.length
        cases fd' with
        | @tup m _ hdl hfs =>
        have ja := not_in1 haj
        have at_ : ∀ {H' : Hp} {C' : Nat}, Good j H H' C' → H' a = some (.tup xs) := fun g => g.keep _ _ haj ha
        have rp_ : ∀ {H' : Hp} {C' : Nat}, Good j H H' C' → Reps j H' xs ds := fun g => Reps.keep g.keep _ _ rs
        have hwt : wt (.tuple ds) = wts ds + 10 := by simp only [wt]
        have cl : ∀ lo hi, (cutV xs lo hi).length ≤ xs.length := cutV_length xs
        refine ⟨_, rfl, (by show 0 ≤ sizeLine; decide), fun p0 hp0 => ?_⟩
        have g2 := g1.new hp0 (.tup [])
        refine ⟨a, p0, xs, rfl, rfl, SqT.of (at_ g2), SqT.of upd_same, _, rfl, ?_⟩
        refine ite2 (fun c => ?_) (fun c => ?_)
        rotate_left
        · exact ⟨_, rfl, j, C + 1, rfl, g2.jar, by omega, dodd _ _ (by omega) g2⟩
        refine ⟨_, rfl, _, rfl, a, _, rfl, .inr (SqT.of (at_ g2)), _, _, rfl, rfl, j, C + 1, _, rfl, g2.jar, by omega, (by show (0 : Int) < ((xs.length : Nat) : Int) + 1; omega), (by show ((xs.length : Nat) : Int) + 1 < 1000000; omega), fun r H3 r0 r1 hj3 kp3 => ?_⟩
        obtain ⟨t, rfl⟩ : ∃ t : Nat, r = (t : Int) := ⟨r.toNat, by omega⟩
        have htl : t ≤ xs.length := by
          have : (t : Int) < ((xs.length : Nat) : Int) + 1 := r1
          omega
        have g3 := g2.on kp3 hj3
        refine ⟨(by show 8 ≤ sizeLine; decide), fun pw hpw => ?_⟩
        have g4 := g3.new hpw (.lst [.str "signs", .str "empty", .str "then", .str "or", .str "again", .str "more", .str "maybe", .str "none"])
        have pwj := hj3.ne hpw
        have ec1 : cutV xs none (some (t : Int)) = xs.take t := cut_to
        have ec2 : cutV xs (some ((t : Int) + 1)) none = xs.drop (t + 1) := cut_from (b := t + 1)
        have ec3 : cutV xs (some (t : Int)) none = xs.drop t := cut_from
        have ec4 := cut_one (xs := xs) (t := t)
        -- item[:at] + item[at + 1:]
        refine ⟨_, rfl, _, rfl, _, rfl, a, xs, rfl, at_ g4, fun p1 H5 s5 e5 n5 => ?_⟩
        have g5 := g4.same s5
        have p1j := g4.got n5 ja
        refine ⟨_, rfl, _, rfl, _, _, rfl, rfl, _, rfl, a, xs, rfl, at_ g5, fun p2 H6 s6 e6 n6 => ?_⟩
        have g6 := g5.same s6
        have p2j := g5.got n6 ja
        refine ⟨p1, p2, _, _, rfl, rfl, s6 _ _ e5, e6, (by have h1 := cl none (some (t : Int)); have h2 := cl (some ((t : Int) + 1)) none; rw [sizeLine_eq]; omega), fun p3 H7 s7 e7 n7 => ?_⟩
        have g7 := g6.same s7
        have p3j := g6.got n7 (not_in p1j p2j)
        -- item[:at] + item[at:at + 1] + item[at:]
        refine ⟨_, rfl, _, rfl, _, rfl, a, xs, rfl, at_ g7, fun p4 H8 s8 e8 n8 => ?_⟩
        have g8 := g7.same s8
        have p4j := g7.got n8 ja
        refine ⟨_, rfl, _, rfl, _, rfl, _, rfl, _, _, rfl, rfl, _, rfl, a, xs, rfl, at_ g8, fun p5 H9 s9 e9 n9 => ?_⟩
        have g9 := g8.same s9
        have p5j := g8.got n9 ja
        refine ⟨p4, p5, _, _, rfl, rfl, s9 _ _ e8, e9, (by have h1 := cl none (some (t : Int)); rw [sizeLine_eq]; omega), fun p6 H10 s10 e10 n10 => ?_⟩
        have g10 := g9.same s10
        have p6j := g9.got n10 (not_in p4j p5j)
        refine ⟨_, rfl, _, rfl, _, rfl, a, xs, rfl, at_ g10, fun p7 H11 s11 e11 n11 => ?_⟩
        have g11 := g10.same s11
        have p7j := g10.got n11 ja
        refine ⟨p6, p7, _, _, rfl, rfl, s11 _ _ e10, e11, (by have h1 := cl none (some (t : Int)); have h2 := cl (some (t : Int)) none; rw [sizeLine_eq, List.length_append]; omega), fun p8 H12 s12 e12 n12 => ?_⟩
        have g12 := g11.same s12
        have p8j := g11.got n12 (not_in p6j p7j)
        -- item[::-1], list(item)
        refine ⟨_, rfl, a, xs, rfl, at_ g12, fun p9 hp9 => ?_⟩
        have g13 := g12.new hp9 (.tup xs.reverse)
        have p9j := g12.jar.ne hp9
        refine ⟨_, rfl, a, xs, rfl, SqT.of (at_ g13), fun p10 hp10 hlt => ?_⟩
        have g14 := g13.new hp10 (.lst xs)
        have p10j := g13.jar.ne hp10
        refine ⟨(by show 4 ≤ sizeLine; decide), fun ps hps => ?_⟩
        have g15 := g14.new hps (.lst [.ref p3, .ref p8, .ref p9, .ref p10])
        have psj := g14.jar.ne hps
        have n13 := same_new hp9 (.tup xs.reverse)
        have n14 := same_new hp10 (.lst xs)
        have n15 := same_new hps (.lst [.ref p3, .ref p8, .ref p9, .ref p10])
        have T13 := n14.trans n15
        have T12 := n13.trans T13
        have T7 := s8.trans (s9.trans (s10.trans (s11.trans (s12.trans T12))))
        have T4 := s5.trans (s6.trans (s7.trans T7))
        have R := rp_ g15
        rw [ec1, ec2] at e7
        rw [ec1] at e10
        rw [ec1, ec3] at e12
        obtain ⟨es, re, me, we, le⟩ := R.cut (some (t : Int)) (some ((t : Int) + 1))
        have le1 : es.length ≤ 1 := by rw [← re.length]; exact ec4
        have hfs' : ∀ d, d ∈ ds → Fine (L + 1) (m + 2) d := fun d h => (hfs d h).mono (by omega) (by omega)
        have w1 := wts_take_le t ds
        have w2 := wts_drop_le (t + 1) ds
        have w3 := wts_take_drop t ds
        have F3 : Fit j _ (L + 1) (m + 2 + 1) (2 * wt (.tuple ds) + 2000) (.ref p3) := Fit.tup p3j (T7 _ _ e7) (Reps.append (R.take t) (R.drop (t + 1))) (by rw [List.length_append, List.length_take, List.length_drop]; omega)
          (fun d h => (List.mem_append.mp h).elim (fun h => hfs' d (List.mem_of_mem_take h)) (fun h => hfs' d (List.mem_of_mem_drop h))) (by rw [wts_append]; omega)
        have F8 : Fit j _ (L + 1) (m + 2 + 1) (2 * wt (.tuple ds) + 2000) (.ref p8) := Fit.tup p8j (T12 _ _ e12) (Reps.append (Reps.append (R.take t) re) (R.drop t)) (by rw [List.length_append, List.length_append, List.length_take, List.length_drop]; omega)
          (fun d h => (List.mem_append.mp h).elim (fun h => (List.mem_append.mp h).elim (fun h => hfs' d (List.mem_of_mem_take h)) (fun h => hfs' d (me d h))) (fun h => hfs' d (List.mem_of_mem_drop h))) (by rw [wts_append, wts_append]; omega)
        have F9 : Fit j _ (L + 1) (m + 2 + 1) (2 * wt (.tuple ds) + 2000) (.ref p9) := Fit.tup p9j (T13 _ _ upd_same) R.reverse (by rw [List.length_reverse]; omega) (fun d h => hfs' d (List.mem_reverse.mp h)) (by rw [wts_reverse]; omega)
        have F10 : Fit j _ (L + 1) (m + 2 + 1) (2 * wt (.tuple ds) + 2000) (.ref p10) := ⟨.list ds, .lst p10j hlt (n15 _ _ upd_same) R, .lst hfs', by simp only [wt]; omega⟩
        have FF : Fits j _ (L + 1) (m + 2 + 1) (2 * wt (.tuple ds) + 2000) [.ref p3, .ref p8, .ref p9, .ref p10] := Fits.cons F3 (Fits.cons F8 (Fits.cons F9 (Fits.cons F10 Fits.nil)))
        refine ⟨_, rfl, ?_⟩
        refine ⟨_, rfl, _, rfl, j, C + 2, 8, rfl, g15.jar, by omega, by decide, by decide, fun r8 H16 r80 r81 hj16 kp16 => ?_⟩
        have g16 := g15.on kp16 hj16
        obtain ⟨z, z1, z2⟩ := at_of (l := ([.str "signs", .str "empty", .str "then", .str "or", .str "again", .str "more", .str "maybe", .str "none"] : List V)) r80 r81
        have wlow : ∀ u, u ∈ (["signs", "empty", "then", "or", "again", "more", "maybe", "none"] : List Str) → u.length ≤ 5 ∧ ∀ c, c ∈ u.cps.toList → c < 128 := by decide +kernel
        obtain ⟨y, rfl, y5, ylow⟩ : ∃ y : Str, z = .str y ∧ y.length ≤ 5 ∧ Low y := by
          obtain ⟨y, hy, e⟩ := List.mem_map.mp (show z ∈ (["signs", "empty", "then", "or", "again", "more", "maybe", "none"] : List Str).map V.str from List.mem_of_getElem? z2)
          exact ⟨y, e.symm, wlow y hy⟩
        have ewords := kp16 _ _ pwj (T4 _ _ upd_same)
        refine ⟨pw, _, _, _, rfl, rfl, SqL.of ewords, z1, (by show 1 ≤ sizeLine; decide), fun p11 hp11 => ?_⟩
        have n17 := same_new hp11 (.tup [.str y])
        have g17 := g16.same n17
        have p11j := g16.jar.ne hp11
        refine ⟨_, rfl, _, rfl, a, xs, rfl, at_ g17, fun p12 H18 s18 e18 n18 => ?_⟩
        have g18 := g17.same s18
        have p12j := g17.got n18 ja
        refine ⟨p11, p12, _, _, rfl, rfl, s18 _ _ upd_same, e18, (by have h1 := cl (some 1) none; rw [sizeLine_eq, List.length_singleton]; omega), fun p13 H19 s19 e19 n19 => ?_⟩
        have g19 := g18.same s19
        have p13j := g18.got n19 (not_in p11j p12j)
        -- item + (('empty',),)
        refine ⟨_, rfl, fun v20 H20 s20 r20 => ?_⟩
        have g20 := g19.same s20
        have r20' := r20 j g19.jar.some
        cases r20' with
        | @tup b ys _ bj eb rb =>
        have hyl := rb.length
        refine ⟨a, b, xs, ys, rfl, rfl, at_ g20, eb, (by rw [hyl, sizeLine_eq]; show _ + 1 ≤ _; omega), fun p14 H21 s21 e21 n21 => ?_⟩
        have g21 := g20.same s21
        have p14j := g20.got n21 (not_in haj bj)
        -- item[:1]
        refine ⟨_, rfl, _, rfl, a, xs, rfl, at_ g21, fun p15 H22 s22 e22 n22 => ?_⟩
        have g22 := g21.same s22
        have p15j := g21.got n22 ja
        refine ⟨(by show 3 ≤ sizeLine; decide), fun pl hpl => ?_⟩
        have n23 := same_new hpl (.lst [.ref p13, .ref p14, .ref p15])
        have g23 := g22.same n23
        have T22 := n23
        have T21 := s22.trans T22
        have T20 := s21.trans T21
        have T19 := s20.trans T20
        have T16 := n17.trans (s18.trans (s19.trans T19))
        have k15 := kp16.trans (Keep.of_same T16)
        refine ⟨ps, pl, _, _, rfl, rfl, k15 _ _ psj upd_same, upd_same, (by show 4 + 3 ≤ sizeLine; decide), fun p16 hp16 => ?_⟩
        have n24 := same_new hp16 (.lst ([.ref p3, .ref p8, .ref p9, .ref p10] ++ [.ref p13, .ref p14, .ref p15]))
        have g24 := g23.same n24
        have p16j := g23.jar.ne hp16
        have R4 := rp_ g24
        obtain ⟨e13, r13, m13, w13, l13⟩ := R4.cut (some 1) none
        obtain ⟨e15, r15, m15, w15, l15⟩ := R4.cut none (some 1)
        have l13' : e13.length + 1 ≤ L + 1 := by omega
        have hE : Fine (L + 1) (m + 2) (tw [st "empty"]) := .tup (by show 1 ≤ L + 1; omega) fun d hd => by
          rw [List.mem_singleton.mp hd]
          exact .str (by decide)
        have G13 : Fit j _ (L + 1) (m + 2 + 1) (2 * wt (.tuple ds) + 2000) (.ref p13) := Fit.tup p13j ((T19.trans n24) _ _ e19) (.cons (.str y) r13) (by rw [List.length_cons]; omega)
          (fun d h => by
            rcases List.mem_cons.mp h with h | h
            · rw [h]; exact .str ylow
            · exact hfs' d (m13 d h)) (by simp only [wts, wt]; omega)
        have G14 : Fit j _ (L + 1) (m + 2 + 1) (2 * wt (.tuple ds) + 2000) (.ref p14) := Fit.tup p14j ((T21.trans n24) _ _ e21) (Reps.append R4 (rb.all_keep (T20.trans n24))) (by rw [List.length_append]; show _ + 1 ≤ _; omega)
          (fun d h => (List.mem_append.mp h).elim (hfs' d) (fun h => by rw [List.mem_singleton.mp h]; exact hE)) (by
            rw [wts_append, hwt]
            have : wts [tw [st "empty"]] = 80 := by decide
            show wts ds + wts [tw [st "empty"]] + 10 ≤ _
            omega)
        have G15 : Fit j _ (L + 1) (m + 2 + 1) (2 * wt (.tuple ds) + 2000) (.ref p15) := Fit.tup p15j ((T22.trans n24) _ _ e22) r15 (by omega) (fun d h => hfs' d (m15 d h)) (by omega)
        have F24 := Fits.cat (FF.keep (k15.trans (Keep.of_same n24))) (Fits.cons G13 (Fits.cons G14 (Fits.cons G15 Fits.nil)))
        -- the odd one
        refine ⟨_, rfl, _, rfl, j, C + 3, rfl, g24.jar, by omega, fun vo d25 H25 rd25 fd25 wd25 jd25 kd25 => ?_⟩
        have g25 := g24.on kd25 jd25
        refine ⟨(by show 1 ≤ sizeLine; decide), fun p26 hp26 => ?_⟩
        have n26 := same_new hp26 (.lst [vo])
        have g26 := g25.same n26
        refine ⟨p16, p26, _, _, rfl, rfl, n26 _ _ (kd25 _ _ p16j upd_same), upd_same, (by show 4 + 3 + 1 ≤ sizeLine; decide), fun p27 hp27 => ?_⟩
        have n27 := same_new hp27 (.lst (([.ref p3, .ref p8, .ref p9, .ref p10] ++ [.ref p13, .ref p14, .ref p15]) ++ [vo]))
        have g27 := g26.same n27
        have k27 := kd25.trans ((Keep.of_same n26).trans (Keep.of_same n27))
        have FO : Fit j _ (L + 1) (m + 2 + 1) (2 * wt (.tuple ds) + 2000) vo := ⟨d25, (rd25.all_keep n26).all_keep n27, fd25.mono (by omega) (by omega), by omega⟩
        have F27 := Fits.cat (F24.keep k27) (Fits.cons FO Fits.nil)
        obtain ⟨u, u1, u2⟩ := at_of (l := (([V.ref p3, .ref p8, .ref p9, .ref p10] ++ [V.ref p13, .ref p14, .ref p15]) ++ [vo] : List V)) w0 (show way < ((8 : Nat) : Int) from w8)
        obtain ⟨du, ru, fu, wu⟩ := F27 u (List.mem_of_getElem? u2)
        refine ⟨_, rfl, p27, _, _, _, rfl, rfl, SqL.of upd_same, u1, ?_⟩
        exact q u du _ ru fu wu (g27.jar.mono (by omega)) g27.keep
end
end Ty
/-! a law's def at its one entry: the caller's surroundings are known there (no repr is under way), so a body may ask for str of data -/
namespace Ty
open PySem PySem.Spec PyProof.Rows L2
/-- what a def does when it is entered from A -/
def Enters (A : Around) (P : Program) (w : World) (K : PySem.W.Frag) (mg : Str → Option Value) (base : Heap) (f : Addr) (fd : FuncData) (ps : List Str) (sp : Sp) : Prop :=
  ∀ (outer : List Env) (s : Shared) (H : Hp) (args : Args) (us : List Value) (vs : List V) (Q : VK), Env0 P w K mg base A outer s H → BindsTo s fd args (ps.zip us) → Vals vs us → vs.length = ps.length → sp vs H Q E0 →
    codeAny (model P w) A (.call (.ref f) args) (CR CX0 outer P w H s Q E0) s
theorem enters {A : Around} {P : Program} {w : World} {K : PySem.W.Frag} {mg : Str → Option Value} {base : Heap} {x qual : Str} {st : Stmt} {f : Addr} {fd : FuncData} {N ps : List Str} {k : Nat} {sp : Sp} (F : Fun K x qual st f fd) (S : FnScope N ps (defScope st)) (hr : Room (k + 1) A)
    (body : ∀ (cdv : Value) (outer : List Env) (s : Shared) (H : Hp) (vs : List V) (Q : VK), Room k (A.deeper (envOfC qual (defScope st) s.heap.objs.size f cdv)) → sp vs H Q E0 →
      ∃ t, PSs (cxOf CX0 P w K mg base N qual (defScope st) f cdv A outer s H E0).nox (defBody st) t ∧ t { nx := fun _ H' => Q .non H', rt := Q } (start N vs) H) : Enters A P w K mg base f fd ps sp := by
  obtain ⟨oc, od, kV, doc, pm, an, cdv, ct, osl, rfl, lk, hcd⟩ := F.ex
  intro outer s H args us vs Q e0 hb rv hl hsp
  have std : K.In s.heap := e0.mod.kin.keeps fun b o e => (e0.bs b o e).1
  have nl : s.heap.NoLimit := e0.mod.nolimit.keeps fun b o e => (e0.bs b o e).1
  have slots : ∀ y ∈ ps.zip us, (defScope st).names.lookup y.1 = some .local ∨ ((defScope st).names.lookup y.1 = some .cell ∧ ((cellsFrom (s.heap.objs.size + 1) (defScope st).names []).lookup y.1).isSome = true) := by
    rintro ⟨n, v⟩ hy
    cases S.par n (List.of_mem_zip hy).1 with
    | inl h => exact .inl h
    | inr h => exact .inr ⟨h, PySem.W.cellsFrom_some _ _ _ (.inl h)⟩
  apply codeAny_call_function hr.depth (std _ _ lk) rfl S.co S.gen rfl (PySem.W.codeRec_of std hcd)
  apply hb
  apply wpAny_newFunctionEnv_cells S.kind slots
  intro env he s1 fresh
  subst he
  refine ⟨nl.keeps fresh.toInCall.keep, codeAny_func ?_⟩
  obtain ⟨t, ht, ht2⟩ := body cdv outer s H vs Q (hr.deeper _) hsp
  have inv := inv_start (CX := CX0) (E := E0) S hr.hd e0 hl rv fresh
  refine wpAny_mono (ht.nox.run [] s1 (start N vs) H _ inv ht2) ?_ fun _ _ z => z
  intro fl s' out
  cases fl with
  | ret u =>
    obtain ⟨v, _, H', J, r1, r2⟩ := out
    exact ⟨v, H', J.os, J.bare, J.base, J.hok, r1, r2⟩
  | next =>
    obtain ⟨_, H', J, r2⟩ := out
    exact ⟨.non, H', J.os, J.bare, J.base, J.hok, rfl, r2⟩
  | brk => exact out.choose_spec.choose_spec.2.elim
  | cont => exact out.choose_spec.choose_spec.2.elim
/-- the script alone -/
def Lone (a : Addr) (o : Obj) (xs : List V) : Hp := fun b => if b = a then some (.frz o (.lst xs)) else none
def Bare : Hp := fun _ => none
theorem lone_at {a : Addr} {o : Obj} {xs : List V} : Lone a o xs a = some (.frz o (.lst xs)) := if_pos rfl
theorem lone_off {a b : Addr} {o : Obj} {xs : List V} (h : b ≠ a) : Lone a o xs b = none := if_neg h
section
variable {P : Program} {w : World} {K : PySem.W.Frag} {mg mb : Str → Option Value} {fa a : Addr} {fd : FuncData} {x : Str} {sp : Sp} {s : Shared} {vs : List Value} {ns : List Int}
/-- entered over an abstract heap that tracks the script at most -/
theorem entered {H : Hp} (KX : K.In s.heap) (hns : s.heap.Ns mainGlobals mg) (hb : s.heap.Ns builtinsNs mb) (hbb : ∀ x : Str, x ≠ "__name__" → mb x = bootBuiltins x) (hlim : s.heap.NoLimit) (hg : s.gens = #[])
    (ha : s.heap.get? a = some { cls := .type "list", data := .seq vs.toArray }) (F : ∀ base : Heap, K.In base → base.Ns mainGlobals mg → Enters callerA P w K mg base fa fd [x] sp) (bind : ∀ (s : Shared) (u : Value), BindsTo s fd ⟨[u], []⟩ [(x, u)])
    (hq : sp [.ref a] H (fun v _ => v = .bl true) E0) (hok : HOk P w H s.heap) (only : ∀ b, b ≠ a → H b = none) (free : H a ≠ none → K.lookup a = none) (frz : ∀ u, H a = some u → ∃ o xs, u = .frz o (.lst xs)) :
    codeAny (model P w) callerA (.call (.ref fa) ⟨[.ref a], []⟩) (fun r s' => r = .ok (.ret (.bool true)) ∧ OldK s.heap s'.heap ∧ s'.os = s.os ∧ AllBare s'.gens) s := by
  have plain : ∀ {b : Addr} {o : Obj} {es : Array DictEntry} {ep : Nat}, s.heap.get? b = some o → o.data = .dict es ep → H b = none := by
    intro b o es ep e d
    by_cases h : b = a
    · subst h
      rw [ha] at e
      cases e
      cases (show Data.seq vs.toArray _ = Data.dict es ep from d)
    · exact only b h
  have names : ∀ {b : Addr} {m : Str → Option Value}, s.heap.Ns b m → (hidT s.heap H).Ns b m := by
    rintro b m ⟨o, es, ep, e, d, r⟩
    exact ⟨o, es, ep, hidT_get e (plain e d), d, r⟩
  have kin : K.In (hidT s.heap H) := by
    intro b o e
    refine hidT_get (KX b o e) ?_
    by_cases h : b = a
    · subst h
      cases q : H b with
      | none => rfl
      | some u =>
        have := free (by rw [q]; simp)
        rw [this] at e
        cases e
    · exact only b h
  have modl : Mod K mg (hidT s.heap H) := by
    obtain ⟨mc, l1, l2⟩ := hlim
    exact ⟨kin, names hns, ⟨mb, names hb, hbb⟩, ⟨mc, names l1, l2⟩⟩
  have e0 : Env0 P w K mg (hidT s.heap H) callerA [] s H :=
    { frames := rfl, mod := modl, bs := fun b o e => of_hidT e, bsz := Nat.le_of_eq (hidT_size _ _), funs := trivial, frf := fun b h => absurd (show b ∈ ([] : List Addr) from h) List.not_mem_nil, hok := hok, bare := .of_eq hg }
  refine codeAny_mono (F _ kin (names hns) [] s H ⟨[.ref a], []⟩ [.ref a] [.ref a] _ e0 (bind s (.ref a)) (.cons rfl .nil) rfl hq) ?_
  intro r s' out
  match r, out with
  | .error _, out => exact out.elim
  | .ok .next, out => exact out.elim
  | .ok .brk, out => exact out.elim
  | .ok .cont, out => exact out.elim
  | .ok (.ret u), ⟨v, H', os, bare, un, hok', rv, hv⟩ =>
    have hv' : v = .bl true := hv
    subst hv'
    have hu : u = Value.bool true := rv
    refine ⟨by rw [hu], OldK.of_keep fun b o e => ?_, os, bare⟩
    cases q : H b with
    | none => exact un.keep b o e q (fun z => absurd (show b ∈ ([] : List Addr) from z) List.not_mem_nil) (by simp)
    | some u =>
      have hba : b = a := by
        by_cases h : b = a
        · exact h
        · rw [only b h] at q; cases q
      subst hba
      obtain ⟨ob, xs, rfl⟩ := frz u q
      have q2 := un.frzs b ob _ q
      obtain ⟨f1, _⟩ := hok b _ q
      obtain ⟨f2, _⟩ := hok' b _ q2
      rw [e] at f1
      cases f1
      exact f2
theorem law_enter (KX : K.In s.heap) (hns : s.heap.Ns mainGlobals mg) (hb : s.heap.Ns builtinsNs mb) (hbb : ∀ x : Str, x ≠ "__name__" → mb x = bootBuiltins x) (hlim : s.heap.NoLimit) (hg : s.gens = #[])
    (ha : s.heap.get? a = some { cls := .type "list", data := .seq vs.toArray }) (hi : IntsAre vs ns) (hl : ns.length ≤ sizeLine)
    (F : ∀ base : Heap, K.In base → base.Ns mainGlobals mg → Enters callerA P w K mg base fa fd [x] sp) (bind : ∀ (s : Shared) (u : Value), BindsTo s fd ⟨[u], []⟩ [(x, u)])
    (hq : ∀ H : Hp, SqL K H a (ns.map V.int) → sp [.ref a] H (fun v _ => v = .bl true) E0) :
    codeAny (model P w) callerA (.call (.ref fa) ⟨[.ref a], []⟩) (fun r s' => r = .ok (.ret (.bool true)) ∧ OldK s.heap s'.heap ∧ s'.os = s.os ∧ AllBare s'.gens) s := by
  have rv := vals_ints hi
  cases hk : K.lookup a with
  | some o =>
    have e := KX a o hk
    rw [ha] at e
    cases e
    refine entered (H := Bare) KX hns hb hbb hlim hg ha F bind (hq _ (.inr ⟨_, vs.toArray, _, hk, rfl, rfl, rfl, ?_, by simpa using rv⟩)) (fun b u e => nomatch e) (fun _ _ => rfl) (fun h => absurd rfl h) fun u e => nomatch e
    rw [List.size_toArray, hi.length]
    exact hl
  | none =>
    refine entered (H := Lone a { cls := .type "list", data := .seq vs.toArray } (ns.map V.int)) KX hns hb hbb hlim hg ha F bind (hq _ (.inl (.inr ⟨_, lone_at⟩))) (fun b u e => ?_) (fun b h => lone_off h) (fun _ => hk) fun u e => ?_
    · by_cases h : b = a
      · subst h
        rw [lone_at] at e
        cases e
        exact ⟨ha, by rw [List.length_map]; exact hl, vs, _, rv, ha⟩
      · rw [lone_off h] at e
        cases e
    · rw [lone_at] at e
      cases e
      exact ⟨_, _, rfl⟩
end
/-- the head of a law whose def is entered so -/
theorem walk_enter {l : PySem.W.OpenLaw} {n : Nat} {q : Program} {loose : List Str} {XP : (Str → Option Value) → Heap → Prop} {YP : World → Heap → Prop} {d : DefRec} {K : Params → PySem.W.Frag} {sp : World → Sp} {x : Str}
    (hn : l.most = some n) (hn2 : n ≤ sizeLine) (hdf : d.params.defaults = []) (hY : ∀ (w : World) (h : Heap), YP w h → (K w.params).In h)
    (F : ∀ (w : World) (mg : Str → Option Value) (fa : Addr) (h : Heap), (K w.params).In h → h.Ns mainGlobals mg → mg d.name = some (.ref fa) →
      ∃ fd : FuncData, (∀ (s : Shared) (u : Value), BindsTo s fd ⟨[u], []⟩ [(x, u)]) ∧ ∀ base : Heap, (K w.params).In base → base.Ns mainGlobals mg → Enters callerA l.prog w (K w.params) mg base fa fd [x] (sp w))
    (hsp : ∀ (w : World) (H : Hp) (a : Addr) (ns : List Int), ns.length ≤ n → SqL (K w.params) H a (ns.map V.int) → sp w [.ref a] H (fun v _ => v = .bl true) E0) :
    PySem.W.WalkO q loose XP YP l.row.toRowW d [] (fun f vs => PySem.call f vs) := by
  refine Att.attach_call hn hdf fun w s₀ s₁ mg mb fa o pm cd doc a vs ns G Y ho hd hcd hmg hobj hints hlen hg => ?_
  obtain ⟨fd, hb, hF⟩ := F w mg fa _ (hY w _ Y) G.T.g hmg
  exact law_enter (hY w _ Y) G.T.g G.T.b G.T.builtins G.T.nolimit hg hobj hints (Nat.le_trans hlen hn2) hF hb fun H hS => hsp w H a ns hlen hS
end Ty
namespace Ty
open PySem PySem.Spec PyProof.Rows L2
def rStrE : List V → Hp → VK → Prop := fun vs H Q => ∃ (j : Addr) (v : V) (d : PyData), vs = [v] ∧ Rep j H v d ∧ d.showable = true ∧ d.shown.length ≤ sizeLine ∧ d.depth ≤ 60 ∧ Q (.str (strD d)) H
theorem call_strE {X : Cx} (hg : X.A.guards = some []) (hu : X.A.units + 64 < cLine) : CallR X (.type "str") rStrE := by
  intro pins s σ H xs us Q I r h
  obtain ⟨j, v, d, e, h⟩ := h
  exact call_strD (j := j) hg hu pins s σ H xs us Q I r ⟨v, d, e, h⟩
theorem scLaw : FnScope ["script", "k", "jar", "mould", "lap", "before", "item"] ["script"] (defScope sLaw) := ⟨rfl, rfl, rfl, by decide +kernel, rfl, by decide +kernel, by decide +kernel⟩
def spLaw (K : PySem.W.Frag) : Sp := fun vs H Q _ => ∃ (a : Addr) (ns : List Int), vs = [.ref a] ∧ SqL K H a (ns.map V.int) ∧ ns.length ≤ 63 ∧ ∀ H', Q (.bl true) H'
theorem plain_two : ∀ x : Str, x ∈ (["ab", "a1 "] : List Str) → 1 ≤ x.length ∧ x.length ≤ 200 ∧ ∀ c, c ∈ x.cps.toList → c < 128 := by decide +kernel
theorem wm7 : wm 7 = 51000 := by decide
theorem wm_mono : ∀ {k l : Nat}, k ≤ l → wm k ≤ wm l
  | k, 0, h => by
    have : k = 0 := by omega
    rw [this]; exact Nat.le_refl _
  | k, l + 1, h => by
    by_cases e : k = l + 1
    · rw [e]; exact Nat.le_refl _
    · have := wm_mono (show k ≤ l by omega)
      have e2 : wm (l + 1) = 2 * wm l + 200 := rfl
      omega
theorem nd7 : nd 7 = 1530 := by decide
theorem nd_mono : ∀ {k l : Nat}, k ≤ l → nd k ≤ nd l
  | k, 0, h => by
    have : k = 0 := by omega
    rw [this]; exact Nat.le_refl _
  | k, l + 1, h => by
    by_cases e : k = l + 1
    · rw [e]; exact Nat.le_refl _
    · have := nd_mono (show k ≤ l by omega)
      have e2 : nd (l + 1) = 2 * nd l + 6 := rfl
      omega
section
variable {A : Around} {P : Program} {w : World} {K : PySem.W.Frag} {mg : Str → Option Value} {base : Heap} {f : Addr} {fd : FuncData} {a1 a2 a3 a4 a5 a6 a7 a8 a9 : Addr} {d1 d2 d3 d4 d5 d6 d7 d8 d9 : FuncData} {tS : Tok}
theorem ok_law (F : Fun K "law" "law" sLaw f fd) (hA : A.guards = some []) (hr0 : Room 20 A)
    (GJ : FnOk P w K mg base CX0 1 a1 d1 ["script", "k"] (spJar K)) (bJ : Binds K d1 ["script", "k"] []) (kJ : PySem.W.keepIn K (.ref a1) = true) (mJ : mg "_law_jar" = some (.ref a1))
    (GD : FnOk P w K mg base CX0 1 a2 d2 ["jar", "many"] spDip) (bD : Binds K d2 ["jar", "many"] []) (kD : PySem.W.keepIn K (.ref a2) = true) (mD : mg "_law_dip" = some (.ref a2))
    (GA : FnOk P w K mg base CX0 1 a3 d3 [] spAll) (bA : Binds K d3 [] []) (kA : PySem.W.keepIn K (.ref a3) = true) (mA : mg "_law_all_signs" = some (.ref a3))
    (GM : FnOk P w K mg base CX0 10 a4 d4 ["jar", "plain", "deep"] (spMould 8)) (bM : Binds K d4 ["jar", "plain", "deep"] []) (kM : PySem.W.keepIn K (.ref a4) = true) (mM : mg "_law_mould" = some (.ref a4))
    (GI : FnOk P w K mg base CX0 14 a5 d5 ["item", "most"] (spWithin true 13)) (bI : Binds K d5 ["item", "most"] []) (kI : PySem.W.keepIn K (.ref a5) = true) (mI : mg "_law_is_mould" = some (.ref a5))
    (GO : FnOk P w K mg base CX0 2 a6 d6 ["jar"] spOdd) (bO : Binds K d6 ["jar"] []) (kO : PySem.W.keepIn K (.ref a6) = true) (mO : mg "_law_odd" = some (.ref a6))
    (GP : FnOk P w K mg base CX0 8 a7 d7 ["jar", "item", "deep"] (spPut 6)) (bP : Binds K d7 ["jar", "item", "deep"] []) (kP : PySem.W.keepIn K (.ref a7) = true) (mP : mg "_law_put_otherwise" = some (.ref a7))
    (GS : FnOk P w K mg base CX0 1 a8 d8 ["found", "owed"] spSame) (bS : Binds K d8 ["found", "owed"] []) (kS : PySem.W.keepIn K (.ref a8) = true) (mS : mg "_law_same" = some (.ref a8))
    (GT : FnOk P w K mg base CX0 15 a9 d9 ["thing"] spPattern) (bT : Binds K d9 ["thing"] []) (kT : PySem.W.keepIn K (.ref a9) = true) (mT : mg "is_pattern" = some (.ref a9))
    (mSig : mg "SIGNS" = some (.str allS tS)) (mr : mg "range" = none) (mx : mg "max" = none) (mn : mg "min" = none) (ml : mg "len" = none) (ms : mg "str" = none) :
    Enters A P w K mg base f fd ["script"] (spLaw K) := by
  refine enters F scLaw hr0 fun cdv outer s H vs Q hr h => ?_
  obtain ⟨a, ns, rfl, hS, h63, q⟩ := h
  have hg : (A.deeper (envOfC "law" (defScope sLaw) s.heap.objs.size f cdv)).guards = some [] := hA
  have GJ' := GJ.mono (show 1 ≤ 19 by decide)
  have GD' := GD.mono (show 1 ≤ 19 by decide)
  have GA' := GA.mono (show 1 ≤ 19 by decide)
  have GM' := GM.mono (show 10 ≤ 19 by decide)
  have GI' := GI.mono (show 14 ≤ 19 by decide)
  have GO' := GO.mono (show 2 ≤ 19 by decide)
  have GP' := GP.mono (show 8 ≤ 19 by decide)
  have GS' := GS.mono (show 1 ≤ 19 by decide)
  have GT' := GT.mono (show 15 ≤ 19 by decide)
  refine ⟨_, pss_cons (ps_for PassesOwn.never rfl (pi_range1 rfl mr (pa_cons (pe_callB (call_max2 rfl) rfl mx (by decide +kernel) (pa_cons pe_int (pa_cons (pe_callB (call_min2 rfl) rfl mn (by decide +kernel) (pa_cons pe_int (pa_cons (pe_callB call_len_seq rfl ml PySem.boot_len (pa_cons (pv 0) pa_nil)) pa_nil))) pa_nil))) pa_nil)) (pg_name (i := 1) scLaw.nd rfl (Or.inl rfl))
      (pss_cons (ps_set (i := 2) scLaw.nd rfl (.inl rfl) (pe_call GJ' hr rfl mJ kJ bJ .nil pass0 (pa_cons (pv 0) (pa_cons (pv 1) pa_nil))))
      (pss_cons (ps_set (i := 3) scLaw.nd rfl (.inl rfl) (pe_call GM' hr rfl mM kM bM .nil pass0 (pa_cons (pv 2) (pa_cons (pe_ix ix_list (pe_lst (pa_cons pe_str (pa_cons pe_str (pa_cons (pe_call0 GA' hr rfl mA kA bA .nil pass0) pa_nil)))) (pe_call GD' hr rfl mD kD bD .nil pass0 (pa_cons (pv 2) (pa_cons pe_int pa_nil))) (fun _ _ => rfl))
        (pa_cons (pe_op op_add pe_int (pe_call GD' hr rfl mD kD bD .nil pass0 (pa_cons (pv 2) (pa_cons pe_int pa_nil)))) pa_nil)))))
      (pss_cons (ps_if (pt_cmpR op_eq (pe_call GD' hr rfl mD kD bD .nil pass0 (pa_cons (pv 2) (pa_cons pe_int pa_nil))) pe_int (nomark _))
        (pss_one (ps_for PassesOwn.never rfl (pi_range1 rfl mr (pa_cons (pe_op op_add pe_int (pe_call GD' hr rfl mD kD bD .nil pass0 (pa_cons (pv 2) (pa_cons pe_int pa_nil)))) pa_nil)) (pg_name (i := 4) scLaw.nd rfl (Or.inl rfl))
          (pss_one (ps_set (i := 3) scLaw.nd rfl (.inl rfl) (pe_ix ix_list (pe_lst (pa_cons (pe_tup (pa_cons pe_str (pa_cons (pv 3) pa_nil))) (pa_cons (pe_tup (pa_cons pe_str (pa_cons (dt_tup (da_cons dt_str da_nil)) (pa_cons (pv 3) pa_nil)))) (pa_cons (pe_tup (pa_cons pe_str (pa_cons (pv 3) (pa_cons (dt_tup (da_cons dt_str da_nil)) pa_nil)))) pa_nil)))) (pe_call GD' hr rfl mD kD bD .nil pass0 (pa_cons (pv 2) (pa_cons pe_int pa_nil))) (fun _ _ => rfl)))))) pss_nil)
      (pss_cons (ps_for PassesOwn.never rfl (pi_range1 rfl mr (pa_cons (pe_ix ix_list (pe_lst (pa_cons pe_int (pa_cons pe_int (pa_cons pe_int pa_nil)))) (pe_call GD' hr rfl mD kD bD .nil pass0 (pa_cons (pv 2) (pa_cons pe_int pa_nil))) (fun _ _ => rfl)) pa_nil)) (pg_name (i := 4) scLaw.nd rfl (Or.inl rfl))
          (pss_one (ps_set (i := 3) scLaw.nd rfl (.inl rfl) (pe_call GP' hr rfl mP kP bP .nil pass0 (pa_cons (pv 2) (pa_cons (pv 3) (pa_cons (pe_call GD' hr rfl mD kD bD .nil pass0 (pa_cons (pv 2) (pa_cons pe_int pa_nil))) pa_nil)))))))
      (pss_cons (ps_set (i := 5) scLaw.nd rfl (.inl rfl) (pe_callTy (call_strE hg hr.units) rfl ms (by decide +kernel) (pa_cons (pv 3) pa_nil)))
      (pss_cons (ps_for PassesOwn.never rfl (pi_list (pe_lst (pa_cons (pv 3) (pa_cons (pe_call GO' hr rfl mO kO bO .nil pass0 (pa_cons (pv 2) pa_nil)) pa_nil)))) (pg_name (i := 6) scLaw.nd rfl (Or.inl rfl))
          (pss_one (ps_if (pt_not (pt_val (pe_call GS' hr rfl mS kS bS .nil pass0 (pa_cons (pe_call GT' hr rfl mT kT bT .nil pass0 (pa_cons (pv 6) pa_nil)) (pa_cons (pe_call GI' hr rfl mI kI bI .nil pass0 (pa_cons (pv 6) (pa_cons pe_int pa_nil))) pa_nil))))) (pss_one (ps_ret pe_bl)) pss_nil)))
      (pss_one (ps_if (PW.pt (pw_or (pt_not (pt_val (pe_call GS' hr rfl mS kS bS .nil pass0 (pa_cons (pe_call GT' hr rfl mT kT bT .nil pass0 (pa_cons (pv 3) pa_nil)) (pa_cons (pe_call GI' hr rfl mI kI bI .nil pass0 (pa_cons (pv 3) (pa_cons pe_int pa_nil))) pa_nil)))))
          (pw_or1 (pt_cmpR op_ne (pe_callTy (call_strE hg hr.units) rfl ms (by decide +kernel) (pa_cons (pv 3) pa_nil)) (pv 5) (nomark _))))) (pss_one (ps_ret pe_bl)) pss_nil)))))))))
    (pss_one (ps_ret (pe_cmpR op_eq (pe_glob rfl mSig (show RelV (.str allS) (.str allS tS) from ⟨_, rfl⟩)) (pe_call0 GA' hr rfl mA kA bA .nil pass0) (nomark _)))), ?_⟩
  have hm : ∃ m : Int, m = (if (if ((((ns.map V.int).length : Nat) : Int)) < 30 then ((((ns.map V.int).length : Nat) : Int)) else 30) > 1 then (if ((((ns.map V.int).length : Nat) : Int)) < 30 then ((((ns.map V.int).length : Nat) : Int)) else 30) else 1) ∧ 0 ≤ m ∧ m ≤ 30 := by
    refine ⟨_, rfl, ?_, ?_⟩ <;> split <;> (try split) <;> omega
  obtain ⟨m, hm, m0, m30⟩ := hm
  refine ⟨_, rfl, a, _, rfl, .inl hS, _, _, rfl, _, _, rfl, m, congrArg (fun z => [V.int z]) hm.symm, by omega, by omega, ?_⟩
  refine for_range (lo := 0) (n := m.toNat) (fun i σ H' => (∃ x1 x2 x3 x4 x5 x6, σ = [some (.ref a), x1, x2, x3, x4, x5, x6]) ∧ SqL K H' a (ns.map V.int)) ⟨⟨_, _, _, _, _, _, rfl⟩, hS⟩ (fun i σ H0 hi p => ?turn) (fun σ H0 p => ?done)
  case done =>
    refine ⟨rfl, rfl, ?_⟩
    have e : decide (V.str allS = V.str allS) = true := decide_eq_true rfl
    rw [e]
    exact q _
  case turn =>
    obtain ⟨⟨x1, x2, x3, x4, x5, x6, rfl⟩, hS0⟩ := p
    obtain ⟨kk, hkk⟩ : ∃ kk : Int, kk = 0 + (i : Int) := ⟨_, rfl⟩
    rw [← hkk]
    refine ⟨_, rfl, _, rfl, a, ns, kk, rfl, hS0, by rw [sizeLine_eq]; omega, by omega, by omega, fun j H1 hjn s1 hj1 => ?_⟩
    have fin : ∀ H', Keep j H1 H' → SqL K H' a (ns.map V.int) := fun H' k =>
      (show Same H0 H' from fun b o e => k b o (ne_of_none e hjn) (s1 b o e)).seq hS0
    refine ⟨_, rfl, rfl, (by show 3 ≤ sizeLine; decide), fun p hp => ?_⟩
    have n1 := same_new hp (.lst [.str "ab", .str "a1 ", .str allS])
    have pj := hj1.ne hp
    refine ⟨_, rfl, j, 0, 3, rfl, hj1.keep n1, by decide, by decide, by decide, fun r H2 r0 r1 hj2 kp2 => ?_⟩
    obtain ⟨z, z1, z2⟩ := at_of (l := ([.str "ab", .str "a1 ", .str allS] : List V)) r0 r1
    obtain ⟨y, rfl, hy⟩ : ∃ y : Str, z = .str y ∧ Plain y := by
      have := List.mem_of_getElem? z2
      simp only [List.mem_cons, List.not_mem_nil, or_false] at this
      rcases this with rfl | rfl | rfl
      · have := plain_two "ab" (by simp)
        exact ⟨_, rfl, this.1, this.2.1, this.2.2⟩
      · have := plain_two "a1 " (by simp)
        exact ⟨_, rfl, this.1, this.2.1, this.2.2⟩
      · exact ⟨_, rfl, plain_all⟩
    refine ⟨p, _, _, _, rfl, rfl, SqL.of (kp2 _ _ pj upd_same), z1, _, rfl, j, 1, 7, rfl, hj2, by decide, by decide, by decide, fun r2 H3 r20 r21 hj3 kp3 => ?_⟩
    obtain ⟨t, rfl⟩ : ∃ t : Nat, r2 = (t : Int) := ⟨r2.toNat, by omega⟩
    have ht7 : t + 1 ≤ 7 := by omega
    have hnd := nd_mono ht7
    have hwm := wm_mono ht7
    rw [nd7] at hnd
    rw [wm7] at hwm
    refine ⟨_, _, rfl, rfl, j, 2, t + 1, y, ?_, by omega, hj3, by omega, hy, fun v d H4 rd fd' wd jd kd => ?_⟩
    · show [V.ref j, V.str y, V.int (1 + (t : Int))] ++ [] = _
      rw [show (1 : Int) + (t : Int) = ((t + 1 : Nat) : Int) by omega]
      rfl
    have k4 : Keep j H1 H4 := (Keep.of_same n1).trans (kp2.trans (kp3.trans kd))
    refine ⟨_, rfl, j, 2 + nd (t + 1), 5, rfl, jd, by omega, by decide, by decide, fun r5 H5 r50 r51 hj5 kp5 => ?_⟩
    refine ⟨rfl, _, rfl, ?_⟩
    have aux2 : ∀ {R : L2.St → Hp → Prop} {M : Prop}, ((∀ σ H', (∃ x4 x5 x6 v d, σ = [some (.ref a), some (.int kk), some (.ref j), some v, x4, x5, x6] ∧ Rep j H' v d ∧ Fine 3 20 d ∧ wt d ≤ 60000 ∧ Jar j H' 5000 ∧ Keep j H1 H') → R σ H') → M) →
      (∀ σ H', (∃ x4 x5 x6 v d, σ = [some (.ref a), some (.int kk), some (.ref j), some v, x4, x5, x6] ∧ Rep j H' v d ∧ Fine 3 20 d ∧ wt d ≤ 60000 ∧ Jar j H' 5000 ∧ Keep j H1 H') → R σ H') → M := fun f r => f r
    refine' aux2 (fun hR => ?laps) ?rest
    case laps =>
      refine ite2 (fun c => ?_) (fun c => ?_)
      · refine ⟨_, rfl, j, 3 + nd (t + 1), 5, rfl, hj5.mono (by omega), by omega, by decide, by decide, fun r6 H6 r60 r61 hj6 kp6 => ?_⟩
        refine ⟨_, _, rfl, rfl, _, rfl, by omega, by omega, ?_⟩
        refine for_range (lo := 0) (n := (8 + r6).toNat) (fun i σ H' => ∃ x4 x5 x6 v d, σ = [some (.ref a), some (.int kk), some (.ref j), some v, x4, x5, x6] ∧ Rep j H' v d ∧ Fine 3 (8 + i) d ∧ wt d ≤ 51000 + 200 * i ∧ Jar j H' (4 + nd (t + 1) + i) ∧ Keep j H1 H')
          ⟨_, _, _, v, d, rfl, Rep.keep (kp5.trans kp6) _ _ rd, fd'.mono (by omega) (by omega), by omega, hj6.mono (by omega), k4.trans (kp5.trans kp6)⟩ (fun i σ H' hi p => ?_) (fun σ H' p => ?_)
        · obtain ⟨x4, x5, x6, v, d, rfl, h1, h2, h3, h4, h5⟩ := p
          have vj := h4.some
          refine ⟨_, rfl, (by show 2 ≤ sizeLine; decide), fun p1 hp1 => ?_⟩
          have g1 := same_new hp1 (.tup [.str "again", v])
          have p1j := h4.ne hp1
          have j1 := h4.keep g1
          refine fun e2 G2 s2 r2 => ⟨_, rfl, (by show 3 ≤ sizeLine; decide), fun p2 hp2 => ?_⟩
          have g2 := same_new hp2 (.tup [.str "then", e2, v])
          have j2 := j1.keep s2
          have p2j := j2.ne hp2
          have q2 := r2 j j1.some
          refine ⟨_, rfl, fun e3 G3 s3 r3 => ⟨(by show 3 ≤ sizeLine; decide), fun p3 hp3 => ?_⟩⟩
          have g3 := same_new hp3 (.tup [.str "or", v, e3])
          have j2' := j2.keep g2
          have j3 := j2'.keep s3
          have p3j := j3.ne hp3
          have q3 := r3 j j2'.some
          refine ⟨(by show 3 ≤ sizeLine; decide), fun p4 hp4 => ?_⟩
          have g4 := same_new hp4 (.lst [.ref p1, .ref p2, .ref p3])
          have j3' := j3.keep g3
          have p4j := j3'.ne hp4
          have j4 := j3'.keep g4
          have T3 := g3.trans g4
          have T2 := g2.trans (s3.trans T3)
          have T1 := g1.trans (s2.trans T2)
          have h1' := h1.all_keep T1
          have hE : Fine 3 (8 + i) (tw [st "empty"]) := (show Fine 3 1 _ from .tup (by show 1 ≤ 3; decide) fun d hd => by
            rw [List.mem_singleton.mp hd]
            exact .str (by decide)).mono (by decide) (by omega)
          have wE : wt (tw [st "empty"]) = 80 := by decide
          have wE2 : wts [tw [st "empty"]] = 80 := by decide
          have lw : ∀ y, y ∈ (["again", "then", "or"] : List Str) → y.length ≤ 5 ∧ ∀ c, c ∈ y.cps.toList → c < 128 := by decide +kernel
          have F1 : Fit j _ 3 (8 + i + 1) (51000 + 200 * (i + 1)) (.ref p1) := Fit.tup p1j ((s2.trans T2) _ _ upd_same) (.cons (.str _) (.cons h1' .nil)) (Nat.le_succ 2) (fun d hd => by
            simp only [List.mem_cons, List.not_mem_nil, or_false] at hd
            rcases hd with rfl | rfl
            · exact .str (lw "again" (by simp)).2
            · exact h2) (by have := (lw "again" (by simp)).1; simp only [wts, wt]; omega)
          have F2 : Fit j _ 3 (8 + i + 1) (51000 + 200 * (i + 1)) (.ref p2) := Fit.tup p2j ((s3.trans T3) _ _ upd_same) (.cons (.str _) (.cons (q2.all_keep T2) (.cons h1' .nil))) (Nat.le_refl 3) (fun d hd => by
            simp only [List.mem_cons, List.not_mem_nil, or_false] at hd
            rcases hd with rfl | rfl | rfl
            · exact .str (lw "then" (by simp)).2
            · exact hE
            · exact h2) (by
            have := (lw "then" (by simp)).1
            show wt (.str "then") + (wt (tw [st "empty"]) + (wt d + 0)) + 10 ≤ _
            rw [wE]
            simp only [wt]
            omega)
          have F3 : Fit j _ 3 (8 + i + 1) (51000 + 200 * (i + 1)) (.ref p3) := Fit.tup p3j (g4 _ _ upd_same) (.cons (.str _) (.cons h1' (.cons (q3.all_keep T3) .nil))) (Nat.le_refl 3) (fun d hd => by
            simp only [List.mem_cons, List.not_mem_nil, or_false] at hd
            rcases hd with rfl | rfl | rfl
            · exact .str (lw "or" (by simp)).2
            · exact h2
            · exact hE) (by
            have := (lw "or" (by simp)).1
            show wt (.str "or") + (wt d + (wt (tw [st "empty"]) + 0)) + 10 ≤ _
            rw [wE]
            simp only [wt]
            omega)
          have FF : Fits j _ 3 (8 + i + 1) (51000 + 200 * (i + 1)) [.ref p1, .ref p2, .ref p3] := Fits.cons F1 (Fits.cons F2 (Fits.cons F3 Fits.nil))
          refine ⟨_, rfl, j, 4 + nd (t + 1) + i, 3, rfl, j4, by omega, by decide, by decide, fun r7 H7 r70 r71 hj7 kp7 => ?_⟩
          obtain ⟨u, u1, u2⟩ := at_of (l := ([V.ref p1, .ref p2, .ref p3] : List V)) r70 r71
          obtain ⟨du, ru, fu, wu⟩ := (FF.keep kp7) u (List.mem_of_getElem? u2)
          refine ⟨p4, _, _, _, rfl, rfl, SqL.of (kp7 _ _ p4j upd_same), u1, ?_⟩
          exact ⟨_, _, _, u, du, rfl, ru, fu, wu, hj7, h5.trans ((Keep.of_same (T1)).trans kp7)⟩
        · obtain ⟨x4, x5, x6, v, d, rfl, h1, h2, h3, h4, h5⟩ := p
          exact hR _ _ ⟨x4, x5, x6, v, d, rfl, h1, h2.mono (by omega) (by omega), by omega, h4.mono (by omega), h5⟩
      · exact hR _ _ ⟨_, _, _, v, d, rfl, Rep.keep kp5 _ _ rd, fd'.mono (by omega) (by omega), by omega, hj5.mono (by omega), k4.trans kp5⟩
    case rest =>
      intro σ H' h
      obtain ⟨x4, x5, x6, v, d, rfl, rd, fd', wd, jd, kd⟩ := h
      refine ⟨(by show 3 ≤ sizeLine; decide), fun p1 hp1 => ?_⟩
      have n1 := same_new hp1 (.lst [.int 0, .int 1, .int 2])
      have p1j := jd.ne hp1
      refine ⟨_, rfl, j, 5000, 3, rfl, jd.keep n1, by decide, by decide, by decide, fun r H6 r0 r1 hj6 kp6 => ?_⟩
      obtain ⟨z, z1, z2⟩ := at_of (l := ([.int 0, .int 1, .int 2] : List V)) r0 r1
      obtain ⟨laps, rfl, hlaps⟩ : ∃ laps : Nat, z = .int (laps : Int) ∧ laps ≤ 2 := by
        have := List.mem_of_getElem? z2
        simp only [List.mem_cons, List.not_mem_nil, or_false] at this
        rcases this with rfl | rfl | rfl
        · exact ⟨0, rfl, by decide⟩
        · exact ⟨1, rfl, by decide⟩
        · exact ⟨2, rfl, by decide⟩
      have k6 : Keep j H' H6 := (Keep.of_same n1).trans kp6
      refine ⟨p1, _, _, _, rfl, rfl, SqL.of (kp6 _ _ p1j upd_same), z1, _, rfl, by omega, by omega, ?_⟩
      rw [Int.toNat_natCast]
      refine for_range (lo := 0) (n := laps) (fun i σ H' => ∃ x4 x5 x6 v d, σ = [some (.ref a), some (.int kk), some (.ref j), some v, x4, x5, x6] ∧ Rep j H' v d ∧ Fine (3 + i) (20 + 2 * i) d ∧ wt d + 2000 ≤ 62000 * 2 ^ i ∧ Jar j H' (6000 + 20 * i) ∧ Keep j H1 H')
        ⟨_, _, _, v, d, rfl, Rep.keep k6 _ _ rd, fd'.mono (by omega) (by omega), by omega, hj6.mono (by omega), kd.trans k6⟩ (fun i σ H7 hi p => ?_) (fun σ H7 p => ?_)
      · obtain ⟨x4, x5, x6, v, d, rfl, h1, h2, h3, h4, h5⟩ := p
        have hpow : 62000 * 2 ^ i ≤ 62000 * 2 ^ 2 := Nat.mul_le_mul_left _ (Nat.pow_le_pow_right (by decide) (by omega))
        refine ⟨_, rfl, _, rfl, _, rfl, j, 6000 + 20 * i, 6, rfl, h4, by omega, by decide, by decide, fun r8 H8 r80 r81 hj8 kp8 => ?_⟩
        obtain ⟨u, rfl⟩ : ∃ u : Nat, r8 = (u : Int) := ⟨r8.toNat, by omega⟩
        refine ⟨j, 6000 + 20 * i + 1, u, 3 + i, 20 + 2 * i, v, d, rfl, by omega, hj8, by omega, by omega, by omega, Rep.keep kp8 _ _ h1, h2, by omega, fun v' d' H9 rd9 fd9 wd9 jd9 kd9 => ?_⟩
        refine ⟨_, _, _, v', d', rfl, rd9, fd9.mono (by omega) (by omega), ?_, jd9.mono (by omega), h5.trans (kp8.trans kd9)⟩
        rw [Nat.pow_succ]
        omega
      · obtain ⟨x4, x5, x6, v, d, rfl, h1, h2, h3, h4, h5⟩ := p
        have hpow : 62000 * 2 ^ laps ≤ 62000 * 2 ^ 2 := Nat.mul_le_mul_left _ (Nat.pow_le_pow_right (by decide) hlaps)
        have hw : wt d ≤ 246000 := by omega
        have hf : Fine 9 24 d := h2.mono (by omega) (by omega)
        have hsh := hf.shown_le
        have hdp := hf.depth
        refine ⟨_, rfl, j, v, d, rfl, h1, hf.showable, by rw [sizeLine_eq]; omega, by omega, ?_⟩
        refine ⟨_, rfl, _, rfl, j, 6000 + 20 * laps, rfl, h4, by omega, fun vo d8 H8 rd8 fd8 wd8 jd8 kd8 => ?_⟩
        refine ⟨(by show 2 ≤ sizeLine; decide), fun p9 hp9 => ?_⟩
        have n9 := same_new hp9 (.lst [v, vo])
        have FF : Fits j _ 9 24 1000000 [v, vo] := Fits.cons ⟨d, (Rep.keep kd8 _ _ h1).all_keep n9, hf, by omega⟩ (Fits.cons ⟨d8, rd8.all_keep n9, fd8.mono (by omega) (by omega), by omega⟩ Fits.nil)
        have two : ∀ {x : V} {Hx : Hp}, Fit j Hx 9 24 1000000 x → ∃ dx, Rep j Hx x dx ∧ Fine 9 24 dx ∧ wt dx ≤ 10000000 ∧ decide (mold false 12 dx = mold true 12 dx) = true := fun f => by
          obtain ⟨dx, f1, f2, f3⟩ := f
          exact ⟨dx, f1, f2, by omega, decide_eq_true (mold_two f2).symm⟩
        have e9 : (upd H8 p9 (.lst [v, vo])) p9 = some (.lst [v, vo]) := upd_same
        refine ⟨p9, rfl, ⟨_, SqL.of e9⟩, ?_⟩
        refine for_list (xs := [v, vo]) (fun i σ H' => ∃ x6, σ = [some (.ref a), some (.int kk), some (.ref j), some v, x4, some (.str (strD d)), x6] ∧ Same (upd H8 p9 (.lst [v, vo])) H') ⟨_, rfl, same_refl⟩ (fun i σ H' _ p => ?_) (fun i x σ H' hx p => ?_) (fun σ H' p => ?_)
        · obtain ⟨_, _, s⟩ := p
          exact SqL.of (s _ _ e9)
        · obtain ⟨x6, rfl, s⟩ := p
          obtain ⟨dx, f1, f2, f3, f4⟩ := two ((FF x (List.mem_of_getElem? hx)).keep (Keep.of_same s))
          refine ⟨_, rfl, j, x, dx, 24, rfl, f1, f2, f3, fun Ha sa => ⟨_, rfl, j, x, dx, 12, 24, rfl, by decide, f1.all_keep sa, f2, f3, fun Hb sb => ⟨_, _, rfl, _, rfl, ?_⟩⟩⟩
          rw [f4]
          exact iteF ⟨_, rfl, s.trans (sa.trans sb)⟩
        · obtain ⟨x6, rfl, s⟩ := p
          obtain ⟨dx, f1, f2, f3, f4⟩ := two ((FF v List.mem_cons_self).keep (Keep.of_same s))
          refine ⟨_, rfl, j, v, dx, 24, rfl, f1, f2, f3, fun Ha sa => ⟨_, rfl, j, v, dx, 12, 24, rfl, by decide, f1.all_keep sa, f2, f3, fun Hb sb => ⟨_, _, rfl, _, rfl, ?_⟩⟩⟩
          rw [f4]
          refine iteF ?_
          have T := s.trans (sa.trans sb)
          have rb : Rep j Hb v d := ((Rep.keep kd8 _ _ h1).all_keep n9).all_keep T
          refine ⟨_, rfl, j, v, d, rfl, rb, hf.showable, by rw [sizeLine_eq]; omega, by omega, _, rfl, rfl, _, rfl, ?_⟩
          have e : (!decide (V.str (strD d) = V.str (strD d))) = false := by rw [decide_eq_true rfl]; rfl
          rw [e]
          exact iteF ⟨⟨_, _, _, _, _, _, rfl⟩, fin _ (h5.trans (kd8.trans ((Keep.of_same n9).trans (Keep.of_same T))))⟩
end
end Ty
namespace Ty
open PySem PySem.Spec PyProof.Rows L2
theorem counts_mk {K : PySem.W.Frag} {w : World} {d : Addr} {es : Array DictEntry} {n : Nat} {t0 t1 t2 t3 t4 t5 u0 u1 u2 u3 u4 u5 : Tok} (hl : K.lookup d = some ⟨.type "dict", none, .dict es n, #[]⟩) (low : (d == sysModules) = false)
    (he : es.toList = [⟨PyData.keyHash w.params "empty", .str "empty" t0, .int 0 u0⟩, ⟨PyData.keyHash w.params "then", .str "then" t1, .int 2 u1⟩, ⟨PyData.keyHash w.params "or", .str "or" t2, .int 2 u2⟩,
      ⟨PyData.keyHash w.params "again", .str "again" t3, .int 1 u3⟩, ⟨PyData.keyHash w.params "more", .str "more" t4, .int 1 u4⟩, ⟨PyData.keyHash w.params "maybe", .str "maybe" t5, .int 1 u5⟩]) : Counts K w d := by
  refine ⟨⟨es, n, hl, ?_, low⟩, fun z => ?_⟩
  · rw [he]
    exact ⟨⟨_, _, rfl, rfl⟩, ⟨_, _, rfl, rfl⟩, ⟨_, _, rfl, rfl⟩, ⟨_, _, rfl, rfl⟩, ⟨_, _, rfl, rfl⟩, ⟨_, _, rfl, rfl⟩, trivial⟩
  · unfold PySem.W.nsIn
    rw [hl]
    simp only [he]
    have no : ∀ y : Str, z ≠ y → (y == z) = false := fun y h => by
      cases e : y == z with
      | false => rfl
      | true => exact absurd (eq_of_beq e).symm h
    unfold cnt
    by_cases h0 : z = "empty"
    · subst h0; exact ⟨_, rfl, fun k hk => by cases hk; exact ⟨_, rfl⟩, fun h => by cases h⟩
    by_cases h1 : z = "then"
    · subst h1; exact ⟨_, rfl, fun k hk => by cases hk; exact ⟨_, rfl⟩, fun h => by cases h⟩
    by_cases h2 : z = "or"
    · subst h2; exact ⟨_, rfl, fun k hk => by cases hk; exact ⟨_, rfl⟩, fun h => by cases h⟩
    by_cases h3 : z = "again"
    · subst h3; exact ⟨_, rfl, fun k hk => by cases hk; exact ⟨_, rfl⟩, fun h => by cases h⟩
    by_cases h4 : z = "more"
    · subst h4; exact ⟨_, rfl, fun k hk => by cases hk; exact ⟨_, rfl⟩, fun h => by cases h⟩
    by_cases h5 : z = "maybe"
    · subst h5; exact ⟨_, rfl, fun k hk => by cases hk; exact ⟨_, rfl⟩, fun h => by cases h⟩
    rw [if_neg h0, if_neg h1, if_neg h2, if_neg h3, if_neg h4, if_neg h5]
    refine ⟨none, ?_, (fun k hk => by cases hk), fun _ => rfl⟩
    simp only [List.find?, Value.isStr, no _ h0, no _ h1, no _ h2, no _ h3, no _ h4, no _ h5]
    rfl
theorem all_mk {w : World} {K : PySem.W.Frag} {h : Heap} {mg : Str → Option Value} {fa f1 f2 f3 f4 f5 f6 f7 f8 f9 f10 f11 f12 f13 dP : Addr} (X : K.In h) (G : h.Ns mainGlobals mg) (hfa : mg "law" = some (.ref fa))
    {od1 an1 od2 an2 od3 an3 od4 an4 od5 an5 od6 an6 od7 an7 od8 an8 od9 an9 od10 an10 od11 an11 od12 an12 od13 an13 : Option Addr} {sl1 sl2 sl3 sl4 sl5 sl6 sl7 sl8 sl9 sl10 sl11 sl12 sl13 : Array (Option Value)} {oc1 kV1 dc1 pm1 cd1 ct1 oc2 kV2 dc2 pm2 cd2 ct2 oc3 kV3 dc3 pm3 cd3 ct3 oc4 kV4 dc4 pm4 cd4 ct4 oc5 kV5 dc5 pm5 cd5 ct5 oc6 kV6 dc6 pm6 cd6 ct6 oc7 kV7 dc7 pm7 cd7 ct7 oc8 kV8 dc8 pm8 cd8 ct8 oc9 kV9 dc9 pm9 cd9 ct9 oc10 kV10 dc10 pm10 cd10 ct10 oc11 kV11 dc11 pm11 cd11 ct11 oc12 kV12 dc12 pm12 cd12 ct12 oc13 kV13 dc13 pm13 cd13 ct13 : Value} {tS tD t0 t1 t2 t3 t4 t5 u0 u1 u2 u3 u4 u5 : Tok} {zS : Str} {es : Array DictEntry} {nP : Nat}
    (a1 : PySem.W.nsIn K mainGlobals "is_signs" = some (some (.ref f1))) (l1 : K.lookup f1 = some ⟨oc1, od1, .func (PySem.W.fnOf "is_signs" "is_signs" (defArgs sSigns) (defBody sSigns) (defScope sSigns) .none kV1 dc1 pm1 an1 cd1 ct1), sl1⟩) (c1 : PySem.W.codeIn K cd1 "is_signs" = true) (k1 : PySem.W.keepIn K (.ref f1) = true)
    (a2 : PySem.W.nsIn K mainGlobals "is_within" = some (some (.ref f2))) (l2 : K.lookup f2 = some ⟨oc2, od2, .func (PySem.W.fnOf "is_within" "is_within" (defArgs sWithin) (defBody sWithin) (defScope sWithin) .none kV2 dc2 pm2 an2 cd2 ct2), sl2⟩) (c2 : PySem.W.codeIn K cd2 "is_within" = true) (k2 : PySem.W.keepIn K (.ref f2) = true)
    (a3 : PySem.W.nsIn K mainGlobals "is_pattern" = some (some (.ref f3))) (l3 : K.lookup f3 = some ⟨oc3, od3, .func (PySem.W.fnOf "is_pattern" "is_pattern" (defArgs sPattern) (defBody sPattern) (defScope sPattern) .none kV3 dc3 pm3 an3 cd3 ct3), sl3⟩) (c3 : PySem.W.codeIn K cd3 "is_pattern" = true) (k3 : PySem.W.keepIn K (.ref f3) = true)
    (a4 : PySem.W.nsIn K mainGlobals "_law_jar" = some (some (.ref f4))) (l4 : K.lookup f4 = some ⟨oc4, od4, .func (PySem.W.fnOf "_law_jar" "_law_jar" (defArgs sJar) (defBody sJar) (defScope sJar) .none kV4 dc4 pm4 an4 cd4 ct4), sl4⟩) (c4 : PySem.W.codeIn K cd4 "_law_jar" = true) (k4 : PySem.W.keepIn K (.ref f4) = true)
    (a5 : PySem.W.nsIn K mainGlobals "_law_dip" = some (some (.ref f5))) (l5 : K.lookup f5 = some ⟨oc5, od5, .func (PySem.W.fnOf "_law_dip" "_law_dip" (defArgs sDip) (defBody sDip) (defScope sDip) .none kV5 dc5 pm5 an5 cd5 ct5), sl5⟩) (c5 : PySem.W.codeIn K cd5 "_law_dip" = true) (k5 : PySem.W.keepIn K (.ref f5) = true)
    (a6 : PySem.W.nsIn K mainGlobals "_law_all_signs" = some (some (.ref f6))) (l6 : K.lookup f6 = some ⟨oc6, od6, .func (PySem.W.fnOf "_law_all_signs" "_law_all_signs" (defArgs sAll) (defBody sAll) (defScope sAll) .none kV6 dc6 pm6 an6 cd6 ct6), sl6⟩) (c6 : PySem.W.codeIn K cd6 "_law_all_signs" = true) (k6 : PySem.W.keepIn K (.ref f6) = true)
    (a7 : PySem.W.nsIn K mainGlobals "_law_signs_of" = some (some (.ref f7))) (l7 : K.lookup f7 = some ⟨oc7, od7, .func (PySem.W.fnOf "_law_signs_of" "_law_signs_of" (defArgs sOf) (defBody sOf) (defScope sOf) .none kV7 dc7 pm7 an7 cd7 ct7), sl7⟩) (c7 : PySem.W.codeIn K cd7 "_law_signs_of" = true) (k7 : PySem.W.keepIn K (.ref f7) = true)
    (a8 : PySem.W.nsIn K mainGlobals "_law_mould" = some (some (.ref f8))) (l8 : K.lookup f8 = some ⟨oc8, od8, .func (PySem.W.fnOf "_law_mould" "_law_mould" (defArgs sMould) (defBody sMould) (defScope sMould) .none kV8 dc8 pm8 an8 cd8 ct8), sl8⟩) (c8 : PySem.W.codeIn K cd8 "_law_mould" = true) (k8 : PySem.W.keepIn K (.ref f8) = true)
    (a9 : PySem.W.nsIn K mainGlobals "_law_is_mould" = some (some (.ref f9))) (l9 : K.lookup f9 = some ⟨oc9, od9, .func (PySem.W.fnOf "_law_is_mould" "_law_is_mould" (defArgs sIs) (defBody sIs) (defScope sIs) .none kV9 dc9 pm9 an9 cd9 ct9), sl9⟩) (c9 : PySem.W.codeIn K cd9 "_law_is_mould" = true) (k9 : PySem.W.keepIn K (.ref f9) = true)
    (a10 : PySem.W.nsIn K mainGlobals "_law_odd" = some (some (.ref f10))) (l10 : K.lookup f10 = some ⟨oc10, od10, .func (PySem.W.fnOf "_law_odd" "_law_odd" (defArgs sOdd) (defBody sOdd) (defScope sOdd) .none kV10 dc10 pm10 an10 cd10 ct10), sl10⟩) (c10 : PySem.W.codeIn K cd10 "_law_odd" = true) (k10 : PySem.W.keepIn K (.ref f10) = true)
    (a11 : PySem.W.nsIn K mainGlobals "_law_put_otherwise" = some (some (.ref f11))) (l11 : K.lookup f11 = some ⟨oc11, od11, .func (PySem.W.fnOf "_law_put_otherwise" "_law_put_otherwise" (defArgs sPut) (defBody sPut) (defScope sPut) .none kV11 dc11 pm11 an11 cd11 ct11), sl11⟩) (c11 : PySem.W.codeIn K cd11 "_law_put_otherwise" = true) (k11 : PySem.W.keepIn K (.ref f11) = true)
    (a12 : PySem.W.nsIn K mainGlobals "_law_same" = some (some (.ref f12))) (l12 : K.lookup f12 = some ⟨oc12, od12, .func (PySem.W.fnOf "_law_same" "_law_same" (defArgs sSame) (defBody sSame) (defScope sSame) .none kV12 dc12 pm12 an12 cd12 ct12), sl12⟩) (c12 : PySem.W.codeIn K cd12 "_law_same" = true) (k12 : PySem.W.keepIn K (.ref f12) = true)
    (a13 : PySem.W.nsIn K mainGlobals "law" = some (some (.ref f13))) (l13 : K.lookup f13 = some ⟨oc13, od13, .func (PySem.W.fnOf "law" "law" (defArgs sLaw) (defBody sLaw) (defScope sLaw) .none kV13 dc13 pm13 an13 cd13 ct13), sl13⟩) (c13 : PySem.W.codeIn K cd13 "law" = true) (k13 : PySem.W.keepIn K (.ref f13) = true)
    (aS : PySem.W.nsIn K mainGlobals "SIGNS" = some (some (.str zS tS))) (eS : zS = allS) (aD : PySem.W.nsIn K mainGlobals "MOST_DEEP" = some (some (.int 12 tD))) (aP : PySem.W.nsIn K mainGlobals "PART_COUNTS" = some (some (.ref dP)))
    (lP : K.lookup dP = some ⟨.type "dict", none, .dict es nP, #[]⟩) (low : (dP == sysModules) = false)
    (he : es.toList = [⟨PyData.keyHash w.params "empty", .str "empty" t0, .int 0 u0⟩, ⟨PyData.keyHash w.params "then", .str "then" t1, .int 2 u1⟩, ⟨PyData.keyHash w.params "or", .str "or" t2, .int 2 u2⟩,
      ⟨PyData.keyHash w.params "again", .str "again" t3, .int 1 u3⟩, ⟨PyData.keyHash w.params "more", .str "more" t4, .int 1 u4⟩, ⟨PyData.keyHash w.params "maybe", .str "maybe" t5, .int 1 u5⟩])
    (z_isinstance : PySem.W.nsIn K mainGlobals "isinstance" = some none)
    (z_str : PySem.W.nsIn K mainGlobals "str" = some none)
    (z_all : PySem.W.nsIn K mainGlobals "all" = some none)
    (z_zip : PySem.W.nsIn K mainGlobals "zip" = some none)
    (z_tuple : PySem.W.nsIn K mainGlobals "tuple" = some none)
    (z_len : PySem.W.nsIn K mainGlobals "len" = some none)
    (z_max : PySem.W.nsIn K mainGlobals "max" = some none)
    (z_int : PySem.W.nsIn K mainGlobals "int" = some none)
    (z_sorted : PySem.W.nsIn K mainGlobals "sorted" = some none)
    (z_set : PySem.W.nsIn K mainGlobals "set" = some none)
    (z_range : PySem.W.nsIn K mainGlobals "range" = some none)
    (z_list : PySem.W.nsIn K mainGlobals "list" = some none)
    (z_bool : PySem.W.nsIn K mainGlobals "bool" = some none)
    (z_min : PySem.W.nsIn K mainGlobals "min" = some none)
    : ∃ fd : FuncData, (∀ (s : Shared) (v : Value), BindsTo s fd ⟨[v], []⟩ [("script", v)]) ∧ ∀ base : Heap, K.In base → base.Ns mainGlobals mg → Enters callerA PySem.Challenge.pw_tongueyard_k00_which_are_patterns w K mg base fa fd ["script"] (spLaw K) := by
  subst eS
  have e := hfa.symm.trans (PySem.W.mg_of X G a13)
  cases e
  have F1 := fun_mk (st := sSigns) l1 c1 k1
  have b1 := F1.binds (ps := ["thing"]) fun _ _ _ _ _ _ us hl => match us, hl with | [_], _ => rfl
  have m1 := PySem.W.mg_of X G a1
  have F2 := fun_mk (st := sWithin) l2 c2 k2
  have b2 := F2.binds (ps := ["thing", "most"]) fun _ _ _ _ _ _ us hl => match us, hl with | [_, _], _ => rfl
  have m2 := PySem.W.mg_of X G a2
  have F3 := fun_mk (st := sPattern) l3 c3 k3
  have b3 := F3.binds (ps := ["thing"]) fun _ _ _ _ _ _ us hl => match us, hl with | [_], _ => rfl
  have m3 := PySem.W.mg_of X G a3
  have F4 := fun_mk (st := sJar) l4 c4 k4
  have b4 := F4.binds (ps := ["script", "k"]) fun _ _ _ _ _ _ us hl => match us, hl with | [_, _], _ => rfl
  have m4 := PySem.W.mg_of X G a4
  have F5 := fun_mk (st := sDip) l5 c5 k5
  have b5 := F5.binds (ps := ["jar", "many"]) fun _ _ _ _ _ _ us hl => match us, hl with | [_, _], _ => rfl
  have m5 := PySem.W.mg_of X G a5
  have F6 := fun_mk (st := sAll) l6 c6 k6
  have b6 := F6.binds (ps := []) fun _ _ _ _ _ _ us hl => match us, hl with | [], _ => rfl
  have m6 := PySem.W.mg_of X G a6
  have F7 := fun_mk (st := sOf) l7 c7 k7
  have b7 := F7.binds (ps := ["jar", "plain"]) fun _ _ _ _ _ _ us hl => match us, hl with | [_, _], _ => rfl
  have m7 := PySem.W.mg_of X G a7
  have F8 := fun_mk (st := sMould) l8 c8 k8
  have b8 := F8.binds (ps := ["jar", "plain", "deep"]) fun _ _ _ _ _ _ us hl => match us, hl with | [_, _, _], _ => rfl
  have m8 := PySem.W.mg_of X G a8
  have F9 := fun_mk (st := sIs) l9 c9 k9
  have b9 := F9.binds (ps := ["item", "most"]) fun _ _ _ _ _ _ us hl => match us, hl with | [_, _], _ => rfl
  have m9 := PySem.W.mg_of X G a9
  have F10 := fun_mk (st := sOdd) l10 c10 k10
  have b10 := F10.binds (ps := ["jar"]) fun _ _ _ _ _ _ us hl => match us, hl with | [_], _ => rfl
  have m10 := PySem.W.mg_of X G a10
  have F11 := fun_mk (st := sPut) l11 c11 k11
  have b11 := F11.binds (ps := ["jar", "item", "deep"]) fun _ _ _ _ _ _ us hl => match us, hl with | [_, _, _], _ => rfl
  have m11 := PySem.W.mg_of X G a11
  have F12 := fun_mk (st := sSame) l12 c12 k12
  have b12 := F12.binds (ps := ["found", "owed"]) fun _ _ _ _ _ _ us hl => match us, hl with | [_, _], _ => rfl
  have m12 := PySem.W.mg_of X G a12
  have F13 := fun_mk (st := sLaw) l13 c13 k13
  have mS := PySem.W.mg_of X G aS
  have mD := PySem.W.mg_of X G aD
  have mP := PySem.W.mg_of X G aP
  have y_isinstance := PySem.W.mg_none_of X G z_isinstance
  have y_str := PySem.W.mg_none_of X G z_str
  have y_all := PySem.W.mg_none_of X G z_all
  have y_zip := PySem.W.mg_none_of X G z_zip
  have y_tuple := PySem.W.mg_none_of X G z_tuple
  have y_len := PySem.W.mg_none_of X G z_len
  have y_max := PySem.W.mg_none_of X G z_max
  have y_int := PySem.W.mg_none_of X G z_int
  have y_sorted := PySem.W.mg_none_of X G z_sorted
  have y_set := PySem.W.mg_none_of X G z_set
  have y_range := PySem.W.mg_none_of X G z_range
  have y_list := PySem.W.mg_none_of X G z_list
  have y_bool := PySem.W.mg_none_of X G z_bool
  have y_min := PySem.W.mg_none_of X G z_min
  have C := counts_mk (w := w) lP low he
  refine ⟨PySem.W.fnOf "law" "law" (defArgs sLaw) (defBody sLaw) (defScope sLaw) .none kV13 dc13 pm13 an13 cd13 ct13, fun s v => .of_eq rfl, fun base _ _ => ?_⟩
  have Osigns := ok_signs (P := PySem.Challenge.pw_tongueyard_k00_which_are_patterns) (w := w) (base := base) F1 mS y_isinstance y_str y_all y_zip
  have Owithin : ∀ n, FnOk PySem.Challenge.pw_tongueyard_k00_which_are_patterns w K mg base CX0 (n + 1) f2 _ ["thing", "most"] (spWithin false n) := fun n => by
    induction n with
    | zero => exact none_left
    | succ n ih => exact ok_within F2 ih b2 m2 Osigns b1 k1 m1 mP C y_isinstance y_tuple y_str y_len y_all
  have Opat := ok_pattern F3 (Owithin 13) b2 k2 m2 mD
  have Ojar := ok_jar (P := PySem.Challenge.pw_tongueyard_k00_which_are_patterns) (w := w) (base := base) F4 y_len y_max
  have Odip := ok_dip (P := PySem.Challenge.pw_tongueyard_k00_which_are_patterns) (w := w) (mg := mg) (base := base) F5
  have Oall := ok_all (P := PySem.Challenge.pw_tongueyard_k00_which_are_patterns) (w := w) (mg := mg) (base := base) F6
  have Oof := ok_of F7 Odip b5 k5 m5 Oall b6 k6 m6 y_int y_sorted y_set y_range y_len
  have Omould : ∀ n, FnOk PySem.Challenge.pw_tongueyard_k00_which_are_patterns w K mg base CX0 (n + 2) f8 _ ["jar", "plain", "deep"] (spMould n) := fun n => by
    induction n with
    | zero => exact mould_left
    | succ n ih => exact ok_mould F8 ih b8 m8 Odip b5 k5 m5 Oof b7 k7 m7
  have Ois : ∀ n, FnOk PySem.Challenge.pw_tongueyard_k00_which_are_patterns w K mg base CX0 (n + 1) f9 _ ["item", "most"] (spWithin true n) := fun n => by
    induction n with
    | zero => exact none_left
    | succ n ih => exact ok_is F9 ih b9 m9 Oall b6 k6 m6 y_isinstance y_tuple y_str y_len y_all
  have Oodd := ok_odd F10 Odip b5 k5 m5
  have Oput : ∀ n, FnOk PySem.Challenge.pw_tongueyard_k00_which_are_patterns w K mg base CX0 (n + 2) f11 _ ["jar", "item", "deep"] (spPut n) := fun n => by
    induction n with
    | zero => exact put_left
    | succ n ih => exact ok_put F11 ih b11 m11 Odip b5 k5 m5 Oall b6 k6 m6 Oodd b10 k10 m10 y_isinstance y_tuple y_str y_len y_list
  have Osame := ok_same (P := PySem.Challenge.pw_tongueyard_k00_which_are_patterns) (w := w) (base := base) F12 y_isinstance y_bool
  exact ok_law F13 rfl ⟨rfl, by decide, by decide⟩ Ojar b4 k4 m4 Odip b5 k5 m5 Oall b6 k6 m6 (Omould 8) b8 k8 m8 (Ois 13) b9 k9 m9 Oodd b10 k10 m10 (Oput 6) b11 k11 m11 Osame b12 k12 m12 Opat b3 k3 m3 mS y_range y_max y_min y_len y_str
end Ty
open PySem PySem.W PyProof.Rows
set_option maxRecDepth 100000 in
set_option maxHeartbeats 0 in
theorem PySem.Challenge.cw_tongueyard_k00_which_are_patterns_holds : PySem.Challenge.rw_tongueyard_k00_which_are_patterns.Holds := by
  w_on; o_law; k_head; (case hw => w_witness2)
  k_fill
  refine Ty.walk_enter (l := PySem.Challenge.rw_tongueyard_k00_which_are_patterns) (n := 63) (x := "script") (sp := fun w => Ty.spLaw _) rfl (by decide) rfl (fun w h Y => PySem.W.kIn_of Y) ?F (fun w H a ns hl hS => ⟨a, ns, rfl, hS, hl, fun _ => rfl⟩)
  case F =>
    intro w mg fa h KX G hmg
    refine' Ty.all_mk KX G hmg ?a1 ?l1 ?c1 ?k1 ?a2 ?l2 ?c2 ?k2 ?a3 ?l3 ?c3 ?k3 ?a4 ?l4 ?c4 ?k4 ?a5 ?l5 ?c5 ?k5 ?a6 ?l6 ?c6 ?k6 ?a7 ?l7 ?c7 ?k7 ?a8 ?l8 ?c8 ?k8 ?a9 ?l9 ?c9 ?k9 ?a10 ?l10 ?c10 ?k10 ?a11 ?l11 ?c11 ?k11 ?a12 ?l12 ?c12 ?k12 ?a13 ?l13 ?c13 ?k13 ?aS ?eS ?aD ?aP ?lP ?low ?he ?z_isinstance ?z_str ?z_all ?z_zip ?z_tuple ?z_len ?z_max ?z_int ?z_sorted ?z_set ?z_range ?z_list ?z_bool ?z_min
    (case a1 => k_is)
    (case l1 => k_is)
    (case c1 => k_is)
    (case k1 => k_is)
    (case a2 => k_is)
    (case l2 => k_is)
    (case c2 => k_is)
    (case k2 => k_is)
    (case a3 => k_is)
    (case l3 => k_is)
    (case c3 => k_is)
    (case k3 => k_is)
    (case a4 => k_is)
    (case l4 => k_is)
    (case c4 => k_is)
    (case k4 => k_is)
    (case a5 => k_is)
    (case l5 => k_is)
    (case c5 => k_is)
    (case k5 => k_is)
    (case a6 => k_is)
    (case l6 => k_is)
    (case c6 => k_is)
    (case k6 => k_is)
    (case a7 => k_is)
    (case l7 => k_is)
    (case c7 => k_is)
    (case k7 => k_is)
    (case a8 => k_is)
    (case l8 => k_is)
    (case c8 => k_is)
    (case k8 => k_is)
    (case a9 => k_is)
    (case l9 => k_is)
    (case c9 => k_is)
    (case k9 => k_is)
    (case a10 => k_is)
    (case l10 => k_is)
    (case c10 => k_is)
    (case k10 => k_is)
    (case a11 => k_is)
    (case l11 => k_is)
    (case c11 => k_is)
    (case k11 => k_is)
    (case a12 => k_is)
    (case l12 => k_is)
    (case c12 => k_is)
    (case k12 => k_is)
    (case a13 => k_is)
    (case l13 => k_is)
    (case c13 => k_is)
    (case k13 => k_is)
    (case aS => k_is)
    (case eS => decide +kernel)
    (case aD => k_is)
    (case aP => k_is)
    (case lP => k_is)
    (case low => decide +kernel)
    (case he => rfl)
    (case z_isinstance => k_is)
    (case z_str => k_is)
    (case z_all => k_is)
    (case z_zip => k_is)
    (case z_tuple => k_is)
    (case z_len => k_is)
    (case z_max => k_is)
    (case z_int => k_is)
    (case z_sorted => k_is)
    (case z_set => k_is)
    (case z_range => k_is)
    (case z_list => k_is)
    (case z_bool => k_is)
    (case z_min => k_is)
#print axioms PySem.Challenge.cw_tongueyard_k00_which_are_patterns_holds
