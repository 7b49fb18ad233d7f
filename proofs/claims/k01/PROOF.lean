import PyProof.Rows.All
import Wide.All
import OpenK.AllK
import Wide.FinOn
import HandS.ForMost
import HandS.Wide
import HandS.IsInst
import HandS.TupAny
import HandS.Walk
import HandS.SetKeys
import HandS.ExcValue
import KE.KUnpackStar
import KE.KRevSl
import KE.GoesZip
import KE.GoesMore
import HandS.Set
import HandS.More
import HandS.SetBool
import HandS.Strs
import HandS.ForExc
import HandS.Text
import HandS.DictTup
import PyProof.ListStr
import KE.LtSeq
import HandS.Conv
import HandS.ForDict
import HandS.Comp
import HandS.Deep
import PySem.Challenge.RW_tongueyard_k01_what_patterns_spell
set_option Elab.async false
set_option linter.all false
set_option maxRecDepth 100000
/-! own rules over the hand layer: powers of wide ints, a starred name behind one name, texts and tuples turned round -/
namespace Ty
open PySem PySem.Spec PyProof.Rows L2
section
variable {X : Cx}
/-- a ** b of wide ints: few bits in all -/
def CPowW (i j : Int) : Prop := 0 ≤ j ∧ (i.natAbs.log2 + 1) * j.toNat ≤ 1000000
theorem bits_le_log (i : Int) : Builtin.Int.intBits i ≤ i.natAbs.log2 + 1 := by
  unfold Builtin.Int.intBits
  split <;> omega
theorem op_powW : OpR X (binaryOp .Pow) (rI CPowW fun i j => .int (i ^ j.toNat)) := opI fun i j t u s Q E hc q => by
  obtain ⟨h0, h1⟩ := hc
  refine pow_int h0 ?_ q
  have e : j = ((j.toNat : Nat) : Int) := by omega
  have h2 : Builtin.Int.intBits i * j.toNat ≤ 1000000 := Nat.le_trans (Nat.mul_le_mul_right _ (bits_le_log i)) h1
  have h3 : ((Builtin.Int.intBits i : Nat) : Int) * ((j.toNat : Nat) : Int) ≤ 1000000 := by
    have := Int.ofNat_le.mpr h2
    simpa using this
  rw [← e] at h3
  omega
theorem powW_of {i : Int} {k n : Nat} (h : i.natAbs < 2 ^ n) (h0 : 0 < n) (hk : n * k ≤ 1000000) : CPowW i (k : Int) := by
  refine ⟨by omega, ?_⟩
  have x := PySem.Flt.log2_lt_of h0 h
  have : (i.natAbs.log2 + 1) * ((k : Int)).toNat ≤ n * k := by
    rw [Int.toNat_natCast]
    exact Nat.mul_le_mul_right _ x
  omega
/-- where something is tracked there is an object -/
theorem there {P : Program} {w : World} {H : Hp} {h : Heap} {a : Addr} {o : HO} (x : ObjOk P w H h a o) : ∃ u, h.get? a = some u := by
  cases o with
  | lst xs => obtain ⟨_, _, _, _, e⟩ := x; exact ⟨_, e⟩
  | tup xs => obtain ⟨_, _, _, q, e, _⟩ := x; exact ⟨q, e⟩
  | dK kvs => obtain ⟨_, _, _, _, q, _, _, e, _⟩ := x; exact ⟨q, e⟩
  | dT kvs => obtain ⟨_, _, _, _, q, _, _, e, _⟩ := x; exact ⟨q, e⟩
  | set S n => obtain ⟨q, _, _, _, e, _⟩ := x; exact ⟨q, e⟩
  | ins C dx fs => obtain ⟨_, _, _, e, _⟩ := x; exact ⟨_, e⟩
  | own y => exact x
  | xd fs => obtain ⟨_, ⟨q, _, _, e, _⟩, _⟩ := x; exact ⟨q, e⟩
  | rng lo hi => obtain ⟨_, _, _, e⟩ := x; exact ⟨_, e⟩
  | frz ob u => exact ⟨ob, x.1⟩
  | tbl ps => exact ⟨_, (show h.get? a = some _ from x)⟩
  | met f y => exact ⟨_, (show h.get? a = some _ from x)⟩
  | ext φ => exact x.2.1
/-- a new object where the heap had none: all that stood stands, the new one is tracked -/
theorem laidG {pins : List (Addr × Obj)} {σ : L2.St} {H : Hp} {s : Shared} {g : Heap} {o : HO} {ob : Obj} {tk : Nat} (I : Inv X pins σ H s) (k : ∀ b u, s.heap.get? b = some u → g.get? b = some u)
    (new : ObjOk X.prog X.w (upd H g.objs.size o) (g.push ob) g.objs.size o) : H g.objs.size = none ∧ Inv X pins σ (upd H g.objs.size o) { s with heap := g.push ob, toks := tk } := by
  have hp : s.heap.get? g.objs.size = none := by
    cases e : s.heap.get? g.objs.size with
    | none => rfl
    | some u => exact absurd (Heap.lt_size (k _ _ e)) (Nat.lt_irrefl _)
  have hn : H g.objs.size = none := by
    cases e : H g.objs.size with
    | none => rfl
    | some u =>
      obtain ⟨q, eq⟩ := there (I.hok _ _ e)
      rw [hp] at eq
      cases eq
  exact ⟨hn, I.laidN (t' := tk) (fun b u e => Heap.get?_push_of_some _ (k b u e)) hp hn new⟩
/-- a tuple of one item or more, drawn into its first item and a new list of the others -/
theorem unpack_head {prog : Program} {w : World} {A : Around} {E : Value → Shared → Prop} {s : Shared} {t : Addr} {x : Value} {xs : List Value} {Q : List Value → Shared → Prop} (hh : A.handled = none)
    (ht : IsTup s.heap t (x :: xs).toArray) (hz : xs.length ≤ 16000)
    (h : ∀ (g : Heap) (tk : Nat), (∀ b o, s.heap.get? b = some o → g.get? b = some o) → Q [x, .ref g.objs.size] { s with heap := g.push { cls := .type "list", data := .seq xs.toArray }, toks := tk }) :
    wpAny (model prog w) A (unpackItems (.ref t) 2 (some 1)) Q E s := by
  have hlt : t < s.heap.objs.size := by obtain ⟨o, ho, _⟩ := ht; exact Heap.lt_size ho
  have hne : t ≠ s.heap.objs.size := Nat.ne_of_lt hlt
  have hsz : (x :: xs).toArray.size = xs.length + 1 := by simp
  unfold unpackItems
  refine wpAny_bind ?_
  unfold notIterableAtAll
  refine wpAny_bind (wpAny_specialOf ht.typeIs slot_tuple_iter.lookup (wpAny_pure ?_))
  simp only [Bool.false_eq_true, if_false]
  refine wpAny_bind (wpAny_holding (iter_tuple ht ?_))
  refine wpAny_bind (wpAny_holding (draw_tuple hne 1 0 _ _ ⟨_, Heap.get?_push_size _ rfl, rfl, rfl⟩ (ht.push _) (by omega) fun g1 it1 same1 => ?_))
  have ht1 : IsTup g1 t (x :: xs).toArray := (ht.push _).extBut same1.extBut hne
  have ht1' := ht1
  have it1' := it1
  obtain ⟨ot, hot, _⟩ := ht1'
  obtain ⟨oi, hoi, _⟩ := it1'
  show wpAny _ _ (if ([x] : List Value).length < 1 then _ else _) _ _ _
  rw [if_neg (show ¬ ([x] : List Value).length < 1 from Nat.lt_irrefl 1)]
  refine wpAny_bind (wpAny_holding (PySem.W.kun_collect (s := { s with heap := g1 }) (T := "tuple_iterator") (.inr (.inr (.inr rfl))) (Walks.tuple (A := A.in1) hh s.heap.objs.size t hne (x :: xs).toArray) (fun j u st => st.1.typeIs) (k := 1) (by omega) ⟨it1, ht1⟩ (Heap.lt_size hoi) (Heap.lt_size hot) (fun g2 tk kp => ?_) (by rw [sizeLine_eq]; omega)))
  show wpAny _ _ (if xs.length < 0 then _ else _) _ _ _
  rw [if_neg (by omega)]
  show wpAny _ _ (newList (xs.take (xs.length - 0)) >>= fun d => pure ([x] ++ [d] ++ xs.drop (xs.length - 0))) _ _ _
  rw [Nat.sub_zero, List.take_length, List.drop_length]
  have kp2 : ∀ b o, s.heap.get? b = some o → g2.get? b = some o := fun b o e =>
    have hb : b ≠ s.heap.objs.size := Nat.ne_of_lt (Heap.lt_size e)
    kp b o hb (same1.extBut b o hb (Heap.get?_push_of_some _ e))
  exact wpAny_bind (wpAny_newList (wpAny_pure (h g2 tk kp2)) (by rw [sizeLine_eq]; omega))
/-- (name, *names) = a tuple of one item or more -/
def gStar1 (K : PySem.W.Frag) (g : TG) (g2 : TG) : TG := fun v σ H Q => ∃ a x xs, v = .ref a ∧ SqT K H a (x :: xs) ∧ xs.length ≤ 16000 ∧
  ∀ D, H D = none → g x σ (upd H D (.lst xs)) fun σ1 H1 => g2 (.ref D) σ1 H1 Q
theorem pg_star1 {e1 e2 : Expr} {g g2 : TG} {k : Nat} {sp pos : Pos} (hc : X.calm = true) (h1 : PG X e1 g) (h2 : PG X e2 g2)
    (hs : assignEach [e1, .Starred e2 sp] X.env = [(false, assign e1 X.env), (true, assign e2 X.env)] := by rfl) : PG X (.Tuple [e1, .Starred e2 sp] k pos) (gStar1 X.K g g2) := by
  refine ⟨fun pins s σ H v u Q I r hw => ?_⟩
  obtain ⟨a, x, xs, rfl, hq, hl, hw⟩ := hw
  cases r
  obtain ⟨its, rv, ht, hz⟩ := I.tuple hq
  cases rv with
  | @cons _ u1 _ us r1 rr =>
    have hlen := Paired.length rr
    rw [assign_Tuple]
    refine wpAny_bind (wpAny_standAt ?_)
    unfold unpack
    rw [hs]
    refine wpAny_bind (wpAny_holding (unpack_head (I.ok.hd hc) ht (by omega) fun g1 tk kp => ?_))
    obtain ⟨hn, I1⟩ := laidG (o := .lst xs) (ob := { cls := .type "list", data := .seq us.toArray }) (tk := tk) I kp ⟨by rw [sizeLine_eq]; omega, us, 0, rr, Heap.get?_push_size _ rfl⟩
    refine assignInOrder_cons (thn (h1.run pins _ σ _ x u1 _ I1 r1 (hw _ hn)) fun _ s1 ⟨σ1, H1, J1, q1⟩ => ?_)
    exact assignInOrder_cons (thn (h2.run pins s1 σ1 H1 (.ref g1.objs.size) _ Q J1 rfl q1) fun _ s2 ⟨σ2, H2, J2, q2⟩ => assignInOrder_nil ⟨σ2, H2, J2, q2⟩)
end
end Ty
namespace Ty
open PySem PySem.Spec PyProof.Rows L2
section
variable {X : Cx}
/-- the turned text -/
def revS (z : Str) : Str := ⟨z.cps.toList.reverse.toArray⟩
theorem revS_is (z : Str) (u : Tok) : Txt.sliceBy z none none (-1, u) = revS z := by
  have h := step_rev_list z u
  apply str_of_list
  rw [h]
  show _ = z.cps.toList.reverse.toArray.toList
  rw [List.toList_toArray]
  apply List.ext_getElem
  · simp [Str.length]
  · intro i h1 h2
    have h3 : i < z.cps.size := by simpa using h2
    have h4 : z.cps.size - 1 - i < z.cps.size := by omega
    simp [Str.length, Array.getD, h4]
/-- the parts of [::-1], evaluated -/
theorem part_back {σ : L2.St} {H : Hp} {pins : List (Addr × Obj)} {s : Shared} {k : Nat} {p1 p2 : Pos} (I : Inv X pins σ H s) {Q : Value → Shared → Prop}
    (h : ∀ (vs : Value) (u : Tok) (s4 : Shared), vs = .int (-1) u → Inv X pins σ H s4 → Q vs s4) : wpAny (model X.prog X.w) X.A (evalPart (some (.UnaryOp .USub (.Constant (.int 1) k p1) p2)) X.env) Q X.xe s := by
  have hst : PO X (some (.UnaryOp .USub (.Constant (.int 1) k p1) p2)) (tPart (tUn (rU fun i => .int (-i)) (tC (.int 1)))) := po_some (pe_un un_neg pe_int)
  refine thn (hst.run pins s σ H (fun o H4 => o = some (-1) ∧ H4 = H) I ⟨1, rfl, -1, rfl, rfl, rfl⟩) fun v s4 hv => ?_
  obtain ⟨o, H4, I4, ps, rfl, rfl⟩ := hv
  cases ps with
  | int i t => exact h _ t s4 rfl I4
/-- e[::-1] of a text -/
def tRevS (te : TE) : TE := fun σ H Q => te σ H fun x H1 => ∃ z, x = .str z ∧ z.length ≤ sizeLine ∧ Q (.str (revS z)) H1
theorem pe_revS {e : Expr} {te : TE} {k : Nat} {p1 p2 p3 pos : Pos} (he : PE X e te) : PE X (.Subscript e (.Slice none none (some (.UnaryOp .USub (.Constant (.int 1) k p1) p2)) p3) pos) (tRevS te) := by
  refine ⟨fun pins s σ H Q I h => ?_⟩
  refine Subscript_ (thn (he.run pins s σ H _ I h) fun v s1 hv => ?_)
  obtain ⟨x, H1, I1, r1, z, rfl, hz, q⟩ := hv
  obtain ⟨t, rfl⟩ := r1
  refine wpAny_Slice (thn (po_none.run pins s1 σ H1 (fun o H2 => o = none ∧ H2 = H1) I1 ⟨rfl, rfl⟩) fun vl s2 hv => ?_)
  obtain ⟨o1, H2, I2, pl, rfl, rfl⟩ := hv
  refine thn (po_none.run pins s2 σ H2 (fun o H3 => o = none ∧ H3 = H2) I2 ⟨rfl, rfl⟩) fun vu s3 hv => ?_
  obtain ⟨o2, H3, I3, pu, rfl, rfl⟩ := hv
  refine part_back I3 fun vs u s4 ev I4 => ?_
  subst ev
  cases pl
  cases pu
  have I5 : Inv X pins σ H3 { s4 with heap := s4.heap.push { cls := .type "slice", data := .fields #[.none, .none, .int (-1) u] } } := I4.kept (t' := s4.toks) fun b ob q => Heap.get?_push_of_some _ q
  refine tail_any (ops := [.ref s4.heap.objs.size, .str z t]) (typeIs_str _ z t) F.slot_str_getitem.lookup ?_ (by with_unfolding_all rfl)
  refine wpAny_getItem_str_slice (l := none) (u := none) (st := some (-1, u)) ⟨_, Heap.get?_push_size _ rfl, rfl, rfl⟩ rfl ?_
  refine post_val_or_str ⟨?_, fun t' c => ?_⟩
  · exact Nat.le_trans (Txt.sliceBy_le z none none (-1, u) (show (-1 : Int) ≠ 0 by decide)) hz
  · exact ⟨.str (revS z), H3, I5.tok c, ⟨t', by rw [← revS_is z u]; rfl⟩, q⟩
/-! ### a tuple turned round -/
theorem filterMap_same {α β : Type} {f g : α → Option β} : ∀ (l : List α), (∀ x ∈ l, f x = g x) → l.filterMap f = l.filterMap g
  | [], _ => rfl
  | x :: l, h => by
    rw [List.filterMap_cons, List.filterMap_cons, h x List.mem_cons_self, filterMap_same l fun y hy => h y (List.mem_cons_of_mem _ hy)]
theorem places_back (n : Nat) : Builtin.Slice.slicePlaces ((n : Int) - 1) (-1) (-1) = n := by
  unfold Builtin.Slice.slicePlaces
  rw [if_neg (by decide)]
  by_cases h : (n : Int) - 1 > -1
  · rw [if_pos h]
    have e : (-(-1 : Int)) = 1 := rfl
    rw [e, Int.ediv_one]
    omega
  · rw [if_neg h]
    omega
theorem pick_back {α : Type} (l : List α) : ((List.range l.length).filterMap fun (k : Nat) => l.toArray[((l.length : Int) - 1 + (k : Int) * (-1)).toNat]?) = l.reverse := by
  have e : ((List.range l.length).filterMap fun (k : Nat) => l.toArray[((l.length : Int) - 1 + (k : Int) * (-1)).toNat]?) = ((List.range l.length).map fun k => l.length - 1 - k).filterMap (l[·]?) := by
    rw [List.filterMap_map]
    refine filterMap_same _ fun k hk => ?_
    have hk' := List.mem_range.mp hk
    have : ((l.length : Int) - 1 + (k : Int) * (-1)).toNat = l.length - 1 - k := by omega
    rw [this]
    simp
  have z := PySem.W.krv_all l.toArray
  rw [e, PySem.W.krv_range, List.filterMap_reverse]
  have z2 : (List.range l.length).filterMap (l[·]?) = l := by
    simpa using z
  rw [z2]
theorem getItem_tuple_back {prog : Program} {w : World} {A : Around} {E : Value → Shared → Prop} {s : Shared} {t sl : Addr} {items : List Value} {u : Tok} {Q : Value → Shared → Prop} (ht : IsTup s.heap t items.toArray) (hs : s.heap.IsSliceOf sl .none .none (.int (-1) u))
    (h : Q (.ref s.heap.objs.size) { s with heap := s.heap.push { cls := .type "tuple", data := .seq items.reverse.toArray } }) (hsz : items.length ≤ sizeLine) : wpAny (model prog w) A (getItem (.ref t) (.ref sl)) Q E s := by
  obtain ⟨os, hos, hcs, hds⟩ := id hs
  have hTs : s.TypeIs (.ref sl) "slice" := ⟨os, hos, hcs⟩
  unfold getItem
  try with_reducible refine wpAny_holding ?_
  refine wpAny_bind (wpAny_sequenceKey ht.typeIs (by decide) ?_)
  refine wpAny_bind (wpAny_callSpecial?_slot (name := Str.ofString "__getitem__") ht.typeIs PyProof.Rows.slot_tuple_getitem
    (wpAny_call_entry PyProof.Rows.slot_tuple_getitem ht.typeIs entry_tuple_getitem ?_ (args_tuple_getitem _ _)))
  show wpAny _ _ (Builtin.Tuple.tupleItemsOf (.ref t) >>= _) _ _ s
  refine wpAny_bind (tupleItemsOf_ ht ?_)
  refine wpAny_bind (wpAny_typeOf hTs ?_)
  rw [if_pos (by decide)]
  have hap : wpAny (model prog w) A.in1 (Builtin.Slice.sliceApplied (.ref sl) (pure (items.toArray.size : Int))) (fun r s' => r = ((items.length : Int) - 1, -1, items.length) ∧ s' = s) E s := by
    unfold Builtin.Slice.sliceApplied Builtin.Slice.sliceFields
    refine wpAny_bind (wpAny_bind (wpAny_field hos hds (x := .none) rfl (wpAny_bind (wpAny_field hos hds (x := .none) rfl (wpAny_bind (wpAny_field hos hds (x := .int (-1) u) rfl (wpAny_pure ?_)))))))
    refine wpAny_bind (HT.slicePart_ (.int (-1) u) ?_)
    show wpAny _ _ (if ((-1 : Int) == 0) = true then _ else _) _ _ s
    rw [if_neg (by decide)]
    refine wpAny_bind (HT.slicePart_ .none (wpAny_bind (HT.slicePart_ .none (wpAny_bind (wpAny_pure (wpAny_pure ⟨?_, rfl⟩))))))
    show (((items.toArray.size : Int) - 1, (-1 : Int), Builtin.Slice.slicePlaces ((items.toArray.size : Int) - 1) (-1) (-1)) : Int × Int × Nat) = _
    rw [List.size_toArray, places_back]
  refine wpAny_bind (wpAny_mono hap (fun r s' hr => ?_) fun _ _ x => x)
  obtain ⟨rfl, rfl⟩ := hr
  show wpAny _ _ (if (((items.length : Int) - 1 == 0 && (-1 : Int) == 1 && items.length == items.toArray.size) = true) then _ else _) _ _ s'
  rw [if_neg (by simp)]
  rw [show ((List.range items.length).filterMap fun (k : Nat) => items.toArray[((items.length : Int) - 1 + (k : Int) * (-1)).toNat]?) = items.reverse from pick_back items]
  have hsz' : sizeOk (.seq items.reverse.toArray) := by
    show items.reverse.toArray.size ≤ sizeLine
    rw [List.size_toArray, List.length_reverse]
    exact hsz
  first
    | exact wpAny_bind (m := Builtin.Tuple.tupleExact _) (wpAny_newObj_type (wpAny_pure ⟨_, rfl, wpAny_pure h⟩) hsz')
    | exact wpAny_bind (m := Builtin.Tuple.tupleExact _) (wpAny_newObj_type (wpAny_bind (wpAny_pure (wpAny_pure ⟨_, rfl, wpAny_pure h⟩))) hsz')
end
end Ty
namespace Ty
open PySem PySem.Spec PyProof.Rows L2
/-! ### zip of two texts, walked by a target of several names -/
def ItzS (x y : Str) : It :=
  ⟨fun i _ => i < min x.cps.size y.cps.size,
    fun i H v H' => ∃ T c d, v = .ref T ∧ H T = none ∧ H' = upd H T (.tup [.str ⟨#[c]⟩, .str ⟨#[d]⟩]) ∧ x.cps[i]? = some c ∧ y.cps[i]? = some d,
    fun i _ => i = min x.cps.size y.cps.size⟩
/-- the zip's cells at turn i -/
def zsAt (z TI TO i1 i2 : Addr) (x y : Str) (t u : Tok) (i : Nat) (h : Heap) : Prop :=
  IsZip h z TI TO .none ∧ IsTupOf2 h TI (.ref i1) (.ref i2) ∧ (∃ a1 a2, IsTupOf2 h TO a1 a2) ∧ h.IsStrIter i1 (strIterType x) x t i ∧ h.IsStrIter i2 (strIterType y) y u i
theorem zs_walks {P : Program} {w : World} {A : Around} (hh : A.handled = none) {z TI TO i1 i2 : Addr} (S : ZipSep2 z TI TO i1 i2 [i1] [i2]) (x y : Str) (t u : Tok) :
    WalksT P w A z (z :: TI :: TO :: ([i1] ++ [i2])) [z, TO, i1, i2] (min x.cps.size y.cps.size)
      (fun i vals => ∃ v1 v2, (∃ c k, x.cps[i]? = some c ∧ v1 = .str ⟨#[c]⟩ k) ∧ (∃ c k, y.cps[i]? = some c ∧ v2 = .str ⟨#[c]⟩ k) ∧ vals = #[v1, v2]) (zsAt z TI TO i1 i2 x y t u)
      (fun i T h => IsZip h z TI TO (rawInt T) ∧ IsTupOf2 h TI (.ref i1) (.ref i2) ∧ (∃ a1 a2, IsTupOf2 h TO a1 a2) ∧ h.IsStrIter i1 (strIterType x) x t (i + 1) ∧ h.IsStrIter i2 (strIterType y) y u (i + 1) ∧ T ≠ z ∧ T ≠ TO ∧ T ≠ i1 ∧ T ≠ i2) :=
  WalksT.zipD2 S (Draws.text (A := A.in1) hh i1 x t) (Draws.text (A := A.in1) hh i2 y u)
theorem five_le {n c : Nat} (h : c = n + 4 ∨ c = n + 2 ∨ c = n + 3 ∨ c = n ∨ c = n + 1) : n ≤ c := by omega
theorem sep_nat (n : Nat) : ZipSep2 (n + 4) (n + 2) (n + 3) n (n + 1) [n] [n + 1] := by
  constructor <;> simp <;> omega
theorem sep_new (n : Addr) : ZipSep2 (n + 4) (n + 2) (n + 3) n (n + 1) [n] [n + 1] := sep_nat n
theorem turn_zipS {P : Program} {w : World} {K : PySem.W.Frag} {elts : List Expr} {kk : Nat} {tpos : Pos} {z TI TO i1 i2 : Addr} (S : ZipSep2 z TI TO i1 i2 [i1] [i2]) (x y : Str) (t u : Tok) :
    Turn P w K (.Tuple elts kk tpos) (ItzS x y) (z :: TI :: TO :: ([i1] ++ [i2])) z (zsAt z TI TO i1 i2 x y t u) where
  mem := List.mem_cons_self
  obj := fun i h st c hc => by
    obtain ⟨hz, hTI, ⟨a, b, hTO⟩, ⟨o1, e1, _, d1⟩, ⟨o2, e2, _, d2⟩⟩ := st
    have hc' : c = z ∨ c = TI ∨ c = TO ∨ c = i1 ∨ c = i2 := by simpa using hc
    rcases hc' with rfl | rfl | rfl | rfl | rfl
    · exact ⟨_, hz, fun v q => nomatch q⟩
    · exact ⟨_, hTI, fun v q => nomatch q⟩
    · exact ⟨_, hTO, fun v q => nomatch q⟩
    · exact ⟨o1, e1, fun v q => by rw [d1] at q; cases q⟩
    · exact ⟨o2, e2, fun v q => by rw [d2] at q; cases q⟩
  keep := fun i h h' st k => by
    obtain ⟨hz, hTI, ⟨a, b, hTO⟩, ⟨o1, e1, r1⟩, ⟨o2, e2, r2⟩⟩ := st
    exact ⟨k z (by simp) _ hz, k TI (by simp) _ hTI, ⟨a, b, k TO (by simp) _ hTO⟩, ⟨o1, k i1 (by simp) _ e1, r1⟩, ⟨o2, k i2 (by simp) _ e2, r2⟩⟩
  item := by
    intro X hP hw hK hc i pins s σ H E I hf st hg
    subst hP hw hK
    have W := zs_walks (P := X.prog) (w := X.w) (A := X.A) (I.ok.hd hc) S x y t u
    refine W.item i s _ _ hg st fun T vals g tk pt hT isT mid kp => ⟨_, rfl, ?_⟩
    refine W.go elts kk tpos i T { s with heap := g, toks := tk } _ _ mid fun g2 st2 kp2 => ?_
    obtain ⟨v1, v2, ⟨c, k1, ec, rfl⟩, ⟨d, k2, ed, rfl⟩, rfl⟩ := pt
    have hap := W.apart i T g mid
    have sub : ∀ b, b ∉ (z :: TI :: TO :: ([i1] ++ [i2])) → b ∉ [z, TO, i1, i2] := fun b hb q => hb (W.sub b q)
    obtain ⟨oT, eT, cT, nT, dT⟩ := isT
    have new : ObjOk X.prog X.w (upd H T (.tup [.str ⟨#[c]⟩, .str ⟨#[d]⟩])) g2 T (.tup [.str ⟨#[c]⟩, .str ⟨#[d]⟩]) :=
      ⟨by show 2 ≤ sizeLine; decide, [.str ⟨#[c]⟩ k1, .str ⟨#[d]⟩ k2], .cons ⟨k1, rfl⟩ (.cons ⟨k2, rfl⟩ .nil), oT, kp2 T oT hap eT, cT, nT, dT⟩
    have I1 := I.turnedNew (t' := tk) (h' := g2) (fun b o hb e => kp2 b o (sub b hb) (kp b o (sub b hb) e)) hf hT new
    refine ⟨.ref T, _, I1, rfl, ⟨T, c, d, rfl, I.hok.fresh hT, rfl, ec, ed⟩, st2, fun b hb => ?_⟩
    have hlt : b < s.heap.objs.size := by
      obtain ⟨hz, hTI, ⟨a1, a2, hTO⟩, ⟨o1, e1, _⟩, ⟨o2, e2, _⟩⟩ := st
      have hb' : b = z ∨ b = TI ∨ b = TO ∨ b = i1 ∨ b = i2 := by simpa using hb
      rcases hb' with rfl | rfl | rfl | rfl | rfl
      · exact Heap.lt_size hz
      · exact Heap.lt_size hTI
      · exact Heap.lt_size hTO
      · exact Heap.lt_size e1
      · exact Heap.lt_size e2
    rw [upd_ne (Nat.ne_of_lt (Nat.lt_of_lt_of_le hlt hT))]
    exact (hf b hb).1
  done := by
    intro X hP hw hK hc i pins s σ H E I hf st hg
    subst hP hw hK
    have W := zs_walks (P := X.prog) (w := X.w) (A := X.A) (I.ok.hd hc) S x y t u
    have hg' : i = min x.cps.size y.cps.size := hg
    subst hg'
    exact W.done s _ _ st fun g tk kp => ⟨rfl, I.turnedL (t' := tk) (fun b o hb e => kp b o (fun q => hb (W.sub b q)) e) hf⟩
  self := fun A i s Q E st h => wpAny_pyIter_zip st.1 h
def iZipS (ta : TA) : TI := fun σ H R => ta σ H fun vs H1 => ∃ x y, vs = [.str x, .str y] ∧ R (ItzS x y) H1
theorem pi_zipS {X : Cx} {e e2 : Expr} {ta : TA} {p pos tpos : Pos} {elts : List Expr} {kk : Nat} (hg : Gl X "zip") (hm : X.mg "zip" = none) (ha : PA X [e, e2] ta)
    (hs : starEach [e, e2] X.env = (false, eval e X.env) :: starEach [e2] X.env := by rfl) (hpl : (backTo pos (starEach [e2] X.env)).any (·.1) = false := by rfl) :
    PI X (.Tuple elts kk tpos) (.Call (.Name "zip" p) [e, e2] [] pos) (iZipS ta) := by
  refine ⟨fun pins s σ H R I h => ?_⟩
  refine Call_ (ld_blt I hg hm PyProof.Rows.boot_zip (PyProof.Rows.callWith_type1 (thn (ha.run pos pins s σ H _ I h) fun us s1 hv => ?_) hs hpl))
  obtain ⟨vs, H1, I1, r1, x, y, rfl, q⟩ := hv
  obtain ⟨u1, u2, rfl, q1, q2⟩ := vals2 r1
  obtain ⟨t, rfl⟩ := q1
  obtain ⟨u, rfl⟩ := q2
  refine zip_begins2 (begins_text x t) (begins_text y u) trivial trivial fun g hz hTI hTO h1 h2 hsz kp => wpAny_pyIter_zip hz ?_
  have I2 : Inv X pins σ H1 { s1 with heap := g } := I1.kept (t' := s1.toks) kp
  have S : ZipSep2 (s1.heap.objs.size + 4) (s1.heap.objs.size + 2) (s1.heap.objs.size + 3) s1.heap.objs.size (s1.heap.objs.size + 1) [s1.heap.objs.size] [s1.heap.objs.size + 1] := sep_new _
  refine ⟨s1.heap.objs.size + 4, _, _, _, H1, rfl, I2, turn_zipS S x y t u, ⟨hz, hTI, ⟨_, _, hTO⟩, ⟨_, h1, rfl, rfl⟩, ⟨_, h2, rfl, rfl⟩⟩, fun c hc => ?_, q⟩
  have hle : s1.heap.objs.size ≤ c := by
    have hc' : c = s1.heap.objs.size + 4 ∨ c = s1.heap.objs.size + 2 ∨ c = s1.heap.objs.size + 3 ∨ c = s1.heap.objs.size ∨ c = s1.heap.objs.size + 1 := by simpa using hc
    exact five_le hc'
  exact I1.fpOk hle (I1.hok.fresh hle)
end Ty
/-! sets of keys of any kind as they are made from a list, and sorted: own text -/
namespace Ty
open PySem PySem.Spec PyProof.Rows L2
section
variable {P : Program} {w : World} {K : Type} [DecidableEq K] [BEq K] [LawfulBEq K]
/-- an entry of a key -/
def EntOf (knd : PySem.KeyKind P w K) (e : Int × Value) (k : K) : Prop := knd.is k e.2 = true ∧ e.1 = knd.hash k ∧ e.2.scannable = true
theorem paired_perm {α β : Type} {R : α → β → Prop} {l l' : List α} (p : l'.Perm l) : ∀ {ks : List β}, Paired R l ks → ∃ ks', Paired R l' ks' ∧ ks'.Perm ks := by
  induction p with
  | nil => exact fun h => ⟨_, h, .refl _⟩
  | cons x _ ih =>
    intro ks h
    cases h with
    | cons r t =>
      obtain ⟨ks', h1, h2⟩ := ih t
      exact ⟨_, .cons r h1, h2.cons _⟩
  | swap x y l =>
    intro ks h
    cases h with
    | cons r t =>
      cases t with
      | cons r' t' => exact ⟨_, .cons r' (.cons r t'), .swap ..⟩
  | trans _ _ ih1 ih2 =>
    intro ks h
    obtain ⟨k1, h1, p1⟩ := ih2 h
    obtain ⟨k2, h2, p2⟩ := ih1 h1
    exact ⟨k2, h2, p2.trans p1⟩
theorem paired_left {α β : Type} {R : α → β → Prop} : ∀ {l : List α} {ks : List β}, Paired R l ks → ∀ x ∈ l, ∃ k ∈ ks, R x k
  | _, _, .nil, _, h => nomatch h
  | _, _, .cons r t, x, h => by
    rcases List.mem_cons.mp h with e | h
    · subst e
      exact ⟨_, List.mem_cons_self, r⟩
    · obtain ⟨k, h1, h2⟩ := paired_left t x h
      exact ⟨k, List.mem_cons_of_mem _ h1, h2⟩
theorem paired_right {α β : Type} {R : α → β → Prop} : ∀ {l : List α} {ks : List β}, Paired R l ks → ∀ k ∈ ks, ∃ x ∈ l, R x k
  | _, _, .nil, _, h => nomatch h
  | _, _, .cons r t, x, h => by
    rcases List.mem_cons.mp h with e | h
    · subst e
      exact ⟨_, List.mem_cons_self, r⟩
    · obtain ⟨k, h1, h2⟩ := paired_right t x h
      exact ⟨k, List.mem_cons_of_mem _ h1, h2⟩
/-- the set at a has just the keys L, each once -/
def SetG (knd : PySem.KeyKind P w K) (h : Heap) (a : Addr) (L : List K) : Prop :=
  ∃ o es ep t ks, h.get? a = some o ∧ o.ExactSet ∧ o.data = .set es ep t ∧ Paired (EntOf knd) es.toList ks ∧ ks.Perm L ∧ L.Nodup ∧ es.size < scanBound ∧ t.fits es.size = true ∧ Ris t.place.toList ∧
    (w.params.followText "set-order" = true ∨ t.led = true)
variable {knd : PySem.KeyKind P w K}
theorem SetG.at {h h' : Heap} {a : Addr} {L : List K} (R : SetG knd h a L) (k : ∀ o, h.get? a = some o → h'.get? a = some o) : SetG knd h' a L := by
  obtain ⟨o, es, ep, t, ks, ho, r⟩ := R
  exact ⟨o, es, ep, t, ks, k o ho, r⟩
theorem ents_elems {l : List (Int × Value)} {ks : List K} (p : Paired (EntOf knd) l ks) : ElemsOf knd l := fun e he => by
  obtain ⟨k, _, h1, h2, h3⟩ := paired_left p e he
  exact ⟨⟨k, h1, h2⟩, h3⟩
/-- one more key -/
def addK (L : List K) (k : K) : List K := if k ∈ L then L else k :: L
section
variable {A : Around} {E : Value → Shared → Prop} {s : Shared} {a : Addr} {L : List K}
theorem setG_tail {g : Bool → Sem Unit} (hg : ∀ (b : Bool) (s₁ : Shared) (Q' : Unit → Shared → Prop), Q' () s₁ → wpAny (model P w) A (g b) Q' E s₁)
    {o : Obj} {es : Array (Int × Value)} {ep : Nat} {t : SetTable} (ho : s.heap.get? a = some o) (hex : o.ExactSet) (hd : o.data = .set es ep t)
    {es1 : Array (Int × Value)} {t2 : SetTable} {ks : List K} (g1 : Paired (EntOf knd) es1.toList ks) (pm1 : ks.Perm L) (nd : L.Nodup)
    (hb1 : es1.size < scanBound) (hf2 : t2.fits es1.size = true) (hr : Ris t2.place.toList) (hl : w.params.followText "set-order" = true ∨ t2.led = true) {wasDummy : Bool} {R : Option Bool → Shared → Prop}
    (hR : ∀ h', Heap.SameBut a s.heap h' → SetG knd h' a L → R (some true) { s with heap := h' }) :
    wpAny (model P w) A (do
        storeSet a es1 t2
        if (!wasDummy && t2.tooFull) = true then do
            g (relayAll t2 es1 (SetTable.grown es1.size)).2.2
            storeSet a (relayAll t2 es1 (SetTable.grown es1.size)).1 (relayAll t2 es1 (SetTable.grown es1.size)).2.1
            pure (some true)
          else pure (some true)) R E s := by
  have at1 := store_at (es' := es1) (t' := t2) ho hd
  have same1 := Heap.SameBut.update s.heap a (Obj.putSet es1 t2)
  refine wpAny_bind (wpAny_storeSet_of ho hd ?_ (fits_of_scanBound hb1))
  by_cases hc : (!wasDummy && t2.tooFull) = true
  · rw [if_pos hc]
    have pm := relayAll_perm t2 es1 (SetTable.grown es1.size)
    have f3 := relayAll_fits t2 es1 (SetTable.grown es1.size)
    have r3 := relayAll_ris t2 es1 (SetTable.grown es1.size)
    have l3 := relayAll_led t2 es1 (SetTable.grown es1.size)
    generalize relayAll t2 es1 (SetTable.grown es1.size) = Z at pm f3 r3 l3 ⊢
    have sz : Z.1.size = es1.size := by rw [← Array.length_toList, pm.length_eq, Array.length_toList]
    have b2 : Z.1.size < scanBound := by rw [sz]; exact hb1
    obtain ⟨ks2, q1, q2⟩ := paired_perm pm g1
    refine wpAny_bind (hg _ _ _ (wpAny_bind (wpAny_storeSet_of at1 rfl (wpAny_pure (hR _ (same1.trans (Heap.SameBut.update _ a _)) ?_)) (fits_of_scanBound b2))))
    exact ⟨_, Z.1, _, Z.2.1, ks2, store_at (es' := Z.1) (t' := Z.2.1) at1 rfl, hex, rfl, q1, q2.trans pm1, nd, b2, f3, r3, hl.imp id fun z => by rw [l3]; exact z⟩
  · rw [if_neg hc]
    exact wpAny_pure (hR _ same1 ⟨_, es1, _, t2, ks, at1, hex, rfl, g1, pm1, nd, hb1, hf2, hr, hl⟩)
theorem setG_add_hashed {k : K} {x : Value} {Q : Bool → Shared → Prop} (hkey : knd.is k x = true) (hsc : x.scannable = true) (R : SetG knd s.heap a L) (room : L.length + 1 < scanBound)
    (hQ : ∀ h' b, Heap.SameBut a s.heap h' → SetG knd h' a (addK L k) → Q b { s with heap := h' }) :
    wpAny (model P w) A (setAddHashed a x (knd.hash k)) Q E s := by
  obtain ⟨o, es, ep, t, ks, ho, hex, hd, g, pm0, nd, hb, hf, hr, hl⟩ := R
  have hel : ElemsOf knd es.toList := ents_elems g
  have hlen : es.size = L.length := by rw [← Array.length_toList, Paired.length g, pm0.length_eq]
  unfold setAddHashed setAddHashedIn
  refine wpAny_holding (wpAny_bind (wpAny_setState_of ho hd hf ?_))
  dsimp only
  rw [byScan_of hsc hb hel]
  simp only [↓reduceIte]
  unfold setAddByScan
  refine wpAny_bind ?_
  refine wpAny_bind (wpAny_rule ?_)
  refine wpAny_bind (wpAny_setScan_of hkey ho hd hf hel ?_)
  cases hfi : List.findIdx? (fun e => knd.is k e.2) es.toList with
  | some j =>
    dsimp only
    obtain ⟨hj, pj, _⟩ := List.findIdx?_eq_some_iff_getElem.mp hfi
    obtain ⟨k', hk', e1, _⟩ := paired_left g es.toList[j] (List.getElem_mem hj)
    have ek : k' = k := knd.inj _ _ _ e1 pj
    subst ek
    refine wpAny_pure (wpAny_pure (hQ s.heap _ (Heap.SameBut.refl a s.heap) ?_))
    unfold addK
    rw [if_pos (pm0.mem_iff.mp hk')]
    exact ⟨o, es, ep, t, ks, ho, hex, hd, g, pm0, nd, hb, hf, hr, hl⟩
  | none =>
    dsimp only
    have hnk : k ∉ L := fun z => by
      obtain ⟨e, he, q, _⟩ := paired_right g k (pm0.mem_iff.mpr z)
      have c := List.findIdx?_eq_none_iff.mp hfi e he
      rw [q] at c
      cases c
    have eL : addK L k = k :: L := if_neg hnk
    have hgw : ∀ (b : Bool) {s₁ : Shared} {Q' : Unit → Shared → Prop}, Q' () s₁ → wpAny (model P w) A (match b with | true => rule "set.scan.the-table-gave-way" | false => pure ()) Q' E s₁ :=
      fun b s₁ Q' q => by cases b <;> first | exact wpAny_pure q | exact wpAny_rule q
    have pm := layNew_perm t es (knd.hash k) x
    have f1 := layNew_fits t es (knd.hash k) x
    have r1 := layNew_ris t es (knd.hash k) x hr
    have l1 := layNew_led t es (knd.hash k) x
    generalize layNew t es (knd.hash k) x = Z at pm f1 r1 l1 ⊢
    obtain ⟨es1, t1, wasDummy, gave⟩ := Z
    dsimp only at pm f1 r1 l1 ⊢
    rw [Array.toList_push] at pm
    obtain ⟨ks1, g1, p1⟩ := paired_perm (pm.trans (List.perm_append_singleton _ _)) (Paired.cons (⟨hkey, rfl, hsc⟩ : EntOf knd (knd.hash k, x) k) g)
    have pL : ks1.Perm (addK L k) := by rw [eL]; exact p1.trans (pm0.cons k)
    have ndL : (addK L k).Nodup := by rw [eL]; exact List.nodup_cons.mpr ⟨hnk, nd⟩
    have hb1 : es1.size < scanBound := by
      have : es1.size = L.length + 1 := by rw [← Array.length_toList, Paired.length g1, p1.length_eq, List.length_cons, pm0.length_eq]
      omega
    have hled : w.params.followText "set-order" = true ∨ t1.led = true := hl.imp id fun z => by rw [l1]; exact z
    refine wpAny_bind (hgw _ ?_)
    split
    · refine wpAny_bind ?_
      rw [hashByValue_scannable 8 hsc]
      refine wpAny_pure ?_
      refine setG_tail ?_ ho hex hd g1 pL ndL hb1 ?_ ?_ ?_ fun h' sb r => ?_
      · intro b s₁ Q' q; cases b <;> first | exact wpAny_pure q | exact wpAny_rule q
      · first | (split <;> first | exact f1 | exact SetTable.fits_plain_off f1) | exact f1
      · first | (split <;> exact r1) | exact r1
      · first | (split <;> exact hled) | exact hled
      · dsimp only; exact wpAny_pure (hQ h' _ sb r)
    · refine wpAny_bind (wpAny_pure ?_)
      simp only [↓reduceIte]
      refine setG_tail ?_ ho hex hd g1 pL ndL hb1 f1 r1 hled fun h' sb r => ?_
      · intro b s₁ Q' q; cases b <;> first | exact wpAny_pure q | exact wpAny_rule q
      · dsimp only; exact wpAny_pure (hQ h' _ sb r)
/-- the keys of a list, one after another put in -/
def gather (L : List K) (ks : List K) : List K := ks.foldl addK L
theorem addK_len (L : List K) (k : K) : (addK L k).length ≤ L.length + 1 := by
  unfold addK
  split
  · omega
  · simp
theorem mem_addK {L : List K} {k j : K} : j ∈ addK L k ↔ j ∈ L ∨ j = k := by
  unfold addK
  split
  · rename_i h
    exact ⟨.inl, fun z => z.elim id fun e => e ▸ h⟩
  · rw [List.mem_cons]
    exact Or.comm
theorem mem_gather {j : K} : ∀ {ks L : List K}, j ∈ gather L ks ↔ j ∈ L ∨ j ∈ ks
  | [], L => by simp [gather]
  | k :: ks, L => by
    show j ∈ gather (addK L k) ks ↔ _
    rw [mem_gather, mem_addK, List.mem_cons, or_assoc]
theorem gather_len : ∀ (ks L : List K), (gather L ks).length ≤ L.length + ks.length
  | [], L => by simp [gather]
  | k :: ks, L => by
    have h1 := gather_len ks (addK L k)
    have h2 := addK_len L k
    show (gather (addK L k) ks).length ≤ _
    rw [List.length_cons]
    omega
theorem setG_loop {R : Result → Shared → Prop} {I : Addr} {fp wr : List Addr} {G : Array GenState → Array GenState → Prop} {n : Nat} {Pv : Nat → Value → Prop} {St : Nat → Shared → Prop} (W : WalksS P w A.in1 I fp wr G n Pv St) (T : Addr) (hT : T ∉ fp)
    (ks : List K) (hn : ks.length = n) (hval : ∀ i v, Pv i v → ∃ k, ks[i]? = some k ∧ knd.is k v = true ∧ v.scannable = true) :
    ∀ (m i : Nat) (L : List K) (s : Shared), n - i = m → i ≤ n → St i s → L.length + m + 1 < scanBound → SetG knd s.heap T L →
      (∀ s', Moved (T :: wr) G s s' → SetG knd s'.heap T (gather L (ks.drop i)) → R (.ok (.ret .none)) s') →
      codeAny (model P w) A (.builtin "set.update.loop" ⟨[.ref T, .ref I], []⟩) R s := by
  have hTw : T ∉ wr := fun h => hT (W.sub _ h)
  have up : ∀ b ∈ wr, b ∈ T :: wr := fun b hb => List.mem_cons_of_mem _ hb
  intro m
  induction m with
  | zero =>
    intro i L s hm hi st hb hS hR
    obtain rfl : i = n := by omega
    refine codeAny_builtin F.entry_set_update_loop ?_
    rw [Around.under_plainId F.plain_set_update_loop _]
    show wpAny _ A.in1 (pyNext (.ref I) >>= _) _ _ s
    refine wpAny_bind (W.done s _ _ st fun s' mv => ?_)
    show wpAny _ A.in1 (ret Value.none) _ _ s'
    refine wpAny_pure (hR s' (mv.mono up) ?_)
    rw [List.drop_of_length_le (by omega)]
    exact hS.at fun o e => mv.heap T o hTw e
  | succ m ih =>
    intro i L s hm hi st hb hS hR
    have hlt : i < n := by omega
    refine codeAny_builtin F.entry_set_update_loop ?_
    rw [Around.under_plainId F.plain_set_update_loop _]
    show wpAny _ A.in1 (pyNext (.ref I) >>= _) _ _ s
    refine wpAny_bind (W.item i s _ _ hlt st fun v s1 hP st1 mv => ?_)
    obtain ⟨k, ek, hkey, hsc⟩ := hval i v hP
    have hS1 : SetG knd s1.heap T L := hS.at fun o e => mv.heap T o hTw e
    show wpAny _ A.in1 (holding [v] (setAdd T v) >>= _) _ _ s1
    refine wpAny_bind (wpAny_holding ?_)
    unfold setAdd
    refine wpAny_holding (wpAny_bind (knd.pyHash hkey ?_))
    refine setG_add_hashed (s := { s1 with toks := s1.toks + 1 }) hkey hsc hS1 (by omega) fun g b sb hS2 => ?_
    have hb2 := addK_len L k
    refine wpAny_pure ⟨plainId_quiet F.plain_set_update_loop _, ih (i + 1) (addK L k) _ (by omega) hlt (W.frame _ s1 _ _ st1 (Nat.le_succ _) fun c hc o e => ?_) (by omega) hS2 fun s2 mv2 hS3 => ?_⟩
    · rw [sb.2 c (fun h : c = T => hT (by rw [← h]; exact hc))]; exact e
    · refine hR s2 (Moved.trans W.gtrans ((mv.mono up).then_heap (Nat.le_succ _) fun c o hc e => ?_) mv2) ?_
      · rw [sb.2 c (fun h : c = T => hc (by rw [h]; exact List.mem_cons_self))]; exact e
      · have ed : ks.drop i = k :: ks.drop (i + 1) := by
          obtain ⟨hi', ek'⟩ := List.getElem?_eq_some_iff.mp ek
          rw [← ek']
          exact List.drop_eq_getElem_cons hi'
        rw [ed]
        exact hS3
end
end
end Ty
namespace Ty
open PySem PySem.Spec PyProof.Rows L2
section
variable {P : Program} {w : World} {K : Type} [DecidableEq K] [BEq K] [LawfulBEq K] {knd : PySem.KeyKind P w K}
variable {A : Around} {E : Value → Shared → Prop} {s : Shared}
theorem paired_at {α β : Type} {R : α → β → Prop} : ∀ {l : List α} {ks : List β}, Paired R l ks → ∀ (i : Nat) (x : α), l[i]? = some x → ∃ k, ks[i]? = some k ∧ R x k
  | _, _, .nil, i, x, h => by simp at h
  | _, _, .cons r t, 0, x, h => by
    simp at h
    subst h
    exact ⟨_, rfl, r⟩
  | _, _, .cons r t, i + 1, x, h => paired_at t i x (by simpa using h)
theorem setG_fresh {h : Heap} {a : Addr} (ho : h.get? a = some { cls := .type "set", dict := none, data := .set #[] 0 (.fresh 0 0 (!w.params.followText "set-order")) }) : SetG knd h a [] :=
  ⟨_, #[], 0, _, [], ho, ⟨rfl, rfl, rfl⟩, rfl, .nil, .refl _, .nil, by decide, rfl, List.Pairwise.nil, by
    show _ ∨ (!w.params.followText "set-order") = true
    cases w.params.followText "set-order"
    · exact .inr rfl
    · exact .inl rfl⟩
abbrev newSet (w : World) : Obj := { cls := .type "set", dict := none, data := .set #[] 0 (.fresh 0 0 (!w.params.followText "set-order")) }
theorem code_new_set1 (b : Value) {Q₁ : Value → Shared → Prop} (h : Q₁ (.ref s.heap.objs.size) { s with heap := s.heap.push (newSet w) }) :
    codeAny (model P w) A (.call (.builtin "set.__new__") ⟨[.type "set", b], []⟩) (wants Q₁ E) s := by
  refine codeAny_of_tree ?_
  show wpAny _ A.in1 (do checkBuiltinCall "set.__new__" ⟨[.type "set", b], []⟩; again (.builtin "set.__new__" ⟨[.type "set", b], []⟩)) _ _ s
  refine wpAny_bind (wpAny_of_eq (F.newCall_set_1 b) (wpAny_pure ⟨plainId_quiet F.plain_set_new _, codeAny_builtin F.entry_set_new ?_⟩))
  rw [Around.under_plainId F.plain_set_new _]
  unfold Builtin.«set.__new__» Builtin.Frozenset.newClass
  have hsub := sub_set_self
  obtain ⟨hp, g, d, tk, os⟩ := s
  dsimp only
  wp_walk
  refine wpAny_askSetting (wpAny_pure ?_)
  dsimp only
  simp only [newObj]
  exact wpAny_bind (wpAny_alloc (wpAny_pure (wpAny_pure h)))
set_option maxHeartbeats 3200000 in
/-- set(a list of keys) -/
theorem call_setL {l : Addr} {items : List Value} {ks : List K} {Q : Value → Shared → Prop} (hh : A.handled = none) (hl : s.heap.IsList l items.toArray) (hk : Paired (fun v k => knd.is k v = true ∧ v.scannable = true) items ks) (hb : items.length + 1 < scanBound)
    (h : ∀ (g : Heap) (tk : Nat), SetG knd g s.heap.objs.size (gather [] ks) → (∀ b o, s.heap.get? b = some o → g.get? b = some o) → Q (.ref s.heap.objs.size) { s with heap := g, toks := tk }) :
    wpAny (model P w) A (call (.type "set") [.ref l]) Q E s := by
  obtain ⟨c, tl, hmro⟩ := F.called_set.mro
  have hmade := F.called_set.made
  have hsub := F.called_set.sub
  refine wpAny_call (codeAny_of_tree ?_)
  show wpAny _ _ (callAny (.type "set") _) _ _ _
  refine wpAny_pure ⟨Code.quiet_builtin _ (by decide +kernel), codeAny_builtin F.entry_type_call ?_⟩
  rw [Around.under_plain (weight_type_call_type "set" [.ref l] []) rfl]
  have h1 := F.called_set.notType
  have h2 := F.called_set.canCreate
  have hct := F.typeCall_set_1 (.ref l)
  repeat (any_goals (first | assumption | wp_step))
  refine codeAny_mono (code_new_set1 (.ref l) (E := E) (Q₁ := fun obj s₁ => obj = .ref s.heap.objs.size ∧ s₁ = { s with heap := s.heap.push (newSet w) }) ⟨rfl, rfl⟩) fun r s₁ hr => ?_
  cases r with
  | error e => exact hr
  | ok fl =>
    cases fl with
    | next => exact hr.elim
    | brk => exact hr.elim
    | cont => exact hr.elim
    | ret obj =>
      obtain ⟨rfl, rfl⟩ := hr
      have hS : (s.heap.push (newSet w)).get? s.heap.objs.size = some (newSet w) := Heap.get?_push_size _ rfl
      have hT : Shared.TypeIs { s with heap := s.heap.push (newSet w) } (.ref s.heap.objs.size) "set" := ⟨_, hS, rfl⟩
      have hli := F.called_set.init.lookup
      have hbi := F.called_set.init.bind (.ref s.heap.objs.size)
      repeat (any_goals (first | assumption | wp_step))
      refine codeAny_mono (codeAny_call_builtin (R := wants (fun r s₂ => r = .none ∧ ∃ g tk, s₂ = { s with heap := g, toks := tk } ∧ SetG knd g s.heap.objs.size (gather [] ks) ∧ (∀ b o, s.heap.get? b = some o → g.get? b = some o)) E)
        F.called_set.init.plain F.entry_set_init (check_set_init_1 hT ?_)) fun r₂ s₂ hr₂ => ?_
      · obtain ⟨⟨ocls, odict, odata, oslots⟩, hol, hcl, nl, hdl⟩ := hl
        simp only at hcl hdl
        subst hcl hdl
        have hol' : (s.heap.push (newSet w)).get? l = some { cls := .type "list", dict := odict, data := .seq items.toArray nl, slots := oslots } := Heap.get?_push_of_some _ hol
        have hsls := F.sub_list_set
        have hslf := F.sub_list_frozenset
        have hne : (Value.type "list" == Value.type "dict") = false := by decide
        have hl1 : (s.heap.push (newSet w)).IsList l items.toArray := ⟨_, hol', rfl, nl, rfl⟩
        unfold Builtin.«set.__init__» noKeywords Builtin.Frozenset.updateFrom
        generalize hPI : pyIter = PI
        wp_walk
        subst hPI
        refine wpAny_pyIter_list hl1 (wpAny_bind (wpAny_runValue ?_))
        have hlS : l < s.heap.objs.size := Heap.lt_size hol
        have hh3 : A.in1.in1.in1.handled = none := by simp [hh]
        have z1 : (s.heap.push (newSet w)).objs.size = s.heap.objs.size + 1 := Heap.size_push ..
        have hneI : l ≠ (s.heap.push (newSet w)).objs.size := by rw [z1]; exact Nat.ne_of_lt (Nat.lt_succ_of_lt hlS)
        have hSf : s.heap.objs.size ∉ [(s.heap.push (newSet w)).objs.size, l] := by
          rw [z1]
          simp only [List.mem_cons, List.not_mem_nil, or_false, not_or]
          exact ⟨Nat.ne_of_lt (Nat.lt_succ_self _), Nat.ne_of_gt hlS⟩
        have hlen := Paired.length hk
        have hval : ∀ (i : Nat) (v : Value), items.toArray[i]? = some v → ∃ k, ks[i]? = some k ∧ knd.is k v = true ∧ v.scannable = true := fun i v hv => paired_at hk i v (by simpa using hv)
        refine setG_loop ((Walks.list hh3 _ l hneI items.toArray).toS) s.heap.objs.size hSf ks (by simp [hlen]) hval items.length 0 [] _ (by simp) (Nat.zero_le _)
          ⟨⟨_, Heap.get?_push_size _ rfl, rfl, rfl⟩, hl1.push _⟩ (by simpa using hb) (setG_fresh (Heap.get?_push_of_some _ hS)) fun s' hm hS' => ?_
        obtain ⟨g, g', d', tk', os'⟩ := s'
        have eg : g' = s.gens := hm.gens
        have ed : d' = s.drawn := hm.drawn
        have eo : os' = s.os := hm.os
        subst eg ed eo
        show wpAny _ _ _ _ _ _
        refine wpAny_pure ?_
        show wpAny _ _ (ret Value.none) _ _ _
        refine wpAny_pure ⟨rfl, g, tk', rfl, hS', fun b o e => ?_⟩
        have hb0 : b < s.heap.objs.size := Heap.lt_size e
        have hb1 : b ≠ s.heap.objs.size := Nat.ne_of_lt hb0
        have hb2 : b ≠ (s.heap.push (newSet w)).objs.size := by rw [z1]; exact Nat.ne_of_lt (Nat.lt_succ_of_lt hb0)
        exact hm.heap b o (by simp only [List.mem_cons, List.not_mem_nil, or_false, not_or]; exact ⟨hb1, hb2⟩) (Heap.get?_push_of_some _ (Heap.get?_push_of_some _ e))
      · cases r₂ with
        | error e => exact hr₂
        | ok fl₂ =>
          cases fl₂ with
          | next => exact hr₂.elim
          | brk => exact hr₂.elim
          | cont => exact hr₂.elim
          | ret r =>
            obtain ⟨rfl, g, tk, rfl, hS', hk'⟩ := hr₂
            repeat (any_goals (first | assumption | wp_step))
            exact h _ _ hS' hk'
end
end Ty
namespace Ty
open PySem PySem.Spec PyProof.Rows L2
/-- a set of texts, in the abstract heap -/
def SetTx (P : Program) (w : World) (a : Addr) (L : List Str) : HO := .ext fun h => SetG (PySem.strKind P w) h a L
section
variable {P : Program} {w : World} {A : Around} {E : Value → Shared → Prop} {s : Shared}
theorem strs_scan : ∀ {xs : List Str} {us : List Value}, Vals (xs.map V.str) us → Paired (fun v k => (PySem.strKind P w).is k v = true ∧ v.scannable = true) us xs
  | [], _, h => by
    cases h
    exact .nil
  | x :: xs, _, h => by
    cases h with
    | cons r t =>
      obtain ⟨k, rfl⟩ := r
      exact .cons ⟨by show Value.isStrOf x (.str x k) = true; simp [Value.isStrOf], rfl⟩ (strs_scan t)
theorem strs_are : ∀ {es : List (Int × Value)} {ks : List Str}, Paired (EntOf (PySem.strKind P w)) es ks → StrsAre (es.map (·.2)) ks
  | [], _, h => by
    cases h
    exact .nil
  | e :: es, _, h => by
    cases h with
    | @cons _ k _ ks r t =>
      obtain ⟨u, hu⟩ := Value.isStrOf_shape (x := k) (v := e.2) r.1
      rw [List.map_cons, hu]
      exact .cons k u (strs_are t)
theorem strs_perm {l l' : List Value} (p : l'.Perm l) : ∀ {ks : List Str}, StrsAre l ks → ∃ ks', StrsAre l' ks' ∧ ks'.Perm ks := by
  induction p with
  | nil => exact fun h => ⟨_, h, .refl _⟩
  | cons x _ ih =>
    intro ks h
    cases h with
    | cons k u t =>
      obtain ⟨ks', h1, h2⟩ := ih t
      exact ⟨_, .cons k u h1, h2.cons _⟩
  | swap x y l =>
    intro ks h
    cases h with
    | cons k u t =>
      cases t with
      | cons k' u' t' => exact ⟨_, .cons k' u' (.cons k u t'), .swap ..⟩
  | trans _ _ ih1 ih2 =>
    intro ks h
    obtain ⟨k1, h1, p1⟩ := ih2 h
    obtain ⟨k2, h2, p2⟩ := ih1 h1
    exact ⟨k2, h2, p2.trans p1⟩
/-- sorted(a set of texts) -/
theorem sorted_setTx {a : Addr} {L : List Str} {Q : Value → Shared → Prop} (R : SetG (PySem.strKind P w) s.heap a L) (hh : A.handled = none) (h64 : L.length < 64)
    (hQ : ∀ s' p (out : Array Value) (c : Nat) (ys : List Str), (∀ b o, s.heap.get? b = some o → s'.heap.get? b = some o) → s'.gens = s.gens → s'.os = s.os → s.heap.objs.size ≤ p →
      s'.heap.get? p = some (seqObj "list" out c) → StrsAre out.toList ys → ys.Perm L → sortedS ys = true → Q (.ref p) s') :
    wpAny (model P w) A (call (.builtin "sorted") [.ref a]) Q E s := by
  obtain ⟨o, es, ep, t, ks, ho, hex, hd, g, pk, nd, hb, hf, hr, hl⟩ := R
  refine Calls.call_function_entry kind_sorted plain_sorted entry_sorted (args_sorted1 _) ?_
  unfold Builtin.«sorted»
  refine wpAny_bind (m := checkCount "sorted" 1 1 _) (wpAny_pure ?_)
  refine wpAny_bind (collect_set (A := A.in1) hh ⟨o, ho, hex.1, hd⟩ hf hb hr hl fun s1 vs k1 hz g1 o1 pm => ?_)
  obtain ⟨k2, hS, pk2⟩ := strs_perm pm (strs_are g)
  have hvl : vs.length < 64 := by
    have e1 := pm.length_eq
    rw [List.length_map, Paired.length g, pk.length_eq] at e1
    omega
  refine wpAny_bind (wpAny_newList ?_ (by rw [sizeLine_eq]; omega))
  have hoL : (s1.heap.push (seqObj "list" vs.toArray 0)).get? s1.heap.objs.size = some (seqObj "list" vs.toArray 0) := Heap.get?_push_size _ rfl
  refine wpAny_bind (wpAny_holding (wpAny_call_entry PyProof.Rows.slot_list_sort ⟨_, hoL, rfl⟩ PyProof.Rows.entry_list_sort
    (list_sort_treeK strKind_oneLt hoL hS.keysOf (fun v₁ v₂ rest e => keyKind_strs (by rw [← e]; exact hS)) hvl fun st' hp hs => ?_) (PyProof.Rows.args_list_sort _)))
  obtain ⟨ys, q1, q2, q3⟩ := sorted_out_str hS hp hs
  obtain ⟨c, hc⟩ := PyProof.Rows.sortedHeap_at (vs := vs) (out := (arrOf st').map (·.2)) hoL
  refine ⟨_, rfl, wpAny_pure ⟨_, rfl, hQ _ s1.heap.objs.size _ c ys (fun b u e => ?_) g1 o1 hz hc q1 ((q2.trans pk2).trans pk) q3⟩⟩
  have q := k1 b u e
  have hlt := Heap.lt_size q
  rw [PyProof.Rows.sortedHeap_old (Nat.ne_of_lt hlt) (by rw [Heap.size_push]; exact Nat.lt_succ_of_lt hlt)]
  exact Heap.get?_push_of_some _ q
end
section
variable {X : Cx}
/-- set(a list of texts) -/
def rSetTx (K : PySem.W.Frag) (P : Program) (w : World) : List V → Hp → VK → Prop := fun vs H Q => ∃ (l : Addr) (xs : List Str), vs = [.ref l] ∧ SqL K H l (xs.map V.str) ∧ xs.length + 1 < scanBound ∧
  ∀ p, H p = none → Q (.ref p) (upd H p (SetTx P w p (gather [] xs)))
theorem cr_setTx (hc : X.calm = true) : CallR X (.type "set") (rSetTx X.K X.prog X.w) := by
  intro pins s σ H vs us Q I r h
  obtain ⟨l, xs, rfl, hq, hb, q⟩ := h
  obtain ⟨u, rfl, rx⟩ := vals1 r
  cases rx
  obtain ⟨its, rv, hl, _⟩ := I.list hq
  have hlen := rv.length
  rw [List.length_map] at hlen
  refine call_setL (knd := PySem.strKind X.prog X.w) (I.ok.hd hc) hl.isList (strs_scan rv) (by rw [← hlen]; exact hb) fun g tk hS kp => ?_
  have new : ObjOk X.prog X.w (upd H s.heap.objs.size (SetTx X.prog X.w s.heap.objs.size (gather [] xs))) g s.heap.objs.size (SetTx X.prog X.w s.heap.objs.size (gather [] xs)) := by
    have ⟨o, _, _, _, _, ho, _⟩ := hS
    exact ⟨hS, ⟨o, ho⟩, fun h1 h2 p k => p.at k⟩
  exact ⟨.ref _, _, I.laid (t' := tk) kp (Nat.le_refl _) new, rfl, q _ (I.hok.fresh (Nat.le_refl _))⟩
/-- sorted(a set of texts) -/
def rSortedTx (P : Program) (w : World) : List V → Hp → VK → Prop := fun vs H Q => ∃ (a : Addr) (L : List Str), vs = [.ref a] ∧ H a = some (SetTx P w a L) ∧ L.length < 64 ∧
  ∀ ys p, ys.Perm L → sortedS ys = true → H p = none → Q (.ref p) (upd H p (.lst (ys.map V.str)))
theorem cr_sortedTx (hc : X.calm = true) : CallR X (.builtin "sorted") (rSortedTx X.prog X.w) := by
  intro pins s σ H vs us Q I r h
  obtain ⟨a, L, rfl, ha, h64, q⟩ := h
  obtain ⟨u, rfl, rx⟩ := vals1 r
  cases rx
  have hS : SetG (PySem.strKind X.prog X.w) s.heap a L := (I.hok a _ ha).1
  refine sorted_setTx hS (I.ok.hd hc) h64 fun s' p out c ys kp eg eo hp hat h1 h2 h3 => ?_
  obtain ⟨g, g', d', t', o'⟩ := s'
  have eg : g' = s.gens := eg
  have eo : o' = s.os := eo
  subst eg eo
  have hlen : (ys.map V.str).length ≤ sizeLine := by
    rw [List.length_map, h2.length_eq, sizeLine_eq]
    omega
  have I1 : Inv X pins σ (upd H p (.lst (ys.map V.str))) { s with heap := g, toks := t' } := I.laid (t' := t') (fun b o e => kp b o e) hp ⟨hlen, out.toList, c, vals_of_strs h1, by simpa [seqObj] using hat⟩
  exact ⟨.ref p, _, ⟨I1.ok, I1.os, I1.bare, I1.base, I1.loc, I1.cell, I1.free, I1.freeC, I1.pin, I1.hok, I1.len⟩, rfl, q ys p h2 h3 (I.hok.fresh hp)⟩
end
end Ty
namespace Ty
open PySem PySem.Spec PyProof.Rows L2
/-! ### data in the abstract heap, apart from the jar's address -/
mutual
/-- v reads as d; none of its lists lies at j -/
inductive Rep (j : Addr) (H : Hp) : V → PyData → Prop
  | non : Rep j H .non .none
  | bl (b : Bool) : Rep j H (.bl b) (.bool b)
  | int (i : Int) : Rep j H (.int i) (.int i)
  | str (x : Str) : Rep j H (.str x) (.str x)
  | lst {a : Addr} {xs : List V} {ds : List PyData} : a ≠ j → sysModules < a → H a = some (.lst xs) → Reps j H xs ds → Rep j H (.ref a) (.list ds)
  | tup {a : Addr} {xs : List V} {ds : List PyData} : a ≠ j → H a = some (.tup xs) → Reps j H xs ds → Rep j H (.ref a) (.tuple ds)
  | dct {a : Addr} : a ≠ j → H a = some (.dK []) → Rep j H (.ref a) (.dict [])
inductive Reps (j : Addr) (H : Hp) : List V → List PyData → Prop
  | nil : Reps j H [] []
  | cons {v : V} {vs : List V} {d : PyData} {ds : List PyData} : Rep j H v d → Reps j H vs ds → Reps j H (v :: vs) (d :: ds)
end
/-- all that is tracked apart from j stands -/
def Keep (j : Addr) (H H' : Hp) : Prop := ∀ b o, b ≠ j → H b = some o → H' b = some o
theorem Keep.refl {j : Addr} {H : Hp} : Keep j H H := fun _ _ _ h => h
theorem Keep.trans {j : Addr} {H H1 H2 : Hp} (a : Keep j H H1) (b : Keep j H1 H2) : Keep j H H2 := fun c o n h => b c o n (a c o n h)
theorem Keep.of_same {j : Addr} {H H' : Hp} (s : Same H H') : Keep j H H' := fun b o _ h => s b o h
theorem same_new {H : Hp} {p : Addr} (h : H p = none) (o : HO) : Same H (upd H p o) := fun b u q => by rw [upd_ne (ne_of_none q h)]; exact q
theorem keep_new {j : Addr} {H : Hp} {p : Addr} (h : H p = none) (o : HO) : Keep j H (upd H p o) := .of_same (same_new h o)
theorem keep_jar {j : Addr} {H : Hp} (o : HO) : Keep j H (upd H j o) := fun b u n q => by rw [upd_ne n]; exact q
section
variable {j : Addr} {H H' : Hp}
mutual
theorem Rep.keep (k : Keep j H H') : ∀ (d : PyData) (v : V), Rep j H v d → Rep j H' v d
  | .none, _, h => by cases h; exact .non
  | .bool _, _, h => by cases h; exact .bl _
  | .int _, _, h => by cases h; exact .int _
  | .str _, _, h => by cases h; exact .str _
  | .list ds, _, h => by
    cases h with
    | lst n g e r => exact .lst n g (k _ _ n e) (Reps.keep k ds _ r)
  | .tuple ds, _, h => by
    cases h with
    | tup n e r => exact .tup n (k _ _ n e) (Reps.keep k ds _ r)
  | .dict _, _, h => by
    cases h with
    | dct n e => exact .dct n (k _ _ n e)
theorem Reps.keep (k : Keep j H H') : ∀ (ds : List PyData) (vs : List V), Reps j H vs ds → Reps j H' vs ds
  | [], _, h => by cases h; exact .nil
  | d :: ds, _, h => by
    cases h with
    | cons r t => exact .cons (Rep.keep k d _ r) (Reps.keep k ds _ t)
end
theorem Reps.length : ∀ {vs : List V} {ds : List PyData}, Reps j H vs ds → vs.length = ds.length
  | _, _, .nil => rfl
  | _, _, .cons _ t => by rw [List.length_cons, List.length_cons, Reps.length t]
theorem Reps.get : ∀ {vs : List V} {ds : List PyData} {i : Nat} {v : V}, Reps j H vs ds → vs[i]? = some v → ∃ d, ds[i]? = some d ∧ Rep j H v d
  | _, _, _, _, .nil, e => by simp at e
  | _, _, 0, _, .cons r _, e => by simp at e; subst e; exact ⟨_, rfl, r⟩
  | _, _, i + 1, v, .cons _ t, e => by
    obtain ⟨d, h1, h2⟩ := Reps.get (i := i) (v := v) t (by simpa using e)
    exact ⟨d, by simpa using h1, h2⟩
theorem Reps.append : ∀ {vs ws : List V} {ds es : List PyData}, Reps j H vs ds → Reps j H ws es → Reps j H (vs ++ ws) (ds ++ es)
  | _, _, _, _, .nil, t => t
  | _, _, _, _, .cons r q, t => .cons r (Reps.append q t)
theorem Reps.take : ∀ {vs : List V} {ds : List PyData} (n : Nat), Reps j H vs ds → Reps j H (vs.take n) (ds.take n)
  | _, _, 0, _ => .nil
  | _, _, _ + 1, .nil => .nil
  | _, _, n + 1, .cons r t => .cons r (Reps.take n t)
theorem Reps.drop : ∀ {vs : List V} {ds : List PyData} (n : Nat), Reps j H vs ds → Reps j H (vs.drop n) (ds.drop n)
  | _, _, 0, r => r
  | _, _, _ + 1, .nil => .nil
  | _, _, n + 1, .cons _ t => Reps.drop n t
theorem Reps.reverse : ∀ {vs : List V} {ds : List PyData}, Reps j H vs ds → Reps j H vs.reverse ds.reverse
  | _, _, .nil => .nil
  | _, _, .cons r t => by
    rw [List.reverse_cons, List.reverse_cons]
    exact Reps.append (Reps.reverse t) (.cons r .nil)
end
section
variable {X : Cx} {pins : List (Addr × Obj)} {σ : L2.St} {H : Hp} {s : Shared} {j : Addr}
mutual
theorem Rep.reads (I : Inv X pins σ H s) : ∀ (d : PyData) (v : V) (u : Value), Rep j H v d → RelV v u → ∃ as, Reads s.heap u d as ∧ sysModules ∉ as
  | .none, _, _, h, r => by
    cases h
    cases r
    exact ⟨_, Reads.none, by simp⟩
  | .bool b, _, _, h, r => by
    cases h
    cases r
    exact ⟨_, Reads.bool b, by simp⟩
  | .int i, _, _, h, r => by
    cases h
    obtain ⟨t, rfl⟩ := r
    exact ⟨_, Reads.int i t, by simp⟩
  | .str x, _, _, h, r => by
    cases h
    obtain ⟨t, rfl⟩ := r
    exact ⟨_, Reads.str x t, by simp⟩
  | .list ds, _, _, h, r => by
    cases h with
    | lst n g e q =>
      cases r
      obtain ⟨z, its, m, rv, ho⟩ := I.hok _ _ e
      obtain ⟨as, hr, hn⟩ := Reps.reads I ds _ its q rv
      exact ⟨_, Reads.list ho rfl rfl (by simpa using hr), by simp only [List.mem_cons, not_or]; exact ⟨Nat.ne_of_lt g, hn⟩⟩
  | .tuple ds, _, _, h, r => by
    cases h with
    | tup n e q =>
      cases r
      obtain ⟨z, its, rv, o, ho, hc, m, hd⟩ := I.hok _ _ e
      obtain ⟨as, hr, hn⟩ := Reps.reads I ds _ its q rv
      exact ⟨_, Reads.tuple ho hc hd (by simpa using hr), hn⟩
  | .dict _, _, _, h, r => by
    cases h with
    | @dct a n e =>
      cases r
      obtain ⟨z, hs, vs, rel, dd⟩ := I.hok _ _ e
      cases rel
      obtain ⟨o, es, ep, ho, hx, hd, _, hp, _⟩ := dd
      have he : es.toList = [] := by
        cases q : es.toList with
        | nil => rfl
        | cons e l =>
          rw [q] at hp
          cases hp
      have hn : (a == sysModules) = false := hs
      exact ⟨_, Reads.dict (kvs := []) ho hx.1 hd (by rw [he]; exact ReadsAll.nil) (by rw [he]; exact ReadsAll.nil), by
        simp only [List.append_nil, List.mem_cons, List.not_mem_nil, or_false]
        intro z
        rw [← z] at hn
        simp at hn⟩
theorem Reps.reads (I : Inv X pins σ H s) : ∀ (ds : List PyData) (vs : List V) (us : List Value), Reps j H vs ds → Vals vs us → ∃ as, ReadsAll s.heap us ds as ∧ sysModules ∉ as
  | [], _, _, h, r => by
    cases h
    cases r
    exact ⟨_, ReadsAll.nil, by simp⟩
  | d :: ds, _, _, h, r => by
    cases h with
    | cons h1 h2 =>
      cases r with
      | cons r1 r2 =>
        obtain ⟨as, q1, n1⟩ := Rep.reads I d _ _ h1 r1
        obtain ⟨bs, q2, n2⟩ := Reps.reads I ds _ _ h2 r2
        exact ⟨_, ReadsAll.cons q1 q2, by simp only [List.mem_append, not_or]; exact ⟨n1, n2⟩⟩
end
end
end Ty
namespace Ty
open PySem PySem.Spec PyProof.Rows L2
section
variable {X : Cx}
/-! ### new lists that lie behind the modules' table -/
def tLstN (t : TA) : TE := fun σ H Q => t σ H fun xs H1 => xs.length ≤ sizeLine ∧ ∀ p, H1 p = none → sysModules < p → Q (.ref p) (upd H1 p (.lst xs))
theorem pe_lstN {es : List Expr} {t : TA} {pos : Pos} (h : PA X es t) : PE X (.List es pos) (tLstN t) := by
  refine ⟨fun pins s σ H Q I hq => ?_⟩
  refine wpAny_List_spliced (thn (h.run pos pins s σ H _ I hq) fun us s1 hv => ?_)
  obtain ⟨xs, H1, I1, r, z, q⟩ := hv
  refine ⟨by rw [← r.length]; exact z, .ref s1.heap.objs.size, upd H1 s1.heap.objs.size (.lst xs), I1.laid (t' := s1.toks) (fun b u e => Heap.get?_push_of_some _ e) (Nat.le_refl _) ⟨z, us, 0, r, Heap.get?_push_size _ rfl⟩, rfl, q _ (I1.hok.fresh (Nat.le_refl _)) I1.big⟩
def rListN (K : PySem.W.Frag) : List V → Hp → VK → Prop := fun xs H Q => ∃ p ys, xs = [.ref p] ∧ SqT K H p ys ∧ ∀ l, H l = none → sysModules < l → Q (.ref l) (upd H l (.lst ys))
theorem call_listN : CallR X (.type "list") (rListN X.K) := by
  intro pins s σ H xs us Q I r h
  obtain ⟨p, ys, rfl, hq, q⟩ := h
  obtain ⟨u, rfl, rx⟩ := vals1 r
  cases rx
  obtain ⟨its, r', pl, hz⟩ := I.tuple hq
  have hlen := r'.length
  obtain ⟨o, ho, hc, n, hd⟩ := pl
  refine call_list_seq p (.inr rfl) ho hc hd (fun g c kp e => ?_) (by rw [List.size_toArray, ← hlen]; exact hz)
  exact ⟨.ref s.heap.objs.size, _, I.laid (t' := s.toks) kp (Nat.le_refl _) (show ObjOk X.prog X.w _ g _ (.lst ys) from ⟨hz, its, c, r', e⟩), rfl, q _ (I.hok.fresh (Nat.le_refl _)) I.big⟩
/-! ### str of data, where no repr is under way -/
def strD : PyData → Str
  | .str x => x
  | d => d.shown
def rStrD (j : Addr) : List V → Hp → VK → Prop := fun vs H Q => ∃ v d, vs = [v] ∧ Rep j H v d ∧ d.showable = true ∧ d.shown.length ≤ sizeLine ∧ d.depth ≤ 60 ∧ Q (.str (strD d)) H
theorem call_strD {j : Addr} (hg : X.A.guards = some []) (hu : X.A.units + 64 < cLine) : CallR X (.type "str") (rStrD j) := by
  intro pins s σ H xs us Q I r h
  obtain ⟨v, d, rfl, rp, hs, hz, hd, q⟩ := h
  obtain ⟨u, rfl, rx⟩ := vals1 r
  cases rp with
  | non => cases rx; exact PySem.P.str_of_none ⟨.str _, H, I.tok _, ⟨_, rfl⟩, q⟩
  | bl b => cases rx; exact PySem.P.str_of_bool ⟨.str _, H, I.tok _, ⟨_, rfl⟩, q⟩
  | int i => obtain ⟨t, rfl⟩ := rx; exact PySem.P.str_of_int (of_decide_eq_true hs) ⟨.str _, H, I.tok _, ⟨_, rfl⟩, q⟩
  | str x => obtain ⟨t, rfl⟩ := rx; exact PySem.P.str_of_str ⟨.str x, H, I, ⟨_, rfl⟩, q⟩
  | lst n g e rs =>
    obtain ⟨as, rd, hn⟩ := Rep.reads I _ _ _ (.lst n g e rs) rx
    cases rx
    exact str_of_reads rd hs (fun _ => hn) hg (by omega) (fun _ _ e => e) (fun g u tk kp => ⟨.str _, H, I.kept (t' := tk) kp, ⟨_, rfl⟩, q⟩) hz
  | tup n e rs =>
    obtain ⟨as, rd, hn⟩ := Rep.reads I _ _ _ (.tup n e rs) rx
    cases rx
    exact str_of_reads rd hs (fun _ => hn) hg (by omega) (fun _ _ e => e) (fun g u tk kp => ⟨.str _, H, I.kept (t' := tk) kp, ⟨_, rfl⟩, q⟩) hz
  | dct n e =>
    obtain ⟨as, rd, hn⟩ := Rep.reads I _ _ _ (.dct n e) rx
    cases rx
    exact str_of_reads rd hs (fun _ => hn) hg (by omega) (fun _ _ e => e) (fun g u tk kp => ⟨.str _, H, I.kept (t' := tk) kp, ⟨_, rfl⟩, q⟩) hz
/-! ### a tuple against the empty one -/
def rEqT0 (K : PySem.W.Frag) : R2 := fun x y H Q => ∃ a b xs, x = .ref a ∧ y = .ref b ∧ SqT K H a xs ∧ SqT K H b [] ∧ Q (.bl (decide (xs = []))) H
theorem op_eqT0 (hu : X.A.units < cLine) : OpR X (compareOp .Eq) (rEqT0 X.K) := by
  intro pins s σ H x y v u Q I rx ry h
  obtain ⟨a, b, xs, rfl, rfl, ha, hb, q⟩ := h
  cases rx
  cases ry
  obtain ⟨its, r1, p1, _⟩ := I.tuple ha
  obtain ⟨its2, r2, p2, _⟩ := I.tuple hb
  cases r2
  have hlen := r1.length
  refine SeqAt.eq_tupleAt (e := fun _ => true) p1 p2 hu (fun k h1 h2 => absurd h2 (by simp)) ⟨.bl _, H, I, rfl, ?_⟩
  have e : ((List.range (min its.toArray.size ([] : List Value).toArray.size)).all (fun _ => true) && its.toArray.size == ([] : List Value).toArray.size) = decide (xs = []) := by
    cases xs with
    | nil =>
      cases its with
      | nil => rfl
      | cons => cases hlen
    | cons =>
      cases its with
      | nil => cases hlen
      | cons => simp
  rw [e]
  exact q
end
end Ty
set_option maxHeartbeats 2000000
/-! sets of whole numbers: {e for a in xs for b in ys} (the library's walk of the list's two clauses, turned to a set), set(a list) -/
namespace Se
open PySem PySem.Spec PyProof.Rows L2
section
variable {X : Cx}
/-- set.add of a number -/
theorem addI_ok {pins : List (Addr × Obj)} {σ : L2.St} {H : Hp} {s : Shared} {E : Value → Shared → Prop} {D : Addr} {S : Int → Bool} {n : Nat} {y : Int} {tk : Tok} {Q : Value → Shared → Prop} (I : Inv X pins σ H s) (hD : H D = some (SetO X.w D S n)) (room : n + 1 < scanBound)
    (h : ∀ s', Inv X pins σ (upd H D (SetO X.w D (fun j => S j || decide (j = y)) (if S y = true then n else n + 1))) s' → Q .none s') : wpAny (model X.prog X.w) X.A (call (.builtin "set.add") [.ref D, .int y tk]) Q E s := by
  refine setR_add (setO_get I hD) room fun g sb new => ?_
  have at_ : ∃ u, g.get? D = some u := by
    have ⟨o, _, _, _, ho, _⟩ := new
    exact ⟨o, ho⟩
  exact h _ (I.write (e := D) (t' := s.toks + 1) (by rw [hD]; trivial) (.inl rfl) (fun b u hb hu => (sb.2 b hb).trans hu) at_ (setO_new new))
end
theorem setTurn_out (elt t0 i0 t1 i1 : Expr) (ifs0 ifs1 : List Expr) (scope : Scope) (pos : Pos) (it acc : Value) (env : Env) :
    compTurn (.SetComp elt [⟨t0, i0, ifs0, 0⟩, ⟨t1, i1, ifs1, 0⟩] scope pos) 0 it acc env = (do
      standAt i0.pos
      match ← pyNext it with
      | none => pure (.done .next)
      | some v =>
        letOwnedTupleGo t0 it v
        assign t0 env v
        let mut ok := true
        for c in ifs0 do
          if ok then ok ← isTrue c env (eval c env)
        if ok then
          let x ← eval i1 env
          standAt i1.pos
          let x ← foldedSetIterable i1 env x
          let _ ← runOwn (.compStart (.SetComp elt [⟨t0, i0, ifs0, 0⟩, ⟨t1, i1, ifs1, 0⟩] scope pos) 1 (← holding [x] (pyIter x)) acc env) env
        again (.compLoop (.SetComp elt [⟨t0, i0, ifs0, 0⟩, ⟨t1, i1, ifs1, 0⟩] scope pos) 0 it acc env)) := by rfl
theorem setTurn_in (elt t0 i0 t1 i1 : Expr) (ifs0 ifs1 : List Expr) (scope : Scope) (pos : Pos) (it acc : Value) (env : Env) :
    compTurn (.SetComp elt [⟨t0, i0, ifs0, 0⟩, ⟨t1, i1, ifs1, 0⟩] scope pos) 1 it acc env = (do
      standAt i1.pos
      match ← pyNext it with
      | none => pure (.done .next)
      | some v =>
        letOwnedTupleGo t1 it v
        assign t1 env v
        let mut ok := true
        for c in ifs1 do
          if ok then ok ← isTrue c env (eval c env)
        if ok then
          (do let v ← eval elt env; standAt elt.pos; let _ ← call (.builtin "set.add") [acc, v])
        again (.compLoop (.SetComp elt [⟨t0, i0, ifs0, 0⟩, ⟨t1, i1, ifs1, 0⟩] scope pos) 1 it acc env)) := by rfl
section
variable {prog : Program} {w : World} {A : Around} {R : Result → Shared → Prop} {s : Shared} {elt t0 i0 t1 i1 : Expr} {ifs0 ifs1 : List Expr} {scope : Scope} {pos : Pos} {it acc : Value} {env : Env}
/-- the loop of the first clause -/
theorem setLoop_out (hs : ∀ x, foldedSetIterable i1 env x = pure x) (I : Nat → Shared → Prop)
    (turn : ∀ n s, I n s → wpAny (model prog w) A (pyNext it) (fun r s₁ => match r with
      | none => R (.ok .next) s₁
      | some v => wpAny (model prog w) A (letOwnedTupleGo t0 it v) (fun _ s₁' => wpAny (model prog w) A (assign t0 env v) (fun _ s₂ =>
          wpAny (model prog w) A (forIn ifs0 true fun c r => if r = true then do let ok ← isTrue c env (eval c env); pure (ForInStep.yield ok) else pure (ForInStep.yield r)) (fun ok s₃ =>
            if ok = true then wpAny (model prog w) A (eval i1 env) (fun x s₄ => wpAny (model prog w) A (pyIter x) (fun it1 s₅ =>
              codeAny (model prog w) A (.compStart (.SetComp elt [⟨t0, i0, ifs0, 0⟩, ⟨t1, i1, ifs1, 0⟩] scope pos) 1 it1 acc env) (fun r s' => match r with
                | .ok _ => ∃ m, m < n ∧ I m s'
                | .error _ => False) s₅) (notedBy (model prog w) A env fun e s' => R (.error e) s') s₄) (notedBy (model prog w) A env fun e s' => R (.error e) s') s₃
            else ∃ m, m < n ∧ I m s₃) (notedBy (model prog w) A env fun e s' => R (.error e) s') s₂) (notedBy (model prog w) A env fun e s' => R (.error e) s') s₁') (notedBy (model prog w) A env fun e s' => R (.error e) s') s₁) (notedBy (model prog w) A env fun e s' => R (.error e) s') s)
    (n : Nat) (h : I n s) :
    codeAny (model prog w) A (.compLoop (.SetComp elt [⟨t0, i0, ifs0, 0⟩, ⟨t1, i1, ifs1, 0⟩] scope pos) 0 it acc env) R s := by
  refine codeAny_loop rfl I (fun n s hI => ?_) n h
  show wpAny _ A ((compTurn (.SetComp elt [⟨t0, i0, ifs0, 0⟩, ⟨t1, i1, ifs1, 0⟩] scope pos) 0 it acc env).onRaise (fun x => do noteFrame x env; theTreesLotGoes x)) _ _ s
  refine wpAny_noted ?_
  rw [setTurn_out]
  refine wpAny_bind (wpAny_standAt (wpAny_bind (wpAny_mono (turn n s hI) (fun r s₁ h₁ => ?_) fun _ _ h' => h')))
  cases r with
  | none => exact wpAny_pure h₁
  | some v =>
    refine wpAny_bind (wpAny_mono h₁ (fun _ s₁' h₁' => ?_) fun _ _ h' => h')
    refine wpAny_bind (wpAny_mono h₁' (fun _ s₂ h₂ => wpAny_bind (wpAny_mono h₂ (fun ok s₃ h₃ => ?_) fun _ _ h' => h')) fun _ _ h' => h')
    cases ok with
    | false => exact wpAny_pure ⟨rfl, h₃⟩
    | true =>
      refine wpAny_bind (wpAny_mono h₃ (fun x s₄ h₄ => ?_) fun _ _ h' => h')
      refine wpAny_bind (wpAny_standAt (wpAny_bind (wpAny_of_eq (hs x) (wpAny_bind (wpAny_holding (wpAny_mono h₄ (fun it1 s₅ h₅ => ?_) fun _ _ h' => h'))))))
      refine wpAny_bind (wpAny_runOwn ?_)
      rw [Around.mark_none]
      refine codeAny_mono h₅ fun r s' hr => ?_
      cases r with
      | ok f =>
        first
          | exact wpAny_pure ⟨rfl, hr⟩
          | exact wpAny_bind (wpAny_pure (wpAny_pure ⟨rfl, hr⟩))
      | error e => exact hr.elim
/-- the loop of the second -/
theorem setLoop_in (I : Nat → Shared → Prop)
    (turn : ∀ n s, I n s → wpAny (model prog w) A (pyNext it) (fun r s₁ => match r with
      | none => R (.ok .next) s₁
      | some v => wpAny (model prog w) A (letOwnedTupleGo t1 it v) (fun _ s₁' => wpAny (model prog w) A (assign t1 env v) (fun _ s₂ =>
          wpAny (model prog w) A (forIn ifs1 true fun c r => if r = true then do let ok ← isTrue c env (eval c env); pure (ForInStep.yield ok) else pure (ForInStep.yield r)) (fun ok s₃ =>
            if ok = true then wpAny (model prog w) A (eval elt env) (fun x s₄ =>
              wpAny (model prog w) A (call (.builtin "set.add") [acc, x]) (fun _ s₅ => ∃ m, m < n ∧ I m s₅) (notedBy (model prog w) A env fun e s' => R (.error e) s') s₄) (notedBy (model prog w) A env fun e s' => R (.error e) s') s₃
            else ∃ m, m < n ∧ I m s₃) (notedBy (model prog w) A env fun e s' => R (.error e) s') s₂) (notedBy (model prog w) A env fun e s' => R (.error e) s') s₁') (notedBy (model prog w) A env fun e s' => R (.error e) s') s₁) (notedBy (model prog w) A env fun e s' => R (.error e) s') s)
    (n : Nat) (h : I n s) :
    codeAny (model prog w) A (.compLoop (.SetComp elt [⟨t0, i0, ifs0, 0⟩, ⟨t1, i1, ifs1, 0⟩] scope pos) 1 it acc env) R s := by
  refine codeAny_loop rfl I (fun n s hI => ?_) n h
  show wpAny _ A ((compTurn (.SetComp elt [⟨t0, i0, ifs0, 0⟩, ⟨t1, i1, ifs1, 0⟩] scope pos) 1 it acc env).onRaise (fun x => do noteFrame x env; theTreesLotGoes x)) _ _ s
  refine wpAny_noted ?_
  rw [setTurn_in]
  refine wpAny_bind (wpAny_standAt (wpAny_bind (wpAny_mono (turn n s hI) (fun r s₁ h₁ => ?_) fun _ _ h' => h')))
  cases r with
  | none => exact wpAny_pure h₁
  | some v =>
    refine wpAny_bind (wpAny_mono h₁ (fun _ s₁' h₁' => ?_) fun _ _ h' => h')
    refine wpAny_bind (wpAny_mono h₁' (fun _ s₂ h₂ => wpAny_bind (wpAny_mono h₂ (fun ok s₃ h₃ => ?_) fun _ _ h' => h')) fun _ _ h' => h')
    cases ok with
    | false => exact wpAny_pure ⟨rfl, h₃⟩
    | true =>
      exact wpAny_bind (wpAny_bind (wpAny_mono h₃ (fun x s₄ h₄ => wpAny_bind (wpAny_standAt (wpAny_bind (wpAny_mono h₄ (fun _ s₅ h₅ => wpAny_pure (wpAny_pure ⟨rfl, h₅⟩)) fun _ _ h' => h')))) fun _ _ h' => h'))
/-- the second clause's start -/
theorem setStart_in (h0 : codeAny (model prog w) A (.compLoop (.SetComp elt [⟨t0, i0, ifs0, 0⟩, ⟨t1, i1, ifs1, 0⟩] scope pos) 1 it acc env) R s)
    (h : wpAny (model prog w) A (pyIter it) (fun it' s' => codeAny (model prog w) A (.compLoop (.SetComp elt [⟨t0, i0, ifs0, 0⟩, ⟨t1, i1, ifs1, 0⟩] scope pos) 1 it' acc env) R s')
      (notedBy (model prog w) A env fun x s' => R (.error x) s') s) :
    codeAny (model prog w) A (.compStart (.SetComp elt [⟨t0, i0, ifs0, 0⟩, ⟨t1, i1, ifs1, 0⟩] scope pos) 1 it acc env) R s := by
  refine codeAny_of_tree ?_
  show wpAny _ _ ((compStart (.SetComp elt [⟨t0, i0, ifs0, 0⟩, ⟨t1, i1, ifs1, 0⟩] scope pos) 1 it acc env).onRaise (fun x => do noteFrame x env; standAt theWindowsPlace)) _ _ s
  refine wpAny_notedAt ?_
  unfold compStart
  show wpAny _ _ (ask >>= _) _ _ s
  refine wpAny_bind (wpAny_askSetting (wpAny_ite ?_))
  split
  · first
      | exact wpAny_bind (wpAny_pure (wpAny_pure (And.intro rfl h0)))
      | exact wpAny_pure (And.intro rfl h0)
  · first
      | exact wpAny_bind (wpAny_rule (wpAny_bind (wpAny_standAt (wpAny_bind (wpAny_mono h (fun it' s' h' => wpAny_pure (And.intro rfl h')) fun _ _ x => x)))))
      | (refine wpAny_bind (wpAny_rule ?_); show wpAny _ _ (standAt i1.pos >>= _) _ _ s; exact wpAny_bind (wpAny_standAt (wpAny_bind (wpAny_mono h (fun it' s' h' => wpAny_pure (And.intro rfl h')) fun _ _ x => x))))
end
section
variable {X : Cx}
/-- {elt for tg in iter if .. for tg1 in iter1 if ..}, elt a whole number; as tLc2, the new thing at D a set -/
def tSc2 (X : Cx) (wi : TI) (g : TG) (tt : TT) (wi1 : TI) (g1 : TG) (tt1 : TT) (te : TE) (vs vs1 : List Nat) : TE := fun σ H Q => wi σ H fun J H1 => ∀ D, H1 D = none → ∃ W : Nat → Nat → Hp → Prop, (∃ m, W 0 m (upd H1 D (SetO X.w D (fun _ => false) 0))) ∧ ∀ i m H, W i m H →
  (J.stop i H ∧ Q (.ref D) H) ∨ (J.go i H ∧ ∃ Nx : Hp → Prop, (∀ H', Nx H' → ∃ m', m' < m ∧ W (i + 1) m' H') ∧ ∀ x H', J.yld i H x H' → g x (wipe σ vs) H' fun σ2 H2 => wipe σ2 vs = wipe σ vs ∧ tt σ2 H2 fun b H3 =>
    if b = true then wi1 σ2 H3 fun J1 H4 => ∃ W1 : Nat → Nat → Hp → Prop, (∃ m, W1 0 m H4) ∧ ∀ j k H, W1 j k H →
      (J1.stop j H ∧ Nx H) ∨ (J1.go j H ∧ ∃ Nx1 : Hp → Prop, (∀ H', Nx1 H' → ∃ k', k' < k ∧ W1 (j + 1) k' H') ∧ ∀ x H', J1.yld j H x H' → g1 x (wipe σ2 vs1) H' fun σ3 H5 => wipe σ3 vs1 = wipe σ2 vs1 ∧ tt1 σ3 H5 fun b H6 =>
        if b = true then te σ3 H6 fun y H7 => ∃ (c : Int) (S : Int → Bool) (n : Nat), y = .int c ∧ H7 D = some (SetO X.w D S n) ∧ n + 1 < scanBound ∧ Nx1 (upd H7 D (SetO X.w D (fun j => S j || decide (j = c)) (if S c = true then n else n + 1))) else Nx1 H6)
    else Nx H3)
theorem sc2_core {pins : List (Addr × Obj)} {s : Shared} {σ : L2.St} {H : Hp} {Q : VK} {elt tg iter tg1 iter1 : Expr} {ifs ifs1 : List Expr} {scope : Scope} {own : List (Str × Nat)} {vs1 : List Nat} {pos pos' : Pos} {wi wi1 : TI} {g g1 : TG} {tt tt1 : TT} {te : TE} {use : Option (Value → Sem Unit)} {Qf : Value → Shared → Prop}
    (hc : X.calm = true) (hN : X.N.Nodup) (I : Inv X pins σ H s) (hi : PI X tg iter wi) (ok : BlkOk X.N X.env.scope scope own) (hv : ∀ i ∈ vs1, i ∈ own.map (·.2))
    (hg : ∀ (s : Shared) (H : Hp) (C : Addr) (cl : List (Str × Addr)) (fp : List Addr), PG (X.blk s H scope (compEnvC scope cl C X.env) fp) tg g) (ht : ∀ (s : Shared) (H : Hp) (C : Addr) (cl : List (Str × Addr)) (fp : List Addr), PTs (X.blk s H scope (compEnvC scope cl C X.env) fp) ifs tt)
    (he : ∀ (s : Shared) (H : Hp) (C : Addr) (cl : List (Str × Addr)) (fp : List Addr), PE (X.blk s H scope (compEnvC scope cl C X.env) fp) elt te) (hs : ∀ x, foldedSetIterable iter X.env x = pure x)
    (hi1 : ∀ (s : Shared) (H : Hp) (C : Addr) (cl : List (Str × Addr)) (fp : List Addr), PI (X.blk s H scope (compEnvC scope cl C X.env) fp) tg1 iter1 wi1)
    (hg1 : ∀ (s : Shared) (H : Hp) (C : Addr) (cl : List (Str × Addr)) (fp : List Addr), PG (X.blk s H scope (compEnvC scope cl C X.env) fp) tg1 g1)
    (ht1 : ∀ (s : Shared) (H : Hp) (C : Addr) (cl : List (Str × Addr)) (fp : List Addr), PTs (X.blk s H scope (compEnvC scope cl C X.env) fp) ifs1 tt1)
    (hs1 : ∀ env x, foldedSetIterable iter1 env x = pure x)
    (h : tSc2 X wi g tt wi1 g1 tt1 te (own.map (·.2)) vs1 σ H Q)
    (hRR : ∀ D C s' m H', Inv X pins σ H' s' → Q (.ref D) H' → s'.heap.Ns C m → FpOk X pins H' C → compPost (model X.prog X.w) X.A X.xe use Qf (.ref D) C (.ok .next) s') :
    wpAny (model X.prog X.w) X.A (comprehension (.SetComp elt [⟨tg, iter, ifs, 0⟩, ⟨tg1, iter1, ifs1, 0⟩] scope pos) scope X.env pos' (newSet (.type "set")) false (eval iter X.env) use) Qf X.xe s := by
  have hfree : ∀ y ∈ scope.names, y.2 = .free → ∃ c, X.env.cells.lookup y.1 = some c := fun y hy e => by
    rcases ok.free y hy e with k | k
    · exact I.ok.has _ (.inl k)
    · exact I.ok.has _ (.inr k)
  refine wpAny_comprehension_free (use := use) rfl hs (closure_ok hfree) ok.kind (fun y hy e => by rw [ok.uniq y hy, e])
    (thn (hi.run pins s σ H _ I h) fun xv s1 hx => thn hx fun itv s2 h2 => ?_)
  obtain ⟨it, fp, tn, J, H2, e, I2, T, st2, f2, q⟩ := h2
  subst e
  refine PpSet.newSet_ok (newEnv_comp ?_)
  generalize hD : s2.heap.objs.size = D
  have hDn : H2 D = none := I2.hok.fresh (Nat.le_of_eq hD)
  obtain ⟨W, ⟨m0, w0⟩, turn⟩ := q D hDn
  -- the new list
  generalize hs3 : ({ s2 with heap := s2.heap.push { cls := .type "set", dict := none, data := .set #[] 0 (.fresh 0 0 (!X.w.params.followText "set-order")) } } : Shared) = s3
  have I3 : Inv X pins σ (upd H2 D (SetO X.w D (fun _ => false) 0)) s3 := by
    rw [← hs3]
    refine I2.laid (t' := s2.toks) (fun b o e => Heap.get?_push_of_some _ e) (Nat.le_of_eq hD) ?_
    rw [← hD]
    exact setO_new (setR_fresh X.w)
  have h3 : s3.heap = s2.heap.push { cls := .type "set", dict := none, data := .set #[] 0 (.fresh 0 0 (!X.w.params.followText "set-order")) } := by rw [← hs3]
  have sz : ∀ b ∈ fp, b < s2.heap.objs.size := fun b hb => by
    obtain ⟨o, e, _⟩ := T.obj _ _ st2 b hb
    exact Heap.lt_size e
  have f3 : ∀ b ∈ fp, FpOk X pins (upd H2 D (SetO X.w D (fun _ => false) 0)) b ∧ b < s3.heap.objs.size := fun b hb => by
    have hlt := sz b hb
    refine ⟨⟨?_, (f2 b hb).2⟩, by rw [h3, Heap.size_push]; exact Nat.lt_succ_of_lt hlt⟩
    rw [upd_ne (by rw [← hD]; exact Nat.ne_of_lt hlt)]
    exact (f2 b hb).1
  have st3 : tn 0 s3.heap := T.keep _ _ _ st2 fun b _ o e => by rw [h3]; exact Heap.get?_push_of_some _ e
  have I4 := block_start I3 ok hN f3
  have pg := hg s3 (upd H2 D (SetO X.w D (fun _ => false) 0)) s3.heap.objs.size (cellsFrom (s3.heap.objs.size + 1) scope.names (cloFrom X.env.cells scope.names [])) fp
  have pt := ht s3 (upd H2 D (SetO X.w D (fun _ => false) 0)) s3.heap.objs.size (cellsFrom (s3.heap.objs.size + 1) scope.names (cloFrom X.env.cells scope.names [])) fp
  have pe := he s3 (upd H2 D (SetO X.w D (fun _ => false) 0)) s3.heap.objs.size (cellsFrom (s3.heap.objs.size + 1) scope.names (cloFrom X.env.cells scope.names [])) fp
  have pi1 := hi1 s3 (upd H2 D (SetO X.w D (fun _ => false) 0)) s3.heap.objs.size (cellsFrom (s3.heap.objs.size + 1) scope.names (cloFrom X.env.cells scope.names [])) fp
  have pg1 := hg1 s3 (upd H2 D (SetO X.w D (fun _ => false) 0)) s3.heap.objs.size (cellsFrom (s3.heap.objs.size + 1) scope.names (cloFrom X.env.cells scope.names [])) fp
  have pt1 := ht1 s3 (upd H2 D (SetO X.w D (fun _ => false) 0)) s3.heap.objs.size (cellsFrom (s3.heap.objs.size + 1) scope.names (cloFrom X.env.cells scope.names [])) fp
  show codeAny _ _ (.compStart (.SetComp elt [⟨tg, iter, ifs, 0⟩, ⟨tg1, iter1, ifs1, 0⟩] scope pos) 0 (.ref it) (.ref D) (compEnvC scope (cellsFrom (s3.heap.objs.size + 1) scope.names (cloFrom X.env.cells scope.names [])) s3.heap.objs.size X.env)) (compPost (model X.prog X.w) X.A X.xe use Qf (.ref D) s3.heap.objs.size) { s3 with heap := pushCells (s3.heap.push { cls := .type "dict", data := .dict #[] }) scope.names }
  have nfp : ∀ b ∈ fp, (upd H2 D (SetO X.w D (fun _ => false) 0)) b = none := fun b hb => (f3 b hb).1.1
  generalize hce : compEnvC scope (cellsFrom (s3.heap.objs.size + 1) scope.names (cloFrom X.env.cells scope.names [])) s3.heap.objs.size X.env = ce at I4 pg pt pe pi1 pg1 pt1 ⊢
  have cL : ce.locals = s3.heap.objs.size := by subst hce; rfl
  generalize hH3 : upd H2 D (SetO X.w D (fun _ => false) 0) = H3 at I3 I4 pg pt pe pi1 pg1 pt1 w0 nfp f3
  generalize hs4 : ({ s3 with heap := pushCells (s3.heap.push { cls := .type "dict", data := .dict #[] }) scope.names } : Shared) = s4 at I4 ⊢
  have st4 : tn 0 s4.heap := T.keep _ _ _ st3 fun b _ o e => by rw [← hs4]; exact pushCells_keeps _ _ _ _ (Heap.get?_push_of_some _ e)
  have stat : ∀ {σ' : L2.St} {H' : Hp} {s' : Shared}, Inv (X.blk s3 H3 scope ce fp) [] σ' H' s' → (∀ b ∈ fp, H' b = none) → ∀ b ∈ fp, FpOk (X.blk s3 H3 scope ce fp) [] H' b := fun {σ' H' s'} I' hn b hb =>
    ⟨hn b hb, (I'.ok.exf b hb).1, I'.ok.exfs b hb, .inl hb, fun x c e => (I'.ok.exf b hb).2 x c e, fun p hp => absurd (show p ∈ ([] : List (Addr × Obj)) ++ [] from hp) (by simp)⟩
  have loop : codeAny (model X.prog X.w) X.A (.compLoop (.SetComp elt [⟨tg, iter, ifs, 0⟩, ⟨tg1, iter1, ifs1, 0⟩] scope pos) 0 (.ref it) (.ref D) ce) (compPost (model X.prog X.w) X.A X.xe use Qf (.ref D) s3.heap.objs.size) s4 := by
    refine setLoop_out (hs1 ce) (fun n s' => ∃ i H', Inv (X.blk s3 H3 scope ce fp) [] (wipe σ (own.map (·.2))) H' s' ∧ tn i s'.heap ∧ (∀ b ∈ fp, H' b = none) ∧ W i n H') ?_ m0 ⟨0, H3, I4, st4, nfp, w0⟩
    rintro n s5 ⟨i, H5, I5, st5, n5, w5⟩
    rcases turn i n H5 w5 with ⟨stop, qq⟩ | ⟨go, Nx, hNx, step⟩
    · have td := T.done (X.blk s3 H3 scope ce fp) rfl rfl rfl hc i [] s5 _ H5 (fun _ _ => False) I5 (stat I5 n5) st5 stop
      refine thnF td fun r s6 ⟨hr, I6⟩ => ?_
      subst hr
      -- back in the def's context
      have I7 : Inv X pins σ H5 s6 := I3.call' (ch := fp) I6.os I6.base I6.hok I6.bare fun b hb => ⟨(f3 b hb).1.2.2.2.1, (f3 b hb).1.2.1, (f3 b hb).1.2.2.2.2.1, (f3 b hb).1.2.2.2.2.2⟩
      have nC : H5 s3.heap.objs.size = none := by
        have z : H5 ce.locals = none := I6.free
        rw [cL] at z
        exact z
      obtain ⟨m, hn, _⟩ := I6.loc
      have hn : s6.heap.Ns ce.locals m := hn
      rw [cL] at hn
      exact hRR D s3.heap.objs.size s6 m H5 I7 qq hn (I3.fpOk (Nat.le_refl _) nC)
    · have ti := T.item (X.blk s3 H3 scope ce fp) rfl rfl rfl hc i [] s5 _ H5 (fun _ _ => False) I5 (stat I5 n5) st5 go
      refine thnF ti fun r s6 ⟨u, hr, h6⟩ => ?_
      subst hr
      refine thnF h6 fun _ s7 ⟨x, H7, I7, r7, y7, st7, n7⟩ => ?_
      have I7' := I7.pinned (stat I7 n7) (T.obj _ _ st7)
      refine thnF (pg.run _ s7 _ H7 x u _ I7' r7 (step x H7 y7)) fun _ s8 ⟨σ8, H8, I8, hw8, q8⟩ => ?_
      refine thnF (pt.run _ s8 σ8 H8 _ I8 q8) fun b s9 ⟨H9, I9, q9⟩ => ?_
      -- the turn's end, from any slots that know what the block knew at its start
      have fin : ∀ {σ9 : L2.St} {s' : Shared} {H' : Hp}, Inv (X.blk s3 H3 scope ce fp) ([] ++ pinsAt fp s7.heap) σ9 H' s' → (wipe σ (own.map (·.2))).length = σ9.length → (∀ (j : Nat) v, (wipe σ (own.map (·.2)))[j]? = some (some v) → σ9[j]? = some (some v)) → Nx H' →
          ∃ m, m < n ∧ ∃ i H', Inv (X.blk s3 H3 scope ce fp) [] (wipe σ (own.map (·.2))) H' s' ∧ tn i s'.heap ∧ (∀ b ∈ fp, H' b = none) ∧ W i m H' := fun {σ9 s' H'} I' hl hk nx => by
        obtain ⟨m', hm, w'⟩ := hNx H' nx
        have pin' : ∀ b ∈ fp, ∀ o, s7.heap.get? b = some o → s'.heap.get? b = some o ∧ H' b = none := fun b hb o e =>
          let z := I'.pin (b, o) (List.mem_append_right _ (List.mem_append_right _ (mem_pinsAt hb e)))
          ⟨z.1, z.2.1⟩
        refine ⟨m', hm, i + 1, H', (I'.unpinned (pins := [])).weak hl hk, T.keep _ _ _ st7 fun b hb o e => (pin' b hb o e).1, fun b hb => ?_, w'⟩
        obtain ⟨o, e, _⟩ := T.obj _ _ st7 b hb
        exact (pin' b hb o e).2
      have hl8 : (wipe σ (own.map (·.2))).length = σ8.length := by rw [← hw8, wipe_length]
      have hk8 : ∀ (j : Nat) v, (wipe σ (own.map (·.2)))[j]? = some (some v) → σ8[j]? = some (some v) := fun j v e => by
        rw [← hw8] at e
        exact (wipe_some e).1
      have hk9 : ∀ (j : Nat) v, (wipe σ (own.map (·.2)))[j]? = some (some v) → (wipe σ8 vs1)[j]? = some (some v) := fun j v e => by
        rw [← hw8] at e
        obtain ⟨e1, e2⟩ := wipe_some e
        rw [wipe_out fun z => e2 (hv j z)]
        exact e1
      cases b with
      | false =>
        simp only [Bool.false_eq_true, if_false] at q9 ⊢
        exact fin I9 hl8 hk8 q9
      | true =>
        simp only [if_true] at q9 ⊢
        refine thnF (pi1.run _ s9 σ8 H9 _ I9 q9) fun xv s10 hx => thnF hx fun itv s11 h11 => ?_
        obtain ⟨it1, fp1, tn1, J1, H11, e1, I11, T1, st11, f11, W1, ⟨m1, w1⟩, turn1⟩ := h11
        subst e1
        -- the inner loop
        have stat1 : ∀ {H' : Hp}, (∀ b ∈ fp1, H' b = none) → ∀ b ∈ fp1, FpOk (X.blk s3 H3 scope ce fp) ([] ++ pinsAt fp s7.heap) H' b := fun hn b hb => ⟨hn b hb, (f11 b hb).2⟩
        have loop1 : codeAny (model X.prog X.w) X.A (.compLoop (.SetComp elt [⟨tg, iter, ifs, 0⟩, ⟨tg1, iter1, ifs1, 0⟩] scope pos) 1 (.ref it1) (.ref D) ce)
            (fun r s' => match r with
              | .ok _ => ∃ m, m < n ∧ ∃ i H', Inv (X.blk s3 H3 scope ce fp) [] (wipe σ (own.map (·.2))) H' s' ∧ tn i s'.heap ∧ (∀ b ∈ fp, H' b = none) ∧ W i m H'
              | .error _ => False) s11 := by
          refine setLoop_in (fun k s' => ∃ j H', Inv (X.blk s3 H3 scope ce fp) ([] ++ pinsAt fp s7.heap) (wipe σ8 vs1) H' s' ∧ tn1 j s'.heap ∧ (∀ b ∈ fp1, H' b = none) ∧ W1 j k H') ?_ m1 ⟨0, H11, I11.weak (wipe_length _ _) (fun j v e => (wipe_some e).1), st11, fun b hb => (f11 b hb).1, w1⟩
          rintro k s12 ⟨j, H12, I12, st12, n12, w12⟩
          rcases turn1 j k H12 w12 with ⟨stop1, nx1⟩ | ⟨go1, Nx1, hNx1, step1⟩
          · refine thnF (T1.done (X.blk s3 H3 scope ce fp) rfl rfl rfl hc j _ s12 (wipe σ8 vs1) H12 (fun _ _ => False) I12 (stat1 n12) st12 stop1) fun r s13 ⟨hr, I13⟩ => ?_
            subst hr
            exact fin I13 (hl8.trans (wipe_length σ8 vs1).symm) hk9 nx1
          · refine thnF (T1.item (X.blk s3 H3 scope ce fp) rfl rfl rfl hc j _ s12 (wipe σ8 vs1) H12 (fun _ _ => False) I12 (stat1 n12) st12 go1) fun r s13 ⟨u1, hr, h13⟩ => ?_
            subst hr
            refine thnF h13 fun _ s14 ⟨x1, H14, I14, r14, y14, st14, n14⟩ => ?_
            have I14' := I14.pinned (stat1 n14) (T1.obj _ _ st14)
            refine thnF (pg1.run _ s14 (wipe σ8 vs1) H14 x1 u1 _ I14' r14 (step1 x1 H14 y14)) fun _ s15 ⟨σ15, H15, I15, hw15, q15⟩ => ?_
            refine thnF (pt1.run _ s15 σ15 H15 _ I15 q15) fun b1 s16 ⟨H16, I16, q16⟩ => ?_
            have fin1 : ∀ {s' : Shared} {H' : Hp}, Inv (X.blk s3 H3 scope ce fp) (([] ++ pinsAt fp s7.heap) ++ pinsAt fp1 s14.heap) σ15 H' s' → Nx1 H' → ∃ m, m < k ∧ ∃ j H', Inv (X.blk s3 H3 scope ce fp) ([] ++ pinsAt fp s7.heap) (wipe σ8 vs1) H' s' ∧ tn1 j s'.heap ∧ (∀ b ∈ fp1, H' b = none) ∧ W1 j m H' := fun {s' H'} I' nx => by
              obtain ⟨m', hm, w'⟩ := hNx1 H' nx
              have pin' : ∀ b ∈ fp1, ∀ o, s14.heap.get? b = some o → s'.heap.get? b = some o ∧ H' b = none := fun b hb o e =>
                let z := I'.pin (b, o) (List.mem_append_right _ (List.mem_append_right _ (mem_pinsAt hb e)))
                ⟨z.1, z.2.1⟩
              refine ⟨m', hm, j + 1, H', I'.unpinned.weak (by rw [← hw15, wipe_length]) (fun j v e => by rw [← hw15] at e; exact (wipe_some e).1), T1.keep _ _ _ st14 fun b hb o e => (pin' b hb o e).1, fun b hb => ?_, w'⟩
              obtain ⟨o, e, _⟩ := T1.obj _ _ st14 b hb
              exact (pin' b hb o e).2
            cases b1 with
            | false =>
              simp only [Bool.false_eq_true, if_false] at q16 ⊢
              exact fin1 I16 q16
            | true =>
              simp only [if_true] at q16 ⊢
              refine thnF (pe.run _ s16 σ15 H16 _ I16 q16) fun z s17 ⟨yv, H17, I17, r17, c17, S17, n17, ey17, hD17, hz17, nx⟩ => ?_
              subst ey17
              obtain ⟨tk17, rfl⟩ := r17
              exact addI_ok (X := X.blk s3 H3 scope ce fp) I17 hD17 hz17 fun s18 I18 => fin1 I18 nx
        exact setStart_in loop1 (T1.self X.A 0 _ _ _ st11 loop1)
  exact PpSet.codeAny_compStart_set loop (T.self X.A 0 _ _ _ st4 loop)
/-- as a value -/
theorem pe_sc2 {elt tg iter tg1 iter1 : Expr} {ifs ifs1 : List Expr} {scope : Scope} {own : List (Str × Nat)} {vs1 : List Nat} {pos : Pos} {wi wi1 : TI} {g g1 : TG} {tt tt1 : TT} {te : TE} (hc : X.calm = true) (hN : X.N.Nodup) (hi : PI X tg iter wi) (ok : BlkOk X.N X.env.scope scope own) (hv : ∀ i ∈ vs1, i ∈ own.map (·.2))
    (hg : ∀ (s : Shared) (H : Hp) (C : Addr) (cl : List (Str × Addr)) (fp : List Addr), PG (X.blk s H scope (compEnvC scope cl C X.env) fp) tg g) (ht : ∀ (s : Shared) (H : Hp) (C : Addr) (cl : List (Str × Addr)) (fp : List Addr), PTs (X.blk s H scope (compEnvC scope cl C X.env) fp) ifs tt)
    (hi1 : ∀ (s : Shared) (H : Hp) (C : Addr) (cl : List (Str × Addr)) (fp : List Addr), PI (X.blk s H scope (compEnvC scope cl C X.env) fp) tg1 iter1 wi1)
    (hg1 : ∀ (s : Shared) (H : Hp) (C : Addr) (cl : List (Str × Addr)) (fp : List Addr), PG (X.blk s H scope (compEnvC scope cl C X.env) fp) tg1 g1) (ht1 : ∀ (s : Shared) (H : Hp) (C : Addr) (cl : List (Str × Addr)) (fp : List Addr), PTs (X.blk s H scope (compEnvC scope cl C X.env) fp) ifs1 tt1)
    (he : ∀ (s : Shared) (H : Hp) (C : Addr) (cl : List (Str × Addr)) (fp : List Addr), PE (X.blk s H scope (compEnvC scope cl C X.env) fp) elt te) (hs : ∀ x, foldedSetIterable iter X.env x = pure x := by intro _; rfl) (hs1 : ∀ env x, foldedSetIterable iter1 env x = pure x := by intro _ _; rfl) :
    PE X (.SetComp elt [⟨tg, iter, ifs, 0⟩, ⟨tg1, iter1, ifs1, 0⟩] scope pos) (tSc2 X wi g tt wi1 g1 tt1 te (own.map (·.2)) vs1) := by
  refine ⟨fun pins s σ H Q I h => ?_⟩
  rw [PpSet.eval_SetComp]
  refine sc2_core hc hN I hi ok hv hg ht he hs hi1 hg1 ht1 hs1 h fun D C s' m H' I' q hn f => ⟨m, hn, fun h'' sb => ?_⟩
  obtain ⟨f0, f1, f2, f3, f4, f5⟩ := f
  exact ⟨.ref D, H', I'.turned (t' := s'.toks) (fun b o hb e => (sb.2 b hb).trans e) f0 f1 f3 f4 f5, rfl, q⟩
end
/-! ### set(a list of numbers) -/
section
variable {P : Program} {w : World}
theorem ints_scan : ∀ {xs : List Int} {us : List Value}, Vals (xs.map V.int) us → Paired (fun v k => (PySem.intKind P w).is k v = true ∧ v.scannable = true) us xs
  | [], _, h => by
    cases h
    exact .nil
  | x :: xs, _, h => by
    cases h with
    | cons r t =>
      obtain ⟨k, rfl⟩ := r
      exact .cons ⟨intKind_is _ _ _ _, rfl⟩ (ints_scan t)
theorem ents_keys : ∀ {l : List (Int × Value)} {ks : List Int}, Paired (Ty.EntOf (PySem.intKind P w)) l ks → l.map keyOf = ks ∧ ∀ e, e ∈ l → GoodE e
  | _, _, .nil => ⟨rfl, fun e h => by cases h⟩
  | _, _, @Paired.cons _ _ _ e k _ _ r t => by
    obtain ⟨tk, hv⟩ := Value.isInt_shape r.1
    obtain ⟨h1, h2⟩ := ents_keys t
    refine ⟨?_, fun e' he => ?_⟩
    · rw [List.map_cons, h1]
      unfold keyOf
      rw [hv]
    · rcases List.mem_cons.mp he with q | q
      · rw [q]
        exact ⟨k, tk, hv, r.2.1⟩
      · exact h2 e' q
theorem setR_of {h : Heap} {a : Addr} {L : List Int} (g : Ty.SetG (PySem.intKind P w) h a L) : SetR w h a (fun k => decide (k ∈ L)) L.length := by
  obtain ⟨o, es, ep, t, ks, ho, hx, hd, pr, pm, nd, hb, hf, hr, hl⟩ := g
  obtain ⟨e1, e2⟩ := ents_keys pr
  refine ⟨o, es, ep, t, ho, hx, hd, e2, by rw [e1]; exact pm.nodup_iff.mpr nd, fun k => ?_, hb, hf, ?_, hr, hl⟩
  · rw [e1, decide_eq_true_eq]
    exact pm.mem_iff.symm
  · rw [← Array.length_toList, Paired.length pr, pm.length_eq]
end
section
variable {X : Cx}
def rSetI (K : PySem.W.Frag) (w : World) : List V → Hp → VK → Prop := fun vs H Q => ∃ (l : Addr) (xs : List Int), vs = [.ref l] ∧ SqL K H l (xs.map V.int) ∧ xs.length + 1 < scanBound ∧
  ∀ p, H p = none → Q (.ref p) (upd H p (SetO w p (fun k => decide (k ∈ Ty.gather [] xs)) (Ty.gather [] xs).length))
theorem cr_setI (hc : X.calm = true) : CallR X (.type "set") (rSetI X.K X.w) := by
  intro pins s σ H vs us Q I r h
  obtain ⟨l, xs, rfl, hq, hb, q⟩ := h
  obtain ⟨u, rfl, rx⟩ := vals1 r
  cases rx
  obtain ⟨its, rv, hl, _⟩ := I.list hq
  have hlen := rv.length
  rw [List.length_map] at hlen
  refine Ty.call_setL (knd := PySem.intKind X.prog X.w) (I.ok.hd hc) hl.isList (ints_scan rv) (by rw [← hlen]; exact hb) fun g tk hS kp => ?_
  exact ⟨.ref _, _, I.laid (t' := tk) kp (Nat.le_refl _) (setO_new (setR_of hS)), rfl, q _ (I.hok.fresh (Nat.le_refl _))⟩
end
end Se
set_option maxHeartbeats 2000000
/-! list.extend of a tuple and of a text, list(text), (number, text) < (number, text) -/
namespace Se
open PySem PySem.Spec PyProof.Rows L2
open PySem.AutoSeq1 (wpAny_loadPart')
theorem ext_tup (l : Addr) (items : Array Value) (n : Nat) (b : Addr) (items2 : Array Value) (n2 : Nat) (dd : Option Addr) (sl : Array (Option Value)) (hs0 : ¬(!items.isEmpty && Builtin.List.listTooLong (items.size + items2.size)) = true) (hs1 : items.size ≤ sizeLine) (hs2 : items.size + items2.size ≤ sizeLine + 1) :
    Meets (Builtin.«list.extend» ⟨[.ref l, .ref b], []⟩) (fun _ R s => s.heap.get? l = some { cls := .type "list", dict := none, data := .seq items n, slots := #[] } ∧ s.heap.get? b = some { cls := .type "tuple", dict := dd, data := .seq items2 n2, slots := sl } ∧ R (.ok (.ret Value.none)) { s with heap := s.heap.update l (Obj.mapSeq fun x => x ++ items2), toks := s.toks }) :=
  .of_wp fun prog w A R s h => by
    obtain ⟨hp, g, d, tk, os⟩ := s
    obtain ⟨hl, hb, h⟩ := h
    have f1 := AutoSeq1.idx_int
    have f2 := AutoSeq1.sub_tuple_tuple
    have f3 := AutoSeq1.sub_list_list
    have f4 := AutoSeq1.sub_tuple_list
    have f5 := AutoSeq1.sub_list_tuple
    have hz' : (items ++ items2).size ≤ sizeLine + 1 := by rw [Array.size_append]; exact hs2
    wp_walk using (wpAny_updateSeq hl rfl (hz := hs1) (_hz' := hz')), wpAny_loadPart' hl, wpAny_loadPart' hb
    exact ⟨_, rfl, h⟩
section
variable {X : Cx}
/-- xs.extend(a tuple) -/
def rExtT (K : PySem.W.Frag) : V → List V → Hp → VK → Prop := fun x vs H Q => ∃ l b xs zs, x = .ref l ∧ vs = [.ref b] ∧ H l = some (.lst xs) ∧ SqT K H b zs ∧ xs.length + zs.length ≤ sizeLine ∧ Q .non (upd H l (.lst (xs ++ zs)))
theorem mt_extT : MtM X "list.extend" (rExtT X.K) := by
  intro pins s σ H x vs v us Q I rx rv h
  obtain ⟨l, b, xs, zs, rfl, rfl, hH, hB, hz, q⟩ := h
  cases rx
  obtain ⟨u, rfl, ru⟩ := rv.one
  cases ru
  obtain ⟨z, its, n, r, hl, e⟩ := I.lstM hH
  obtain ⟨its2, r2, ⟨⟨cls, dd, dt, sl⟩, ho, hc, n2, hd⟩, _⟩ := I.tuple hB
  simp only at hc hd
  subst hc hd
  have hl2 := r2.length
  have hsz : its.toArray.size + its2.toArray.size ≤ sizeLine := by rw [List.size_toArray, List.size_toArray]; omega
  have hlong : ¬ (!its.toArray.isEmpty && Builtin.List.listTooLong (its.toArray.size + its2.toArray.size)) = true := by
    rw [notLongL hsz, Bool.and_false]
    exact Bool.false_ne_true
  refine call_meets F.slot_list_extend ⟨_, e, rfl⟩ F.entry_list_extend (F.args_list_extend_2 _ _) (ext_tup l its.toArray n b its2.toArray n2 dd sl hlong (by rw [List.size_toArray]; omega) (by omega)) ⟨e, ho, ?_⟩
  refine ⟨.non, _, I.lset (its' := its ++ its2) hH e (by simp) (r.append r2) ?_, rfl, q⟩
  rw [List.length_append]
  omega
end
/-! ### xs.extend(a text) -/
/-- behind the base, the walked items -/
def Behind (P : Nat → Value → Prop) (base acc : Array Value) (i : Nat) : Prop := ∃ more : List Value, acc = base ++ more.toArray ∧ more.length = i ∧ ∀ (j : Nat) v, more[j]? = some v → P j v
theorem Behind.push {P : Nat → Value → Prop} {base acc : Array Value} {i : Nat} {x : Value} (h : Behind P base acc i) (hx : P i x) : Behind P base (acc.push x) (i + 1) := by
  obtain ⟨more, rfl, hl, hp⟩ := h
  refine ⟨more ++ [x], by simp, by rw [List.length_append, hl]; rfl, fun j v hj => ?_⟩
  by_cases c : j < more.length
  · rw [List.getElem?_append_left c] at hj
    exact hp j v hj
  · rw [List.getElem?_append_right (by omega)] at hj
    have : j - more.length = 0 := by
      rcases Nat.eq_zero_or_pos (j - more.length) with z | z
      · exact z
      · rw [List.getElem?_eq_none (by simp; omega)] at hj
        cases hj
    rw [this] at hj
    injection hj with hj
    rw [← hj]
    have : j = i := by omega
    rw [this]; exact hx
theorem Behind.size {P : Nat → Value → Prop} {base acc : Array Value} {i : Nat} (h : Behind P base acc i) : acc.size = base.size + i := by
  obtain ⟨more, rfl, hl, _⟩ := h
  rw [Array.size_append, ← hl]
  simp
section
variable {prog : Program} {w : World} {A : Around} {R : Result → Shared → Prop} {I : Addr} {fp wr : List Addr} {G : Array GenState → Array GenState → Prop} {n : Nat} {P : Nat → Value → Prop} {St : Nat → Shared → Prop}
theorem ext_loop (W : WalksS prog w A.in1 I fp wr G n P St) (base : Array Value) (hn : base.size + n ≤ sizeLine) (S : Addr) (hSf : S ∉ fp) (res : Value) :
    ∀ (k i : Nat) (s : Shared) (acc : Array Value) (c : Nat), n - i = k → i ≤ n → St i s → s.heap.get? S = some { cls := .type "list", dict := none, data := .seq acc c, slots := #[] } → Behind P base acc i →
    (∀ s' acc' c', Moved (S :: wr) G s s' → s'.heap.get? S = some { cls := .type "list", dict := none, data := .seq acc' c', slots := #[] } → Behind P base acc' n → R (.ok (.ret res)) s') →
    codeAny (model prog w) A (.builtin "list.extend.loop" ⟨[.ref S, .ref I, res], []⟩) R s := by
  have hSw : S ∉ wr := fun h => hSf (W.sub _ h)
  have up : ∀ b ∈ wr, b ∈ S :: wr := fun b hb => List.mem_cons_of_mem _ hb
  intro k
  induction k with
  | zero =>
    intro i s acc c hk hi hst hS hacc hR
    obtain rfl : i = n := by omega
    refine codeAny_builtin PySem.F.entry_extend_loop ?_
    rw [Around.under_plainId PySem.F.plain_extend_loop _]
    show wpAny _ A.in1 (pyNext (.ref I) >>= _) _ _ s
    refine wpAny_bind (W.done s _ _ hst fun s' hm => ?_)
    exact wpAny_pure (hR s' acc c (hm.mono up) (hm.heap S _ hSw hS) hacc)
  | succ k ih =>
    intro i s acc c hk hi hst hS hacc hR
    have hlt : i < n := by omega
    have hz := hacc.size
    refine codeAny_builtin PySem.F.entry_extend_loop ?_
    rw [Around.under_plainId PySem.F.plain_extend_loop _]
    show wpAny _ A.in1 (pyNext (.ref I) >>= _) _ _ s
    refine wpAny_bind (W.item i s _ _ hlt hst fun v s' hP hst' hm => ?_)
    have hS' := hm.heap S _ hSw hS
    show wpAny _ A.in1 (updateSeq S (·.push v) >>= _) _ _ _
    refine wpAny_bind ?_
    refine wpAny_updateSeq hS' rfl (wpAny_pure ⟨plainId_quiet PySem.F.plain_extend_loop _, ih (i + 1) _ (acc.push v) _ (by omega) hlt (W.frame _ s' _ s'.toks hst' (Nat.le_refl _) fun b hb o e => ?_) (Heap.get?_update_self _ hS' rfl) (hacc.push hP) fun s'' acc' c' hm'' hS'' hacc' => ?_⟩)
      (by omega) (by show (acc.push v).size ≤ sizeLine + 1; rw [Array.size_push]; omega)
    · exact (Heap.get?_update_other _ _ (fun h : S = b => hSf (by rw [h]; exact hb))).trans e
    · refine hR s'' acc' c' (Moved.trans W.gtrans ((hm.mono up).then_heap (by first | exact Nat.le_refl _ | exact Nat.le_succ _ | omega) fun b o hb e => ?_) hm'') hS'' hacc'
      exact (Heap.get?_update_other _ _ (fun h : S = b => hb (by rw [h]; exact List.mem_cons_self))).trans e
end
section
variable {prog : Program} {w : World} {A : Around} {E : Value → Shared → Prop} {s : Shared}
theorem ext_str {R : Result → Shared → Prop} (hh : A.handled = none) (x : Str) (t : Tok) (S : Addr) (base : Array Value) (c₀ : Nat) (hS : s.heap.get? S = some { cls := .type "list", data := .seq base c₀ }) (hn : base.size + x.cps.size ≤ sizeLine)
    (hR : ∀ h' tk acc' c', (∀ b o, b ≠ S → s.heap.get? b = some o → h'.get? b = some o) → h'.get? S = some { cls := .type "list", dict := none, data := .seq acc' c', slots := #[] } →
      Behind (SignAt x) base acc' x.cps.size → R (.ok (.ret .none)) { s with heap := h', toks := tk }) :
    wpAny (model prog w) A.in1 (Builtin.List.listExtendWith (.ref S) (.str x t) .none)
      (fun fin s' => match fin with | .done f => R (.ok f) s' | .again c' => c'.quiet = true ∧ codeAny (model prog w) A c' R s') (fun e s' => R (.error e) s') s := by
  have hSI : S ≠ s.heap.objs.size := Nat.ne_of_lt (Heap.lt_size hS)
  have hSf : S ∉ [s.heap.objs.size] := fun hm => hSI (List.mem_singleton.mp hm)
  unfold Builtin.List.listExtendWith
  refine wpAny_bind (wpAny_typeOf (T := "str") (v := .str x t) rfl ?_)
  have h1 : Builtin.List.listSameRef (.ref S) (.str x t) = false := rfl
  have h2 : (Value.type "str" == Value.type "list") = false := by decide
  have h3 : (Value.type "str" == Value.type "tuple") = false := by decide
  simp only [h1, h2, h3, Bool.or_false, Bool.false_eq_true, if_false]
  refine wpAny_bind (wpAny_pyIter_str fun o St W hst => ?_)
  refine wpAny_bind (wpAny_holding ?_)
  unfold Builtin.List.listLengthHint
  refine wpAny_bind (wpAny_specialOf (T := "str") (v := .str x t) rfl PySem.F.str_len ?_)
  wp_delta
  refine wpAny_bind (wpAny_isInstance (T := "str") (v := .str x t) (b := true) rfl (by rw [isSubtype_type]; kernel_rfl) ?_)
  show wpAny _ _ (typeOf (Value.str x t) >>= _) _ _ _
  refine wpAny_bind (wpAny_typeOf (T := "str") (v := .str x t) rfl ?_)
  refine wpAny_pure ?_
  rw [if_neg (by decide)]
  refine wpAny_pure ⟨plainId_quiet PySem.F.plain_extend_loop _, ext_loop (W A.in1 hh).toS base hn _ hSf _ x.cps.size 0 _ _ _ rfl (Nat.zero_le _) hst (Heap.get?_push_of_some _ hS) ⟨[], by simp, rfl, fun j v h => by simp at h⟩ fun s' acc' c' hm hS' hacc => ?_⟩
  rw [Moved.eq_with hm]
  refine hR s'.heap s'.toks acc' c' (fun b ob hb e => hm.heap b ob (fun hmem => ?_) (Heap.get?_push_of_some _ e)) hS' hacc
  rcases List.mem_cons.mp hmem with e' | hmem
  · exact hb e'
  · exact absurd (Heap.lt_size e) (by rw [List.mem_singleton.mp hmem]; exact Nat.lt_irrefl _)
end
/-- the signs of a text, each as a text -/
def signsV (x : Str) : List V := x.cps.toList.map fun c => V.str ⟨#[c]⟩
theorem signs_vals {x : Str} {more : List Value} (hl : more.length = x.cps.size) (h : ∀ (j : Nat) v, more[j]? = some v → SignAt x j v) : Vals (signsV x) more := by
  have main : ∀ (l : List Nat) (m : List Value), m.length = l.length → (∀ (j : Nat) v, m[j]? = some v → ∃ c u, l[j]? = some c ∧ v = .str ⟨#[c]⟩ u) → Vals (l.map fun c => V.str ⟨#[c]⟩) m := by
    intro l
    induction l with
    | nil => intro m hm _; rw [List.length_eq_zero_iff.mp hm]; exact .nil
    | cons c l ih =>
      intro m hm hv
      cases m with
      | nil => simp at hm
      | cons v m =>
        obtain ⟨c', u, e1, e2⟩ := hv 0 v rfl
        injection e1 with e1
        subst e1 e2
        exact .cons ⟨u, rfl⟩ (ih m (by simpa using hm) fun j v hj => hv (j + 1) v hj)
  refine main _ _ (by rw [hl]; exact Array.length_toList.symm) fun j v hj => ?_
  obtain ⟨c, u, e1, e2⟩ := h j v hj
  exact ⟨c, u, by rw [Array.getElem?_toList]; exact e1, e2⟩
section
variable {X : Cx}
def rExtS : V → List V → Hp → VK → Prop := fun x vs H Q => ∃ l xs z, x = .ref l ∧ vs = [.str z] ∧ H l = some (.lst xs) ∧ xs.length + z.length ≤ sizeLine ∧ Q .non (upd H l (.lst (xs ++ signsV z)))
theorem mt_extS (hc : X.calm = true) : MtM X "list.extend" rExtS := by
  intro pins s σ H x vs v us Q I rx rv h
  obtain ⟨l, xs, zt, rfl, rfl, hH, hz, q⟩ := h
  cases rx
  obtain ⟨u, rfl, t, rfl⟩ := rv.one
  obtain ⟨z, its, n, r, hl, e⟩ := I.lstM hH
  have hz' : its.toArray.size + zt.cps.size ≤ sizeLine := by rw [List.size_toArray, ← hl]; exact hz
  refine wpAny_call (codeAny_call_builtin F.slot_list_extend.plain F.entry_list_extend (F.slot_list_extend.check _ _ _ _ _ _ _ _ ⟨_, e, rfl⟩ (F.args_list_extend_2 _ _) ?_))
  show wpAny _ _ (Builtin.List.listExtendWith (.ref l) (.str zt t) .none) _ _ _
  refine ext_str (A := X.A) (R := wants (EP X pins σ Q) X.xe) (I.ok.hd hc) zt t l its.toArray n e hz' fun g tk acc' c' hk hS' hacc => ?_
  obtain ⟨more, rfl, hl2, hp⟩ := hacc
  have hv := signs_vals hl2 hp
  refine ⟨.non, upd H l (.lst (xs ++ signsV zt)), I.write (x := l) (e := l) (t' := tk) (by rw [hH]; trivial) (.inl rfl) (fun b u hb hu => hk b u hb hu) ⟨_, hS'⟩ ⟨?_, its ++ more, c', r.append hv, by simpa using hS'⟩, rfl, q⟩
  rw [List.length_append]
  unfold signsV
  rw [List.length_map]
  have : zt.cps.toList.length = zt.length := Array.length_toList
  omega
/-- list(a text) -/
def rListS : List V → Hp → VK → Prop := fun xs H Q => ∃ z, xs = [.str z] ∧ z.length ≤ sizeLine ∧ ∀ p, H p = none → Q (.ref p) (upd H p (.lst (signsV z)))
theorem call_listS (hc : X.calm = true) : CallR X (.type "list") rListS := by
  intro pins s σ H xs us Q I r h
  obtain ⟨z, rfl, hz, q⟩ := h
  obtain ⟨u, rfl, t, rfl⟩ := vals1 r
  refine call_list_str (I.ok.hd hc) z t (fun g tk acc' c' hk hS' hacc => ?_) hz
  have hv : Vals (signsV z) acc'.toList := signs_vals (by rw [Array.length_toList]; exact hacc.1) fun j v hj => hacc.2 j v (by rw [← Array.getElem?_toList]; exact hj)
  refine ⟨.ref _, _, I.laid (t' := tk) (o := .lst (signsV z)) hk (Nat.le_refl _) ⟨?_, acc'.toList, c', hv, by simpa using hS'⟩, rfl, q _ (I.hok.fresh (Nat.le_refl _))⟩
  unfold signsV
  rw [List.length_map]
  exact (show z.cps.toList.length = z.length from Array.length_toList) ▸ hz
/-- (n, x) < (m, y) -/
def ltNS (n m : Int) (x y : Str) : Bool := if n = m then decide (x.cps.toList < y.cps.toList) else decide (n < m)
def rLtNS (K : PySem.W.Frag) : R2 := fun a b H Q => ∃ p q n m x y, a = .ref p ∧ b = .ref q ∧ SqT K H p [.int n, .str x] ∧ SqT K H q [.int m, .str y] ∧ Q (.bl (ltNS n m x y)) H
theorem op_ltNS (hu : X.A.units < cLine) : OpR X (compareOp .Lt) (rLtNS X.K) := by
  intro pins s σ H a b v u Q I rx ry h
  obtain ⟨p, q', n, m, x, y, rfl, rfl, hp, hq, q⟩ := h
  cases rx
  cases ry
  obtain ⟨its, r1, t1, _⟩ := I.tuple hp
  obtain ⟨its2, r2, t2, _⟩ := I.tuple hq
  cases r1 with
  | cons a1 b1 =>
  cases b1 with
  | cons a2 b2 =>
  cases b2
  cases r2 with
  | cons c1 d1 =>
  cases d1 with
  | cons c2 d2 =>
  cases d2
  obtain ⟨k1, rfl⟩ := a1
  obtain ⟨k2, rfl⟩ := a2
  obtain ⟨k3, rfl⟩ := c1
  obtain ⟨k4, rfl⟩ := c2
  have main := SeqAt.RcLt.tuples (A := X.A) (s := s) (e := fun j => if j = 0 then decide (n = m) else decide (x = y)) (r := fun j => if j = 0 then decide (n < m) else decide (x.cps.toList < y.cps.toList)) t1 t2 hu
    (fun j h1 h2 => by
      match j, h1 with
      | 0, _ =>
        have e := eqAt_V (A := X.A.in1) (s := s) (y := .int n) (x := .int m) (u := .int n k1) (v := .int m k3) ⟨k1, rfl⟩ ⟨k3, rfl⟩ rfl rfl
        have e2 : eqV (.int n) (.int m) = decide (n = m) := by
          show (n == m) = _
          by_cases c : n = m
          · rw [c]; simp
          · rw [decide_eq_false c]; exact beq_eq_false_iff_ne.mpr c
        rw [e2] at e
        exact e
      | 1, _ =>
        have e := eqAt_V (A := X.A.in1) (s := s) (y := .str x) (x := .str y) (u := .str x k2) (v := .str y k4) ⟨k2, rfl⟩ ⟨k4, rfl⟩ rfl rfl
        have e2 : eqV (.str x) (.str y) = decide (x = y) := by
          show (x == y) = _
          by_cases c : x = y
          · rw [c]; simp
          · rw [decide_eq_false c]; exact beq_eq_false_iff_ne.mpr c
        rw [e2] at e
        exact e)
    (fun j h1 h2 _ => by
      match j, h1 with
      | 0, _ => exact fun prog w E Q h => HT.rcLt_int _ _ _ _ _ _ prog w E Q h
      | 1, _ => exact fun prog w E Q h => DT.rcLt_str _ _ _ _ _ _ prog w E Q h)
  have ev : SeqAt.firstLt (fun j => if j = 0 then decide (n = m) else decide (x = y)) (fun j => if j = 0 then decide (n < m) else decide (x.cps.toList < y.cps.toList)) (decide ((#[Value.int n k1, Value.str x k2]).size < (#[Value.int m k3, Value.str y k4]).size)) (List.range (min (#[Value.int n k1, Value.str x k2]).size (#[Value.int m k3, Value.str y k4]).size)) = ltNS n m x y := by
    show SeqAt.firstLt _ _ false [0, 1] = _
    unfold ltNS
    by_cases c : n = m
    · rw [if_pos c, SeqAt.firstLt_yes (by simp [c])]
      by_cases c2 : x = y
      · rw [SeqAt.firstLt_yes (by simp [c2]), c2]
        simp [SeqAt.firstLt]
      · rw [SeqAt.firstLt_no (by simp [c2])]
        simp
    · rw [if_neg c, SeqAt.firstLt_no (by simp [c])]
      simp
  refine main X.prog X.w X.xe _ ?_
  exact fin_bl I q ev.symm
end
end Se
/-! what patterns spell: plain mathematics -/
namespace Pa
open PySem
inductive Pat
  | sg (x : Str)
  | em
  | th (a b : Pat)
  | oo (a b : Pat)
  | ag (a : Pat)
  | mo (a : Pat)
  | mb (a : Pat)
/-- a row of patterns spells a word in so many steps -/
inductive D : List Pat → List Nat → Nat → Prop
  | nil : D [] [] 0
  | sg {x : Str} {c : Nat} {k : List Pat} {w : List Nat} {n : Nat} : c ∈ x.cps.toList → D k w n → D (.sg x :: k) (c :: w) (n + 1)
  | em {k : List Pat} {w : List Nat} {n : Nat} : D k w n → D (.em :: k) w (n + 1)
  | th {a b : Pat} {k : List Pat} {w : List Nat} {n : Nat} : D (a :: b :: k) w n → D (.th a b :: k) w (n + 1)
  | o1 {a b : Pat} {k : List Pat} {w : List Nat} {n : Nat} : D (a :: k) w n → D (.oo a b :: k) w (n + 1)
  | o2 {a b : Pat} {k : List Pat} {w : List Nat} {n : Nat} : D (b :: k) w n → D (.oo a b :: k) w (n + 1)
  | a0 {a : Pat} {k : List Pat} {w : List Nat} {n : Nat} : D k w n → D (.ag a :: k) w (n + 1)
  | a1 {a : Pat} {k : List Pat} {w : List Nat} {n : Nat} : D (a :: .ag a :: k) w n → D (.ag a :: k) w (n + 1)
  | mo {a : Pat} {k : List Pat} {w : List Nat} {n : Nat} : D (a :: .ag a :: k) w n → D (.mo a :: k) w (n + 1)
  | m0 {a : Pat} {k : List Pat} {w : List Nat} {n : Nat} : D k w n → D (.mb a :: k) w (n + 1)
  | m1 {a : Pat} {k : List Pat} {w : List Nat} {n : Nat} : D (a :: k) w n → D (.mb a :: k) w (n + 1)
theorem D.app {s t : List Pat} {u v : List Nat} {n m : Nat} (h : D s u n) (g : D t v m) : D (s ++ t) (u ++ v) (n + m) := by
  induction h with
  | nil => rw [Nat.zero_add]; exact g
  | sg hc _ ih => rw [Nat.add_right_comm]; exact .sg hc ih
  | em _ ih => rw [Nat.add_right_comm]; exact .em ih
  | th _ ih => rw [Nat.add_right_comm]; exact .th ih
  | o1 _ ih => rw [Nat.add_right_comm]; exact .o1 ih
  | o2 _ ih => rw [Nat.add_right_comm]; exact .o2 ih
  | a0 _ ih => rw [Nat.add_right_comm]; exact .a0 ih
  | a1 _ ih => rw [Nat.add_right_comm]; exact .a1 ih
  | mo _ ih => rw [Nat.add_right_comm]; exact .mo ih
  | m0 _ ih => rw [Nat.add_right_comm]; exact .m0 ih
  | m1 _ ih => rw [Nat.add_right_comm]; exact .m1 ih
theorem D.parts : ∀ {n : Nat} {s t : List Pat} {w : List Nat}, D (s ++ t) w n → ∃ u v i j, w = u ++ v ∧ n = i + j ∧ D s u i ∧ D t v j
  | n, [], t, w, h => ⟨[], w, 0, n, rfl, (Nat.zero_add n).symm, .nil, h⟩
  | 0, p :: s, t, w, h => by cases h
  | n + 1, p :: s, t, w, h => by
    have h' : D (p :: (s ++ t)) w (n + 1) := h
    cases h' with
    | sg hc h1 =>
      obtain ⟨u, v, i, j, rfl, rfl, g1, g2⟩ := D.parts (s := s) h1
      exact ⟨_ :: u, v, i + 1, j, rfl, by omega, .sg hc g1, g2⟩
    | em h1 =>
      obtain ⟨u, v, i, j, rfl, rfl, g1, g2⟩ := D.parts (s := s) h1
      exact ⟨u, v, i + 1, j, rfl, by omega, .em g1, g2⟩
    | @th a b _ _ _ h1 =>
      obtain ⟨u, v, i, j, rfl, rfl, g1, g2⟩ := D.parts (s := a :: b :: s) h1
      exact ⟨u, v, i + 1, j, rfl, by omega, .th g1, g2⟩
    | @o1 a b _ _ _ h1 =>
      obtain ⟨u, v, i, j, rfl, rfl, g1, g2⟩ := D.parts (s := a :: s) h1
      exact ⟨u, v, i + 1, j, rfl, by omega, .o1 g1, g2⟩
    | @o2 a b _ _ _ h1 =>
      obtain ⟨u, v, i, j, rfl, rfl, g1, g2⟩ := D.parts (s := b :: s) h1
      exact ⟨u, v, i + 1, j, rfl, by omega, .o2 g1, g2⟩
    | a0 h1 =>
      obtain ⟨u, v, i, j, rfl, rfl, g1, g2⟩ := D.parts (s := s) h1
      exact ⟨u, v, i + 1, j, rfl, by omega, .a0 g1, g2⟩
    | @a1 a _ _ _ h1 =>
      obtain ⟨u, v, i, j, rfl, rfl, g1, g2⟩ := D.parts (s := a :: .ag a :: s) h1
      exact ⟨u, v, i + 1, j, rfl, by omega, .a1 g1, g2⟩
    | @mo a _ _ _ h1 =>
      obtain ⟨u, v, i, j, rfl, rfl, g1, g2⟩ := D.parts (s := a :: .ag a :: s) h1
      exact ⟨u, v, i + 1, j, rfl, by omega, .mo g1, g2⟩
    | m0 h1 =>
      obtain ⟨u, v, i, j, rfl, rfl, g1, g2⟩ := D.parts (s := s) h1
      exact ⟨u, v, i + 1, j, rfl, by omega, .m0 g1, g2⟩
    | @m1 a _ _ _ h1 =>
      obtain ⟨u, v, i, j, rfl, rfl, g1, g2⟩ := D.parts (s := a :: s) h1
      exact ⟨u, v, i + 1, j, rfl, by omega, .m1 g1, g2⟩
def LS (s : List Pat) (w : List Nat) : Prop := ∃ n, D s w n
def L (p : Pat) (w : List Nat) : Prop := LS [p] w
theorem LS.app {s t : List Pat} {w : List Nat} : LS (s ++ t) w ↔ ∃ u v, w = u ++ v ∧ LS s u ∧ LS t v :=
  ⟨fun ⟨_, h⟩ => by obtain ⟨u, v, i, j, e, _, g1, g2⟩ := h.parts; exact ⟨u, v, e, ⟨i, g1⟩, ⟨j, g2⟩⟩, fun ⟨u, v, e, ⟨i, g1⟩, ⟨j, g2⟩⟩ => ⟨i + j, e ▸ g1.app g2⟩⟩
theorem LS.cons {p : Pat} {k : List Pat} {w : List Nat} : LS (p :: k) w ↔ ∃ u v, w = u ++ v ∧ L p u ∧ LS k v := LS.app (s := [p]) (t := k)
theorem LS.nil {w : List Nat} : LS [] w ↔ w = [] := ⟨fun ⟨_, h⟩ => by cases h; rfl, fun e => by rw [e]; exact ⟨0, .nil⟩⟩
theorem L_sg {x : Str} {w : List Nat} : L (.sg x) w ↔ ∃ c, c ∈ x.cps.toList ∧ w = [c] :=
  ⟨fun ⟨_, h⟩ => by cases h with | sg hc h => cases h; exact ⟨_, hc, rfl⟩, fun ⟨c, hc, e⟩ => by rw [e]; exact ⟨_, .sg hc .nil⟩⟩
theorem L_em {w : List Nat} : L .em w ↔ w = [] := ⟨fun ⟨_, h⟩ => by cases h with | em h => cases h; rfl, fun e => by rw [e]; exact ⟨_, .em .nil⟩⟩
theorem L_th {a b : Pat} {w : List Nat} : L (.th a b) w ↔ ∃ u v, w = u ++ v ∧ L a u ∧ L b v :=
  ⟨fun ⟨_, h⟩ => by cases h with | th h => exact LS.cons.mp ⟨_, h⟩, fun h => by obtain ⟨n, g⟩ := LS.cons.mpr h; exact ⟨_, .th g⟩⟩
theorem L_oo {a b : Pat} {w : List Nat} : L (.oo a b) w ↔ L a w ∨ L b w :=
  ⟨fun ⟨_, h⟩ => by
    cases h with
    | o1 h => exact .inl ⟨_, h⟩
    | o2 h => exact .inr ⟨_, h⟩, fun h => h.elim (fun ⟨n, g⟩ => ⟨_, .o1 g⟩) (fun ⟨n, g⟩ => ⟨_, .o2 g⟩)⟩
theorem L_mb {a : Pat} {w : List Nat} : L (.mb a) w ↔ w = [] ∨ L a w :=
  ⟨fun ⟨_, h⟩ => by
    cases h with
    | m0 h => cases h; exact .inl rfl
    | m1 h => exact .inr ⟨_, h⟩, fun h => h.elim (fun e => by rw [e]; exact ⟨_, .m0 .nil⟩) (fun ⟨n, g⟩ => ⟨_, .m1 g⟩)⟩
theorem L_mo {a : Pat} {w : List Nat} : L (.mo a) w ↔ ∃ u v, w = u ++ v ∧ L a u ∧ L (.ag a) v :=
  ⟨fun ⟨_, h⟩ => by cases h with | mo h => exact LS.cons.mp ⟨_, h⟩, fun h => by obtain ⟨n, g⟩ := LS.cons.mpr h; exact ⟨_, .mo g⟩⟩
theorem L_ag {a : Pat} {w : List Nat} : L (.ag a) w ↔ w = [] ∨ L (.mo a) w := by
  rw [L_mo]
  exact ⟨fun ⟨_, h⟩ => by
    cases h with
    | a0 h => cases h; exact .inl rfl
    | a1 h => exact .inr (LS.cons.mp ⟨_, h⟩), fun h => h.elim (fun e => by rw [e]; exact ⟨_, .a0 .nil⟩) (fun h => by obtain ⟨n, g⟩ := LS.cons.mpr h; exact ⟨_, .a1 g⟩)⟩
theorem ag_ind {a : Pat} {C : List Nat → Prop} (h0 : C []) (h1 : ∀ u v, L a u → L (.ag a) v → C v → C (u ++ v)) : ∀ w, L (.ag a) w → C w := by
  have main : ∀ (n : Nat) (w : List Nat), D [.ag a] w n → C w := by
    intro n
    induction n using Nat.strongRecOn with
    | ind n ih =>
      intro w h
      cases h with
      | a0 h => cases h; exact h0
      | a1 h =>
        obtain ⟨u, v, i, j, rfl, e, g1, g2⟩ := D.parts (s := [a]) (t := [.ag a]) h
        exact h1 u v ⟨i, g1⟩ ⟨j, g2⟩ (ih j (by omega) v g2)
  exact fun w ⟨n, h⟩ => main n w h
theorem ag_end {a : Pat} {v : List Nat} (hv : L a v) : ∀ u, L (.ag a) u → L (.ag a) (u ++ v) :=
  ag_ind (by
    rw [List.nil_append]
    exact L_ag.mpr (.inr (L_mo.mpr ⟨v, [], (List.append_nil v).symm, hv, L_ag.mpr (.inl rfl)⟩))) fun x y hx _ ih => by
    rw [List.append_assoc]
    exact L_ag.mpr (.inr (L_mo.mpr ⟨x, y ++ v, rfl, hx, ih⟩))
/-! ### places of a text -/
def seg (t : List Nat) (b e : Nat) : List Nat := (t.drop b).take (e - b)
theorem seg_len {t : List Nat} {b e : Nat} (h1 : b ≤ e) (h2 : e ≤ t.length) : (seg t b e).length = e - b := by
  unfold seg
  rw [List.length_take, List.length_drop]; omega
theorem seg_cat {t : List Nat} {b m e : Nat} (h1 : b ≤ m) (h2 : m ≤ e) : seg t b m ++ seg t m e = seg t b e := by
  unfold seg
  have e1 : t.drop m = (t.drop b).drop (m - b) := by rw [List.drop_drop]; congr 1; omega
  have e2 : e - b = (m - b) + (e - m) := by omega
  rw [e1, e2, List.take_add]
theorem seg_split {t : List Nat} {b e : Nat} {u v : List Nat} (h1 : b ≤ e) (h2 : e ≤ t.length) (h : seg t b e = u ++ v) : ∃ m, b ≤ m ∧ m ≤ e ∧ seg t b m = u ∧ seg t m e = v := by
  have hl := seg_len h1 h2
  rw [h, List.length_append] at hl
  refine ⟨b + u.length, by omega, by omega, ?_⟩
  have c := seg_cat (t := t) (b := b) (m := b + u.length) (e := e) (by omega) (by omega)
  rw [h] at c
  have l1 := seg_len (t := t) (b := b) (e := b + u.length) (by omega) (by omega)
  exact List.append_inj c (by omega)
theorem seg_nil {t : List Nat} {b : Nat} : seg t b b = [] := by
  unfold seg
  rw [Nat.sub_self, List.take_zero]
/-- from b to e the text is spelled -/
def E (t : List Nat) (p : Pat) (b e : Nat) : Prop := b ≤ e ∧ e ≤ t.length ∧ L p (seg t b e)
theorem E_sg {t : List Nat} {x : Str} {b e : Nat} : E t (.sg x) b e ↔ ∃ c, t[b]? = some c ∧ c ∈ x.cps.toList ∧ e = b + 1 := by
  constructor
  · rintro ⟨h1, h2, h⟩
    obtain ⟨c, hc, ec⟩ := L_sg.mp h
    have hl := seg_len h1 h2
    rw [ec] at hl
    have hl' : 1 = e - b := hl
    refine ⟨c, ?_, hc, by omega⟩
    have h0 : (seg t b e)[0]? = some c := by rw [ec]; rfl
    unfold seg at h0
    rw [List.getElem?_take_of_lt (by omega), List.getElem?_drop] at h0
    exact h0
  · rintro ⟨c, h0, hc, rfl⟩
    have hb := (List.getElem?_eq_some_iff.mp h0).1
    refine ⟨by omega, by omega, L_sg.mpr ⟨c, hc, ?_⟩⟩
    unfold seg
    have : b + 1 - b = 1 := by omega
    rw [this, List.drop_eq_getElem_cons hb, (List.getElem?_eq_some_iff.mp h0).2]
    rfl
theorem E_em {t : List Nat} {b e : Nat} : E t .em b e ↔ e = b ∧ b ≤ t.length := by
  constructor
  · rintro ⟨h1, h2, h⟩
    have hl := seg_len h1 h2
    rw [L_em.mp h] at hl
    have hl' : 0 = e - b := hl
    omega
  · rintro ⟨rfl, h⟩
    exact ⟨Nat.le_refl _, h, L_em.mpr seg_nil⟩
theorem E_th {t : List Nat} {p q : Pat} {b e : Nat} : E t (.th p q) b e ↔ ∃ m, E t p b m ∧ E t q m e := by
  constructor
  · rintro ⟨h1, h2, h⟩
    obtain ⟨u, v, e1, hu, hv⟩ := L_th.mp h
    obtain ⟨m, m1, m2, rfl, rfl⟩ := seg_split h1 h2 e1
    exact ⟨m, ⟨m1, by omega, hu⟩, ⟨m2, h2, hv⟩⟩
  · rintro ⟨m, ⟨m1, m2, hu⟩, ⟨m3, m4, hv⟩⟩
    exact ⟨by omega, m4, L_th.mpr ⟨_, _, (seg_cat m1 m3).symm, hu, hv⟩⟩
theorem E_oo {t : List Nat} {p q : Pat} {b e : Nat} : E t (.oo p q) b e ↔ E t p b e ∨ E t q b e := by
  unfold E
  rw [L_oo]
  constructor
  · rintro ⟨h1, h2, h | h⟩
    · exact .inl ⟨h1, h2, h⟩
    · exact .inr ⟨h1, h2, h⟩
  · rintro (⟨h1, h2, h⟩ | ⟨h1, h2, h⟩)
    · exact ⟨h1, h2, .inl h⟩
    · exact ⟨h1, h2, .inr h⟩
theorem nil_seg {t : List Nat} {b e : Nat} (h1 : b ≤ e) (h2 : e ≤ t.length) : seg t b e = [] ↔ e = b := by
  constructor
  · intro h
    have hl := seg_len h1 h2
    rw [h] at hl
    have hl' : 0 = e - b := hl
    omega
  · rintro rfl; exact seg_nil
theorem E_mb {t : List Nat} {p : Pat} {b e : Nat} : E t (.mb p) b e ↔ (e = b ∧ b ≤ t.length) ∨ E t p b e := by
  unfold E
  rw [L_mb]
  constructor
  · rintro ⟨h1, h2, h | h⟩
    · have := (nil_seg h1 h2).mp h
      exact .inl ⟨this, by omega⟩
    · exact .inr ⟨h1, h2, h⟩
  · rintro (⟨rfl, h⟩ | ⟨h1, h2, h⟩)
    · exact ⟨Nat.le_refl _, h, .inl seg_nil⟩
    · exact ⟨h1, h2, .inr h⟩
theorem E_ag {t : List Nat} {p : Pat} {b e : Nat} : E t (.ag p) b e ↔ (e = b ∧ b ≤ t.length) ∨ E t (.mo p) b e := by
  unfold E
  rw [L_ag]
  constructor
  · rintro ⟨h1, h2, h | h⟩
    · have := (nil_seg h1 h2).mp h
      exact .inl ⟨this, by omega⟩
    · exact .inr ⟨h1, h2, h⟩
  · rintro (⟨rfl, h⟩ | ⟨h1, h2, h⟩)
    · exact ⟨Nat.le_refl _, h, .inl seg_nil⟩
    · exact ⟨h1, h2, .inr h⟩
theorem E_mo1 {t : List Nat} {p : Pat} {b e : Nat} (h : E t p b e) : E t (.mo p) b e :=
  ⟨h.1, h.2.1, L_mo.mpr ⟨_, [], (List.append_nil _).symm, h.2.2, L_ag.mpr (.inl rfl)⟩⟩
theorem E_mo_end {t : List Nat} {p : Pat} {b m e : Nat} (h : E t (.mo p) b m) (g : E t p m e) : E t (.mo p) b e := by
  obtain ⟨h1, h2, h⟩ := h
  obtain ⟨g1, g2, g⟩ := g
  refine ⟨by omega, g2, ?_⟩
  rw [← seg_cat (t := t) h1 g1]
  obtain ⟨u, v, e, hu, hv⟩ := L_mo.mp h
  rw [e, List.append_assoc]
  exact L_mo.mpr ⟨u, _, rfl, hu, ag_end g v hv⟩
theorem E_mo_least {t : List Nat} {p : Pat} {b e : Nat} {S : Nat → Prop} (h1 : ∀ m, E t p b m → S m) (h2 : ∀ m n, S m → E t p m n → S n) (h : E t (.mo p) b e) : S e := by
  obtain ⟨g1, g2, h⟩ := h
  obtain ⟨u, v, e1, hu, hv⟩ := L_mo.mp h
  obtain ⟨m, m1, m2, rfl, rfl⟩ := seg_split g1 g2 e1
  have key : ∀ w, L (.ag p) w → ∀ m, S m → m ≤ e → seg t m e = w → S e := by
    refine ag_ind (fun m sm hm ew => ?_) fun x y hx hy ih m sm hm ew => ?_
    · rw [(nil_seg hm g2).mp ew]; exact sm
    · obtain ⟨k, k1, k2, rfl, rfl⟩ := seg_split hm g2 ew
      exact ih k (h2 m k sm ⟨k1, by omega, hx⟩) k2 rfl
  exact key _ hv m (h1 m ⟨m1, by omega, hu⟩) m2 rfl
theorem E_all {t : List Nat} {p : Pat} : E t p 0 t.length ↔ L p t := by
  unfold E seg
  rw [List.drop_zero, Nat.sub_zero, List.take_length]
  exact ⟨fun h => h.2.2, fun h => ⟨Nat.zero_le _, Nat.le_refl _, h⟩⟩
/-! ### the least text, the only text -/
def slt (u v : List Nat) : Prop := u.length < v.length ∨ (u.length = v.length ∧ u < v)
theorem lt_same_len : ∀ {a b c d : List Nat}, a.length = b.length → ¬ a < b → ¬ c < d → ¬ a ++ c < b ++ d
  | [], [], c, d, _, _, h => h
  | x :: a, y :: b, c, d, hl, h1, h2 => by
    intro h
    have hl' : a.length = b.length := by simpa using hl
    rw [List.cons_append, List.cons_append] at h
    rcases List.cons_lt_cons_iff.mp h with h3 | ⟨h4, h3⟩
    · exact h1 (List.cons_lt_cons_iff.mpr (.inl h3))
    · exact lt_same_len hl' (fun z => h1 (List.cons_lt_cons_iff.mpr (.inr ⟨h4, z⟩))) h2 h3
  | [], _ :: _, _, _, hl, _, _ => by simp at hl
  | _ :: _, [], _, _, hl, _, _ => by simp at hl
theorem slt_app {u v l m : List Nat} (h1 : ¬ slt u l) (h2 : ¬ slt v m) : ¬ slt (u ++ v) (l ++ m) := by
  unfold slt at *
  rw [List.length_append, List.length_append]
  rintro (h | ⟨e, h⟩)
  · have a1 : ¬ u.length < l.length := fun z => h1 (.inl z)
    have a2 : ¬ v.length < m.length := fun z => h2 (.inl z)
    omega
  · have a1 : ¬ u.length < l.length := fun z => h1 (.inl z)
    have a2 : ¬ v.length < m.length := fun z => h2 (.inl z)
    exact lt_same_len (by omega) (fun z => h1 (.inr ⟨by omega, z⟩)) (fun z => h2 (.inr ⟨by omega, z⟩)) h
theorem slt_tri {u v : List Nat} (h : ¬ slt u v) : v = u ∨ slt v u := by
  unfold slt at *
  rcases Nat.lt_trichotomy u.length v.length with c | c | c
  · exact absurd (.inl c) h
  · rcases Decidable.em (v < u) with z | z
    · exact .inr (.inr ⟨c.symm, z⟩)
    · exact .inl (List.le_antisymm (List.not_lt.mp fun w => h (.inr ⟨c, w⟩)) (List.not_lt.mp z))
  · exact .inr (.inl c)
theorem slt_trans {u v w : List Nat} (h1 : slt u v) (h2 : slt v w) : slt u w := by
  unfold slt at *
  rcases h1 with h1 | ⟨e1, h1⟩
  · rcases h2 with h2 | ⟨e2, h2⟩ <;> exact .inl (by omega)
  · rcases h2 with h2 | ⟨e2, h2⟩
    · exact .inl (by omega)
    · exact .inr ⟨by omega, List.lt_trans h1 h2⟩
/-- patterns whose signs rise -/
def Wf : Pat → Prop
  | .sg x => x.cps.toList ≠ [] ∧ x.cps.toList.Pairwise (· < ·) ∧ (∀ c, c ∈ x.cps.toList → c < 128)
  | .em => True
  | .th a b => Wf a ∧ Wf b
  | .oo a b => Wf a ∧ Wf b
  | .ag a => Wf a
  | .mo a => Wf a
  | .mb a => Wf a
noncomputable section
open Classical
def lesser (u v : List Nat) : List Nat := if slt v u then v else u
def least : Pat → List Nat
  | .sg x => x.cps.toList.take 1
  | .em => []
  | .th a b => least a ++ least b
  | .oo a b => lesser (least a) (least b)
  | .ag _ => []
  | .mo a => least a
  | .mb _ => []
def only : Pat → Option (List Nat)
  | .sg x => if x.cps.toList.length = 1 then some x.cps.toList else none
  | .em => some []
  | .th a b => match only a, only b with
    | some u, some v => some (u ++ v)
    | _, _ => none
  | .oo a b => if only a = only b then only a else none
  | .ag a => if only a = some [] then some [] else none
  | .mo a => if only a = some [] then some [] else none
  | .mb a => if only a = some [] then some [] else none
theorem not_slt_nil {w : List Nat} : ¬ slt w [] := by
  unfold slt
  rintro (h | ⟨h, g⟩)
  · exact absurd h (Nat.not_lt_zero _)
  · exact absurd g (List.not_lt_nil w)
theorem least_ok : ∀ {p : Pat}, Wf p → L p (least p) ∧ ∀ w, L p w → ¬ slt w (least p)
  | .sg x, h => by
    obtain ⟨h0, h1, _⟩ := h
    have e : least (.sg x) = x.cps.toList.take 1 := rfl
    cases ex : x.cps.toList with
    | nil => exact absurd ex h0
    | cons c l =>
      rw [ex] at h1 e
      have e' : least (.sg x) = [c] := e
      rw [e']
      refine ⟨L_sg.mpr ⟨c, by rw [ex]; exact List.mem_cons_self, rfl⟩, fun w hw => ?_⟩
      obtain ⟨d, hd, rfl⟩ := L_sg.mp hw
      rw [ex] at hd
      unfold slt
      rintro (h | ⟨_, h⟩)
      · exact absurd h (Nat.lt_irrefl _)
      · rcases List.mem_cons.mp hd with z | z
        · rw [z] at h; exact absurd h (List.lt_irrefl _)
        · have := (List.pairwise_cons.mp h1).1 d z
          rcases List.cons_lt_cons_iff.mp h with q | ⟨_, q⟩
          · omega
          · exact absurd q (List.lt_irrefl _)
  | .em, _ => ⟨L_em.mpr rfl, fun w _ => not_slt_nil⟩
  | .th a b, h => by
    obtain ⟨a1, a2⟩ := least_ok h.1
    obtain ⟨b1, b2⟩ := least_ok h.2
    refine ⟨L_th.mpr ⟨_, _, rfl, a1, b1⟩, fun w hw => ?_⟩
    obtain ⟨u, v, rfl, hu, hv⟩ := L_th.mp hw
    exact slt_app (a2 u hu) (b2 v hv)
  | .oo a b, h => by
    obtain ⟨a1, a2⟩ := least_ok h.1
    obtain ⟨b1, b2⟩ := least_ok h.2
    have e : least (.oo a b) = lesser (least a) (least b) := rfl
    rw [e]
    unfold lesser
    by_cases c : slt (least b) (least a)
    · rw [if_pos c]
      refine ⟨L_oo.mpr (.inr b1), fun w hw z => ?_⟩
      rcases L_oo.mp hw with q | q
      · exact a2 w q (slt_trans z c)
      · exact b2 w q z
    · rw [if_neg c]
      refine ⟨L_oo.mpr (.inl a1), fun w hw z => ?_⟩
      rcases L_oo.mp hw with q | q
      · exact a2 w q z
      · rcases slt_tri c with y | y
        · rw [y] at z; exact b2 w q z
        · exact b2 w q (slt_trans z y)
  | .ag a, _ => ⟨L_ag.mpr (.inl rfl), fun w _ => not_slt_nil⟩
  | .mo a, h => by
    obtain ⟨a1, a2⟩ := least_ok (p := a) h
    have e : least (.mo a) = least a := rfl
    rw [e]
    refine ⟨L_mo.mpr ⟨_, [], (List.append_nil _).symm, a1, L_ag.mpr (.inl rfl)⟩, fun w hw => ?_⟩
    obtain ⟨u, v, rfl, hu, hv⟩ := L_mo.mp hw
    have := slt_app (v := v) (m := []) (a2 u hu) not_slt_nil
    rw [List.append_nil] at this
    exact this
  | .mb a, _ => ⟨L_mb.mpr (.inl rfl), fun w _ => not_slt_nil⟩
theorem only_least : ∀ {p : Pat} {x : List Nat}, only p = some x → least p = x
  | .sg y, x, h => by
    have e : only (.sg y) = if y.cps.toList.length = 1 then some y.cps.toList else none := rfl
    rw [e] at h
    by_cases c : y.cps.toList.length = 1
    · rw [if_pos c] at h
      injection h with h
      show y.cps.toList.take 1 = x
      rw [← h, List.take_of_length_le (by omega)]
    · rw [if_neg c] at h; cases h
  | .em, x, h => by
    injection h with h
  | .th a b, x, h => by
    have e : only (.th a b) = match only a, only b with
      | some u, some v => some (u ++ v)
      | _, _ => none := rfl
    rw [e] at h
    cases ea : only a with
    | none => rw [ea] at h; cases h
    | some u =>
      cases eb : only b with
      | none => rw [ea, eb] at h; cases h
      | some v =>
        rw [ea, eb] at h
        injection h with h
        show least a ++ least b = x
        rw [only_least ea, only_least eb, h]
  | .oo a b, x, h => by
    have e : only (.oo a b) = if only a = only b then only a else none := rfl
    rw [e] at h
    by_cases c : only a = only b
    · rw [if_pos c] at h
      show lesser (least a) (least b) = x
      unfold lesser
      rw [only_least h, only_least (c ▸ h)]
      split <;> rfl
    · rw [if_neg c] at h; cases h
  | .ag a, x, h => by
    have e : only (.ag a) = if only a = some [] then some [] else none := rfl
    rw [e] at h
    by_cases c : only a = some []
    · rw [if_pos c] at h; injection h with h
    · rw [if_neg c] at h; cases h
  | .mo a, x, h => by
    have e : only (.mo a) = if only a = some [] then some [] else none := rfl
    rw [e] at h
    by_cases c : only a = some []
    · rw [if_pos c] at h
      injection h with h
      show least a = x
      rw [only_least c, h]
    · rw [if_neg c] at h; cases h
  | .mb a, x, h => by
    have e : only (.mb a) = if only a = some [] then some [] else none := rfl
    rw [e] at h
    by_cases c : only a = some []
    · rw [if_pos c] at h; injection h with h
    · rw [if_neg c] at h; cases h
/-- one text, the only one, or two -/
def Two (p : Pat) (ts : List (List Nat)) : Prop := (∃ x, only p = some x ∧ ts = [x]) ∨ (only p = none ∧ ts.length = 2 ∧ ts.Nodup)
end
end Pa
set_option maxHeartbeats 2000000
namespace Pa
open PySem PySem.Spec PyProof.Rows L2 Ty
abbrev top (i : Nat) : Stmt := PySem.Challenge.pw_tongueyard_k01_what_patterns_spell.main.body.getD i (.Pass ⟨0, 0, 0, 0⟩)
def inner (i : Nat) : Stmt → Stmt
  | .ClassDef _ _ _ body _ _ _ _ _ _ _ => body.getD i (.Pass ⟨0, 0, 0, 0⟩)
  | s => s
abbrev sTold : Stmt := top 1
abbrev sInit : Stmt := inner 0 (top 2)
abbrev sEnds : Stmt := inner 1 (top 2)
abbrev sAnew : Stmt := inner 2 (top 2)
abbrev sAgain : Stmt := inner 3 (top 2)
abbrev sSpells : Stmt := top 3
abbrev sNone : Stmt := top 4
abbrev sLesser : Stmt := top 5
abbrev sTwo : Stmt := top 6
abbrev sOnly : Stmt := top 7
abbrev sLeast : Stmt := top 8
abbrev sJar : Stmt := top 10
abbrev sDip : Stmt := top 11
abbrev sAll : Stmt := top 12
abbrev sAlike : Stmt := top 13
abbrev sOf : Stmt := top 14
abbrev sMould : Stmt := top 15
abbrev sOpened : Stmt := top 16
abbrev sLed : Stmt := top 17
abbrev sTakes : Stmt := top 18
abbrev sPool : Stmt := top 19
abbrev sTextD : Stmt := top 20
abbrev sAlong : Stmt := top 21
abbrev sLonger : Stmt := top 22
abbrev sLLess : Stmt := top 23
abbrev sLOnly : Stmt := top 24
abbrev sAgains : Stmt := top 25
abbrev sAround : Stmt := top 26
abbrev sRight : Stmt := top 27
abbrev sLaw : Stmt := top 28
theorem scDip : FnScope ["jar", "many", "digit", "mixed"] ["jar", "many"] (defScope sDip) := ⟨rfl, rfl, rfl, by decide +kernel, rfl, by decide +kernel, by decide +kernel⟩
theorem scJar : FnScope ["script", "k", "cell"] ["script", "k"] (defScope sJar) := ⟨rfl, rfl, rfl, by decide +kernel, rfl, by decide +kernel, by decide +kernel⟩
theorem scAll : FnScope ["low"] [] (defScope sAll) := ⟨rfl, rfl, rfl, by decide +kernel, rfl, by decide +kernel, by decide +kernel⟩
def Jar (j : Addr) (H : Hp) (C : Nat) : Prop := ∃ a b c : Int, H j = some (.lst [.int a, .int b, .int c]) ∧ b.natAbs < 2 ^ 100 ∧ 0 ≤ c ∧ c ≤ (C : Int)
theorem Jar.mono {j : Addr} {H : Hp} {C D : Nat} (h : Jar j H C) (l : C ≤ D) : Jar j H D := by
  obtain ⟨a, b, c, h1, h2, h3, h4⟩ := h
  exact ⟨a, b, c, h1, h2, h3, by omega⟩
theorem Jar.keep {j : Addr} {H H' : Hp} {C : Nat} (h : Jar j H C) (s : Same H H') : Jar j H' C := by
  obtain ⟨a, b, c, h1, h2⟩ := h
  exact ⟨a, b, c, s _ _ h1, h2⟩
theorem Jar.ne {j p : Addr} {H : Hp} {C : Nat} (h : Jar j H C) (n : H p = none) : p ≠ j := by
  obtain ⟨a, b, c, h1, _⟩ := h
  intro e
  rw [e, h1] at n
  cases n
def Acc (H1 : Hp) (D : Addr) (ys : List V) (H : Hp) : Prop := Same H1 H ∧ H D = some (.lst ys)
theorem Acc.nil {H : Hp} {D : Addr} (n : H D = none) : Acc H D [] (upd H D (.lst [])) := ⟨same_new n _, upd_same⟩
theorem Acc.push {H1 H : Hp} {D : Addr} {ys : List V} (a : Acc H1 D ys H) (n : H1 D = none) (y : V) : Acc H1 D (ys ++ [y]) (upd H D (.lst (ys ++ [y]))) :=
  ⟨fun b o e => by rw [upd_ne (ne_of_none e n)]; exact a.1 b o e, upd_same⟩
theorem Acc.same {H1 H H' : Hp} {D : Addr} {ys : List V} (a : Acc H1 D ys H) (s : Same H H') : Acc H1 D ys H' := ⟨a.1.trans s, s _ _ a.2⟩
theorem at_zero {α : Type} {x : α} {xs : List α} : atI (x :: xs) 0 = some x := by
  have : (0 : Int) < (((x :: xs).length : Nat) : Int) := by rw [List.length_cons]; omega
  unfold atI ixN
  rw [if_pos (Int.le_refl 0), if_pos this]
  rfl
theorem join_one : ∀ l : List Nat, Txt.join "" (l.map fun c => (⟨#[c]⟩ : Str)) = ⟨l.toArray⟩ := by
  intro l
  rw [TL.join_eq]
  induction l with
  | nil => rfl
  | cons c l ih =>
    cases l with
    | nil => rfl
    | cons d l =>
      show (⟨#[c]⟩ : Str) ++ "" ++ Str.join "" ((d :: l).map fun c => (⟨#[c]⟩ : Str)) = _
      rw [ih]
      refine str_of_list ?_
      rw [Str.cps_append, Array.toList_append, Str.cps_append, Array.toList_append]
      rfl
theorem sIx_one {n : Nat} : HT.sIx (n + 1) 0 (some 1) = 1 := by
  unfold HT.sIx
  simp
theorem cut_tail {v : V} {vs : List V} : cutV (v :: vs) (some 1) none = vs := by
  unfold cutV
  rw [List.length_cons, sIx_one]
  show List.take (vs.length + 1 - 1) (List.drop 1 (v :: vs)) = vs
  rw [Nat.add_sub_cancel]
  exact List.take_length
section
variable {X : Cx}
theorem same_refl {H : Hp} : Same H H := fun b o h => h
theorem new_ne {H H' : Hp} {p j : Addr} (s : Same H H') (hp : H' p = none) (hj : H j ≠ none) : p ≠ j := by
  intro e
  subst e
  cases q : H p with
  | none => exact hj q
  | some o => rw [s _ _ q] at hp; cases hp
theorem at_in {α : Type} {l : List α} {i : Int} (h0 : 0 ≤ i) (h1 : i < (l.length : Nat)) : ∃ x, atI l i = some x ∧ l[i.toNat]? = some x := by
  have h2 : i.toNat < l.length := by omega
  refine ⟨l[i.toNat], ?_, List.getElem?_eq_getElem h2⟩
  unfold atI ixN
  rw [if_pos h0, if_pos h1]
  exact List.getElem?_eq_getElem h2
theorem Jar.some {j : Addr} {H : Hp} {C : Nat} (h : Jar j H C) : H j ≠ none := by
  obtain ⟨a, b, c, h1, _⟩ := h
  rw [h1]
  simp
end
theorem Keep.lst {j p : Addr} {H H' : Hp} {xs : List V} (k : Keep j H H') (n : p ≠ j) (e : H p = some (.lst xs)) : H' p = some (.lst xs) := k _ _ n e
def Ones (ys : List Str) : Prop := ∀ y, y ∈ ys → ∃ c, c < 128 ∧ y = ⟨#[c]⟩
theorem Ones.codes : ∀ {ys : List Str}, Ones ys → ∃ l : List Nat, ys = l.map (fun c => (⟨#[c]⟩ : Str)) ∧ ∀ c, c ∈ l → c < 128
  | [], _ => ⟨[], rfl, fun _ h => by cases h⟩
  | y :: ys, h => by
    obtain ⟨c, hc, rfl⟩ := h y List.mem_cons_self
    obtain ⟨l, rfl, hl⟩ := Ones.codes (ys := ys) fun z hz => h z (List.mem_cons_of_mem _ hz)
    exact ⟨c :: l, rfl, fun d hd => by
      rcases List.mem_cons.mp hd with e | e
      · rw [e]; exact hc
      · exact hl d e⟩
theorem ones_sum : ∀ l : List Nat, ((l.map (fun c => (⟨#[c]⟩ : Str))).map (·.length)).sum = l.length
  | [] => rfl
  | c :: l => by
    rw [List.map_cons, List.map_cons, List.sum_cons, ones_sum l, List.length_cons]
    show 1 + _ = _
    omega
theorem cut_to {xs : List V} {b : Nat} : cutV xs none (some (b : Nat)) = xs.take b := by
  unfold cutV
  rw [HT.sIx_nat]
  show List.take (min b xs.length - 0) (List.drop 0 xs) = _
  rw [Nat.sub_zero, List.drop_zero]
  by_cases h : b ≤ xs.length
  · rw [Nat.min_eq_left h]
  · rw [Nat.min_eq_right (by omega), List.take_length, List.take_of_length_le (by omega)]
theorem cut_from {xs : List V} {b : Nat} : cutV xs (some (b : Nat)) none = xs.drop b := by
  unfold cutV
  rw [HT.sIx_nat]
  show List.take (xs.length - min b xs.length) _ = _
  rw [List.take_of_length_le (by rw [List.length_drop]; exact Nat.le_refl _)]
  by_cases h : b ≤ xs.length
  · rw [Nat.min_eq_left h]
  · rw [Nat.min_eq_right (by omega), List.drop_length, List.drop_eq_nil_of_le (by omega)]
theorem not_in {j a b : Addr} (h1 : a ≠ j) (h2 : b ≠ j) : j ∉ [a, b] := by simp [Ne.symm h1, Ne.symm h2]
theorem not_in1 {j a : Addr} (h1 : a ≠ j) : j ∉ [a] := by simp [Ne.symm h1]
structure Good (j : Addr) (H0 H : Hp) (C : Nat) : Prop where
  jar : Jar j H C
  keep : Keep j H0 H
theorem Good.same {j : Addr} {H0 H H' : Hp} {C : Nat} (g : Good j H0 H C) (s : Same H H') : Good j H0 H' C := ⟨g.jar.keep s, g.keep.trans (Keep.of_same s)⟩
theorem Good.on {j : Addr} {H0 H H' : Hp} {C C' : Nat} (g : Good j H0 H C) (k : Keep j H H') (jr : Jar j H' C') : Good j H0 H' C' := ⟨jr, g.keep.trans k⟩
theorem Good.new {j : Addr} {H0 H : Hp} {C : Nat} (g : Good j H0 H C) {p : Addr} (hp : H p = none) (o : HO) : Good j H0 (upd H p o) C := g.same (same_new hp o)
theorem Good.got {j p : Addr} {H0 H : Hp} {C : Nat} (g : Good j H0 H C) {as : List Addr} (n : ∀ j, H j ≠ none → j ∉ as → p ≠ j) (h : j ∉ as) : p ≠ j := n j g.jar.some h
def spDip : Sp := fun vs H Q _ => ∃ (j : Addr) (C : Nat) (m : Int), vs = [.ref j, .int m] ∧ Jar j H C ∧ C ≤ 1000000000 ∧ 0 < m ∧ m < 1000000 ∧
  ∀ (r : Int) (H' : Hp), 0 ≤ r → r < m → Jar j H' (C + 1) → Keep j H H' → Q (.int r) H'
def spJar (K : PySem.W.Frag) : Sp := fun vs H Q _ => ∃ (a : Addr) (ns : List Int) (k : Int), vs = [.ref a, .int k] ∧ SqL K H a (ns.map V.int) ∧ ns.length ≤ sizeLine ∧ 0 ≤ k ∧ k < 1000 ∧
  ∀ (j : Addr) (H' : Hp), H j = none → Same H H' → Jar j H' 0 → Q (.ref j) H'
section
variable {P : Program} {w : World} {K : PySem.W.Frag} {mg : Str → Option Value} {base : Heap} {f : Addr} {fd : FuncData}
theorem ok_dip (F : Fun K "_law_dip" "_law_dip" sDip f fd) : FnOk P w K mg base CX0 1 f fd ["jar", "many"] spDip := by
  refine F.ok scDip (fun vs H Q E h => ?_) (fun cdv A outer s H vs Q E hr h => ?_)
  · obtain ⟨j, C, m, rfl, _⟩ := h
    rfl
  obtain ⟨j, C, m, rfl, ⟨a, b, c, hj, hb, hc0, hc⟩, hC, m0, m1, q⟩ := h
  have jx : ∀ {X : Cx}, IxR X (rIxL X.K) := fun {X} => ix_list
  refine ⟨_, pss_cons (ps_if (pt_cmpR op_gt (pe_ix ix_list (pv 0) pe_int (fun _ _ => rfl)) pe_int (nomark _))
      (pss_cons (ps_set (i := 2) scDip.nd rfl (.inl rfl) (pe_op op_mod (pe_ix ix_list (pv 0) pe_int (fun _ _ => rfl)) (pv 1)))
        (pss_cons (ps_asg (pe_op op_fdivN (pe_ix ix_list (pv 0) pe_int (fun _ _ => rfl)) (pv 1)) (pg_sub (pv 0) pe_int set_list))
          (pss_one (ps_ret (pv 2))))) pss_nil)
    (pss_cons (ps_asg (pe_op op_add (pe_ix ix_list (pv 0) pe_int (fun _ _ => rfl)) pe_int) (pg_sub (pv 0) pe_int set_list))
    (pss_cons (ps_set (i := 3) scDip.nd rfl (.inl rfl) (pe_op op_mod (pe_op op_powW (pe_op op_add (pe_ix ix_list (pv 0) pe_int (fun _ _ => rfl)) (pe_op op_mul pe_int (pe_ix ix_list (pv 0) pe_int (fun _ _ => rfl)))) pe_int) pe_int))
    (pss_cons (ps_set (i := 3) scDip.nd rfl (.inl rfl) (pe_op op_mod (pe_op op_powW (pe_op op_add (pv 3) (pe_op op_mul pe_int (pe_ix ix_list (pv 0) pe_int (fun _ _ => rfl)))) pe_int) pe_int))
    (pss_one (ps_ret (pe_op op_mod (pe_op op_fdivN (pv 3) pe_int) (pv 1))))))), ?_⟩
  have e0 : ∀ (x y z : V), atI [x, y, z] 0 = some x := fun _ _ _ => rfl
  have e1 : ∀ (x y z : V), atI [x, y, z] 1 = some y := fun _ _ _ => rfl
  have e2 : ∀ (x y z : V), atI [x, y, z] 2 = some z := fun _ _ _ => rfl
  refine ⟨_, rfl, j, _, _, _, rfl, rfl, SqL.of hj, e0 _ _ _, _, _, rfl, rfl, _, rfl, ?_⟩
  refine ite2 (fun g => ?_) (fun g => ?_)
  · refine ⟨_, rfl, j, _, _, _, rfl, rfl, SqL.of hj, e0 _ _ _, _, rfl, _, _, rfl, rfl, m0, ?_⟩
    refine ⟨_, rfl, j, _, _, _, rfl, rfl, SqL.of hj, e0 _ _ _, _, rfl, _, _, rfl, rfl, ⟨by omega, by omega⟩, ?_⟩
    refine ⟨_, rfl, j, _, _, 0, rfl, rfl, hj, rfl, ?_⟩
    refine ⟨_, rfl, q _ _ (Int.emod_nonneg _ (by omega)) (Int.emod_lt_of_pos _ m0) ?_ (keep_jar _)⟩
    exact ⟨_, b, c, upd_same, hb, hc0, by omega⟩
  · refine ⟨_, rfl, j, _, _, _, rfl, rfl, SqL.of hj, e2 _ _ _, _, _, rfl, rfl, ?_⟩
    refine ⟨_, rfl, j, _, _, 2, rfl, rfl, hj, rfl, ?_⟩
    have hj2 : (upd H j (.lst [.int a, .int b, .int (c + 1)])) j = some (.lst [.int a, .int b, .int (c + 1)]) := upd_same
    refine ⟨_, rfl, j, _, _, _, rfl, rfl, SqL.of hj2, e1 _ _ _, _, rfl, j, _, _, _, rfl, rfl, SqL.of hj2, e2 _ _ _, _, _, rfl, rfl, .inl ⟨by decide, by decide⟩, _, _, rfl, rfl, ?_⟩
    have hp1 : (b + 104729 * (c + 1)).natAbs < 2 ^ 200 := by
      have : (2 : Nat) ^ 100 + 104729 * 1000000001 < 2 ^ 200 := by decide
      omega
    refine ⟨_, _, rfl, rfl, powW_of hp1 (by decide) (k := 3) (by decide), _, _, rfl, rfl, (show (0 : Int) < 618970019642690137449562111 by decide), ?_⟩
    have hm1 : ∀ x : Int, (x % 618970019642690137449562111).natAbs < 2 ^ 100 := fun x => by
      have h1 := Int.emod_nonneg x (b := 618970019642690137449562111) (by decide)
      have h2 := Int.emod_lt_of_pos x (b := 618970019642690137449562111) (by decide)
      have : (2 : Nat) ^ 100 = 1267650600228229401496703205376 := by decide
      omega
    refine ⟨_, rfl, _, rfl, j, _, _, _, rfl, rfl, SqL.of hj2, e2 _ _ _, _, _, rfl, rfl, .inl ⟨by decide, by decide⟩, _, _, rfl, rfl, ?_⟩
    refine ⟨_, _, rfl, rfl, powW_of (n := 200) ?_ (by decide) (k := 5) (by decide), _, _, rfl, rfl, (show (0 : Int) < 162259276829213363391578010288127 by decide), ?_⟩
    · have := hm1 ((b + 104729 * (c + 1)) ^ (3 : Int).toNat)
      have : (2 : Nat) ^ 100 + 15485863 * 1000000001 < 2 ^ 200 := by decide
      omega
    refine ⟨_, rfl, _, _, rfl, rfl, ⟨by decide, by decide⟩, _, rfl, _, _, rfl, rfl, m0, ?_⟩
    exact q _ _ (Int.emod_nonneg _ (by omega)) (Int.emod_lt_of_pos _ m0) ⟨a, b, c + 1, upd_same, hb, by omega, by omega⟩ (keep_jar _)
end
section
variable {P : Program} {w : World} {K : PySem.W.Frag} {mg : Str → Option Value} {base : Heap} {f g e : Addr} {fd gd ed : FuncData}
theorem ok_jar (F : Fun K "_law_jar" "_law_jar" sJar f fd) (ml : mg "len" = none) (mm : mg "max" = none) : FnOk P w K mg base CX0 1 f fd ["script", "k"] (spJar K) := by
  refine F.ok scJar (fun vs H Q E h => ?_) (fun cdv A outer s H vs Q E hr h => ?_)
  · obtain ⟨a, ns, k, rfl, _⟩ := h
    rfl
  obtain ⟨a, ns, k, rfl, hS, hl, k0, k1, q⟩ := h
  refine ⟨_, pss_cons (ps_set (i := 2) scJar.nd rfl (.inl rfl) pe_int)
    (pss_cons (ps_if (pt_cmpR op_lt (pv 1) (pe_callB call_len_seq rfl ml PySem.boot_len (pa_cons (pv 0) pa_nil)) (nomark _)) (pss_one (ps_set (i := 2) scJar.nd rfl (.inl rfl) (pe_ix ix_list (pv 0) (pv 1) (fun _ _ => rfl)))) pss_nil)
    (pss_one (ps_ret (pe_lst (pa_cons (pe_callB (call_max2 rfl) rfl mm (by decide +kernel) (pa_cons pe_int (pa_cons (pe_op op_sub (pv 2) (pe_op op_pow pe_int pe_int)) pa_nil)))
      (pa_cons (pe_op op_add (pe_op op_mod (pv 2) pe_int) (pe_op op_mul pe_int (pv 1))) (pa_cons pe_int pa_nil))))))), ?_⟩
  refine ⟨_, rfl, _, rfl, a, _, rfl, .inl hS, _, _, rfl, rfl, _, rfl, ?_⟩
  have fin : ∀ (z : Int) (p : Addr), H p = none → ∀ u : Int, Q (.ref p) (upd H p (.lst [.int u, .int (z % 618970019642690137449562111 + 7919 * k), .int 0])) := fun z p hp u => by
    refine q p _ hp (same_new hp _) ⟨_, _, _, upd_same, ?_, Int.le_refl 0, Int.le_refl 0⟩
    have h1 := Int.emod_nonneg z (b := 618970019642690137449562111) (by decide)
    have h2 := Int.emod_lt_of_pos z (b := 618970019642690137449562111) (by decide)
    have h3 : (2 : Nat) ^ 100 = 1267650600228229401496703205376 := by decide
    omega
  refine ite2 (fun c => ?_) (fun c => ?_)
  · have c' : k < (((ns.map V.int).length : Nat) : Int) := of_decide_eq_true c
    obtain ⟨x, hx1, hx2⟩ := at_in (l := ns.map V.int) k0 c'
    obtain ⟨z, _, rfl⟩ : ∃ z, ns[k.toNat]? = some z ∧ V.int z = x := by
      rw [List.getElem?_map] at hx2
      cases e : ns[k.toNat]? with
      | none => rw [e] at hx2; cases hx2
      | some z => rw [e] at hx2; exact ⟨z, rfl, by injection hx2⟩
    refine ⟨_, rfl, _, rfl, a, _, _, _, rfl, rfl, hS, hx1, ?_⟩
    exact ⟨_, rfl, _, _, rfl, rfl, ⟨by decide, by decide, by decide⟩, _, _, rfl, rfl, _, _, rfl, _, rfl, _, _, rfl, rfl, (show (0 : Int) < 618970019642690137449562111 by decide), _, rfl, _, _, rfl, rfl, .inl ⟨by decide, by decide⟩, _, _, rfl, rfl, (by show 3 ≤ sizeLine; decide), fun p hp => fin z p hp _⟩
  · exact ⟨_, rfl, _, _, rfl, rfl, ⟨by decide, by decide, by decide⟩, _, _, rfl, rfl, _, _, rfl, _, rfl, _, _, rfl, rfl, (show (0 : Int) < 618970019642690137449562111 by decide), _, rfl, _, _, rfl, rfl, .inl ⟨by decide, by decide⟩, _, _, rfl, rfl, (by show 3 ≤ sizeLine; decide), fun p hp => fin 0 p hp _⟩
end
theorem _root_.Pa.Jar.upd {j p : Addr} {H : Hp} {C : Nat} {o : HO} (h : Jar j H C) (n : p ≠ j) : Jar j (upd H p o) C := by
  obtain ⟨a, b, c, h1, h2⟩ := h
  exact ⟨a, b, c, by rw [upd_ne (Ne.symm n)]; exact h1, h2⟩
theorem _root_.Ty.Keep.upd {j p : Addr} {H H' : Hp} {o : HO} (k : Keep j H H') (n : H p = none) : Keep j H (upd H' p o) := fun b u nb e => by
  rw [upd_ne (ne_of_none e n)]
  exact k b u nb e
theorem same_upd {H H' : Hp} {p : Addr} {o : HO} (s : Same H H') (n : H p = none) : Same H (upd H' p o) := fun b u e => by
  rw [upd_ne (ne_of_none e n)]
  exact s b u e
theorem new_back {j p : Addr} {H H' : Hp} (k : Keep j H H') (n : p ≠ j) (h : H' p = none) : H p = none := by
  cases e : H p with
  | none => rfl
  | some o => rw [k p o n e] at h; cases h
def Tk (H H' : Hp) : Prop := ∀ c xs, H c = some (.tup xs) → H' c = some (.tup xs)
theorem Tk.trans {H H1 H2 : Hp} (a : Tk H H1) (b : Tk H1 H2) : Tk H H2 := fun c xs e => b c xs (a c xs e)
theorem Tk.of_same {H H' : Hp} (s : Same H H') : Tk H H' := fun c xs e => s _ _ e
theorem Tk.of_keep {j : Addr} {H H' : Hp} {C : Nat} (jr : Jar j H C) (k : Keep j H H') : Tk H H' := by
  obtain ⟨x, y, z, h, _⟩ := jr
  exact fun c xs e => k c _ (fun q => by rw [q, h] at e; cases e) e
theorem Tk.lst {H : Hp} {a : Addr} {xs : List V} {o : HO} (e : H a = some (.lst xs)) : Tk H (upd H a o) :=
  fun c ys h => by rw [upd_ne (fun q => by rw [q, e] at h; cases h)]; exact h
theorem paired_imp {α β : Type} {P Q : α → β → Prop} (f : ∀ x y, P x y → Q x y) : ∀ {l : List α} {m : List β}, Paired P l m → Paired Q l m
  | _, _, .nil => .nil
  | _, _, .cons h t => .cons (f _ _ h) (paired_imp f t)
theorem paired_snoc {α β : Type} {P : α → β → Prop} : ∀ {l : List α} {m : List β} {x : α} {y : β}, Paired P l m → P x y → Paired P (l ++ [x]) (m ++ [y])
  | _, _, _, _, .nil, h => .cons h .nil
  | _, _, _, _, .cons h t, h2 => .cons h (paired_snoc t h2)
theorem paired_app {α β : Type} {P : α → β → Prop} : ∀ {l l' : List α} {m m' : List β}, Paired P l m → Paired P l' m' → Paired P (l ++ l') (m ++ m')
  | _, _, _, _, .nil, h => h
  | _, _, _, _, .cons h t, h2 => .cons h (paired_app t h2)
theorem paired_get {α β : Type} {P : α → β → Prop} : ∀ {l : List α} {m : List β}, Paired P l m → ∀ (i : Nat) (x : α), l[i]? = some x → ∃ y, m[i]? = some y ∧ P x y
  | _, _, .nil, i, x, h => by simp at h
  | _, _, .cons r t, 0, x, h => by
    simp at h
    subst h
    exact ⟨_, rfl, r⟩
  | _, _, .cons r t, i + 1, x, h => paired_get t i x (by simpa using h)
theorem paired_rev {α β : Type} {P : α → β → Prop} : ∀ {l : List α} {m : List β}, Paired P l m → ∀ (i : Nat) (y : β), m[i]? = some y → ∃ x, l[i]? = some x ∧ P x y
  | _, _, .nil, i, x, h => by simp at h
  | _, _, .cons r t, 0, x, h => by
    simp at h
    subst h
    exact ⟨_, rfl, r⟩
  | _, _, .cons r t, i + 1, x, h => paired_rev t i x (by simpa using h)
/-- a while by what holds between two turns, told with what falls -/
theorem while_inv {c : TT} {tb : TS} {D : Ends} {σ : L2.St} {H : Hp} (Pv : Nat → L2.St → Hp → Prop) (h0 : ∃ m, Pv m σ H)
    (hs : ∀ m σ H, Pv m σ H → c σ H fun b H1 => if b = true then ∃ N : L2.St → Hp → Prop, (∀ σ' H', N σ' H' → ∃ m', m' < m ∧ Pv m' σ' H') ∧ tb { D with nx := N, ct := N, bk := D.nx } σ H1 else D.nx σ H1) : tWhile c tb D σ H := ⟨Pv, h0, hs⟩
/-! ### any list against an empty one -/
def rEqL0 (ne : Bool) : R2 := fun x y H Q => ∃ (a b : Addr) (xs : List V), x = .ref a ∧ y = .ref b ∧ H a = some (.lst xs) ∧ H b = some (.lst []) ∧ Q (.bl (if ne then !xs.isEmpty else xs.isEmpty)) H
section
variable {X : Cx}
theorem op_eqL0 (hu : X.A.units + 64 < cLine) : OpR X (compareOp .Eq) (rEqL0 false) := by
  intro pins s σ H x y v u Q I rx ry h
  obtain ⟨a, b, xs, rfl, rfl, ha, hb, q⟩ := h
  cases xs with
  | nil => exact op_eqD hu pins s σ H _ _ v u Q I rx ry ⟨.list [], .list [], .lst (SqL.of ha) .nil, .lst (SqL.of hb) .nil, rfl, rfl, q⟩
  | cons z zs =>
    obtain rfl : v = Value.ref a := rx
    obtain rfl : u = Value.ref b := ry
    obtain ⟨hz1, its, n1, rv1, ho1⟩ := I.hok a _ ha
    obtain ⟨hz2, its2, n2, rv2, ho2⟩ := I.hok b _ hb
    have l1 : its.length = zs.length + 1 := by rw [← rv1.length, List.length_cons]
    have l2 : its2.length = 0 := by rw [← rv2.length, List.length_nil]
    refine PySem.P.eq_list_lengths ho1 ho2 ?_ (by omega) ⟨.bl false, H, I, rfl, q⟩
    rw [List.size_toArray, List.size_toArray, l1, l2]
    exact bne_iff_ne.mpr (by omega)
theorem op_neL0 (hu : X.A.units + 64 < cLine) : OpR X (compareOp .NotEq) (rEqL0 true) := by
  intro pins s σ H x y v u Q I rx ry h
  obtain ⟨a, b, xs, rfl, rfl, ha, hb, q⟩ := h
  cases xs with
  | nil => exact op_neD hu pins s σ H _ _ v u Q I rx ry ⟨.list [], .list [], .lst (SqL.of ha) .nil, .lst (SqL.of hb) .nil, rfl, rfl, q⟩
  | cons z zs =>
    obtain rfl : v = Value.ref a := rx
    obtain rfl : u = Value.ref b := ry
    obtain ⟨hz1, its, n1, rv1, ho1⟩ := I.hok a _ ha
    obtain ⟨hz2, its2, n2, rv2, ho2⟩ := I.hok b _ hb
    have l1 : its.length = zs.length + 1 := by rw [← rv1.length, List.length_cons]
    have l2 : its2.length = 0 := by rw [← rv2.length, List.length_nil]
    refine SeqAt.RcNeAt.lists_lengths (A := X.A) (s := s) ⟨_, ho1, rfl, n1, rfl⟩ ⟨_, ho2, rfl, n2, rfl⟩ ?_ (by omega) X.prog X.w _ _ ?_
    · rw [List.size_toArray, List.size_toArray, l1, l2]
      exact bne_iff_ne.mpr (by omega)
    · exact ⟨.bl true, H, I, rfl, q⟩
end
/-! ### patterns in the heap -/
def wordP : Pat → Str
  | .sg _ => "signs"
  | .em => "empty"
  | .th _ _ => "then"
  | .oo _ _ => "or"
  | .ag _ => "again"
  | .mo _ => "more"
  | .mb _ => "maybe"
def partsP : Pat → List Pat
  | .sg _ => []
  | .em => []
  | .th a b => [a, b]
  | .oo a b => [a, b]
  | .ag a => [a]
  | .mo a => [a]
  | .mb a => [a]
def signsP : Pat → Str
  | .sg x => x
  | _ => Str.empty
def sizeP : Pat → Nat
  | .sg _ => 1
  | .em => 1
  | .th a b => sizeP a + sizeP b + 1
  | .oo a b => sizeP a + sizeP b + 1
  | .ag a => sizeP a + 1
  | .mo a => sizeP a + 1
  | .mb a => sizeP a + 1
def deepP : Pat → Nat
  | .sg _ => 1
  | .em => 1
  | .th a b => max (deepP a) (deepP b) + 1
  | .oo a b => max (deepP a) (deepP b) + 1
  | .ag a => deepP a + 1
  | .mo a => deepP a + 1
  | .mb a => deepP a + 1
def RP (H : Hp) : Pat → V → Prop
  | .sg x, v => ∃ a, v = .ref a ∧ H a = some (.tup [.str "signs", .str x])
  | .em, v => ∃ a, v = .ref a ∧ H a = some (.tup [.str "empty"])
  | .th p q, v => ∃ a u w, v = .ref a ∧ H a = some (.tup [.str "then", u, w]) ∧ RP H p u ∧ RP H q w
  | .oo p q, v => ∃ a u w, v = .ref a ∧ H a = some (.tup [.str "or", u, w]) ∧ RP H p u ∧ RP H q w
  | .ag p, v => ∃ a u, v = .ref a ∧ H a = some (.tup [.str "again", u]) ∧ RP H p u
  | .mo p, v => ∃ a u, v = .ref a ∧ H a = some (.tup [.str "more", u]) ∧ RP H p u
  | .mb p, v => ∃ a u, v = .ref a ∧ H a = some (.tup [.str "maybe", u]) ∧ RP H p u
theorem RP.tk {H H' : Hp} (k : Tk H H') : ∀ {p : Pat} {v : V}, RP H p v → RP H' p v
  | .sg x, v, h => by obtain ⟨a, e, h⟩ := h; exact ⟨a, e, k _ _ h⟩
  | .em, v, h => by obtain ⟨a, e, h⟩ := h; exact ⟨a, e, k _ _ h⟩
  | .th p q, v, h => by obtain ⟨a, u, w, e, h, r1, r2⟩ := h; exact ⟨a, u, w, e, k _ _ h, RP.tk k r1, RP.tk k r2⟩
  | .oo p q, v, h => by obtain ⟨a, u, w, e, h, r1, r2⟩ := h; exact ⟨a, u, w, e, k _ _ h, RP.tk k r1, RP.tk k r2⟩
  | .ag p, v, h => by obtain ⟨a, u, e, h, r1⟩ := h; exact ⟨a, u, e, k _ _ h, RP.tk k r1⟩
  | .mo p, v, h => by obtain ⟨a, u, e, h, r1⟩ := h; exact ⟨a, u, e, k _ _ h, RP.tk k r1⟩
  | .mb p, v, h => by obtain ⟨a, u, e, h, r1⟩ := h; exact ⟨a, u, e, k _ _ h, RP.tk k r1⟩
def RPs (H : Hp) (vs : List V) (ps : List Pat) : Prop := Paired (fun v p => RP H p v) vs ps
theorem RPs.tk {H H' : Hp} {vs : List V} {ps : List Pat} (r : RPs H vs ps) (k : Tk H H') : RPs H' vs ps := paired_imp (fun _ _ r => r.tk k) r
theorem word_ne {p : Pat} (h : ∀ x, p ≠ .sg x := by intro x e; cases e) : wordP p ≠ "signs" := by
  cases p with
  | sg x => exact absurd rfl (h x)
  | em => exact (by decide +kernel : ("empty" : Str) ≠ "signs")
  | th a b => exact (by decide +kernel : ("then" : Str) ≠ "signs")
  | oo a b => exact (by decide +kernel : ("or" : Str) ≠ "signs")
  | ag a => exact (by decide +kernel : ("again" : Str) ≠ "signs")
  | mo a => exact (by decide +kernel : ("more" : Str) ≠ "signs")
  | mb a => exact (by decide +kernel : ("maybe" : Str) ≠ "signs")
/-- one layer of a pattern -/
theorem RP.open {H : Hp} : ∀ {p : Pat} {v : V}, RP H p v → ∃ a vs, v = .ref a ∧ H a = some (.tup (.str (wordP p) :: vs)) ∧ ((∃ x, p = .sg x ∧ vs = [.str x]) ∨ (wordP p ≠ "signs" ∧ signsP p = Str.empty ∧ RPs H vs (partsP p)))
  | .sg x, v, h => by obtain ⟨a, e, h⟩ := h; exact ⟨a, _, e, h, .inl ⟨x, rfl, rfl⟩⟩
  | .em, v, h => by obtain ⟨a, e, h⟩ := h; exact ⟨a, _, e, h, .inr ⟨(by decide +kernel), rfl, .nil⟩⟩
  | .th p q, v, h => by obtain ⟨a, u, w, e, h, r1, r2⟩ := h; exact ⟨a, _, e, h, .inr ⟨word_ne, rfl, .cons r1 (.cons r2 .nil)⟩⟩
  | .oo p q, v, h => by obtain ⟨a, u, w, e, h, r1, r2⟩ := h; exact ⟨a, _, e, h, .inr ⟨word_ne, rfl, .cons r1 (.cons r2 .nil)⟩⟩
  | .ag p, v, h => by obtain ⟨a, u, e, h, r1⟩ := h; exact ⟨a, _, e, h, .inr ⟨word_ne, rfl, .cons r1 .nil⟩⟩
  | .mo p, v, h => by obtain ⟨a, u, e, h, r1⟩ := h; exact ⟨a, _, e, h, .inr ⟨word_ne, rfl, .cons r1 .nil⟩⟩
  | .mb p, v, h => by obtain ⟨a, u, e, h, r1⟩ := h; exact ⟨a, _, e, h, .inr ⟨word_ne, rfl, .cons r1 .nil⟩⟩
theorem dec_str (x y : Str) : decide (V.str x = V.str y) = decide (x = y) := by
  by_cases h : x = y
  · rw [h]; simp
  · rw [decide_eq_false h, decide_eq_false fun e => h (V.str.inj e)]
theorem dec_int (n m : Int) : decide (V.int n = V.int m) = decide (n = m) := by
  by_cases h : n = m
  · rw [h]; simp
  · rw [decide_eq_false h, decide_eq_false fun e => h (V.int.inj e)]
end Pa
set_option maxHeartbeats 2000000
namespace Pa
open PySem PySem.Spec PyProof.Rows L2 Ty
/-! ### parts_told -/
def Fwd (rows : List Pat) (kids : List Nat) (ps : List Pat) : Prop := Paired (fun k q => rows[k]? = some q) kids ps
def natsV (ks : List Nat) : List V := ks.map fun k : Nat => V.int (k : Nat)
def Node (ne : Addr → Prop) (H : Hp) (rows : List Pat) (v : V) (p : Pat) : Prop := ∃ a b kids, v = .ref a ∧ H a = some (.tup [.str (wordP p), .str (signsP p), .ref b]) ∧ H b = some (.lst (natsV kids)) ∧ Fwd rows kids (partsP p) ∧ ne b
theorem Node.at {ne : Addr → Prop} {H H' : Hp} {rows rows' : List Pat} {v : V} {p : Pat} (n : Node ne H rows v p) (k1 : Tk H H') (k2 : ∀ c xs, ne c → H c = some (.lst xs) → H' c = some (.lst xs)) (hr : ∀ (k : Nat) (q : Pat), rows[k]? = some q → rows'[k]? = some q) : Node ne H' rows' v p := by
  obtain ⟨a, b, kids, e, h1, h2, h3, h4⟩ := n
  exact ⟨a, b, kids, e, k1 _ _ h1, k2 _ _ h4 h2, paired_imp (fun k q => hr k q) h3, h4⟩
theorem Node.mono {ne ne' : Addr → Prop} {H : Hp} {rows : List Pat} {v : V} {p : Pat} (n : Node ne H rows v p) (h : ∀ c, ne c → ne' c) : Node ne' H rows v p := by
  obtain ⟨a, b, kids, e, h1, h2, h3, h4⟩ := n
  exact ⟨a, b, kids, e, h1, h2, h3, h _ h4⟩
theorem size_pos (p : Pat) : 1 ≤ sizeP p := by cases p <;> (unfold sizeP; omega)
def sumP (ps : List Pat) : Nat := (ps.map sizeP).sum
theorem sumP_cons (p : Pat) (ps : List Pat) : sumP (p :: ps) = sizeP p + sumP ps := by unfold sumP; rw [List.map_cons, List.sum_cons]
theorem sumP_app (ps qs : List Pat) : sumP (ps ++ qs) = sumP ps + sumP qs := by unfold sumP; rw [List.map_append, List.sum_append]
theorem size_parts : ∀ p : Pat, sizeP p = sumP (partsP p) + 1
  | .sg _ => rfl
  | .em => rfl
  | .th a b => by show sizeP a + sizeP b + 1 = (sizeP a + (sizeP b + 0)) + 1; omega
  | .oo a b => by show sizeP a + sizeP b + 1 = (sizeP a + (sizeP b + 0)) + 1; omega
  | .ag a => rfl
  | .mo a => rfl
  | .mb a => rfl
theorem sumP_len : ∀ ps : List Pat, ps.length ≤ sumP ps
  | [] => Nat.le_refl _
  | p :: ps => by
    have := sumP_len ps
    have := size_pos p
    rw [sumP_cons, List.length_cons]; omega
theorem fwd_new (rows : List Pat) : ∀ (ps : List Pat) (k : Nat) (rest : List Pat), k = rows.length → Fwd (rows ++ (ps ++ rest)) ((List.range ps.length).map (k + ·)) ps
  | [], k, rest, _ => .nil
  | p :: ps, k, rest, hk => by
    rw [List.length_cons, List.range_succ_eq_map, List.map_cons, List.map_map]
    refine .cons ?_ ?_
    · subst hk
      rw [Nat.add_zero, List.getElem?_append_right (Nat.le_refl _), Nat.sub_self]
      rfl
    · have h := fwd_new (rows ++ [p]) ps (k + 1) rest (by rw [List.length_append, hk]; rfl)
      rw [List.append_assoc] at h
      have e : ((fun x => k + x) ∘ Nat.succ) = (fun x => k + 1 + x) := by
        funext x
        show k + (x + 1) = k + 1 + x
        omega
      rw [e]
      exact h
theorem rgV_nats (k n : Nat) : rgV (k : Int) ((k : Int) + (n : Int)) = natsV ((List.range n).map (k + ·)) := by
  unfold rgV natsV
  have e : ((k : Int) + (n : Int) - (k : Int)).toNat = n := by omega
  rw [e, List.map_map]
  exact List.map_congr_left fun i _ => rfl
def spTold : Sp := fun vs H Q _ => ∃ v p, vs = [v] ∧ RP H p v ∧ sizeP p ≤ 1000 ∧ ∀ fl nv rows H', H fl = none → Same H H' → H' fl = some (.lst nv) → Paired (Node (fun b => H b = none) H' rows) nv rows → rows[0]? = some p → rows.length ≤ 1000 → Q (.ref fl) H'
theorem scTold : FnScope ["pattern", "rows", "found", "word", "parts"] ["pattern"] (defScope sTold) := ⟨rfl, rfl, rfl, by decide +kernel, rfl, by decide +kernel, by decide +kernel⟩
section
variable {P : Program} {w : World} {K : PySem.W.Frag} {mg : Str → Option Value} {base : Heap} {f g : Addr} {fd gd : FuncData}
theorem ok_told (F : Fun K "parts_told" "parts_told" sTold f fd) (ml : mg "len" = none) (mll : mg "list" = none) (mr : mg "range" = none) : FnOk P w K mg base CX0 1 f fd ["pattern"] spTold := by
  refine F.ok scTold (fun vs H Q E h => ?_) (fun cdv A outer s H vs Q E hr h => ?_)
  · obtain ⟨v, p, rfl, _⟩ := h
    rfl
  obtain ⟨v, p, rfl, rp, hz, q⟩ := h
  refine ⟨_, pss_cons (ps_set (i := 1) scTold.nd rfl (.inl rfl) (pe_lst (pa_cons (pv 0) pa_nil)))
    (pss_cons (ps_set (i := 2) scTold.nd rfl (.inl rfl) (pe_lst pa_nil))
    (pss_cons (ps_while PassesOwn.never (pt_cmpR op_lt (pe_callB call_len_seq rfl ml PySem.boot_len (pa_cons (pv 2) pa_nil)) (pe_callB call_len_seq rfl ml PySem.boot_len (pa_cons (pv 1) pa_nil)) (nomark _))
      (pss_cons (ps_asg (pe_ix ix_list (pv 1) (pe_callB call_len_seq rfl ml PySem.boot_len (pa_cons (pv 2) pa_nil)) (fun _ _ => rfl)) (pg_star1 rfl (pg_name (i := 3) scTold.nd rfl (.inl rfl)) (pg_name (i := 4) scTold.nd rfl (.inl rfl))))
      (pss_one (ps_if (pt_cmpR op_eq (pv 3) pe_str (nomark _))
        (pss_one (ps_expr (pe_bm PySem.F.plainAttrs_list PySem.F.slot_list_append PySem.F.type_list_append mt_append (pv 2) (pa_cons (pe_tup (pa_cons (pv 3) (pa_cons (pe_ix ix_list (pv 4) pe_int (fun _ _ => rfl)) (pa_cons (pe_lst pa_nil) pa_nil)))) pa_nil))))
        (pss_cons (ps_expr (pe_bm PySem.F.plainAttrs_list PySem.F.slot_list_append PySem.F.type_list_append mt_append (pv 2) (pa_cons (pe_tup (pa_cons (pv 3) (pa_cons pe_str (pa_cons
            (pe_listRg rfl rfl mll (prg_2 rfl mr (pe_callB call_len_seq rfl ml PySem.boot_len (pa_cons (pv 1) pa_nil)) (pe_op op_add (pe_callB call_len_seq rfl ml PySem.boot_len (pa_cons (pv 1) pa_nil)) (pe_callB call_len_seq rfl ml PySem.boot_len (pa_cons (pv 4) pa_nil))))) pa_nil)))) pa_nil)))
        (pss_one (ps_expr (pe_bm PySem.F.plainAttrs_list PySem.F.slot_list_extend PySem.F.type_list_extend mt_extend (pv 1) (pa_cons (pv 4) pa_nil)))))))))
    (pss_one (ps_ret (pv 2))))), ?_⟩
  refine ⟨_, rfl, (by show 1 ≤ sizeLine; decide), fun ra hra => ⟨(by show 0 ≤ sizeLine; decide), fun fa hfa => ?_⟩⟩
  have s1 := same_new hra (.lst [v])
  have s2 := same_new hfa (.lst [])
  have af : ra ≠ fa := ne_of_none upd_same hfa
  have hfaH : H fa = none := by rw [upd_ne (Ne.symm af)] at hfa; exact hfa
  refine while_inv (fun m σ H' => ∃ rows rv nv x3 x4, σ = [some v, some (.ref ra), some (.ref fa), x3, x4] ∧ H' ra = some (.lst rv) ∧ RPs H' rv rows ∧ H' fa = some (.lst nv) ∧ nv.length ≤ rows.length ∧
      Paired (Node (fun b => H b = none ∧ b ≠ ra ∧ b ≠ fa) H' rows) nv (rows.take nv.length) ∧ m = sumP (rows.drop nv.length) ∧ nv.length + m = sizeP p ∧ rows[0]? = some p ∧ Same H H')
    ⟨sizeP p, [p], [v], [], _, _, rfl, (by rw [upd_ne af]; exact upd_same), .cons (rp.tk (Tk.of_same (s1.trans s2))) .nil, upd_same, Nat.zero_le _, .nil, (by show _ = sizeP p + 0; omega), (by show 0 + _ = _; omega), rfl, s1.trans s2⟩ (fun m σ H' pv' => ?_)
  obtain ⟨rows, rv, nv, x3, x4, rfl, era, hrp, efa, hle, hnd, hm, hmz, h0, sm⟩ := pv'
  have lrv := Paired.length hrp
  have lrows : rows.length ≤ 1000 := by
    have h1 := sumP_len (rows.drop nv.length)
    rw [List.length_drop] at h1
    omega
  refine ⟨_, rfl, fa, _, rfl, .inl (SqL.of efa), _, rfl, ra, _, rfl, .inl (SqL.of era), _, _, rfl, rfl, _, rfl, ?_⟩
  by_cases c : nv.length < rv.length
  case neg =>
    have e1 : decide (((nv.length : Nat) : Int) < ((rv.length : Nat) : Int)) = false := decide_eq_false (by omega)
    rw [e1]
    refine iteF ?_
    have hn : nv.length = rows.length := by omega
    rw [hn, List.take_length] at hnd
    exact ⟨_, rfl, q fa nv rows H' hfaH sm efa (paired_imp (fun _ _ n => n.mono fun c h => h.1) hnd) h0 lrows⟩
  have e1 : decide (((nv.length : Nat) : Int) < ((rv.length : Nat) : Int)) = true := decide_eq_true (by omega)
  rw [e1]
  refine iteT ?_
  have hlt : nv.length < rows.length := by omega
  obtain ⟨u, hu, rpu⟩ := paired_rev hrp nv.length rows[nv.length] (List.getElem?_eq_getElem hlt)
  have hdrop : rows.drop nv.length = rows[nv.length] :: rows.drop (nv.length + 1) := List.drop_eq_getElem_cons hlt
  have hgn : rows[nv.length]? = some rows[nv.length] := List.getElem?_eq_getElem hlt
  rw [hdrop, sumP_cons] at hm
  have hsz := size_parts rows[nv.length]
  generalize rows[nv.length] = pn at hu rpu hm hsz hgn
  obtain ⟨a, vs, rfl, ha, hcase⟩ := rpu.open
  have htake : rows.take (nv.length + 1) = rows.take nv.length ++ [pn] := by rw [List.take_add_one, hgn]; rfl
  have lvs : vs.length ≤ 16000 := by
    rcases hcase with ⟨x, _, rfl⟩ | ⟨_, _, hp⟩
    · show 1 ≤ 16000; decide
    · have := Paired.length hp
      have h2 : (partsP pn).length ≤ 2 := by cases pn <;> (show _ ≤ 2) <;> simp [partsP]
      omega
  refine ⟨fun σ' H'' => ∃ m', m' < m ∧ _, fun _ _ h => h, ?_⟩
  refine ⟨_, rfl, _, rfl, fa, _, rfl, .inl (SqL.of efa), ra, _, _, _, rfl, rfl, SqL.of era, atI_nat hu, a, _, vs, rfl, SqT.of ha, lvs, fun D hD => ?_⟩
  have sD := same_new hD (.lst vs)
  have Dra : D ≠ ra := fun e => by rw [e, era] at hD; cases hD
  have Dfa : D ≠ fa := fun e => by rw [e, efa] at hD; cases hD
  refine ⟨_, rfl, rfl, _, rfl, ?_⟩
  rw [dec_str]
  rcases hcase with ⟨x, rfl, rfl⟩ | ⟨hw, hs, hps⟩
  · rw [show decide (wordP (.sg x) = "signs") = true from decide_eq_true rfl]
    refine iteT ?_
    refine ⟨_, rfl, .inl ⟨rfl, _, SqL.of (sD _ _ efa)⟩, _, rfl, _, rfl, D, _, _, _, rfl, rfl, SqL.of upd_same, at_zero, (by show 0 ≤ sizeLine; decide), fun b hb => ⟨(by show 3 ≤ sizeLine; decide), fun t ht => ?_⟩⟩
    have s3 := same_new hb (.lst [])
    have s4 := same_new ht (.tup [.str (wordP (.sg x)), .str x, .ref b])
    have sA : Same H' _ := sD.trans (s3.trans s4)
    have efa4 := sA _ _ efa
    refine ⟨fa, _, _, rfl, rfl, efa4, by rw [sizeLine_eq]; omega, ?_⟩
    have bra : b ≠ ra := fun e => by rw [e, sD _ _ era] at hb; cases hb
    have bfa : b ≠ fa := fun e => by rw [e, sD _ _ efa] at hb; cases hb
    have bH : H b = none := by
      cases e : H b with
      | none => rfl
      | some o => rw [sD _ _ (sm _ _ e)] at hb; cases hb
    have tk := (Tk.of_same sA).trans (Tk.lst (o := .lst (nv ++ [.ref t])) efa4)
    have k2 : ∀ c xs, (H c = none ∧ c ≠ ra ∧ c ≠ fa) → H' c = some (.lst xs) → (upd (upd (upd (upd H' D (.lst [.str x])) b (.lst [])) t (.tup [.str (wordP (.sg x)), .str x, .ref b])) fa (.lst (nv ++ [.ref t]))) c = some (.lst xs) := fun c xs h e => by
      rw [upd_ne h.2.2]; exact sA _ _ e
    refine ⟨sumP (rows.drop (nv.length + 1)), by omega, rows, rv, nv ++ [.ref t], _, _, rfl, by rw [upd_ne af]; exact sA _ _ era, hrp.tk tk, upd_same, by rw [List.length_append]; show nv.length + 1 ≤ _; omega, ?_, by rw [List.length_append]; rfl, ?_, h0, same_upd (sm.trans sA) hfaH⟩
    · rw [List.length_append]
      show Paired _ _ (rows.take (nv.length + 1))
      rw [htake]
      refine paired_snoc (paired_imp (fun _ _ n => n.at tk k2 fun _ _ h => h) hnd) ⟨t, b, [], rfl, Tk.lst efa4 _ _ upd_same, ?_, .nil, bH, bra, bfa⟩
      rw [upd_ne bfa]
      exact s4 _ _ upd_same
    · rw [List.length_append]
      show nv.length + 1 + _ = _
      have : sumP (partsP (.sg x)) = 0 := rfl
      omega
  · rw [decide_eq_false hw]
    refine iteF ?_
    have lps := Paired.length hps
    have l2 : (partsP pn).length ≤ 2 := by cases pn <;> (show _ ≤ 2) <;> simp [partsP]
    have eraD := sD _ _ era
    refine ⟨_, rfl, .inl ⟨rfl, _, SqL.of (sD _ _ efa)⟩, _, rfl, _, rfl, ra, _, rfl, .inl (SqL.of eraD), _, rfl, ra, _, rfl, .inl (SqL.of eraD), _, rfl, D, _, rfl, .inl (SqL.of upd_same), _, _, rfl, rfl, _, _, rfl, rfl, ⟨by omega, by omega, by omega, by omega⟩, fun b hb => ⟨(by show 3 ≤ sizeLine; decide), fun t ht => ?_⟩⟩
    rw [rgV_nats] at ht ⊢
    have s3 := same_new hb (.lst (natsV ((List.range vs.length).map (rv.length + ·))))
    have s4 := same_new ht (.tup [.str (wordP pn), .str "", .ref b])
    have sA : Same H' _ := sD.trans (s3.trans s4)
    have efa4 := sA _ _ efa
    refine ⟨fa, _, _, rfl, rfl, efa4, by rw [sizeLine_eq]; omega, ?_⟩
    have bra : b ≠ ra := fun e => by rw [e, eraD] at hb; cases hb
    have bfa : b ≠ fa := fun e => by rw [e, sD _ _ efa] at hb; cases hb
    have bH : H b = none := by
      cases e : H b with
      | none => rfl
      | some o => rw [sD _ _ (sm _ _ e)] at hb; cases hb
    have era5 : (upd (upd (upd (upd H' D (.lst vs)) b (.lst (natsV ((List.range vs.length).map (rv.length + ·))))) t (.tup [.str (wordP pn), .str "", .ref b])) fa (.lst (nv ++ [.ref t]))) ra = some (.lst rv) := by rw [upd_ne af]; exact sA _ _ era
    have eD5 : (upd (upd (upd (upd H' D (.lst vs)) b (.lst (natsV ((List.range vs.length).map (rv.length + ·))))) t (.tup [.str (wordP pn), .str "", .ref b])) fa (.lst (nv ++ [.ref t]))) D = some (.lst vs) := by rw [upd_ne Dfa]; exact (s3.trans s4) _ _ upd_same
    refine ⟨_, rfl, .inl ⟨rfl, _, SqL.of era5⟩, _, rfl, ra, D, _, _, rfl, rfl, era5, eD5, by rw [sizeLine_eq]; omega, ?_⟩
    have tk1 := (Tk.of_same sA).trans (Tk.lst (o := .lst (nv ++ [.ref t])) efa4)
    have tk := tk1.trans (Tk.lst (o := .lst (rv ++ vs)) era5)
    have k2 : ∀ c xs, (H c = none ∧ c ≠ ra ∧ c ≠ fa) → H' c = some (.lst xs) → (upd (upd (upd (upd (upd H' D (.lst vs)) b (.lst (natsV ((List.range vs.length).map (rv.length + ·))))) t (.tup [.str (wordP pn), .str "", .ref b])) fa (.lst (nv ++ [.ref t]))) ra (.lst (rv ++ vs))) c = some (.lst xs) := fun c xs h e => by
      rw [upd_ne h.2.1, upd_ne h.2.2]; exact sA _ _ e
    have grow : ∀ (k : Nat) (q : Pat), rows[k]? = some q → (rows ++ partsP pn)[k]? = some q := fun k q h => by
      have := (List.getElem?_eq_some_iff.mp h).1
      rw [List.getElem?_append_left this]; exact h
    refine ⟨sumP ((rows ++ partsP pn).drop (nv.length + 1)), ?_, rows ++ partsP pn, rv ++ vs, nv ++ [.ref t], _, _, rfl, upd_same, paired_app (hrp.tk tk) (RPs.tk hps tk), by rw [upd_ne (Ne.symm af)]; exact upd_same, by rw [List.length_append, List.length_append]; show nv.length + 1 ≤ _; omega, ?_, by rw [List.length_append]; rfl, ?_, by rw [List.getElem?_append_left (by omega)]; exact h0, same_upd (same_upd (sm.trans sA) hfaH) (by
      cases e : H ra with
      | none => rfl
      | some o => rw [e] at hra; cases hra)⟩
    · rw [List.drop_append_of_le_length (by omega), sumP_app]
      omega
    · rw [List.length_append]
      show Paired _ _ ((rows ++ partsP pn).take (nv.length + 1))
      rw [List.take_append_of_le_length (by omega), htake]
      refine paired_snoc (paired_imp (fun _ _ n => n.at tk k2 grow) hnd) ⟨t, b, (List.range vs.length).map (rv.length + ·), rfl, ?_, ?_, ?_, bH, bra, bfa⟩
      · rw [hs]
        exact ((Tk.lst (o := .lst (nv ++ [.ref t])) efa4).trans (Tk.lst (o := .lst (rv ++ vs)) era5)) _ _ upd_same
      · rw [upd_ne bra, upd_ne bfa]
        exact s4 _ _ upd_same
      · have h := fwd_new rows (partsP pn) rv.length [] lrv
        rw [List.append_nil, ← lps] at h
        exact h
    · rw [List.length_append, List.drop_append_of_le_length (by omega), sumP_app]
      show nv.length + 1 + _ = _
      omega
end
end Pa
set_option maxHeartbeats 2000000
namespace Pa
open PySem PySem.Spec PyProof.Rows L2 Ty
/-! ### the state of a Spelling -/
theorem nodup_len {α : Type} : ∀ {l m : List α}, l.Nodup → (∀ x, x ∈ l → x ∈ m) → l.length ≤ m.length
  | [], m, _, _ => Nat.zero_le _
  | x :: l, m, h, hs => by
    obtain ⟨s, t, rfl⟩ := List.append_of_mem (hs x List.mem_cons_self)
    have h' := List.nodup_cons.mp h
    have := nodup_len (l := l) (m := s ++ t) h'.2 fun y hy => by
      rcases List.mem_append.mp (hs y (List.mem_cons_of_mem _ hy)) with q | q
      · exact List.mem_append_left _ q
      · rcases List.mem_cons.mp q with e | q
        · rw [e] at hy; exact absurd hy h'.1
        · exact List.mem_append_right _ q
    rw [List.length_append] at this
    rw [List.length_append, List.length_cons, List.length_cons]; omega
def IsEnds (t : List Nat) (p : Pat) (b : Nat) (es : List Int) : Prop := es.Pairwise (· < ·) ∧ ∀ k, k ∈ es ↔ ∃ e : Nat, k = (e : Int) ∧ E t p b e
theorem pw_nodup {l : List Int} (h : l.Pairwise (· < ·)) : l.Nodup := h.imp fun h => Int.ne_of_lt h
theorem few_ints {l : List Int} {n : Nat} (h : l.Nodup) (hb : ∀ k, k ∈ l → ∃ e : Nat, k = (e : Int) ∧ e ≤ n) : l.length ≤ n + 1 := by
  have := nodup_len (l := l) (m := (List.range (n + 1)).map fun e : Nat => (e : Int)) h fun k hk => by
    obtain ⟨e, rfl, he⟩ := hb k hk
    exact List.mem_map.mpr ⟨e, List.mem_range.mpr (by omega), rfl⟩
  rw [List.length_map, List.length_range] at this
  exact this
theorem IsEnds.few {t : List Nat} {p : Pat} {b : Nat} {es : List Int} (h : IsEnds t p b es) : es.length ≤ t.length + 1 :=
  few_ints (pw_nodup h.1) fun k hk => by obtain ⟨e, h1, h2⟩ := (h.2 k).mp hk; exact ⟨e, h1, h2.2.1⟩
def keyN (c : Nat × Nat) : List Key := [Sum.inl (c.1 : Int), Sum.inl (c.2 : Int)]
theorem keyN_inj {c d : Nat × Nat} (h : keyN c = keyN d) : c = d := by
  unfold keyN at h
  injection h with h1 h2
  injection h1 with h1
  injection h2 with h2 _
  injection h2 with h2
  exact Prod.ext (by omega) (by omega)
def Memo (bad : Addr → Prop) (H : Hp) (t : List Nat) (rows : List Pat) (kd : Addr) : Prop := ∃ (kvs : List (List Key × V)) (cs : List (Nat × Nat)), H kd = some (.dT kvs) ∧ kvs.map (·.1) = cs.map keyN ∧ cs.Nodup ∧ (∀ c, c ∈ cs → c.1 < 1000 ∧ c.2 ≤ 60) ∧
  ∀ i b v, valV kvs (keyN (i, b)) = some v → ∃ p l es, rows[i]? = some p ∧ v = .ref l ∧ H l = some (.lst (es.map V.int)) ∧ IsEnds t p b es ∧ ¬ bad l
theorem keys_few {cs : List (Nat × Nat)} (h : cs.Nodup) (hb : ∀ c, c ∈ cs → c.1 < 1000 ∧ c.2 ≤ 60) : cs.length ≤ 61000 := by
  have := nodup_len (l := cs.map fun c => c.1 * 61 + c.2) (m := List.range 61000) (List.Pairwise.map _ (S := (· ≠ ·)) (fun a b hab => hab) (List.Pairwise.imp_of_mem (S := fun a b : Nat × Nat => a.1 * 61 + a.2 ≠ b.1 * 61 + b.2) (fun {a b} ha hb' hne e => by
      have h1 := hb a ha
      have h2 := hb b hb'
      exact hne (Prod.ext (by omega) (by omega))) h)) fun x hx => by
    obtain ⟨c, hc, rfl⟩ := List.mem_map.mp hx
    have := hb c hc
    exact List.mem_range.mpr (by omega)
  rw [List.length_map, List.length_range] at this
  exact this
theorem Memo.put {bad : Addr → Prop} {H : Hp} {t : List Nat} {rows : List Pat} {kd : Addr} (m : Memo bad H t rows kd) {i b : Nat} {p : Pat} {l : Addr} {es : List Int} (hi : i < 1000) (hb : b ≤ 60) (hp : rows[i]? = some p) (hl : H l = some (.lst (es.map V.int))) (he : IsEnds t p b es) (hn : ¬ bad l) :
    ∃ kvs, H kd = some (.dT kvs) ∧ kvs.length < sizeLine ∧ Memo bad (upd H kd (.dT (putK kvs (keyN (i, b)) (.ref l)))) t rows kd ∧ ∃ kvs', (upd H kd (.dT (putK kvs (keyN (i, b)) (.ref l)))) kd = some (.dT kvs') ∧ valV kvs' (keyN (i, b)) = some (.ref l) := by
  obtain ⟨kvs, cs, h1, h2, h3, h4, h5⟩ := m
  have hlen : kvs.length = cs.length := by
    have := congrArg List.length h2
    rw [List.length_map, List.length_map] at this
    exact this
  have hf := keys_few h3 h4
  have lk : ∀ {c : Addr} {xs : List V}, H c = some (.lst xs) → (upd H kd (.dT (putK kvs (keyN (i, b)) (.ref l)))) c = some (.lst xs) := fun {c xs} e => by
    rw [upd_ne (fun q => by rw [q, h1] at e; cases e)]; exact e
  refine ⟨kvs, h1, by rw [sizeLine_eq]; omega, ?_, _, upd_same, by rw [valV_put, if_pos rfl]⟩
  have entry : ∀ j c v, valV (putK kvs (keyN (i, b)) (.ref l)) (keyN (j, c)) = some v → ∃ p l' es, rows[j]? = some p ∧ v = .ref l' ∧ (upd H kd (.dT (putK kvs (keyN (i, b)) (.ref l)))) l' = some (.lst (es.map V.int)) ∧ IsEnds t p c es ∧ ¬ bad l' := fun j c v hv => by
    rw [valV_put] at hv
    by_cases e : keyN (j, c) = keyN (i, b)
    · rw [if_pos e] at hv
      injection hv with hv
      have := keyN_inj e
      injection this with e1 e2
      subst e1 e2
      exact ⟨p, l, es, hp, hv.symm, lk hl, he, hn⟩
    · rw [if_neg e] at hv
      obtain ⟨p', l', es', g1, g2, g3, g4⟩ := h5 j c v hv
      exact ⟨p', l', es', g1, g2, lk g3, g4⟩
  cases hv : valV kvs (keyN (i, b)) with
  | none =>
    refine ⟨_, cs ++ [(i, b)], upd_same, ?_, ?_, ?_, entry⟩
    · rw [putK_new _ hv, List.map_append, List.map_append, h2]; rfl
    · refine List.nodup_append.mpr ⟨h3, by simp, fun x hx y hy e => ?_⟩
      have hy' : y = (i, b) := by simpa using hy
      subst hy' e
      have := valV_not hv
      rw [h2] at this
      exact this (List.mem_map.mpr ⟨_, hx, rfl⟩)
    · intro c hc
      rcases List.mem_append.mp hc with q | q
      · exact h4 c q
      · rw [List.mem_singleton.mp q]; exact ⟨hi, hb⟩
  | some v =>
    refine ⟨_, cs, upd_same, ?_, h3, h4, entry⟩
    rw [← h2]
    unfold putK
    have ha : (kvs.any fun kv => decide (kv.1 = keyN (i, b))) = true := by rw [valV_any, hv]; rfl
    rw [if_pos ha, List.map_map]
    refine List.map_congr_left fun kv _ => ?_
    show (if kv.1 = keyN (i, b) then (kv.1, V.ref l) else kv).1 = kv.1
    split <;> rfl
theorem nk1 : ¬ (("parts" : Str) = "text") := by decide +kernel
theorem nk2 : ¬ (("parts" : Str) = "known") := by decide +kernel
theorem nk3 : ¬ (("text" : Str) = "known") := by decide +kernel
def flds (pl : Addr) (x : Str) (kd : Addr) : List (Str × V) := putF "known" (.ref kd) (putF "text" (.str x) (putF "parts" (.ref pl) []))
theorem fl_known (pl : Addr) (x : Str) (kd : Addr) : (flds pl x kd).lookup ("known" : Str) = some (.ref kd) := by
  unfold flds
  rw [lookup_putF, if_pos rfl]
theorem fl_text (pl : Addr) (x : Str) (kd : Addr) : (flds pl x kd).lookup ("text" : Str) = some (.str x) := by
  unfold flds
  rw [lookup_putF, if_neg nk3, lookup_putF, if_pos rfl]
theorem fl_parts (pl : Addr) (x : Str) (kd : Addr) : (flds pl x kd).lookup ("parts" : Str) = some (.ref pl) := by
  unfold flds
  rw [lookup_putF, if_neg nk2, lookup_putF, if_neg nk1, lookup_putF, if_pos rfl]
theorem fl_no (pl : Addr) (x : Str) (kd : Addr) {m : Str} (h1 : ¬ m = "known") (h2 : ¬ m = "text") (h3 : ¬ m = "parts") : (flds pl x kd).lookup m = none := by
  unfold flds
  rw [lookup_putF, if_neg h1, lookup_putF, if_neg h2, lookup_putF, if_neg h3]
  rfl
theorem fl_ends (pl : Addr) (x : Str) (kd : Addr) : (flds pl x kd).lookup ("ends" : Str) = none := fl_no pl x kd (by decide +kernel) (by decide +kernel) (by decide +kernel)
theorem fl_anew (pl : Addr) (x : Str) (kd : Addr) : (flds pl x kd).lookup ("ends_anew" : Str) = none := fl_no pl x kd (by decide +kernel) (by decide +kernel) (by decide +kernel)
theorem fl_again (pl : Addr) (x : Str) (kd : Addr) : (flds pl x kd).lookup ("again_ends" : Str) = none := fl_no pl x kd (by decide +kernel) (by decide +kernel) (by decide +kernel)
/-- a Spelling at s; what is bad may be written by others -/
structure SpS (bad : Addr → Prop) (C : Addr) (H : Hp) (s : Addr) (x : Str) (rows : List Pat) (kd : Addr) : Prop where
  ob : ∃ dx pl nv, H s = some (.ins C dx (flds pl x kd)) ∧ H pl = some (.lst nv) ∧ ¬ bad pl ∧ Paired (Node (fun c => ¬ bad c) H rows) nv rows
  memo : Memo bad H x.cps.toList rows kd
  hb : ∀ c, bad c → (∃ xs, H c = some (.lst xs)) ∨ ∃ ks, H c = some (.dK ks)
  lr : rows.length ≤ 1000
  lx : x.length ≤ 60
theorem SpS.kd {bad : Addr → Prop} {C s kd : Addr} {H : Hp} {x : Str} {rows : List Pat} (S : SpS bad C H s x rows kd) : ∃ kvs, H kd = some (.dT kvs) := by
  obtain ⟨kvs, cs, h, _⟩ := S.memo
  exact ⟨kvs, h⟩
/-- what stands but for kd and what is bad -/
def KB (bad : Addr → Prop) (kd : Addr) (H H' : Hp) : Prop := ∀ c o, ¬ bad c → c ≠ kd → H c = some o → H' c = some o
theorem SpS.upto {bad : Addr → Prop} {C s kd : Addr} {H H' : Hp} {x : Str} {rows : List Pat} (S : SpS bad C H s x rows kd) (k : KB bad kd H H') (m : Memo bad H' x.cps.toList rows kd) (hb : ∀ c, bad c → (∃ xs, H' c = some (.lst xs)) ∨ ∃ ks, H' c = some (.dK ks)) : SpS bad C H' s x rows kd := by
  obtain ⟨kvs, hk⟩ := S.kd
  obtain ⟨dx, pl, nv, h1, h2, h3, h4⟩ := S.ob
  have nb : ∀ {c o}, H c = some o → (∀ xs, o ≠ .lst xs) → (∀ ks, o ≠ .dK ks) → ¬ bad c := fun {c o} e e1 e2 hc => by
    rcases S.hb c hc with ⟨xs, q⟩ | ⟨ks, q⟩
    · rw [q] at e; exact e1 xs (Option.some.inj e).symm
    · rw [q] at e; exact e2 ks (Option.some.inj e).symm
  refine ⟨⟨dx, pl, nv, k s _ (nb h1 (fun _ z => by cases z) (fun _ z => by cases z)) (fun e => by rw [e, hk] at h1; cases h1) h1, k pl _ h3 (fun e => by rw [e, hk] at h2; cases h2) h2, h3, paired_imp (fun v p n => ?_) h4⟩, m, hb, S.lr, S.lx⟩
  refine n.at (fun c xs e => k c _ (nb e (fun _ z => by cases z) (fun _ z => by cases z)) (fun q => by rw [q, hk] at e; cases e) e) (fun c xs hc e => k c _ hc (fun q => by rw [q, hk] at e; cases e) e) fun _ _ h => h
theorem Memo.same {bad : Addr → Prop} {H H' : Hp} {t : List Nat} {rows : List Pat} {kd : Addr} (m : Memo bad H t rows kd) (s : Same H H') : Memo bad H' t rows kd := by
  obtain ⟨kvs, cs, h1, h2, h3, h4, h5⟩ := m
  refine ⟨kvs, cs, s _ _ h1, h2, h3, h4, fun i b v hv => ?_⟩
  obtain ⟨p, l, es, g1, g2, g3, g4⟩ := h5 i b v hv
  exact ⟨p, l, es, g1, g2, s _ _ g3, g4⟩
theorem SpS.same {bad : Addr → Prop} {C s kd : Addr} {H H' : Hp} {x : Str} {rows : List Pat} (S : SpS bad C H s x rows kd) (sm : Same H H') : SpS bad C H' s x rows kd :=
  S.upto (fun c o _ _ e => sm c o e) (S.memo.same sm) fun c hc => (S.hb c hc).imp (fun ⟨xs, e⟩ => ⟨xs, sm _ _ e⟩) (fun ⟨xs, e⟩ => ⟨xs, sm _ _ e⟩)
/-- a bad thing is written -/
theorem SpS.write {bad : Addr → Prop} {C s kd c : Addr} {H : Hp} {x : Str} {rows : List Pat} {o : HO} (S : SpS bad C H s x rows kd) (hc : bad c) (ho : (∃ xs, o = .lst xs) ∨ ∃ ks, o = .dK ks) : SpS bad C (upd H c o) s x rows kd := by
  obtain ⟨kvs, hk⟩ := S.kd
  have nk : kd ≠ c := fun e => by
    rcases S.hb c hc with ⟨xs, q⟩ | ⟨ks, q⟩ <;> (rw [← e, hk] at q; cases q)
  refine S.upto (fun d u hd _ e => by rw [upd_ne (fun q => hd (by rw [q]; exact hc))]; exact e) ?_ fun d hd => ?_
  · obtain ⟨kvs, cs, h1, h2, h3, h4, h5⟩ := S.memo
    refine ⟨kvs, cs, by rw [upd_ne nk]; exact h1, h2, h3, h4, fun i b v hv => ?_⟩
    obtain ⟨p, l, es, g1, g2, g3, g4, g5⟩ := h5 i b v hv
    exact ⟨p, l, es, g1, g2, by rw [upd_ne (fun q => g5 (by rw [q]; exact hc))]; exact g3, g4, g5⟩
  · by_cases e : d = c
    · rw [e, upd_same]
      exact ho.imp (fun ⟨xs, q⟩ => ⟨xs, congrArg some q⟩) (fun ⟨ks, q⟩ => ⟨ks, congrArg some q⟩)
    · rw [upd_ne e]; exact S.hb d hd
/-- one more bad thing, a new one -/
theorem SpS.more {bad : Addr → Prop} {C s kd c : Addr} {H : Hp} {x : Str} {rows : List Pat} {o : HO} (S : SpS bad C H s x rows kd) (hc : H c = none) (ho : (∃ xs, o = .lst xs) ∨ ∃ ks, o = .dK ks) : SpS (fun d => bad d ∨ d = c) C (upd H c o) s x rows kd := by
  have sm := same_new hc o
  have S' := S.same sm
  obtain ⟨dx, pl, nv, h1, h2, h3, h4⟩ := S.ob
  have ne : ∀ {d u}, H d = some u → d ≠ c := fun {d u} e q => by rw [q, hc] at e; cases e
  refine ⟨⟨dx, pl, nv, sm _ _ h1, sm _ _ h2, fun h => h.elim h3 (ne h2), paired_imp (fun v p n => ?_) h4⟩, ?_, fun d hd => ?_, S.lr, S.lx⟩
  · obtain ⟨a, b, kids, e, g1, g2, g3, g4⟩ := n
    exact ⟨a, b, kids, e, sm _ _ g1, sm _ _ g2, g3, fun h => h.elim g4 (ne g2)⟩
  · obtain ⟨kvs, cs, h1, h2, h3, h4, h5⟩ := S.memo
    refine ⟨kvs, cs, sm _ _ h1, h2, h3, h4, fun i b v hv => ?_⟩
    obtain ⟨p, l, es, g1, g2, g3, g4, g5⟩ := h5 i b v hv
    exact ⟨p, l, es, g1, g2, sm _ _ g3, g4, fun h => h.elim g5 (ne g3)⟩
  · rcases hd with hd | hd
    · exact S'.hb d hd
    · rw [hd, upd_same]
      exact ho.imp (fun ⟨xs, q⟩ => ⟨xs, congrArg some q⟩) (fun ⟨ks, q⟩ => ⟨ks, congrArg some q⟩)
theorem SpS.less {bad bad' : Addr → Prop} {C s kd : Addr} {H : Hp} {x : Str} {rows : List Pat} (S : SpS bad C H s x rows kd) (h : ∀ c, bad' c → bad c) : SpS bad' C H s x rows kd := by
  obtain ⟨dx, pl, nv, h1, h2, h3, h4⟩ := S.ob
  refine ⟨⟨dx, pl, nv, h1, h2, fun q => h3 (h _ q), paired_imp (fun v p n => n.mono fun c hc q => hc (h _ q)) h4⟩, ?_, fun c hc => S.hb c (h c hc), S.lr, S.lx⟩
  obtain ⟨kvs, cs, h1, h2, h3, h4, h5⟩ := S.memo
  refine ⟨kvs, cs, h1, h2, h3, h4, fun i b v hv => ?_⟩
  obtain ⟨p, l, es, g1, g2, g3, g4, g5⟩ := h5 i b v hv
  exact ⟨p, l, es, g1, g2, g3, g4, fun q => g5 (h _ q)⟩
/-- what the class is -/
structure Txt (K : PySem.W.Frag) (C fE fA fG : Addr) : Prop where
  cl : Cls K C
  nP : NoAttr K C "parts"
  nT : NoAttr K C "text"
  nK : NoAttr K C "known"
  mE : Meth K C "ends" fE
  mA : Meth K C "ends_anew" fA
  mG : Meth K C "again_ends" fG
/-- ends of a part deep so much, told as a list -/
def spEndsOf (C : Addr) (d : Nat) (f : Pat → Pat) : Sp := fun vs H Q _ => ∃ (bad : Addr → Prop) (s kd : Addr) (x : Str) (rows : List Pat) (i b : Nat) (p : Pat), vs = [.ref s, .int (i : Nat), .int (b : Nat)] ∧ SpS bad C H s x rows kd ∧ rows[i]? = some p ∧ deepP p ≤ d ∧ b ≤ x.length ∧
  ∀ l es H', H' l = some (.lst (es.map V.int)) → IsEnds x.cps.toList (f p) b es → ¬ bad l → SpS bad C H' s x rows kd → Keep kd H H' → Q (.ref l) H'
theorem deep_pos (p : Pat) : 1 ≤ deepP p := by cases p <;> (unfold deepP; omega)
theorem ends_zero {P : Program} {w : World} {K : PySem.W.Frag} {mg : Str → Option Value} {base : Heap} {f : Addr} {fd : FuncData} {ps : List Str} {C : Addr} : FnOk P w K mg base CX0 1 f fd ps (spEndsOf C 0 id) := by
  have no : ∀ vs H Q E, ¬ spEndsOf C 0 id vs H Q E := fun vs H Q E h => by
    obtain ⟨_, _, _, _, _, _, _, p, _, _, _, h, _⟩ := h
    have := deep_pos p
    omega
  exact ⟨fun vs H Q E h => absurd h (no vs H Q E), fun A outer s H args us vs Q E _ _ _ _ h => absurd h (no vs H Q E)⟩
theorem scEnds : FnScope ["self", "part", "begun"] ["self", "part", "begun"] (defScope sEnds) := ⟨rfl, rfl, rfl, by decide +kernel, rfl, by decide +kernel, by decide +kernel⟩
theorem len_x (x : Str) : x.cps.toList.length = x.length := Array.length_toList
section
variable {P : Program} {w : World} {K : PySem.W.Frag} {mg : Str → Option Value} {base : Heap} {f fE fA fG C : Addr} {fd gd : FuncData}
theorem ok_ends {d : Nat} (F : Fun K "ends" "Spelling.ends" sEnds f fd) (T : Txt K C fE fA fG) (G : FnOk P w K mg base CX0 (3 * d + 3) fA gd ["self", "part", "begun"] (spEndsOf C (d + 1) id)) (bG : Binds K gd ["self", "part", "begun"] []) :
    FnOk P w K mg base CX0 (3 * d + 4) f fd ["self", "part", "begun"] (spEndsOf C (d + 1) id) := by
  refine F.ok scEnds (fun vs H Q E h => ?_) (fun cdv A outer s H vs Q E hr h => ?_)
  · obtain ⟨_, _, _, _, _, _, _, _, rfl, _⟩ := h
    rfl
  obtain ⟨bad, s, kd, x, rows, i, b, p, rfl, S, hp, hd, hb, q⟩ := h
  have hu := hu_of hr
  refine ⟨_, pss_cons (ps_if (pt_cmp (pc_dnotin hu (pe_tup (pa_cons (pv 1) (pa_cons (pv 2) pa_nil))) (pe_fld (pv 0) rfl)))
      (pss_one (ps_dput hu (pe_fld (pv 0) rfl) (pe_tup (pa_cons (pv 1) (pa_cons (pv 2) pa_nil))) (pe_meth (pv 0) T.cl T.mA G hr bG .nil pass0 (pa_cons (pv 1) (pa_cons (pv 2) pa_nil))) rfl)) pss_nil)
    (pss_one (ps_ret (pe_dget hu (pe_fld (pv 0) rfl) (pe_tup (pa_cons (pv 1) (pa_cons (pv 2) pa_nil))) (fun _ _ => rfl)))), ?_⟩
  have kk : ∀ (k : Nat × Nat), (keyN k).map kV = [V.int (k.1 : Nat), V.int (k.2 : Nat)] := fun _ => rfl
  -- the end: what is known is told
  have fin : ∀ (H1 : Hp) (kvs : List (List Key × V)), SpS bad C H1 s x rows kd → Keep kd H H1 → H1 kd = some (.dT kvs) → ∀ v, valV kvs (keyN (i, b)) = some v →
      ∀ k H2, H2 k = some (.tup [V.int (i : Nat), V.int (b : Nat)]) → Same H1 H2 → DGet H2 kd (.ref k) (some v) ∧ Q v H2 := fun H1 kvs S1 k1 e1 v hv k H2 ek s2 => by
    obtain ⟨kvs', cs, g1, g2, g3, g4, g5⟩ := S1.memo
    rw [e1] at g1
    injection g1 with g1
    injection g1 with g1
    subst g1
    obtain ⟨p', l, es, h1, rfl, h3, h4, h5⟩ := g5 i b v hv
    rw [hp] at h1
    injection h1 with h1
    subst h1
    refine ⟨?_, q l es H2 (s2 _ _ h3) h4 h5 (S1.same s2) (k1.trans (Keep.of_same s2))⟩
    rw [← hv]
    exact DGet.t (s2 _ _ e1) (ek.trans (congrArg (fun z => some (HO.tup z)) (kk (i, b)).symm))
  obtain ⟨dx, pl, nv, ho, _⟩ := S.ob
  refine ⟨_, rfl, _, rfl, (by show 2 ≤ sizeLine; decide), fun k1 hk1 => ?_⟩
  have s1 := same_new hk1 (.tup [V.int (i : Nat), V.int (b : Nat)])
  have S1 := S.same s1
  obtain ⟨kvs, hkd⟩ := S1.kd
  refine ⟨_, rfl, s, C, dx, _, _, rfl, s1 _ _ ho, T.cl, T.nK, fl_known _ _ _, kd, _, rfl, DGet.t (k := keyN (i, b)) hkd upd_same, _, rfl, ?_⟩
  cases hv : valV kvs (keyN (i, b)) with
  | some v =>
    refine iteF ?_
    refine ⟨_, rfl, s, C, dx, _, _, rfl, s1 _ _ ho, T.cl, T.nK, fl_known _ _ _, _, rfl, _, rfl, (by show 2 ≤ sizeLine; decide), fun k2 hk2 => ?_⟩
    obtain ⟨g1, g2⟩ := fin _ kvs S1 (Keep.of_same s1) hkd v hv k2 _ upd_same (same_new hk2 _)
    exact ⟨kd, v, rfl, g1, g2⟩
  | none =>
    refine iteT ?_
    refine ⟨_, rfl, s, dx, _, rfl, s1 _ _ ho, fl_anew _ _ _, _, rfl, _, rfl, bad, s, kd, x, rows, i, b, p, rfl, S1, hp, hd, hb, fun l es H2 hl he nb S2 kp2 => ?_⟩
    obtain ⟨dx2, pl2, nv2, ho2, _⟩ := S2.ob
    refine ⟨_, rfl, s, C, dx2, _, _, rfl, ho2, T.cl, T.nK, fl_known _ _ _, _, rfl, _, rfl, (by show 2 ≤ sizeLine; decide), fun k3 hk3 => ?_⟩
    have s3 := same_new hk3 (.tup [V.int (i : Nat), V.int (b : Nat)])
    have S3 := S2.same s3
    have hi : i < 1000 := by
      have := (List.getElem?_eq_some_iff.mp hp).1
      have := S.lr
      omega
    have lx := S.lx
    obtain ⟨kvs3, e3, z3, m3, kvs4, e4, v4⟩ := S3.memo.put hi (by omega) hp (s3 _ _ hl) he nb
    refine ⟨kd, _, rfl, .inr ⟨kvs3, keyN (i, b), k3, e3, rfl, upd_same, z3, rfl⟩, ?_⟩
    have S4 : SpS bad C _ s x rows kd := S3.upto (fun c o _ nk e => by rw [upd_ne nk]; exact e) m3 fun c hc => by
      have nk : c ≠ kd := fun e => by
        rcases S3.hb c hc with ⟨xs, q⟩ | ⟨ks, q⟩ <;> (rw [e, e3] at q; cases q)
      rw [upd_ne nk]
      exact S3.hb c hc
    have kp4 : Keep kd H (upd (upd H2 k3 (.tup [V.int (i : Nat), V.int (b : Nat)])) kd (.dT (putK kvs3 (keyN (i, b)) (.ref l)))) := (Keep.of_same s1).trans (kp2.trans ((Keep.of_same s3).trans (keep_jar _)))
    generalize upd (upd H2 k3 (.tup [V.int (i : Nat), V.int (b : Nat)])) kd (.dT (putK kvs3 (keyN (i, b)) (.ref l))) = H4 at S4 kp4 e4
    obtain ⟨dx4, pl4, nv4, ho4, _⟩ := S4.ob
    refine ⟨_, rfl, s, C, dx4, _, _, rfl, ho4, T.cl, T.nK, fl_known _ _ _, _, rfl, _, rfl, (by show 2 ≤ sizeLine; decide), fun k5 hk5 => ?_⟩
    obtain ⟨g1, g2⟩ := fin _ kvs4 S4 kp4 e4 _ v4 k5 _ upd_same (same_new hk5 _)
    exact ⟨kd, _, rfl, g1, g2⟩
end
end Pa
set_option maxHeartbeats 4000000
namespace Pa
open PySem PySem.Spec PyProof.Rows L2 Ty
/-! ### {e for a in a list for e in a list of numbers} -/
def addI (L : List Int) (c : Int) : List Int := if c ∈ L then L else c :: L
theorem mem_addI {L : List Int} {c k : Int} : k ∈ addI L c ↔ k ∈ L ∨ k = c := by
  unfold addI
  split
  · rename_i h
    exact ⟨.inl, fun z => z.elim id fun e => e ▸ h⟩
  · rw [List.mem_cons]
    exact Or.comm
theorem addI_nodup {L : List Int} {c : Int} (h : L.Nodup) : (addI L c).Nodup := by
  unfold addI
  split
  · exact h
  · rename_i h'
    exact List.nodup_cons.mpr ⟨h', h⟩
theorem addI_len (L : List Int) (c : Int) : (addI L c).length ≤ L.length + 1 := by
  unfold addI
  split
  · omega
  · simp
def addAll (L es : List Int) : List Int := es.foldl addI L
theorem addAll_snoc (L es : List Int) (c : Int) : addAll L (es ++ [c]) = addI (addAll L es) c := by unfold addAll; rw [List.foldl_append]; rfl
theorem mem_addAll {L : List Int} {k : Int} : ∀ {es : List Int}, k ∈ addAll L es ↔ k ∈ L ∨ k ∈ es := by
  intro es
  induction es generalizing L with
  | nil => simp [addAll]
  | cons c es ih =>
    show k ∈ addAll (addI L c) es ↔ _
    rw [ih, mem_addI, List.mem_cons, or_assoc]
theorem addAll_nodup {L : List Int} (h : L.Nodup) : ∀ es : List Int, (addAll L es).Nodup := by
  intro es
  induction es generalizing L with
  | nil => exact h
  | cons c es ih => exact ih (addI_nodup h)
theorem addAll_len (es L : List Int) : (addAll L es).length ≤ L.length + es.length := by
  induction es generalizing L with
  | nil => exact Nat.le_refl _
  | cons c es ih =>
    have h1 := ih (L := addI L c)
    have h2 := addI_len L c
    show (addAll (addI L c) es).length ≤ _
    rw [List.length_cons]; omega
def SetL (w : World) (D : Addr) (L : List Int) : HO := SetO w D (fun k => decide (k ∈ L)) L.length
theorem setL_add (w : World) (D : Addr) (L : List Int) (c : Int) : SetO w D (fun j => decide (j ∈ L) || decide (j = c)) (if decide (c ∈ L) = true then L.length else L.length + 1) = SetL w D (addI L c) := by
  unfold SetL
  congr 1
  · funext j
    rw [Bool.eq_iff_iff]
    simp only [Bool.or_eq_true, decide_eq_true_eq]
    exact mem_addI.symm
  · unfold addI
    by_cases h : c ∈ L
    · rw [if_pos h, if_pos (decide_eq_true h)]
    · rw [if_neg h, if_neg (by simp [h])]; rfl
theorem setL_nil (w : World) (D : Addr) : SetO w D (fun _ => false) 0 = SetL w D [] := by
  unfold SetL
  congr 1
theorem upd_id {H : Hp} {a : Addr} {o : HO} (h : H a = some o) : upd H a o = H := by
  funext b
  by_cases e : b = a
  · rw [e, upd_same, h]
  · rw [upd_ne e]
theorem upd_upd {H : Hp} {a : Addr} {o o' : HO} : upd (upd H a o) a o' = upd H a o' := by
  funext b
  by_cases e : b = a
  · rw [e, upd_same, upd_same]
  · rw [upd_ne e, upd_ne e, upd_ne e]
theorem sc2_inner {w : World} {K : PySem.W.Frag} {D l1 : Addr} {k1 : Nat} {vs1 : List Nat} {τ : L2.St} {H4 : Hp} {te : TE} {Nx : Hp → Prop} {es L : List Int}
    (hw : ∀ v : V, wipe ((wipe τ vs1).set k1 (some v)) vs1 = wipe τ vs1)
    (hte : ∀ (v : V) H Q, Q v H → te ((wipe τ vs1).set k1 (some v)) H Q)
    (el : H4 l1 = some (.lst (es.map V.int))) (eD : H4 D = some (SetL w D L)) (ne : l1 ≠ D) (nd : L.Nodup) (hL : L.length ≤ 200) (he : es.length ≤ 200)
    (fin : ∀ L', L'.Nodup → (∀ k, k ∈ L' ↔ k ∈ L ∨ k ∈ es) → Nx (upd H4 D (SetL w D L'))) :
    ∃ W1 : Nat → Nat → Hp → Prop, (∃ m, W1 0 m H4) ∧ ∀ j k H, W1 j k H →
          ((Itl K l1).stop j H ∧ Nx H) ∨ ((Itl K l1).go j H ∧ ∃ Nx1 : Hp → Prop, (∀ H', Nx1 H' → ∃ k', k' < k ∧ W1 (j + 1) k' H') ∧ ∀ x H', (Itl K l1).yld j H x H' → gName k1 x (wipe τ vs1) H' fun σ3 H5 => wipe σ3 vs1 = wipe τ vs1 ∧ tYes σ3 H5 fun b H6 =>
            if b = true then te σ3 H6 fun y H7 => ∃ (c : Int) (S : Int → Bool) (n : Nat), y = .int c ∧ H7 D = some (SetO w D S n) ∧ n + 1 < scanBound ∧ Nx1 (upd H7 D (SetO w D (fun j => S j || decide (j = c)) (if S c = true then n else n + 1))) else Nx1 H6) := by
  refine ⟨fun j k H => k = es.length - j ∧ j ≤ es.length ∧ H = upd H4 D (SetL w D (addAll L (es.take j))), ⟨_, rfl, Nat.zero_le _, ?_⟩, ?_⟩
  · show H4 = upd H4 D (SetL w D L)
    exact (upd_id eD).symm
  rintro j k H ⟨rfl, hj, rfl⟩
  have sq : SqL K (upd H4 D (SetL w D (addAll L (es.take j)))) l1 (es.map V.int) := SqL.of (by rw [upd_ne ne]; exact el)
  by_cases hlt : j < es.length
  case neg =>
    have e : j = es.length := by omega
    subst e
    refine .inl ⟨⟨_, sq, by simp⟩, ?_⟩
    refine fin _ (addAll_nodup nd _) fun k => ?_
    rw [mem_addAll, List.take_length]
  refine .inr ⟨⟨_, V.int es[j], sq, by simp [hlt]⟩, fun H => H = upd H4 D (SetL w D (addAll L (es.take (j + 1)))), fun H' e => ⟨es.length - (j + 1), by omega, rfl, hlt, e⟩, fun x H' y => ?_⟩
  obtain ⟨h1, y⟩ := y
  subst h1
  have y := y _ sq
  rw [List.getElem?_map, List.getElem?_eq_getElem hlt] at y
  have ex : x = V.int es[j] := (Option.some.inj y).symm
  subst ex
  refine ⟨hw _, ?_⟩
  simp only [tYes, ↓reduceIte]
  refine hte _ _ _ ⟨es[j], _, _, rfl, upd_same, ?_, ?_⟩
  · have := addAll_len (es.take j) L
    rw [List.length_take] at this
    unfold scanBound
    omega
  · show _ = _
    rw [setL_add, upd_upd, ← addAll_snoc]
    congr 3
    rw [List.take_succ, List.getElem?_eq_getElem hlt]
    rfl
theorem sc2_ints {w : World} {K : PySem.W.Frag} {a D : Addr} {k0 k1 : Nat} {vs vs1 : List Nat} {xs : List V} {σ : L2.St} {H1 : Hp} {wi1 : TI} {te : TE} {Qd : Hp → Prop}
    (hv : ∀ v, wipe ((wipe σ vs).set k0 (some v)) vs = wipe σ vs)
    (Pv : Nat → List Int → Hp → Prop) (h0 : Pv 0 [] (upd H1 D (SetL w D [])))
    (hD : ∀ i L H, Pv i L H → SqL K H a xs)
    (hs : ∀ i x L H, xs[i]? = some x → Pv i L H → wi1 ((wipe σ vs).set k0 (some x)) H fun J1 H4 => ∃ W1 : Nat → Nat → Hp → Prop, (∃ m, W1 0 m H4) ∧ ∀ j k H, W1 j k H →
          (J1.stop j H ∧ ∃ L', Pv (i + 1) L' H) ∨ (J1.go j H ∧ ∃ Nx1 : Hp → Prop, (∀ H', Nx1 H' → ∃ k', k' < k ∧ W1 (j + 1) k' H') ∧ ∀ y H', J1.yld j H y H' → gName k1 y (wipe ((wipe σ vs).set k0 (some x)) vs1) H' fun σ3 H5 => wipe σ3 vs1 = wipe ((wipe σ vs).set k0 (some x)) vs1 ∧ tYes σ3 H5 fun b H6 =>
            if b = true then te σ3 H6 fun y H7 => ∃ (c : Int) (S : Int → Bool) (n : Nat), y = .int c ∧ H7 D = some (SetO w D S n) ∧ n + 1 < scanBound ∧ Nx1 (upd H7 D (SetO w D (fun j => S j || decide (j = c)) (if S c = true then n else n + 1))) else Nx1 H6))
    (hd : ∀ L H, Pv xs.length L H → Qd H) :
    ∃ W : Nat → Nat → Hp → Prop, (∃ m, W 0 m (upd H1 D (SetO w D (fun _ => false) 0))) ∧ ∀ i m H, W i m H →
      ((Itl K a).stop i H ∧ Qd H) ∨ ((Itl K a).go i H ∧ ∃ Nx : Hp → Prop, (∀ H', Nx H' → ∃ m', m' < m ∧ W (i + 1) m' H') ∧ ∀ x H', (Itl K a).yld i H x H' → gName k0 x (wipe σ vs) H' fun σ2 H2 => wipe σ2 vs = wipe σ vs ∧ tYes σ2 H2 fun b H3 =>
        if b = true then wi1 σ2 H3 fun J1 H4 => ∃ W1 : Nat → Nat → Hp → Prop, (∃ m, W1 0 m H4) ∧ ∀ j k H, W1 j k H →
          (J1.stop j H ∧ Nx H) ∨ (J1.go j H ∧ ∃ Nx1 : Hp → Prop, (∀ H', Nx1 H' → ∃ k', k' < k ∧ W1 (j + 1) k' H') ∧ ∀ x H', J1.yld j H x H' → gName k1 x (wipe σ2 vs1) H' fun σ3 H5 => wipe σ3 vs1 = wipe σ2 vs1 ∧ tYes σ3 H5 fun b H6 =>
            if b = true then te σ3 H6 fun y H7 => ∃ (c : Int) (S : Int → Bool) (n : Nat), y = .int c ∧ H7 D = some (SetO w D S n) ∧ n + 1 < scanBound ∧ Nx1 (upd H7 D (SetO w D (fun j => S j || decide (j = c)) (if S c = true then n else n + 1))) else Nx1 H6)
        else Nx H3) := by
  rw [setL_nil]
  refine ⟨fun i m H => m = xs.length - i ∧ i ≤ xs.length ∧ ∃ L, Pv i L H, ⟨xs.length, by simp, Nat.zero_le _, [], h0⟩, ?_⟩
  rintro i m H ⟨rfl, hi, L, p⟩
  have sq := hD i L H p
  by_cases hlt : i < xs.length
  case neg =>
    have e : i = xs.length := by omega
    subst e
    exact .inl ⟨⟨xs, sq, Nat.le_refl _⟩, hd L H p⟩
  refine .inr ⟨⟨xs, xs[i], sq, by simp [hlt]⟩, fun H' => ∃ L', Pv (i + 1) L' H', fun H' ⟨L', p'⟩ => ⟨xs.length - (i + 1), by omega, rfl, hlt, L', p'⟩, fun x H' y => ?_⟩
  obtain ⟨e, y⟩ := y
  subst e
  have ex := y xs sq
  refine ⟨hv x, ?_⟩
  simp only [tYes, ↓reduceIte]
  exact hs i x L H' ex p
end Pa
set_option maxHeartbeats 4000000
namespace Pa
open PySem PySem.Spec PyProof.Rows L2 Ty
def keyE (e : Nat) : Key := Sum.inl (e : Int)
/-- what again_ends has found, and what still waits -/
structure Fnd (t : List Nat) (p : Pat) (b : Nat) (fs ws : List Nat) : Prop where
  nd : fs.Nodup
  ok : ∀ e, e ∈ fs → E t (.mo p) b e
  ws : ∀ e, e ∈ ws → e = b ∨ e ∈ fs
theorem Fnd.few {t : List Nat} {p : Pat} {b : Nat} {fs ws : List Nat} (h : Fnd t p b fs ws) (ht : t.length ≤ 60) : fs.length ≤ 61 := by
  have := nodup_len (l := fs) (m := List.range 61) h.nd fun e he => List.mem_range.mpr (by have := (h.ok e he).2.1; omega)
  rw [List.length_range] at this
  exact this
theorem Fnd.to {t : List Nat} {p : Pat} {b m e : Nat} {fs ws : List Nat} (h : Fnd t p b fs ws) (hm : m = b ∨ m ∈ fs) (g : E t p m e) : E t (.mo p) b e := by
  rcases hm with rfl | hm
  · exact E_mo1 g
  · exact E_mo_end (h.ok m hm) g
theorem nats_map (fs : List Nat) : natsV fs = (fs.map fun e : Nat => (e : Int)).map V.int := by
  unfold natsV
  rw [List.map_map]; rfl
theorem lt_of_le_nd : ∀ {l : List Int}, l.Pairwise (· ≤ ·) → l.Nodup → l.Pairwise (· < ·)
  | [], _, _ => .nil
  | x :: l, h, n => by
    have h1 := List.pairwise_cons.mp h
    have n1 := List.nodup_cons.mp n
    exact List.pairwise_cons.mpr ⟨fun y hy => by
      have := h1.1 y hy
      have : x ≠ y := fun e => n1.1 (e ▸ hy)
      omega, lt_of_le_nd h1.2 n1.2⟩
theorem cast_nodup {fs : List Nat} (h : fs.Nodup) : (fs.map fun e : Nat => (e : Int)).Nodup :=
  List.Pairwise.map _ (fun a b (hab : a ≠ b) => fun e => hab (Int.ofNat_inj.mp e)) h
theorem scAgain : FnScope ["self", "part", "begun", "found", "waiting", "end"] ["self", "part", "begun"] (defScope sAgain) := ⟨rfl, rfl, rfl, by decide +kernel, rfl, by decide +kernel, by decide +kernel⟩
section
variable {P : Program} {w : World} {K : PySem.W.Frag} {mg : Str → Option Value} {base : Heap} {f fE fA fG C : Addr} {fd gd : FuncData}
theorem ok_again {d : Nat} (F : Fun K "again_ends" "Spelling.again_ends" sAgain f fd) (T : Txt K C fE fA fG) (G : FnOk P w K mg base CX0 (3 * d + 1) fE gd ["self", "part", "begun"] (spEndsOf C d id)) (bG : Binds K gd ["self", "part", "begun"] []) (mso : mg "sorted" = none) :
    FnOk P w K mg base CX0 (3 * d + 2) f fd ["self", "part", "begun"] (spEndsOf C d Pat.mo) := by
  refine F.ok scAgain (fun vs H Q E h => ?_) (fun cdv A outer s0 H vs Q E0 hr h => ?_)
  · obtain ⟨_, _, _, _, _, _, _, _, rfl, _⟩ := h
    rfl
  obtain ⟨bad, s, kd, x, rows, i, b, p, rfl, S, hp, hd, hb, q⟩ := h
  have hu := hu_of hr
  have hu64 := hr.units
  refine ⟨_, pss_cons (ps_set (i := 3) scAgain.nd rfl (.inl rfl) pe_dnewK)
    (pss_cons (ps_set (i := 4) scAgain.nd rfl (.inl rfl) (pe_lst (pa_cons (pv 2) pa_nil)))
    (pss_cons (ps_while PassesOwn.never (pt_cmpR (op_neL0 hu64) (pv 4) (pe_lst pa_nil) (nomark _))
      (pss_one (ps_for PassesOwn.never rfl (pi_list (pe_meth (pv 0) T.cl T.mE G hr bG .nil pass0 (pa_cons (pv 1) (pa_cons (pe_bm0 PySem.F.plainAttrs_list PySem.F.slot_list_pop PySem.F.type_list_pop mt_pop (pv 4)) pa_nil)))) (pg_name (i := 5) scAgain.nd rfl (Or.inl rfl))
        (pss_one (ps_if (pt_cmp (pc_dnotin hu (pv 5) (pv 3)))
          (pss_cons (ps_dput hu (pv 3) (pv 5) pe_bl rfl)
          (pss_one (ps_expr (pe_bm PySem.F.plainAttrs_list PySem.F.slot_list_append PySem.F.type_list_append mt_append (pv 4) (pa_cons (pv 5) pa_nil)))))
          pss_nil)))))
    (pss_one (ps_ret (pe_callB (call_sortedDI rfl) rfl mso (by decide +kernel) (pa_cons (pv 3) pa_nil)))))), ?_⟩
  obtain ⟨kvs0, hkd0⟩ := S.kd
  have lx := S.lx
  have lt : x.cps.toList.length = x.length := len_x x
  refine fun fo hfo => ⟨_, rfl, (by show 1 ≤ sizeLine; decide), fun wa hwa => ?_⟩
  have fw : fo ≠ wa := ne_of_none upd_same hwa
  have S1 := (S.more hfo (o := .dK []) (.inr ⟨_, rfl⟩)).more hwa (o := .lst [V.int (b : Nat)]) (.inl ⟨_, rfl⟩)
  have fk : fo ≠ kd := fun e => by rw [e, hkd0] at hfo; cases hfo
  have wk : wa ≠ kd := fun e => by
    have h1 := same_new hfo (.dK []) kd _ hkd0
    rw [← e, hwa] at h1; cases h1
  have hwaH : H wa = none := by rw [upd_ne (Ne.symm fw)] at hwa; exact hwa
  have K1 : Keep kd H (upd (upd H fo (.dK [])) wa (.lst [V.int (b : Nat)])) := Keep.of_same ((same_new hfo _).trans (same_new hwa _))
  have eF1 : (upd (upd H fo (.dK [])) wa (.lst [V.int (b : Nat)])) fo = some (.dK []) := by rw [upd_ne fw]; exact upd_same
  have eW1 : (upd (upd H fo (.dK [])) wa (.lst [V.int (b : Nat)])) wa = some (.lst (natsV [b])) := upd_same
  generalize upd (upd H fo (.dK [])) wa (.lst [V.int (b : Nat)]) = H1 at S1 K1 eF1 eW1
  refine while_inv (fun m σ H' => ∃ kvs fs ws x5, σ = [some (.ref s), some (.int (i : Nat)), some (.int (b : Nat)), some (.ref fo), some (.ref wa), x5] ∧ H' fo = some (.dK kvs) ∧ kvs.map (·.1) = fs.map keyE ∧ H' wa = some (.lst (natsV ws)) ∧ Fnd x.cps.toList p b fs ws ∧
      (∀ m n, (m = b ∨ m ∈ fs) → m ∉ ws → E x.cps.toList p m n → n ∈ fs) ∧ SpS (fun c => (bad c ∨ c = fo) ∨ c = wa) C H' s x rows kd ∧ Keep kd H H' ∧ m = 2 * (62 - fs.length) + ws.length ∧ m ≤ 125)
    ⟨_, [], [], [b], _, rfl, eF1, rfl, eW1, ⟨.nil, (fun _ h => by cases h), fun e h => .inl (List.mem_singleton.mp h)⟩, fun m n h h' => absurd (h.elim (fun e => e ▸ List.mem_singleton_self _) fun h => by cases h) h', S1, K1, rfl, (by show 2 * (62 - 0) + 1 ≤ 125; decide)⟩ (fun m σ H' pv' => ?_)
  obtain ⟨kvs, fs, ws, x5, rfl, eF, ekv, eW, fn, cl, S2, K2, hm, hm5⟩ := pv'
  refine ⟨_, rfl, (by show 0 ≤ sizeLine; decide), fun pn hpn => ⟨wa, pn, _, rfl, rfl, same_new hpn _ _ _ eW, upd_same, ?_⟩⟩
  have s3 := same_new hpn (.lst [])
  have S3 := S2.same s3
  have K3 := K2.trans (Keep.of_same s3)
  replace eF := s3 _ _ eF
  replace eW := s3 _ _ eW
  generalize upd H' pn (.lst []) = H3 at eF eW S3 K3
  clear s3 hpn S2 K2
  cases hws : ws with
  | nil =>
    subst hws
    refine ⟨_, rfl, iteF ?_⟩
    refine ⟨_, rfl, fo, kvs, fs.map fun e : Nat => (e : Int), rfl, .inl eF, by rw [ekv, List.map_map]; rfl, by rw [List.length_map]; have := fn.few (by omega); omega, fun ys pl perm srt hpl => ?_⟩
    have s4 := same_new hpl (.lst (ys.map V.int))
    have hmem : ∀ k, k ∈ ys ↔ ∃ e : Nat, k = (e : Int) ∧ E x.cps.toList (.mo p) b e := fun k => by
      rw [perm.mem_iff, List.mem_map]
      constructor
      · rintro ⟨e, he, rfl⟩
        exact ⟨e, rfl, fn.ok e he⟩
      · rintro ⟨e, rfl, he⟩
        refine ⟨e, ?_, rfl⟩
        exact E_mo_least (S := fun e => e ∈ fs) (fun m h => cl b m (.inl rfl) (by simp) h) (fun m n h g => cl m n (.inr h) (by simp) g) he
    exact q pl ys _ upd_same ⟨lt_of_le_nd srt (perm.nodup_iff.mpr (cast_nodup fn.nd)), hmem⟩ (fun hbad => by
      rcases S3.hb pl (.inl (.inl hbad)) with ⟨xs, e⟩ | ⟨xs, e⟩ <;> (rw [hpl] at e; cases e)) ((S3.same s4).less fun c hc => .inl (.inl hc)) (K3.trans (Keep.of_same s4))
  | cons w0 ws0 =>
    have hne : ws ≠ [] := by rw [hws]; exact List.cons_ne_nil _ _
    rw [← hws]
    obtain ⟨y, hy⟩ : ∃ y, ws.getLast? = some y := by
      rw [List.getLast?_eq_some_getLast hne]; exact ⟨_, rfl⟩
    have hsplit : ws = ws.dropLast ++ [y] := by
      rw [List.getLast?_eq_some_getLast hne] at hy
      rw [← Option.some.inj hy]
      exact (List.dropLast_concat_getLast hne).symm
    have hyi : ws[ws.length - 1]? = some y := by rw [← List.getLast?_eq_getElem?]; exact hy
    have hymem : y ∈ ws := by rw [hsplit]; simp
    have hye := fn.ws y hymem
    have hyb : y ≤ x.length := by
      rcases hye with e | e
      · omega
      · have := (fn.ok y e).2.1; omega
    have hdl : ws.length = ws.dropLast.length + 1 := by
      have := congrArg List.length hsplit
      rw [List.length_append] at this; exact this
    have hnl : (natsV ws).length = ws.length := List.length_map ..
    refine ⟨_, rfl, ?_⟩
    have hne' : (if true = true then !(natsV ws).isEmpty else (natsV ws).isEmpty) = true := by
      rw [hws]; rfl
    rw [hne']
    refine iteT ?_
    obtain ⟨dx, pl, nv, ho, _⟩ := S3.ob
    refine ⟨_, fun _ _ h => h, ?_⟩
    have hdv : (natsV ws).dropLast = natsV ws.dropLast := by unfold natsV; rw [List.map_dropLast]
    refine ⟨_, rfl, s, dx, _, rfl, ho, fl_ends _ _ _, _, rfl, _, rfl, .inl ⟨rfl, _, SqL.of eW⟩, wa, _, V.int (y : Nat), rfl, rfl, eW, (by rw [hnl]; unfold natsV; rw [List.getElem?_map, hyi]; rfl), ?_⟩
    rw [hdv]
    have S4 := S3.write (c := wa) (o := .lst (natsV ws.dropLast)) (.inr rfl) (.inl ⟨_, rfl⟩)
    have K4 : Keep kd H (upd H3 wa (.lst (natsV ws.dropLast))) := K3.upd hwaH
    have eF4 : (upd H3 wa (.lst (natsV ws.dropLast))) fo = some (.dK kvs) := by rw [upd_ne fw]; exact eF
    have eW4 : (upd H3 wa (.lst (natsV ws.dropLast))) wa = some (.lst (natsV ws.dropLast)) := upd_same
    generalize upd H3 wa (.lst (natsV ws.dropLast)) = H4 at S4 K4 eF4 eW4
    refine ⟨_, s, kd, x, rows, i, y, p, rfl, S4, hp, hd, hyb, fun l es H5 hl he nb S5 kp5 => ⟨l, rfl, ⟨_, SqL.of hl⟩, ?_⟩⟩
    have lf : l ≠ fo := fun e => nb (.inl (.inr e))
    have lw : l ≠ wa := fun e => nb (.inr e)
    refine for_list (fun j σ H' => ∃ kvs fs ws' x5, σ = [some (.ref s), some (.int (i : Nat)), some (.int (b : Nat)), some (.ref fo), some (.ref wa), x5] ∧ H' fo = some (.dK kvs) ∧ kvs.map (·.1) = fs.map keyE ∧ H' wa = some (.lst (natsV ws')) ∧ Fnd x.cps.toList p b fs ws' ∧
        (∀ m n, (m = b ∨ m ∈ fs) → m ∉ ws' → m ≠ y → E x.cps.toList p m n → n ∈ fs) ∧ (∀ e : Nat, (e : Int) ∈ es.take j → e ∈ fs) ∧ SpS (fun c => (bad c ∨ c = fo) ∨ c = wa) C H' s x rows kd ∧ Keep kd H H' ∧ H' l = some (.lst (es.map V.int)) ∧ (y = b ∨ y ∈ fs) ∧ 2 * (62 - fs.length) + ws'.length < m)
      ⟨kvs, fs, ws.dropLast, _, rfl, kp5 _ _ fk eF4, ekv, kp5 _ _ wk eW4, ⟨fn.nd, fn.ok, fun e h => fn.ws e (List.dropLast_subset _ h)⟩, fun m n h1 h2 h3 g => cl m n h1 (fun h => by
        rw [hsplit] at h
        rcases List.mem_append.mp h with h | h
        · exact h2 h
        · exact h3 (List.mem_singleton.mp h)) g, (fun e h => by cases h), S5, K4.trans kp5, hl, hye, by omega⟩
      (fun j σ H' _ p => by obtain ⟨_, _, _, _, _, _, _, _, _, _, _, _, _, h, _⟩ := p; exact SqL.of h) (fun j u σ H6 hj p' => ?turn) (fun σ H' p' => ?done)
    case done =>
      obtain ⟨kvs, fs, ws', x5, rfl, eF, ekv, eW, fn, cl, hes, S6, K6, _, hyf, hlt⟩ := p'
      rw [List.length_map, List.take_length] at hes
      refine ⟨_, hlt, kvs, fs, ws', x5, rfl, eF, ekv, eW, fn, fun m n h1 h2 g => ?_, S6, K6, rfl, by omega⟩
      by_cases c : m = y
      · subst c
        exact hes n ((he.2 n).mpr ⟨n, rfl, g⟩)
      · exact cl m n h1 h2 c g
    case turn =>
      obtain ⟨kvs, fs, ws', x5, rfl, eF, ekv, eW, fn, cl, hes, S6, K6, hl6, hyf, hlt⟩ := p'
      rw [List.getElem?_map] at hj
      obtain ⟨k, hk, rfl⟩ : ∃ k, es[j]? = some k ∧ V.int k = u := by
        cases e : es[j]? with
        | none => rw [e] at hj; cases hj
        | some k => rw [e] at hj; exact ⟨k, rfl, Option.some.inj hj⟩
      obtain ⟨e, rfl, hE⟩ := (he.2 k).mp (List.mem_of_getElem? hk)
      have htk : es.take (j + 1) = es.take j ++ [(e : Int)] := by
        rw [List.take_add_one, hk]; rfl
      have hfe : E x.cps.toList (.mo p) b e := fn.to hyf hE
      refine ⟨_, rfl, _, rfl, fo, _, rfl, DGet.k (k := keyE e) eF, _, rfl, ?_⟩
      cases hv : valV kvs (keyE e) with
      | some v =>
        refine iteF ⟨kvs, fs, ws', _, rfl, eF, ekv, eW, fn, cl, fun e' h => ?_, S6, K6, hl6, hyf, hlt⟩
        rw [htk] at h
        rcases List.mem_append.mp h with h | h
        · exact hes e' h
        · have h := List.mem_singleton.mp h
          have := valV_in hv
          rw [ekv] at this
          obtain ⟨e2, h2, q2⟩ := List.mem_map.mp this
          injection q2 with q2
          have : e' = e2 := by omega
          rw [this]; exact h2
      | none =>
        have hnf : e ∉ fs := fun h => valV_not hv (by rw [ekv]; exact List.mem_map.mpr ⟨e, h, rfl⟩)
        have few : fs.length ≤ 61 := fn.few (by omega)
        have lkv : kvs.length = fs.length := by
          have := congrArg List.length ekv
          rw [List.length_map, List.length_map] at this; exact this
        have fn' : Fnd x.cps.toList p b (fs ++ [e]) (ws' ++ [e]) := ⟨List.nodup_append.mpr ⟨fn.nd, by simp, fun a ha c hc e' => hnf (by rw [← List.mem_singleton.mp hc, ← e']; exact ha)⟩, fun a h => by
            rcases List.mem_append.mp h with h | h
            · exact fn.ok a h
            · rw [List.mem_singleton.mp h]; exact hfe, fun a h => by
            rcases List.mem_append.mp h with h | h
            · exact (fn.ws a h).imp id fun h => List.mem_append_left _ h
            · exact .inr (List.mem_append_right _ h)⟩
        have few' : (fs ++ [e]).length ≤ 61 := fn'.few (by omega)
        have lw' : ws'.length ≤ 1000 := by omega
        refine iteT ⟨_, rfl, _, rfl, fo, _, rfl, DPut.k (k := keyE e) eF (by rw [sizeLine_eq]; omega), _, rfl, .inl ⟨rfl, _, SqL.of (by rw [upd_ne (Ne.symm fw)]; exact eW)⟩, _, rfl, wa, _, _, rfl, rfl, (by rw [upd_ne (Ne.symm fw)]; exact eW), (by unfold natsV; rw [List.length_map, sizeLine_eq]; omega), ?_⟩
        rw [putK_new _ hv]
        have eq : natsV ws' ++ [V.int (e : Nat)] = natsV (ws' ++ [e]) := by unfold natsV; rw [List.map_append]; rfl
        refine ⟨kvs ++ [(keyE e, .bl true)], fs ++ [e], ws' ++ [e], _, rfl, by rw [upd_ne fw]; exact upd_same, by rw [List.map_append, List.map_append, ekv]; rfl, by rw [upd_same, ← eq], fn', fun m n h1 h2 h3 g => ?_, fun e' h => ?_, ?_, (K6.upd hfo).upd hwaH, by rw [upd_ne lw, upd_ne lf]; exact hl6, hyf.imp id fun h => List.mem_append_left _ h, ?_⟩
        · have h2' : m ∉ ws' := fun h => h2 (List.mem_append_left _ h)
          have h1' : m = b ∨ m ∈ fs := h1.imp id fun h => by
            rcases List.mem_append.mp h with h | h
            · exact h
            · exact absurd (List.mem_append_right _ h) h2
          exact List.mem_append_left _ (cl m n h1' h2' h3 g)
        · rw [htk] at h
          rcases List.mem_append.mp h with h | h
          · exact List.mem_append_left _ (hes e' h)
          · have h := List.mem_singleton.mp h
            have : e' = e := by omega
            rw [this]; simp
        · exact (S6.write (c := fo) (.inl (.inr rfl)) (.inr ⟨_, rfl⟩)).write (c := wa) (.inr rfl) (.inl ⟨_, rfl⟩)
        · have l1 : (fs ++ [e]).length = fs.length + 1 := List.length_append
          have l2 : (ws' ++ [e]).length = ws'.length + 1 := List.length_append
          rw [l1] at few' ⊢
          rw [l2]
          omega
end
end Pa
set_option maxHeartbeats 4000000
namespace Pa
open PySem PySem.Spec PyProof.Rows L2 Ty Se
theorem scAnew : FnScope ["self", "part", "begun", "word", "signs", "inner", "middles", "found", "middle", "end", "one"] ["self", "part", "begun"] (defScope sAnew) := ⟨rfl, rfl, rfl, by decide +kernel, rfl, by decide +kernel, by decide +kernel⟩
theorem at_one {α : Type} {x y : α} {xs : List α} : atI (x :: y :: xs) 1 = some y := atI_nat (j := 1) rfl
theorem itW {A B : Prop} {u v : Str} (h : decide (u = v) = false) (hB : B) : if decide (V.str u = V.str v) = true then A else B := by
  rw [dec_str, h]; exact iteF hB
theorem itE {A B : Prop} {u v : Str} (h : decide (u = v) = true) (hA : A) : if decide (V.str u = V.str v) = true then A else B := by
  rw [dec_str, h]; exact iteT hA
/-- a thing of another kind is written -/
theorem SpS.ext {bad : Addr → Prop} {C s kd D : Addr} {H : Hp} {x : Str} {rows : List Pat} {w : World} {F1 : Int → Bool} {n1 : Nat} {o : HO} (S : SpS bad C H s x rows kd) (hD : H D = some (SetO w D F1 n1)) : SpS bad C (upd H D o) s x rows kd := by
  have ne : ∀ {c : Addr} {u : HO}, H c = some u → (∀ g, u ≠ .ext g) → c ≠ D := fun {c u} e h q => by
    rw [q, hD] at e
    exact h _ (Option.some.inj e).symm
  have L : ∀ {c xs}, H c = some (.lst xs) → (upd H D o) c = some (.lst xs) := fun {c xs} e => by rw [upd_ne (ne e fun _ z => by cases z)]; exact e
  obtain ⟨dx, pl, nv, h1, h2, h3, h4⟩ := S.ob
  refine ⟨⟨dx, pl, nv, by rw [upd_ne (ne h1 fun _ z => by cases z)]; exact h1, L h2, h3, paired_imp (fun v p n => n.at (fun c xs e => by rw [upd_ne (ne e fun _ z => by cases z)]; exact e) (fun c xs _ e => L e) fun _ _ h => h) h4⟩, ?_, fun c hc => ?_, S.lr, S.lx⟩
  · obtain ⟨kvs, cs, h1, h2, h3, h4, h5⟩ := S.memo
    refine ⟨kvs, cs, by rw [upd_ne (ne h1 fun _ z => by cases z)]; exact h1, h2, h3, h4, fun i b v hv => ?_⟩
    obtain ⟨p, l, es, g1, g2, g3, g4, g5⟩ := h5 i b v hv
    exact ⟨p, l, es, g1, g2, L g3, g4, g5⟩
  · rcases S.hb c hc with ⟨xs, e⟩ | ⟨xs, e⟩
    · exact .inl ⟨xs, L e⟩
    · exact .inr ⟨xs, by rw [upd_ne (ne e fun _ z => by cases z)]; exact e⟩
section
variable {P : Program} {w : World} {K : PySem.W.Frag} {mg : Str → Option Value} {base : Heap} {f fE fA fG C : Addr} {fd gd ge : FuncData}
theorem ok_anew {d : Nat} (F : Fun K "ends_anew" "Spelling.ends_anew" sAnew f fd) (T : Txt K C fE fA fG) (G : FnOk P w K mg base CX0 (3 * d + 1) fE gd ["self", "part", "begun"] (spEndsOf C d id)) (bG : Binds K gd ["self", "part", "begun"] [])
    (GA : FnOk P w K mg base CX0 (3 * d + 2) fG ge ["self", "part", "begun"] (spEndsOf C d Pat.mo)) (bA : Binds K ge ["self", "part", "begun"] []) (ml : mg "len" = none) (mso : mg "sorted" = none) (mse : mg "set" = none) :
    FnOk P w K mg base CX0 (3 * d + 3) f fd ["self", "part", "begun"] (spEndsOf C (d + 1) id) := by
  refine F.ok scAnew (fun vs H Q E h => ?_) (fun cdv A outer s0 H vs Q E0 hr h => ?_)
  · obtain ⟨_, _, _, _, _, _, _, _, rfl, _⟩ := h
    rfl
  obtain ⟨bad, s, kd, x, rows, i, b, p, rfl, S, hp, hd, hb, q⟩ := h
  have hu := hu_of hr
  have hu64 := hr.units
  have G' := G.mono (show 3 * d + 1 ≤ 3 * d + 2 by omega)
  refine ⟨_, pss_cons (ps_asg (pe_ix ix_list (pe_fld (pv 0) rfl) (pv 1) (fun _ _ => rfl)) (pg_tup rfl (pgs_cons (pg_name (i := 3) scAnew.nd rfl (.inl rfl)) (pgs_cons (pg_name (i := 4) scAnew.nd rfl (.inl rfl)) (pgs_cons (pg_name (i := 5) scAnew.nd rfl (.inr rfl)) pgs_nil)))))
    (pss_cons (ps_if (pt_cmpR op_eq (pv 3) pe_str (nomark _)) (pss_one (ps_ret (pe_ifExp (PW.pt (pw_and (pt_cmpR op_lt (pv 2) (pe_callB call_len_str rfl ml PySem.boot_len (pa_cons (pe_fld (pv 0) rfl) pa_nil)) (nomark _)) (pw_and1 (pt_cmpR op_in_sign (pe_ix ix_str (pe_fld (pv 0) rfl) (pv 2) (fun _ _ => rfl)) (pv 4) rfl)))) (pe_lst (pa_cons (pe_op op_add (pv 2) pe_int) pa_nil)) (pe_lst pa_nil)))) pss_nil)
    (pss_cons (ps_if (pt_cmpR op_eq (pv 3) pe_str (nomark _)) (pss_one (ps_ret (pe_lst (pa_cons (pv 2) pa_nil)))) pss_nil)
    (pss_cons (ps_if (pt_cmpR op_eq (pv 3) pe_str (nomark _))
      (pss_cons (ps_set (i := 6) scAnew.nd rfl (.inl rfl) (pe_meth (pv 0) T.cl T.mE G' hr bG .nil pass0 (pa_cons (pe_ix ix_list (pv 5) pe_int (fun _ _ => rfl)) (pa_cons (pv 2) pa_nil))))
      (pss_one (ps_ret (pe_callB (cr_sortedSet rfl) rfl mso (by decide +kernel) (pa_cons (pe_sc2 (own := [("middle", 8), ("end", 9)]) (vs1 := [9]) (g := gName 8) (tt := tYes) (g1 := gName 9) (tt1 := tYes) rfl scAnew.nd (pi_list (pv 6)) (blkOk_by (N := ["self", "part", "begun", "word", "signs", "inner", "middles", "found", "middle", "end", "one"]) (sc := defScope sAnew) (by decide +kernel)) (by decide) (fun _ _ _ _ _ => pg_name (i := 8) scAnew.nd rfl (Or.inl rfl)) (fun _ _ _ _ _ => pts_nil)
        (fun _ _ _ _ _ => (show PI _ _ _ (iList K _) from pi_list (pe_meth (pv 0) T.cl T.mE G' hr bG .nil pass0 (pa_cons (pe_ix (show IxR _ (rIxL K) from ix_list) (pv 5) pe_int (fun _ _ => rfl)) (pa_cons (pv 8) pa_nil))))) (fun _ _ _ _ _ => pg_name (i := 9) scAnew.nd rfl (Or.inl rfl)) (fun _ _ _ _ _ => pts_nil) (fun _ _ _ _ _ => pv 9)) pa_nil))))) pss_nil)
    (pss_cons (ps_if (pt_cmpR op_eq (pv 3) pe_str (nomark _))
      (pss_one (ps_ret (pe_callB (cr_sortedSet rfl) rfl mso (by decide +kernel) (pa_cons (pe_sc2 (own := [("one", 10), ("end", 9)]) (vs1 := [9]) (g := gName 10) (tt := tYes) (g1 := gName 9) (tt1 := tYes) rfl scAnew.nd (pi_list (pv 5)) (blkOk_by (N := ["self", "part", "begun", "word", "signs", "inner", "middles", "found", "middle", "end", "one"]) (sc := defScope sAnew) (by decide +kernel)) (by decide) (fun _ _ _ _ _ => pg_name (i := 10) scAnew.nd rfl (Or.inl rfl)) (fun _ _ _ _ _ => pts_nil)
        (fun _ _ _ _ _ => (show PI _ _ _ (iList K _) from pi_list (pe_meth (pv 0) T.cl T.mE G' hr bG .nil pass0 (pa_cons (pv 10) (pa_cons (pv 2) pa_nil))))) (fun _ _ _ _ _ => pg_name (i := 9) scAnew.nd rfl (Or.inl rfl)) (fun _ _ _ _ _ => pts_nil) (fun _ _ _ _ _ => pv 9)) pa_nil)))) pss_nil)
    (pss_cons (ps_if (pt_cmpR op_eq (pv 3) pe_str (nomark _))
      (pss_one (ps_ret (pe_callB (cr_sortedSet rfl) rfl mso (by decide +kernel) (pa_cons (pe_callTy (cr_setI rfl) rfl mse (by decide +kernel) (pa_cons (pe_op op_cat (pe_lst (pa_cons (pv 2) pa_nil)) (pe_meth (pv 0) T.cl T.mE G' hr bG .nil pass0 (pa_cons (pe_ix ix_list (pv 5) pe_int (fun _ _ => rfl)) (pa_cons (pv 2) pa_nil)))) pa_nil)) pa_nil)))) pss_nil)
    (pss_cons (ps_set (i := 7) scAnew.nd rfl (.inl rfl) (pe_meth (pv 0) T.cl T.mG GA hr bA .nil pass0 (pa_cons (pe_ix ix_list (pv 5) pe_int (fun _ _ => rfl)) (pa_cons (pv 2) pa_nil))))
    (pss_one (ps_ret (pe_ifExp (pt_cmpR op_eq (pv 3) pe_str (nomark _)) (pv 7) (pe_callB (cr_sortedSet rfl) rfl mso (by decide +kernel) (pa_cons (pe_callTy (cr_setI rfl) rfl mse (by decide +kernel) (pa_cons (pe_op op_cat (pe_lst (pa_cons (pv 2) pa_nil)) (pv 7)) pa_nil)) pa_nil))))))))))), ?_⟩
  obtain ⟨dx, pl, nv, ho, hpl, hnb, hnd⟩ := S.ob
  obtain ⟨v, hnv, a, ib, kids, rfl, ha, hib, fwd, nib⟩ := paired_rev hnd i p hp
  have lx := S.lx
  have lt : x.cps.toList.length = x.length := len_x x
  have nb_new : ∀ {H' : Hp} {l : Addr}, SpS bad C H' s x rows kd → H' l = none → ¬ bad l := fun S' hl hbad => by
    rcases S'.hb _ hbad with ⟨xs, e⟩ | ⟨xs, e⟩ <;> (rw [hl] at e; cases e)
  have few : ∀ {es : List Int}, es.Nodup → (∀ k, k ∈ es → ∃ e : Nat, k = (e : Int) ∧ E x.cps.toList p b e) → es.length ≤ 61 := fun nd h => few_ints (n := 60) nd fun k hk => by
    obtain ⟨e, h1, h2⟩ := h k hk
    exact ⟨e, h1, by have := h2.2.1; omega⟩
  have fin : ∀ (es : List Int) (H' : Hp), SpS bad C H' s x rows kd → Keep kd H H' → es.Pairwise (· < ·) → (∀ k, k ∈ es ↔ ∃ e : Nat, k = (e : Int) ∧ E x.cps.toList p b e) → ∀ l, H' l = none → Q (.ref l) (upd H' l (.lst (es.map V.int))) := fun es H' S' K' h1 h2 l hl =>
    q l es _ upd_same ⟨h1, h2⟩ (nb_new S' hl) (S'.same (same_new hl _)) (K'.trans (Keep.of_same (same_new hl _)))
  have tail : ∀ (H2 : Hp) (es1 : List Int), SpS bad C H2 s x rows kd → Keep kd H H2 → (∀ k, k ∈ (b : Int) :: es1 ↔ ∃ e : Nat, k = (e : Int) ∧ E x.cps.toList p b e) → es1.length ≤ 61 → ∀ pp, H2 pp = none →
      rSetI K w [.ref pp] (upd H2 pp (.lst ([V.int (b : Nat)] ++ es1.map V.int))) fun y H3 => rSortedSet w [y] H3 Q := fun H2 es1 S2 K2 hm hl pp hpp => by
    refine ⟨pp, (b : Int) :: es1, rfl, SqL.of upd_same, (by rw [List.length_cons]; unfold scanBound; omega), fun p2 hp2 => ?_⟩
    have s1 := same_new hpp (.lst ([V.int (b : Nat)] ++ es1.map V.int))
    have s2 := same_new hp2 (SetO w p2 (fun k => decide (k ∈ Ty.gather [] ((b : Int) :: es1))) (Ty.gather [] ((b : Int) :: es1)).length)
    have S3 := (S2.same s1).same s2
    have K3 := (K2.trans (Keep.of_same s1)).trans (Keep.of_same s2)
    refine ⟨p2, _, _, rfl, upd_same, ?_, fun ns p3 srt mem ln hp3 => fin ns _ S3 K3 srt (fun k => ?_) p3 hp3⟩
    · have := Ty.gather_len ((b : Int) :: es1) []
      rw [List.length_cons, List.length_nil] at this
      omega
    · rw [mem, decide_eq_true_eq, Ty.mem_gather, ← hm]
      simp
  refine ⟨_, rfl, s, C, dx, _, _, rfl, ho, T.cl, T.nP, fl_parts _ _ _, _, rfl, pl, nv, _, _, rfl, rfl, SqL.of hpl, atI_nat hnv, a, _, rfl, SqT.of ha, rfl, ?_⟩
  refine ⟨_, _, rfl, _, _, rfl, _, _, rfl, rfl, ?_⟩
  refine ⟨_, rfl, rfl, _, rfl, ?_⟩
  cases p with
  | sg z =>
    refine itE (by show decide (("signs" : Str) = "signs") = true; decide +kernel) ?_
    refine ⟨_, rfl, _, rfl, s, C, dx, _, _, rfl, ho, T.cl, T.nT, fl_text _ _ _, _, rfl, (by rw [sizeLine_eq]; omega), _, _, rfl, rfl, _, rfl, ?_⟩
    have none' : (∀ c, x.cps.toList[b]? = some c → c ∉ z.cps.toList) → ∀ l, H l = none → Q (.ref l) (upd H l (.lst [])) := fun h l hl => fin [] H S (Keep.of_same same_refl) .nil (fun k => ⟨(fun h => by cases h), (fun ⟨e, _, he⟩ => absurd (E_sg.mp he) (fun ⟨c, h1, h2, _⟩ => h c h1 h2))⟩) l hl
    by_cases c : b < x.length
    case neg =>
      rw [show decide (((b : Nat) : Int) < ((x.length : Nat) : Int)) = false from decide_eq_false (by omega)]
      refine iteF ?_
      refine iteF ⟨(by show 0 ≤ sizeLine; decide), fun l hl => none' (fun c' h => ?_) l hl⟩
      have := (List.getElem?_eq_some_iff.mp h).1
      omega
    rw [show decide (((b : Nat) : Int) < ((x.length : Nat) : Int)) = true from decide_eq_true (by omega)]
    refine iteT ?_
    have hat : x.cps.toList[b]? = some (x.cps.toList[b]'(by omega)) := List.getElem?_eq_getElem (by omega)
    refine ⟨_, rfl, s, C, dx, _, _, rfl, ho, T.cl, T.nT, fl_text _ _ _, _, rfl, x, _, _, rfl, rfl, (by rw [sizeLine_eq]; omega), atI_nat hat, _, rfl, _, _, rfl, rfl, _, rfl, ?_⟩
    generalize x.cps.toList[b]'(by omega) = cc at hat
    by_cases c' : cc ∈ z.cps.toList
    · rw [show decide (cc ∈ (signsP (Pat.sg z)).cps.toList) = true from decide_eq_true c']
      refine iteT ?_
      refine ⟨_, rfl, _, _, rfl, rfl, (by show 1 ≤ sizeLine; decide), fun l hl => fin [(b : Int) + 1] H S (Keep.of_same same_refl) (List.pairwise_singleton _ _) (fun k => ?_) l hl⟩
      rw [List.mem_singleton]
      constructor
      · rintro rfl
        exact ⟨b + 1, by omega, E_sg.mpr ⟨cc, hat, c', rfl⟩⟩
      · rintro ⟨e, rfl, he⟩
        obtain ⟨_, _, _, h⟩ := E_sg.mp he
        omega
    · rw [show decide (cc ∈ (signsP (Pat.sg z)).cps.toList) = false from decide_eq_false c']
      refine iteF ⟨(by show 0 ≤ sizeLine; decide), fun l hl => none' (fun c2 h => ?_) l hl⟩
      rw [hat] at h
      rw [← Option.some.inj h]; exact c'
  | em =>
    refine itW (by show decide (("empty" : Str) = "signs") = false; decide +kernel) ?_
    refine ⟨_, rfl, rfl, _, rfl, itE (by show decide (("empty" : Str) = "empty") = true; decide +kernel) ?_⟩
    refine ⟨_, rfl, (by show 1 ≤ sizeLine; decide), fun l hl => fin [(b : Int)] H S (Keep.of_same same_refl) (List.pairwise_singleton _ _) (fun k => ?_) l hl⟩
    rw [List.mem_singleton]
    constructor
    · rintro rfl
      exact ⟨b, rfl, E_em.mpr ⟨rfl, by omega⟩⟩
    · rintro ⟨e, rfl, he⟩
      rw [(E_em.mp he).1]
  | th p1 p2 =>
    have hd1 : deepP p1 ≤ d := by unfold deepP at hd; omega
    have hd2 : deepP p2 ≤ d := by unfold deepP at hd; omega
    refine itW (by show decide (("then" : Str) = "signs") = false; decide +kernel) ?_
    refine ⟨_, rfl, rfl, _, rfl, itW (by show decide (("then" : Str) = "empty") = false; decide +kernel) ?_⟩
    refine ⟨_, rfl, rfl, _, rfl, itE (by show decide (("then" : Str) = "then") = true; decide +kernel) ?_⟩
    obtain ⟨k1, k2, hk1, hk2, rfl⟩ : ∃ k1 k2, rows[k1]? = some p1 ∧ rows[k2]? = some p2 ∧ kids = [k1, k2] := by
      cases fwd with
      | cons h t =>
        cases t with
        | cons h' t => cases t; exact ⟨_, _, h, h', rfl⟩
    obtain ⟨kvs0, hkd⟩ := S.kd
    refine ⟨_, rfl, s, dx, _, rfl, ho, fl_ends _ _ _, _, rfl, ib, _, _, _, rfl, rfl, SqL.of hib, at_zero, _, rfl, bad, s, kd, x, rows, k1, b, p1, rfl, S, hk1, hd1, hb, fun l1 es1 H1 hl1 he1 nl1 S1 K1 => ?_⟩
    refine ⟨_, rfl, l1, rfl, ⟨_, SqL.of hl1⟩, fun D hD => ?_⟩
    obtain ⟨kvs1, hkd1⟩ := S1.kd
    have Dk : D ≠ kd := fun e => by rw [e, hkd1] at hD; cases hD
    have hDH : H D = none := new_back K1 Dk hD
    have lk : ∀ {H' : Hp} {c : Addr} {xs : List V}, SpS bad C H' s x rows kd → H' c = some (.lst xs) → c ≠ kd := fun S' e q => by
      obtain ⟨_, h⟩ := S'.kd
      rw [q, h] at e; cases e
    have ldD : ∀ {H' : Hp} {c : Addr} {xs : List V} {LL : List Int}, H' c = some (.lst xs) → H' D = some (SetL w D LL) → c ≠ D := fun e e' q => by
      rw [q, e'] at e; cases e
    have sD := same_new hD (SetL w D [])
    refine sc2_ints (w := w) (K := K) (xs := es1.map V.int) (fun _ => rfl) (fun i L H' => L.Nodup ∧ H' D = some (SetL w D L) ∧ H' l1 = some (.lst (es1.map V.int)) ∧ H' ib = some (.lst (natsV [k1, k2])) ∧ SpS bad C H' s x rows kd ∧ Keep kd H H' ∧ ∀ k : Int, k ∈ L ↔ ∃ m : Nat, (m : Int) ∈ es1.take i ∧ ∃ e : Nat, k = (e : Int) ∧ E x.cps.toList p2 m e)
      ⟨.nil, upd_same, sD _ _ hl1, sD _ _ (K1 _ _ (lk S hib) hib), S1.same sD, K1.trans (Keep.of_same sD), fun k => ⟨(fun h => by cases h), (fun ⟨m, h, _⟩ => by cases h)⟩⟩ (fun i L H' h => SqL.of h.2.2.1) (fun i xv L H' hxi pv' => ?turn) (fun L H' pv' => ?done)
    case done =>
      obtain ⟨nd, eD, el, ei, S2, K2, mem⟩ := pv'
      have mem' : ∀ k, k ∈ L ↔ ∃ e : Nat, k = (e : Int) ∧ E x.cps.toList (.th p1 p2) b e := fun k => by
        rw [mem, List.length_map, List.take_length]
        constructor
        · rintro ⟨m, hm, e, rfl, he⟩
          obtain ⟨m', hm', hE⟩ := (he1.2 _).mp hm
          have : m = m' := by omega
          subst this
          exact ⟨e, rfl, E_th.mpr ⟨m, hE, he⟩⟩
        · rintro ⟨e, rfl, he⟩
          obtain ⟨m, h1, h2⟩ := E_th.mp he
          exact ⟨m, (he1.2 _).mpr ⟨m, rfl, h1⟩, e, rfl, h2⟩
      exact ⟨D, _, _, rfl, eD, Nat.lt_of_le_of_lt (few nd fun k hk => (mem' k).mp hk) (by decide), fun ns p3 srt mm ln hp3 => fin ns _ S2 K2 srt (fun k => by rw [mm, decide_eq_true_eq, mem']) p3 hp3⟩
    case turn =>
      obtain ⟨nd, eD, el, ei, S2, K2, mem⟩ := pv'
      rw [List.getElem?_map] at hxi
      obtain ⟨k, hk, rfl⟩ : ∃ k, es1[i]? = some k ∧ V.int k = xv := by
        cases e : es1[i]? with
        | none => rw [e] at hxi; cases hxi
        | some k => rw [e] at hxi; exact ⟨k, rfl, Option.some.inj hxi⟩
      obtain ⟨m, rfl, hE⟩ := (he1.2 k).mp (List.mem_of_getElem? hk)
      obtain ⟨dx2, pl2, nv2, ho2, _⟩ := S2.ob
      have hm := hE.2.1
      refine ⟨_, rfl, s, dx2, _, rfl, ho2, fl_ends _ _ _, _, rfl, ib, _, _, _, rfl, rfl, SqL.of ei, at_one, _, rfl, bad, s, kd, x, rows, k2, m, p2, rfl, S2, hk2, hd2, by omega, fun l3 es3 H3 hl3 he3 nl3 S3 K3 => ⟨l3, rfl, ⟨_, SqL.of hl3⟩, ?_⟩⟩
      have eD3 : H3 D = some (SetL w D L) := K3 _ _ Dk eD
      have lL : L.length ≤ 61 := few nd fun k hk => by
        obtain ⟨m', hm', e, rfl, he⟩ := (mem k).mp hk
        obtain ⟨m2, q2, hE2⟩ := (he1.2 _).mp (List.mem_of_mem_take hm')
        have : m' = m2 := by omega
        subst this
        exact ⟨e, rfl, E_th.mpr ⟨m', hE2, he⟩⟩
      have l3n : es3.length ≤ 61 := by have := he3.few; omega
      refine sc2_inner (fun _ => rfl) (fun v H Q h => ⟨_, rfl, h⟩) hl3 eD3 (ldD hl3 eD3) nd (by omega) (by omega) fun L' nd' mem2 => ⟨L', nd', upd_same, ?_, ?_, S3.ext eD3, (K2.trans K3).upd hDH, fun k => ?_⟩
      · have := K3 _ _ (lk S2 el) el
        rw [upd_ne (ldD this eD3)]; exact this
      · have := K3 _ _ (lk S2 ei) ei
        rw [upd_ne (ldD this eD3)]; exact this
      · have htk : es1.take (i + 1) = es1.take i ++ [(m : Int)] := by
          rw [List.take_add_one, hk]; rfl
        rw [mem2, mem, htk]
        constructor
        · rintro (⟨m', h1, h2⟩ | h)
          · exact ⟨m', List.mem_append_left _ h1, h2⟩
          · exact ⟨m, List.mem_append_right _ (List.mem_singleton_self _), (he3.2 k).mp h⟩
        · rintro ⟨m', h1, h2⟩
          rcases List.mem_append.mp h1 with h1 | h1
          · exact .inl ⟨m', h1, h2⟩
          · have h1 := List.mem_singleton.mp h1
            have : m' = m := by omega
            subst this
            exact .inr ((he3.2 k).mpr h2)
  | oo p1 p2 =>
    have hd1 : deepP p1 ≤ d := by unfold deepP at hd; omega
    have hd2 : deepP p2 ≤ d := by unfold deepP at hd; omega
    refine itW (by show decide (("or" : Str) = "signs") = false; decide +kernel) ?_
    refine ⟨_, rfl, rfl, _, rfl, itW (by show decide (("or" : Str) = "empty") = false; decide +kernel) ?_⟩
    refine ⟨_, rfl, rfl, _, rfl, itW (by show decide (("or" : Str) = "then") = false; decide +kernel) ?_⟩
    refine ⟨_, rfl, rfl, _, rfl, itE (by show decide (("or" : Str) = "or") = true; decide +kernel) ?_⟩
    obtain ⟨k1, k2, hk1, hk2, rfl⟩ : ∃ k1 k2, rows[k1]? = some p1 ∧ rows[k2]? = some p2 ∧ kids = [k1, k2] := by
      cases fwd with
      | cons h t =>
        cases t with
        | cons h' t => cases t; exact ⟨_, _, h, h', rfl⟩
    obtain ⟨kvs0, hkd⟩ := S.kd
    refine ⟨_, rfl, ib, rfl, ⟨_, SqL.of hib⟩, fun D hD => ?_⟩
    have Dk : D ≠ kd := fun e => by rw [e, hkd] at hD; cases hD
    have lk : ∀ {H' : Hp} {c : Addr} {xs : List V}, SpS bad C H' s x rows kd → H' c = some (.lst xs) → c ≠ kd := fun S' e q => by
      obtain ⟨_, h⟩ := S'.kd
      rw [q, h] at e; cases e
    have ldD : ∀ {H' : Hp} {c : Addr} {xs : List V} {LL : List Int}, H' c = some (.lst xs) → H' D = some (SetL w D LL) → c ≠ D := fun e e' q => by
      rw [q, e'] at e; cases e
    have sD := same_new hD (SetL w D [])
    refine sc2_ints (w := w) (K := K) (xs := natsV [k1, k2]) (fun _ => rfl) (fun i L H' => L.Nodup ∧ H' D = some (SetL w D L) ∧ H' ib = some (.lst (natsV [k1, k2])) ∧ SpS bad C H' s x rows kd ∧ Keep kd H H' ∧ ∀ k : Int, k ∈ L ↔ ∃ r : Pat, r ∈ [p1, p2].take i ∧ ∃ e : Nat, k = (e : Int) ∧ E x.cps.toList r b e)
      ⟨.nil, upd_same, sD _ _ hib, S.same sD, Keep.of_same sD, fun k => ⟨(fun h => by cases h), (fun ⟨m, h, _⟩ => by cases h)⟩⟩ (fun i L H' h => SqL.of h.2.2.1) (fun i xv L H' hxi pv' => ?turn) (fun L H' pv' => ?done)
    case done =>
      obtain ⟨nd, eD, ei, S2, K2, mem⟩ := pv'
      have mem' : ∀ k, k ∈ L ↔ ∃ e : Nat, k = (e : Int) ∧ E x.cps.toList (.oo p1 p2) b e := fun k => by
        rw [mem]
        constructor
        · rintro ⟨r, hr, e, rfl, he⟩
          refine ⟨e, rfl, E_oo.mpr ?_⟩
          have hr : r ∈ [p1, p2] := hr
          rcases List.mem_cons.mp hr with rfl | hr
          · exact .inl he
          · rw [List.mem_singleton.mp hr] at he
            exact .inr he
        · rintro ⟨e, rfl, he⟩
          rcases E_oo.mp he with he | he
          · exact ⟨p1, by show p1 ∈ [p1, p2]; simp, e, rfl, he⟩
          · exact ⟨p2, by show p2 ∈ [p1, p2]; simp, e, rfl, he⟩
      exact ⟨D, _, _, rfl, eD, Nat.lt_of_le_of_lt (few nd fun k hk => (mem' k).mp hk) (by decide), fun ns p3 srt mm ln hp3 => fin ns _ S2 K2 srt (fun k => by rw [mm, decide_eq_true_eq, mem']) p3 hp3⟩
    case turn =>
      obtain ⟨nd, eD, ei, S2, K2, mem⟩ := pv'
      obtain ⟨kk, r, rfl, hkk, hdr, hri⟩ : ∃ (kk : Nat) (r : Pat), V.int (kk : Nat) = xv ∧ rows[kk]? = some r ∧ deepP r ≤ d ∧ [p1, p2][i]? = some r := by
        match i, hxi with
        | 0, h => exact ⟨k1, p1, Option.some.inj h, hk1, hd1, rfl⟩
        | 1, h => exact ⟨k2, p2, Option.some.inj h, hk2, hd2, rfl⟩
        | _ + 2, h => cases h
      have hrm : r ∈ [p1, p2] := List.mem_of_getElem? hri
      have up : ∀ r', r' ∈ [p1, p2] → ∀ e, E x.cps.toList r' b e → E x.cps.toList (.oo p1 p2) b e := fun r' hr' e he => E_oo.mpr (by
        rcases List.mem_cons.mp hr' with rfl | hr'
        · exact .inl he
        · rw [List.mem_singleton.mp hr'] at he
          exact .inr he)
      obtain ⟨dx2, pl2, nv2, ho2, _⟩ := S2.ob
      refine ⟨_, rfl, s, dx2, _, rfl, ho2, fl_ends _ _ _, _, rfl, _, rfl, bad, s, kd, x, rows, kk, b, r, rfl, S2, hkk, hdr, hb, fun l3 es3 H3 hl3 he3 nl3 S3 K3 => ⟨l3, rfl, ⟨_, SqL.of hl3⟩, ?_⟩⟩
      have eD3 : H3 D = some (SetL w D L) := K3 _ _ Dk eD
      have lL : L.length ≤ 61 := few nd fun k hk => by
        obtain ⟨r', hr', e, rfl, he⟩ := (mem k).mp hk
        exact ⟨e, rfl, up r' (List.mem_of_mem_take hr') e he⟩
      have l3n : es3.length ≤ 61 := by have := he3.few; omega
      refine sc2_inner (fun _ => rfl) (fun v H Q h => ⟨_, rfl, h⟩) hl3 eD3 (ldD hl3 eD3) nd (by omega) (by omega) fun L' nd' mem2 => ⟨L', nd', upd_same, ?_, S3.ext eD3, (K2.trans K3).upd hD, fun k => ?_⟩
      · have := K3 _ _ (lk S2 ei) ei
        rw [upd_ne (ldD this eD3)]; exact this
      · have htk : [p1, p2].take (i + 1) = [p1, p2].take i ++ [r] := by
          rw [List.take_add_one, hri]; rfl
        rw [mem2, mem, htk]
        constructor
        · rintro (⟨m', h1, h2⟩ | h)
          · exact ⟨m', List.mem_append_left _ h1, h2⟩
          · exact ⟨r, List.mem_append_right _ (List.mem_singleton_self _), (he3.2 k).mp h⟩
        · rintro ⟨m', h1, h2⟩
          rcases List.mem_append.mp h1 with h1 | h1
          · exact .inl ⟨m', h1, h2⟩
          · rw [List.mem_singleton.mp h1] at h2
            exact .inr ((he3.2 k).mpr h2)
  | mb p1 =>
    have hd1 : deepP p1 ≤ d := by unfold deepP at hd; omega
    obtain ⟨k1, hk1, rfl⟩ : ∃ k1, rows[k1]? = some p1 ∧ kids = [k1] := by
      cases fwd with
      | cons h t => cases t; exact ⟨_, h, rfl⟩
    refine itW (by show decide (("maybe" : Str) = "signs") = false; decide +kernel) ?_
    refine ⟨_, rfl, rfl, _, rfl, itW (by show decide (("maybe" : Str) = "empty") = false; decide +kernel) ?_⟩
    refine ⟨_, rfl, rfl, _, rfl, itW (by show decide (("maybe" : Str) = "then") = false; decide +kernel) ?_⟩
    refine ⟨_, rfl, rfl, _, rfl, itW (by show decide (("maybe" : Str) = "or") = false; decide +kernel) ?_⟩
    refine ⟨_, rfl, rfl, _, rfl, itE (by show decide (("maybe" : Str) = "maybe") = true; decide +kernel) ?_⟩
    refine ⟨_, rfl, (by show 1 ≤ sizeLine; decide), fun b1 hb1 => ?_⟩
    have s1 := same_new hb1 (.lst [V.int (b : Nat)])
    refine ⟨_, rfl, s, dx, _, rfl, s1 _ _ ho, fl_ends _ _ _, _, rfl, ib, _, _, _, rfl, rfl, SqL.of (s1 _ _ hib), at_zero, _, rfl, bad, s, kd, x, rows, k1, b, p1, rfl, S.same s1, hk1, hd1, hb, fun l1 es1 H1 hl1 he1 nl1 S1 K1 => ?_⟩
    obtain ⟨kvs, hkd⟩ := S.kd
    refine ⟨b1, l1, _, _, rfl, rfl, K1 _ _ (fun e => by rw [e, hkd] at hb1; cases hb1) upd_same, hl1, (by rw [List.length_map, sizeLine_eq]; have := he1.few; show 1 + _ ≤ _; omega), fun pp hpp => tail H1 es1 S1 ((Keep.of_same s1).trans K1) (fun k => ?_) (by have := he1.few; omega) pp hpp⟩
    rw [List.mem_cons, he1.2]
    constructor
    · rintro (rfl | ⟨e, rfl, he⟩)
      · exact ⟨b, rfl, E_mb.mpr (.inl ⟨rfl, by omega⟩)⟩
      · exact ⟨e, rfl, E_mb.mpr (.inr he)⟩
    · rintro ⟨e, rfl, he⟩
      rcases E_mb.mp he with ⟨rfl, _⟩ | h
      · exact .inl rfl
      · exact .inr ⟨e, rfl, h⟩
  | ag p1 =>
    have hd1 : deepP p1 ≤ d := by unfold deepP at hd; omega
    obtain ⟨k1, hk1, rfl⟩ : ∃ k1, rows[k1]? = some p1 ∧ kids = [k1] := by
      cases fwd with
      | cons h t => cases t; exact ⟨_, h, rfl⟩
    refine itW (by show decide (("again" : Str) = "signs") = false; decide +kernel) ?_
    refine ⟨_, rfl, rfl, _, rfl, itW (by show decide (("again" : Str) = "empty") = false; decide +kernel) ?_⟩
    refine ⟨_, rfl, rfl, _, rfl, itW (by show decide (("again" : Str) = "then") = false; decide +kernel) ?_⟩
    refine ⟨_, rfl, rfl, _, rfl, itW (by show decide (("again" : Str) = "or") = false; decide +kernel) ?_⟩
    refine ⟨_, rfl, rfl, _, rfl, itW (by show decide (("again" : Str) = "maybe") = false; decide +kernel) ?_⟩
    refine ⟨_, rfl, s, dx, _, rfl, ho, fl_again _ _ _, _, rfl, ib, _, _, _, rfl, rfl, SqL.of hib, at_zero, _, rfl, bad, s, kd, x, rows, k1, b, p1, rfl, S, hk1, hd1, hb, fun l1 es1 H1 hl1 he1 nl1 S1 K1 => ?_⟩
    refine ⟨_, rfl, rfl, _, rfl, itW (by show decide (("again" : Str) = "more") = false; decide +kernel) ?_⟩
    refine ⟨_, rfl, (by show 1 ≤ sizeLine; decide), fun b1 hb1 => ?_⟩
    have s1 := same_new hb1 (.lst [V.int (b : Nat)])
    refine ⟨_, rfl, b1, l1, _, _, rfl, rfl, upd_same, s1 _ _ hl1, (by rw [List.length_map, sizeLine_eq]; have := he1.few; show 1 + _ ≤ _; omega), fun pp hpp => tail _ es1 (S1.same s1) (K1.trans (Keep.of_same s1)) (fun k => ?_) (by have := he1.few; omega) pp hpp⟩
    rw [List.mem_cons, he1.2]
    constructor
    · rintro (rfl | ⟨e, rfl, he⟩)
      · exact ⟨b, rfl, E_ag.mpr (.inl ⟨rfl, by omega⟩)⟩
      · exact ⟨e, rfl, E_ag.mpr (.inr he)⟩
    · rintro ⟨e, rfl, he⟩
      rcases E_ag.mp he with ⟨rfl, _⟩ | h
      · exact .inl rfl
      · exact .inr ⟨e, rfl, h⟩
  | mo p1 =>
    have hd1 : deepP p1 ≤ d := by unfold deepP at hd; omega
    obtain ⟨k1, hk1, rfl⟩ : ∃ k1, rows[k1]? = some p1 ∧ kids = [k1] := by
      cases fwd with
      | cons h t => cases t; exact ⟨_, h, rfl⟩
    refine itW (by show decide (("more" : Str) = "signs") = false; decide +kernel) ?_
    refine ⟨_, rfl, rfl, _, rfl, itW (by show decide (("more" : Str) = "empty") = false; decide +kernel) ?_⟩
    refine ⟨_, rfl, rfl, _, rfl, itW (by show decide (("more" : Str) = "then") = false; decide +kernel) ?_⟩
    refine ⟨_, rfl, rfl, _, rfl, itW (by show decide (("more" : Str) = "or") = false; decide +kernel) ?_⟩
    refine ⟨_, rfl, rfl, _, rfl, itW (by show decide (("more" : Str) = "maybe") = false; decide +kernel) ?_⟩
    refine ⟨_, rfl, s, dx, _, rfl, ho, fl_again _ _ _, _, rfl, ib, _, _, _, rfl, rfl, SqL.of hib, at_zero, _, rfl, bad, s, kd, x, rows, k1, b, p1, rfl, S, hk1, hd1, hb, fun l1 es1 H1 hl1 he1 nl1 S1 K1 => ?_⟩
    exact ⟨_, rfl, rfl, _, rfl, itE (by show decide (("more" : Str) = "more") = true; decide +kernel) ⟨_, rfl, q l1 es1 H1 hl1 he1 nl1 S1 K1⟩⟩
end
end Pa
set_option maxHeartbeats 4000000
namespace Pa
open PySem PySem.Spec PyProof.Rows L2 Ty
abbrev nobad : Addr → Prop := fun _ => False
def spInit (C : Addr) : Sp := fun vs H Q _ => ∃ (s dx : Addr) (v : V) (x : Str) (p : Pat), vs = [.ref s, v, .str x] ∧ H s = some (.ins C dx []) ∧ RP H p v ∧ sizeP p ≤ 1000 ∧ x.length ≤ 60 ∧
  ∀ kd rows H', SpS nobad C H' s x rows kd → rows[0]? = some p → H kd = none → (∀ b o, H b = some o → b ≠ s → H' b = some o) → Q .non H'
theorem scInit : FnScope ["self", "pattern", "text"] ["self", "pattern", "text"] (defScope sInit) := ⟨rfl, rfl, rfl, by decide +kernel, rfl, by decide +kernel, by decide +kernel⟩
section
variable {P : Program} {w : World} {K : PySem.W.Frag} {mg : Str → Option Value} {base : Heap} {f fE fA fG C fT fI : Addr} {fd ft fdE fdA fdG fdI : FuncData}
theorem ok_init (F : Fun K "__init__" "Spelling.__init__" sInit f fd) (T : Txt K C fE fA fG) (GT : FnOk P w K mg base CX0 1 fT ft ["pattern"] spTold) (bT : Binds K ft ["pattern"] []) (kT : PySem.W.keepIn K (.ref fT) = true) (mT : mg "parts_told" = some (.ref fT)) :
    FnOk P w K mg base CX0 2 f fd ["self", "pattern", "text"] (spInit C) := by
  refine F.ok scInit (fun vs H Q E h => ?_) (fun cdv A outer s0 H vs Q E0 hr h => ?_)
  · obtain ⟨_, _, _, _, _, rfl, _⟩ := h
    rfl
  obtain ⟨s, dx, v, x, p, rfl, hs, rp, hz, lx, q⟩ := h
  refine ⟨_, pss_cons (ps_fld (pv 0) (pe_call GT hr rfl mT kT bT .nil pass0 (pa_cons (pv 1) pa_nil)) rfl) (pss_cons (ps_fld (pv 0) (pv 2) rfl) (pss_one (ps_fld (pv 0) pe_dnewT rfl))), ?_⟩
  refine ⟨_, rfl, v, p, rfl, rp, hz, fun fl nv rows H1 hfl sm efl hnd h0 lr => ?_⟩
  refine ⟨_, rfl, s, C, dx, [], rfl, sm _ _ hs, T.cl, T.nP, (by show 0 < 1000; decide), ?_⟩
  refine ⟨_, rfl, _, rfl, s, C, dx, _, rfl, upd_same, T.cl, T.nT, (by show 1 < 1000; decide), fun kd hkd => ?_⟩
  have hkd0 : kd ≠ s := fun e => by rw [e, upd_same] at hkd; cases hkd
  rw [upd_ne hkd0, upd_ne hkd0] at hkd
  have ks : s ≠ kd := Ne.symm hkd0
  refine ⟨_, rfl, s, C, dx, _, rfl, (by rw [upd_ne ks]; exact upd_same), T.cl, T.nK, (by show 2 < 1000; decide), ?_⟩
  have hkH : H kd = none := by
    cases e : H kd with
    | none => rfl
    | some o => rw [sm _ _ e] at hkd; cases hkd
  have up : ∀ c o, H1 c = some o → c ≠ s → (upd (upd (upd (upd H1 s (.ins C dx (putF "parts" (.ref fl) []))) s (.ins C dx (putF "text" (.str x) (putF "parts" (.ref fl) [])))) kd (.dT [])) s (.ins C dx (flds fl x kd))) c = some o := fun c o e n => by
    have nk : c ≠ kd := fun q => by rw [q, hkd] at e; cases e
    rw [upd_ne n, upd_ne nk, upd_ne n, upd_ne n]; exact e
  have sH1 : H1 s = some (.ins C dx []) := sm _ _ hs
  have ns : ∀ {c xs}, H1 c = some (.lst xs) → c ≠ s := fun {c xs} e q => by rw [q, sH1] at e; cases e
  have nst : ∀ {c xs}, H1 c = some (.tup xs) → c ≠ s := fun {c xs} e q => by rw [q, sH1] at e; cases e
  refine q kd rows _ ⟨⟨dx, fl, nv, upd_same, up _ _ efl (ns efl), fun h => h, paired_imp (fun v p n => ?_) hnd⟩, ⟨[], [], by rw [upd_ne hkd0]; exact upd_same, rfl, .nil, (fun c h => by cases h), fun i b v h => by cases h⟩, (fun c h => h.elim), lr, lx⟩ h0 hkH fun b o e n => up _ _ (sm _ _ e) n
  exact (n.mono (ne' := fun _ => True) fun _ _ => trivial).at (fun c xs e => up _ _ e (nst e)) (fun c xs _ e => up _ _ e (ns e)) (fun _ _ h => h) |>.mono fun _ _ h => h
/-- the three methods, by depth -/
theorem ends_all (F1 : Fun K "ends" "Spelling.ends" sEnds fE fdE) (F2 : Fun K "ends_anew" "Spelling.ends_anew" sAnew fA fdA) (F3 : Fun K "again_ends" "Spelling.again_ends" sAgain fG fdG) (T : Txt K C fE fA fG)
    (b1 : Binds K fdE ["self", "part", "begun"] []) (b2 : Binds K fdA ["self", "part", "begun"] []) (b3 : Binds K fdG ["self", "part", "begun"] []) (ml : mg "len" = none) (mso : mg "sorted" = none) (mse : mg "set" = none) :
    ∀ d, FnOk P w K mg base CX0 (3 * d + 1) fE fdE ["self", "part", "begun"] (spEndsOf C d id)
  | 0 => ends_zero
  | d + 1 => by
    have ih := ends_all F1 F2 F3 T b1 b2 b3 ml mso mse d
    have g := ok_again F3 T ih b1 mso
    have a := ok_anew F2 T ih b1 g b3 ml mso mse
    exact ok_ends F1 T a b2
/-- what the def told spells: L as a Boolean -/
def spSpells (D : Nat) : Sp := fun vs H Q _ => ∃ (v : V) (x : Str) (p : Pat), vs = [v, .str x] ∧ RP H p v ∧ sizeP p ≤ 1000 ∧ deepP p ≤ D ∧ x.length ≤ 60 ∧ ∀ (b : Bool) H', (b = true ↔ L p x.cps.toList) → Same H H' → Q (.bl b) H'
theorem scSpells : FnScope ["pattern", "text"] ["pattern", "text"] (defScope sSpells) := ⟨rfl, rfl, rfl, by decide +kernel, rfl, by decide +kernel, by decide +kernel⟩
theorem in_ints (n : Int) : ∀ es : List Int, inV (.int n) (es.map V.int) = decide (n ∈ es)
  | [] => rfl
  | e :: es => by
    have ih := in_ints n es
    unfold inV at ih ⊢
    rw [List.map_cons, List.any_cons, ih]
    show (eqV (.int e) (.int n) || _) = _
    have : eqV (.int e) (.int n) = decide (n = e) := by
      show (e == n) = _
      rw [Bool.eq_iff_iff, beq_iff_eq, decide_eq_true_eq]
      exact eq_comm
    rw [this, Bool.eq_iff_iff]
    simp [List.mem_cons]
theorem flat_ints : ∀ es : List Int, (es.map V.int).all flatV = true
  | [] => rfl
  | _ :: es => flat_ints es
theorem keep_fresh {j : Addr} {H H1 H2 : Hp} (s : Same H H1) (k : Keep j H1 H2) (n : H j = none) : Same H H2 := fun c o e => k c o (fun q => by rw [q, n] at e; cases e) (s c o e)
theorem ok_spells {D : Nat} (hD : 1 ≤ D) (F : Fun K "spells" "spells" sSpells f fd) (T : Txt K C fE fA fG) (M : Mk K C fI) (mC : mg "Spelling" = some (.ref C)) (GI : FnOk P w K mg base CX0 2 fI fdI ["self", "pattern", "text"] (spInit C)) (bI : Binds K fdI ["self", "pattern", "text"] [])
    (GE : FnOk P w K mg base CX0 (3 * D + 1) fE fdE ["self", "part", "begun"] (spEndsOf C D id)) (bE : Binds K fdE ["self", "part", "begun"] []) (ml : mg "len" = none) : FnOk P w K mg base CX0 (3 * D + 2) f fd ["pattern", "text"] (spSpells D) := by
  refine F.ok scSpells (fun vs H Q E h => ?_) (fun cdv A outer s0 H vs Q E0 hr h => ?_)
  · obtain ⟨_, _, _, rfl, _⟩ := h
    rfl
  obtain ⟨v, x, p, rfl, rp, hz, hd, lx, q⟩ := h
  refine ⟨_, pss_one (ps_ret (pe_cmpR op_in_seq (pe_callB call_len_str rfl ml PySem.boot_len (pa_cons (pv 1) pa_nil)) (pe_meth (pe_make M GI (hr.mono (by omega)) rfl mC bI .nil pass0 (pa_cons (pv 0) (pa_cons (pv 1) pa_nil))) T.cl T.mE GE hr bE .nil pass0 (pa_cons pe_int (pa_cons pe_int pa_nil))) rfl)), ?_⟩
  refine ⟨_, rfl, _, rfl, (by rw [sizeLine_eq]; omega), _, rfl, _, rfl, fun s dx hs hdx ne => ?_⟩
  have sm : Same H (upd (upd H dx (.own s)) s (.ins C dx [])) := fun b o e => by
    rw [upd_ne (ne_of_none e hs), upd_ne (ne_of_none e hdx)]; exact e
  refine ⟨s, dx, v, x, p, rfl, upd_same, rp.tk (Tk.of_same sm), hz, lx, fun kd rows H1 S h0 hkd kp => ⟨rfl, ?_⟩⟩
  obtain ⟨dx1, pl, nv, ho, _⟩ := S.ob
  refine ⟨s, dx1, _, rfl, ho, fl_ends _ _ _, nobad, s, kd, x, rows, 0, 0, p, rfl, S, h0, hd, Nat.zero_le _, fun l es H2 hl he nl S2 K2 => ?_⟩
  have hkH : H kd = none := by
    cases e : H kd with
    | none => rfl
    | some o => rw [sm _ _ e] at hkd; cases hkd
  have s1 : Same H H1 := fun c o e => kp c o (sm c o e) (ne_of_none e hs)
  refine ⟨l, _, rfl, .inl (SqL.of hl), rfl, flat_ints es, ?_⟩
  show Q (.bl (inV _ _)) H2
  rw [in_ints]
  refine q _ H2 ?_ (keep_fresh s1 K2 hkH)
  rw [decide_eq_true_eq, he.2]
  have hl2 : x.cps.toList.length = x.length := len_x x
  constructor
  · rintro ⟨e, e1, e2⟩
    have : e = x.cps.toList.length := by omega
    rw [this] at e2
    exact E_all.mp e2
  · intro h
    exact ⟨x.length, rfl, by rw [← hl2]; exact E_all.mpr h⟩
def spNone (D : Nat) : Sp := fun vs H Q _ => ∃ (v : V) (p : Pat), vs = [v] ∧ RP H p v ∧ sizeP p ≤ 1000 ∧ deepP p ≤ D ∧ ∀ (b : Bool) H', (b = true ↔ L p []) → Same H H' → Q (.bl b) H'
theorem scNone : FnScope ["pattern"] ["pattern"] (defScope sNone) := ⟨rfl, rfl, rfl, by decide +kernel, rfl, by decide +kernel, by decide +kernel⟩
theorem ok_none {D : Nat} (F : Fun K "spells_none" "spells_none" sNone f fd) (G : FnOk P w K mg base CX0 (3 * D + 2) fE fdE ["pattern", "text"] (spSpells D)) (bG : Binds K fdE ["pattern", "text"] []) (kG : PySem.W.keepIn K (.ref fE) = true) (mG : mg "spells" = some (.ref fE)) :
    FnOk P w K mg base CX0 (3 * D + 3) f fd ["pattern"] (spNone D) := by
  refine F.ok scNone (fun vs H Q E h => ?_) (fun cdv A outer s0 H vs Q E0 hr h => ?_)
  · obtain ⟨_, _, rfl, _⟩ := h
    rfl
  obtain ⟨v, p, rfl, rp, hz, hd, q⟩ := h
  refine ⟨_, pss_one (ps_ret (pe_call G hr rfl mG kG bG .nil pass0 (pa_cons (pv 0) (pa_cons pe_str pa_nil)))), ?_⟩
  exact ⟨_, rfl, v, _, p, rfl, rp, hz, hd, (by decide +kernel), fun b H' hb s' => q b H' (by rw [hb]; rfl) s'⟩
end
end Pa
set_option maxHeartbeats 4000000
namespace Pa
open PySem PySem.Spec PyProof.Rows L2 Ty Se
abbrev cd (x : Str) : List Nat := x.cps.toList
theorem cd_inj {x y : Str} (h : cd x = cd y) : x = y := by
  obtain ⟨x⟩ := x
  obtain ⟨y⟩ := y
  exact congrArg Str.mk (Array.toList_inj.mp h)
theorem cd_app (x y : Str) : cd (x ++ y) = cd x ++ cd y := by
  show (x.cps ++ y.cps).toList = _
  exact Array.toList_append ..
theorem cd_len (x : Str) : (cd x).length = x.length := len_x x
def oV : Option Str → V
  | none => .non
  | some x => .str x
noncomputable section
open Classical
def lesO : Option Str → Option Str → Option Str
  | none, v => v
  | some x, none => some x
  | some x, some y => if slt (cd y) (cd x) then some y else some x
theorem lesO_yes {x y : Str} (h : slt (cd y) (cd x)) : lesO (some x) (some y) = some y := if_pos h
theorem lesO_no {x y : Str} (h : ¬ slt (cd y) (cd x)) : lesO (some x) (some y) = some x := if_neg h
theorem lesser_yes {u v : List Nat} (h : slt v u) : lesser u v = v := if_pos h
theorem lesser_no {u v : List Nat} (h : ¬ slt v u) : lesser u v = u := if_neg h
end
def oLen : Option Str → Nat
  | none => 0
  | some x => x.length
def spLesser : Sp := fun vs H Q _ => ∃ u v : Option Str, vs = [oV u, oV v] ∧ oLen u ≤ sizeLine ∧ oLen v ≤ sizeLine ∧ ∀ H', Same H H' → Q (oV (lesO u v)) H'
theorem scLesser : FnScope ["one", "other"] ["one", "other"] (defScope sLesser) := ⟨rfl, rfl, rfl, by decide +kernel, rfl, by decide +kernel, by decide +kernel⟩
theorem ltNS_slt (x y : Str) : ltNS (x.length : Nat) (y.length : Nat) x y = true ↔ slt (cd x) (cd y) := by
  unfold ltNS slt
  rw [cd_len, cd_len]
  by_cases c : ((x.length : Nat) : Int) = ((y.length : Nat) : Int)
  · rw [if_pos c, decide_eq_true_eq]
    constructor
    · intro h; exact .inr ⟨by omega, h⟩
    · rintro (h | h)
      · omega
      · exact h.2
  · rw [if_neg c, decide_eq_true_eq]
    constructor
    · intro h; exact .inl (by omega)
    · rintro (h | h)
      · omega
      · omega
theorem least_len (p : Pat) : (least p).length ≤ 2 ^ deepP p := by
  induction p with
  | sg x =>
    show (x.cps.toList.take 1).length ≤ _
    rw [List.length_take]
    show _ ≤ 2 ^ 1
    omega
  | em => exact Nat.zero_le _
  | th a b ha hb =>
    show (least a ++ least b).length ≤ 2 ^ (max (deepP a) (deepP b) + 1)
    have h1 := Nat.pow_le_pow_right (n := 2) (by decide) (Nat.le_max_left (deepP a) (deepP b))
    have h2 := Nat.pow_le_pow_right (n := 2) (by decide) (Nat.le_max_right (deepP a) (deepP b))
    rw [List.length_append, Nat.pow_succ]
    omega
  | oo a b ha hb =>
    show (lesser (least a) (least b)).length ≤ 2 ^ (max (deepP a) (deepP b) + 1)
    have h1 := Nat.pow_le_pow_right (n := 2) (by decide) (Nat.le_max_left (deepP a) (deepP b))
    have h2 := Nat.pow_le_pow_right (n := 2) (by decide) (Nat.le_max_right (deepP a) (deepP b))
    rw [Nat.pow_succ]
    unfold lesser
    split <;> omega
  | ag a ha => exact Nat.zero_le _
  | mo a ha =>
    show (least a).length ≤ 2 ^ (deepP a + 1)
    rw [Nat.pow_succ]; omega
  | mb a ha => exact Nat.zero_le _
theorem pow_small {p : Pat} {n : Nat} (h : deepP p ≤ 16) (hn : n ≤ 2 ^ deepP p) : n ≤ 65536 := Nat.le_trans hn (Nat.pow_le_pow_right (n := 2) (by decide) h)
noncomputable def leastS (p : Pat) : Str := ⟨(least p).toArray⟩
theorem leastS_len (p : Pat) : (leastS p).length = (least p).length := List.size_toArray ..
theorem leastS_cd (p : Pat) : cd (leastS p) = least p := rfl
def spLeast (d : Nat) : Sp := fun vs H Q _ => ∃ (v : V) (p : Pat), vs = [v] ∧ RP H p v ∧ Wf p ∧ deepP p ≤ d ∧ deepP p ≤ 16 ∧ ∀ H', Same H H' → Q (.str (leastS p)) H'
theorem scLeast : FnScope ["pattern", "word", "parts"] ["pattern"] (defScope sLeast) := ⟨rfl, rfl, rfl, by decide +kernel, rfl, by decide +kernel, by decide +kernel⟩
theorem rising_few {x : Str} (h : (cd x).Pairwise (· < ·)) (h2 : ∀ c, c ∈ cd x → c < 128) : x.length ≤ 128 := by
  have := nodup_len (l := cd x) (m := List.range 128) (h.imp fun h => Nat.ne_of_lt h) fun c hc => List.mem_range.mpr (h2 c hc)
  rw [List.length_range, cd_len] at this
  exact this
theorem two_parts {H : Hp} {vs : List V} {p q : Pat} (h : RPs H vs [p, q]) : ∃ u v, vs = [u, v] ∧ RP H p u ∧ RP H q v := by
  cases h with
  | cons h t =>
    cases t with
    | cons h' t => cases t; exact ⟨_, _, rfl, h, h'⟩
theorem one_part {H : Hp} {vs : List V} {p : Pat} (h : RPs H vs [p]) : ∃ u, vs = [u] ∧ RP H p u := by
  cases h with
  | cons h t => cases t; exact ⟨_, rfl, h⟩
section
variable {P : Program} {w : World} {K : PySem.W.Frag} {mg : Str → Option Value} {base : Heap} {f g : Addr} {fd gd : FuncData}
theorem ok_lesser (F : Fun K "lesser_text" "lesser_text" sLesser f fd) (ml : mg "len" = none) : FnOk P w K mg base CX0 1 f fd ["one", "other"] spLesser := by
  refine F.ok scLesser (fun vs H Q E h => ?_) (fun cdv A outer s0 H vs Q E0 hr h => ?_)
  · obtain ⟨_, _, rfl, _⟩ := h
    rfl
  obtain ⟨u, v, rfl, lu, lv, q⟩ := h
  have hu := Nat.lt_of_le_of_lt (Nat.le_add_right _ 64) hr.units
  refine ⟨_, pss_cons (ps_if (PW.pt (pw_or (pt_cmp (pc_isN (pv 0))) (pw_or1 (PW.pt (pw_and (pt_cmp (pc_notN (pv 1))) (pw_and1 (pt_cmpR (op_ltNS hu)
      (pe_tup (pa_cons (pe_callB call_len_str rfl ml PySem.boot_len (pa_cons (pv 1) pa_nil)) (pa_cons (pv 1) pa_nil)))
      (pe_tup (pa_cons (pe_callB call_len_str rfl ml PySem.boot_len (pa_cons (pv 0) pa_nil)) (pa_cons (pv 0) pa_nil))) (nomark _))))))))
    (pss_one (ps_ret (pv 1))) pss_nil) (pss_one (ps_ret (pv 0))), ?_⟩
  have z2 : 2 ≤ sizeLine := by decide
  cases u with
  | none => exact ⟨_, rfl, _, rfl, iteT (iteT ⟨_, rfl, q H same_refl⟩)⟩
  | some x =>
    refine ⟨_, rfl, _, rfl, iteF ?_⟩
    cases v with
    | none => exact ⟨_, rfl, _, rfl, iteF (iteF ⟨_, rfl, q H same_refl⟩)⟩
    | some y =>
      refine ⟨_, rfl, _, rfl, iteT ?_⟩
      refine ⟨_, rfl, y, rfl, lv, _, rfl, z2, fun p1 hp1 => ⟨_, rfl, x, rfl, lu, _, rfl, z2, fun p2 hp2 => ?_⟩⟩
      have s1 := same_new hp1 (.tup [.int (y.length : Nat), .str y])
      have s2 := same_new hp2 (.tup [.int (x.length : Nat), .str x])
      refine ⟨p1, p2, _, _, y, x, rfl, rfl, SqT.of (s2 _ _ upd_same), SqT.of upd_same, _, rfl, ?_⟩
      have q' := q _ (s1.trans s2)
      by_cases c : slt (cd y) (cd x)
      · rw [(ltNS_slt y x).mpr c]
        rw [lesO_yes c] at q'
        exact iteT ⟨_, rfl, q'⟩
      · rw [show ltNS (y.length : Nat) (x.length : Nat) y x = false from Bool.eq_false_iff.mpr fun h => c ((ltNS_slt y x).mp h)]
        rw [lesO_no c] at q'
        exact iteF ⟨_, rfl, q'⟩
theorem least_left : FnOk P w K mg base CX0 1 f fd ["pattern"] (spLeast 0) := by
  have no : ∀ vs H Q E, ¬ spLeast 0 vs H Q E := fun vs H Q E h => by
    obtain ⟨_, p, _, _, _, h, _⟩ := h
    have := deep_pos p
    omega
  exact ⟨fun vs H Q E h => absurd h (no vs H Q E), fun A outer s H args us vs Q E _ _ _ _ h => absurd h (no vs H Q E)⟩
theorem ok_least {d : Nat} (F : Fun K "least_spelled" "least_spelled" sLeast f fd) (GM : FnOk P w K mg base CX0 (d + 1) f fd ["pattern"] (spLeast d)) (bF : Binds K fd ["pattern"] []) (mF : mg "least_spelled" = some (.ref f))
    (G : FnOk P w K mg base CX0 1 g gd ["one", "other"] spLesser) (bG : Binds K gd ["one", "other"] []) (kG : PySem.W.keepIn K (.ref g) = true) (mG : mg "lesser_text" = some (.ref g)) :
    FnOk P w K mg base CX0 (d + 2) f fd ["pattern"] (spLeast (d + 1)) := by
  refine F.ok scLeast (fun vs H Q E h => ?_) (fun cdv A outer s0 H vs Q E0 hr h => ?_)
  · obtain ⟨_, _, rfl, _⟩ := h
    rfl
  obtain ⟨v, p, rfl, rp, wf, hd, h16, q⟩ := h
  refine ⟨_, pss_cons (ps_asg (pv 0) (pg_star1 rfl (pg_name (i := 1) scLeast.nd rfl (.inl rfl)) (pg_name (i := 2) scLeast.nd rfl (.inl rfl))))
    (pss_cons (ps_if (pt_cmpR op_eq (pv 1) pe_str (nomark _)) (pss_one (ps_ret (pe_ix ix_str (pe_ix ix_list (pv 2) pe_int (fun _ _ => rfl)) pe_int (fun _ _ => rfl)))) pss_nil)
    (pss_cons (ps_if (pt_cmpR op_eq (pv 1) pe_str (nomark _)) (pss_one (ps_ret (pe_op op_add_str (pe_call GM hr rfl mF F.kp bF .nil pass0 (pa_cons (pe_ix ix_list (pv 2) pe_int (fun _ _ => rfl)) pa_nil)) (pe_call GM hr rfl mF F.kp bF .nil pass0 (pa_cons (pe_ix ix_list (pv 2) pe_int (fun _ _ => rfl)) pa_nil))))) pss_nil)
    (pss_cons (ps_if (pt_cmpR op_eq (pv 1) pe_str (nomark _)) (pss_one (ps_ret (pe_call (G.mono (show 1 ≤ d + 1 by omega)) hr rfl mG kG bG .nil pass0 (pa_cons (pe_call GM hr rfl mF F.kp bF .nil pass0 (pa_cons (pe_ix ix_list (pv 2) pe_int (fun _ _ => rfl)) pa_nil)) (pa_cons (pe_call GM hr rfl mF F.kp bF .nil pass0 (pa_cons (pe_ix ix_list (pv 2) pe_int (fun _ _ => rfl)) pa_nil)) pa_nil))))) pss_nil)
    (pss_one (ps_ret (pe_ifExp (pt_cmpR op_eq (pv 1) pe_str (nomark _)) (pe_call GM hr rfl mF F.kp bF .nil pass0 (pa_cons (pe_ix ix_list (pv 2) pe_int (fun _ _ => rfl)) pa_nil)) pe_str)))))), ?_⟩
  obtain ⟨a, vs, rfl, ha, hcase⟩ := rp.open
  have pw : 2 ^ deepP p ≤ 65536 := Nat.pow_le_pow_right (n := 2) (by decide) h16
  have ll := least_len p
  have lvs : vs.length ≤ 16000 := by
    rcases hcase with ⟨x, _, rfl⟩ | ⟨_, _, h⟩
    · show 1 ≤ 16000; decide
    · have h1 := Paired.length h
      have h2 : (partsP p).length ≤ 2 := by cases p <;> (show _ ≤ 2) <;> simp [partsP]
      omega
  refine ⟨_, rfl, a, _, vs, rfl, SqT.of ha, lvs, fun D hD => ?_⟩
  have s1 := same_new hD (.lst vs)
  refine ⟨_, rfl, rfl, _, rfl, ?_⟩
  cases p with
  | sg x =>
    obtain ⟨x', e, rfl⟩ : ∃ x', Pat.sg x = .sg x' ∧ vs = [.str x'] := hcase.elim id fun h => absurd rfl h.1
    injection e with e
    subst e
    obtain ⟨w1, w2, w3⟩ := wf
    refine itE (by show decide (("signs" : Str) = "signs") = true; decide +kernel) ?_
    have lx := rising_few w2 w3
    obtain ⟨c, l, ec⟩ : ∃ c l, cd x = c :: l := by
      cases e : cd x with
      | nil => exact absurd e w1
      | cons c l => exact ⟨c, l, rfl⟩
    refine ⟨_, rfl, D, _, _, _, rfl, rfl, SqL.of upd_same, at_zero, x, _, c, rfl, rfl, by rw [sizeLine_eq]; omega, (by show atI (cd x) 0 = some c; rw [ec]; exact at_zero), ?_⟩
    have e : leastS (.sg x) = ⟨#[c]⟩ := by
      show (⟨((cd x).take 1).toArray⟩ : Str) = _
      rw [ec]; rfl
    rw [← e]
    exact q _ s1
  | em =>
    refine itW (by show decide (("empty" : Str) = "signs") = false; decide +kernel) ?_
    refine ⟨_, rfl, rfl, _, rfl, itW (by show decide (("empty" : Str) = "then") = false; decide +kernel) ?_⟩
    refine ⟨_, rfl, rfl, _, rfl, itW (by show decide (("empty" : Str) = "or") = false; decide +kernel) ?_⟩
    exact ⟨_, rfl, rfl, _, rfl, itW (by show decide (("empty" : Str) = "more") = false; decide +kernel) (q _ s1)⟩
  | th p1 p2 =>
    obtain ⟨h1, h2, h3⟩ : wordP (.th p1 p2) ≠ "signs" ∧ signsP (.th p1 p2) = Str.empty ∧ RPs H vs [p1, p2] := hcase.resolve_left fun ⟨_, e, _⟩ => by cases e
    obtain ⟨v1, v2, rfl, r1, r2⟩ := two_parts h3
    have hd1 : deepP p1 ≤ d ∧ deepP p2 ≤ d ∧ deepP p1 ≤ 16 ∧ deepP p2 ≤ 16 := by unfold deepP at hd h16; omega
    have l1 := pow_small hd1.2.2.1 (least_len p1)
    have l2 := pow_small hd1.2.2.2 (least_len p2)
    refine itW (by show decide (("then" : Str) = "signs") = false; decide +kernel) ?_
    refine ⟨_, rfl, rfl, _, rfl, itE (by show decide (("then" : Str) = "then") = true; decide +kernel) ?_⟩
    refine ⟨_, rfl, D, _, _, _, rfl, rfl, SqL.of upd_same, at_zero, v1, p1, rfl, r1.tk (Tk.of_same s1), wf.1, hd1.1, hd1.2.2.1, fun H2 s2 => ?_⟩
    refine ⟨_, rfl, D, _, _, _, rfl, rfl, SqL.of (s2 _ _ upd_same), at_one, v2, p2, rfl, r2.tk (Tk.of_same (s1.trans s2)), wf.2, hd1.2.1, hd1.2.2.2, fun H3 s3 => ?_⟩
    refine ⟨_, _, rfl, rfl, by rw [leastS_len, leastS_len, sizeLine_eq]; omega, ?_⟩
    have e : leastS p1 ++ leastS p2 = leastS (.th p1 p2) := cd_inj (by rw [cd_app]; rfl)
    rw [e]
    exact q _ ((s1.trans s2).trans s3)
  | oo p1 p2 =>
    obtain ⟨h1, h2, h3⟩ : wordP (.oo p1 p2) ≠ "signs" ∧ signsP (.oo p1 p2) = Str.empty ∧ RPs H vs [p1, p2] := hcase.resolve_left fun ⟨_, e, _⟩ => by cases e
    obtain ⟨v1, v2, rfl, r1, r2⟩ := two_parts h3
    have hd1 : deepP p1 ≤ d ∧ deepP p2 ≤ d ∧ deepP p1 ≤ 16 ∧ deepP p2 ≤ 16 := by unfold deepP at hd h16; omega
    have l1 := pow_small hd1.2.2.1 (least_len p1)
    have l2 := pow_small hd1.2.2.2 (least_len p2)
    refine itW (by show decide (("or" : Str) = "signs") = false; decide +kernel) ?_
    refine ⟨_, rfl, rfl, _, rfl, itW (by show decide (("or" : Str) = "then") = false; decide +kernel) ?_⟩
    refine ⟨_, rfl, rfl, _, rfl, itE (by show decide (("or" : Str) = "or") = true; decide +kernel) ?_⟩
    refine ⟨_, rfl, D, _, _, _, rfl, rfl, SqL.of upd_same, at_zero, v1, p1, rfl, r1.tk (Tk.of_same s1), wf.1, hd1.1, hd1.2.2.1, fun H2 s2 => ?_⟩
    refine ⟨_, rfl, D, _, _, _, rfl, rfl, SqL.of (s2 _ _ upd_same), at_one, v2, p2, rfl, r2.tk (Tk.of_same (s1.trans s2)), wf.2, hd1.2.1, hd1.2.2.2, fun H3 s3 => ?_⟩
    refine ⟨some (leastS p1), some (leastS p2), rfl, (by show (leastS p1).length ≤ _; rw [leastS_len, sizeLine_eq]; omega), (by show (leastS p2).length ≤ _; rw [leastS_len, sizeLine_eq]; omega), fun H4 s4 => ?_⟩
    have e : lesO (some (leastS p1)) (some (leastS p2)) = some (leastS (.oo p1 p2)) := by
      have e2 : least (.oo p1 p2) = lesser (least p1) (least p2) := rfl
      by_cases c : slt (least p2) (least p1)
      · rw [lesO_yes c]
        unfold leastS
        rw [e2, lesser_yes c]
      · rw [lesO_no c]
        unfold leastS
        rw [e2, lesser_no c]
    rw [e]
    exact q _ (((s1.trans s2).trans s3).trans s4)
  | mb p1 =>
    refine itW (by show decide (("maybe" : Str) = "signs") = false; decide +kernel) ?_
    refine ⟨_, rfl, rfl, _, rfl, itW (by show decide (("maybe" : Str) = "then") = false; decide +kernel) ?_⟩
    refine ⟨_, rfl, rfl, _, rfl, itW (by show decide (("maybe" : Str) = "or") = false; decide +kernel) ?_⟩
    exact ⟨_, rfl, rfl, _, rfl, itW (by show decide (("maybe" : Str) = "more") = false; decide +kernel) (q _ s1)⟩
  | ag p1 =>
    refine itW (by show decide (("again" : Str) = "signs") = false; decide +kernel) ?_
    refine ⟨_, rfl, rfl, _, rfl, itW (by show decide (("again" : Str) = "then") = false; decide +kernel) ?_⟩
    refine ⟨_, rfl, rfl, _, rfl, itW (by show decide (("again" : Str) = "or") = false; decide +kernel) ?_⟩
    exact ⟨_, rfl, rfl, _, rfl, itW (by show decide (("again" : Str) = "more") = false; decide +kernel) (q _ s1)⟩
  | mo p1 =>
    obtain ⟨h1, h2, h3⟩ : wordP (.mo p1) ≠ "signs" ∧ signsP (.mo p1) = Str.empty ∧ RPs H vs [p1] := hcase.resolve_left fun ⟨_, e, _⟩ => by cases e
    obtain ⟨v1, rfl, r1⟩ := one_part h3
    have hd1 : deepP p1 ≤ d ∧ deepP p1 ≤ 16 := by unfold deepP at hd h16; omega
    refine itW (by show decide (("more" : Str) = "signs") = false; decide +kernel) ?_
    refine ⟨_, rfl, rfl, _, rfl, itW (by show decide (("more" : Str) = "then") = false; decide +kernel) ?_⟩
    refine ⟨_, rfl, rfl, _, rfl, itW (by show decide (("more" : Str) = "or") = false; decide +kernel) ?_⟩
    refine ⟨_, rfl, rfl, _, rfl, itE (by show decide (("more" : Str) = "more") = true; decide +kernel) ?_⟩
    exact ⟨_, rfl, D, _, _, _, rfl, rfl, SqL.of upd_same, at_zero, v1, p1, rfl, r1.tk (Tk.of_same s1), wf, hd1.1, hd1.2, fun H2 s2 => q _ (s1.trans s2)⟩
end
end Pa
set_option maxHeartbeats 4000000
namespace Pa
open PySem PySem.Spec PyProof.Rows L2 Ty Se
theorem addK_nodup {K : Type} [DecidableEq K] {L : List K} {k : K} (h : L.Nodup) : (addK L k).Nodup := by
  unfold addK
  split
  · exact h
  · rename_i h'
    exact List.nodup_cons.mpr ⟨h', h⟩
theorem gather_nodup {K : Type} [DecidableEq K] : ∀ {ks L : List K}, L.Nodup → (gather L ks).Nodup
  | [], L, h => h
  | k :: ks, L, h => gather_nodup (ks := ks) (addK_nodup h)
theorem gather_mem {K : Type} [DecidableEq K] {ks : List K} {j : K} : j ∈ gather [] ks ↔ j ∈ ks := by
  rw [mem_gather]; simp
/-- one text, the only one, or two -/
def TwoS (p : Pat) (ys : List Str) : Prop := (∃ x : Str, only p = some (cd x) ∧ ys = [x]) ∨ (only p = none ∧ ys.length = 2 ∧ ys.Nodup)
theorem TwoS.one {p : Pat} {ys : List Str} (h : TwoS p ys) {l : List Nat} (e : only p = some l) : ∃ x, l = cd x ∧ ys = [x] := by
  rcases h with ⟨x, h1, h2⟩ | ⟨h1, _⟩
  · rw [h1] at e; exact ⟨x, (Option.some.inj e).symm, h2⟩
  · rw [h1] at e; cases e
theorem TwoS.two {p : Pat} {ys : List Str} (h : TwoS p ys) (e : only p = none) : ∃ u v, ys = [u, v] ∧ u ≠ v := by
  rcases h with ⟨x, h1, h2⟩ | ⟨_, h2, h3⟩
  · rw [h1] at e; cases e
  · match ys, h2, h3 with
    | [u, v], _, h3 => exact ⟨u, v, rfl, fun e => by rw [e] at h3; simp at h3⟩
theorem TwoS.few {p : Pat} {ys : List Str} (h : TwoS p ys) : 1 ≤ ys.length ∧ ys.length ≤ 2 := by
  rcases h with ⟨x, _, rfl⟩ | ⟨_, h2, _⟩
  · exact ⟨Nat.le_refl _, by show 1 ≤ 2; decide⟩
  · omega
theorem TwoS.of {p : Pat} {raw ys : List Str} (pm : ys.Perm (gather [] raw)) (h : (∃ x, only p = some (cd x) ∧ (∀ u, u ∈ raw → u = x) ∧ raw ≠ []) ∨ (only p = none ∧ ∃ u v, u ∈ raw ∧ v ∈ raw ∧ u ≠ v)) : TwoS p (ys.take 2) := by
  have nd : ys.Nodup := pm.nodup_iff.mpr (gather_nodup .nil)
  have mem : ∀ u, u ∈ ys ↔ u ∈ raw := fun u => by rw [pm.mem_iff, gather_mem]
  rcases h with ⟨x, h1, h2, h3⟩ | ⟨h1, u, v, hu, hv, ne⟩
  · refine .inl ⟨x, h1, ?_⟩
    obtain ⟨r, hr⟩ := List.exists_mem_of_ne_nil _ h3
    have hx : x ∈ ys := (mem x).mpr (h2 r hr ▸ hr)
    match ys, nd, hx, mem with
    | [y], _, hx, _ => rw [List.mem_singleton.mp hx]; rfl
    | y :: z :: t, nd, _, mem =>
      have e1 := h2 y ((mem y).mp List.mem_cons_self)
      have e2 := h2 z ((mem z).mp (List.mem_cons_of_mem _ List.mem_cons_self))
      exact absurd (List.mem_cons.mpr (.inl (e1.trans e2.symm))) (List.nodup_cons.mp nd).1
  · refine .inr ⟨h1, ?_, nd.sublist (List.take_sublist _ _)⟩
    have h2 : 2 ≤ ys.length := nodup_len (l := [u, v]) (m := ys) (by simp [ne]) fun x hx => by
      rcases List.mem_cons.mp hx with e | hx
      · rw [e]; exact (mem u).mpr hu
      · rw [List.mem_singleton.mp hx]; exact (mem v).mpr hv
    rw [List.length_take]; omega
theorem cutS_to (x : Str) : cutS x none (some 2) = ⟨((cd x).take 2).toArray⟩ := by
  have h : cutS x none (some ((2 : Nat) : Int)) = ⟨((cd x).take 2).toArray⟩ := by
    unfold cutS
    congr 2
    have h0 : HT.sIx x.length 0 none = 0 := rfl
    rw [h0, List.drop_zero]
    have h1 : HT.sIx x.length x.length (some ((2 : Nat) : Int)) = min 2 x.length := by
      rw [HT.sIx_nat]
    rw [h1, Nat.sub_zero]
    by_cases c : 2 ≤ x.length
    · rw [Nat.min_eq_left c]
    · rw [Nat.min_eq_right (by omega), ← cd_len, List.take_length, List.take_of_length_le (by rw [cd_len]; omega)]
  exact h
theorem only_th_no {a b : Pat} (h : only a = none ∨ only b = none) : only (.th a b) = none := by
  show (match only a, only b with
    | some u, some v => some (u ++ v)
    | _, _ => none) = none
  rcases h with h | h
  · rw [h]
  · rw [h]
    cases only a <;> rfl
theorem only_th {a b : Pat} {u v : List Nat} (h : only a = some u) (h2 : only b = some v) : only (.th a b) = some (u ++ v) := by
  show (match only a, only b with
    | some u, some v => some (u ++ v)
    | _, _ => none) = _
  rw [h, h2]
section
open Classical
theorem only_oo {a b : Pat} (h : only a = only b) : only (.oo a b) = only a := if_pos h
theorem only_oo_no {a b : Pat} (h : ¬ only a = only b) : only (.oo a b) = none := if_neg h
theorem only_mo {a : Pat} (h : only a = some []) : only (.mo a) = some [] ∧ only (.ag a) = some [] ∧ only (.mb a) = some [] := ⟨if_pos h, if_pos h, if_pos h⟩
theorem only_mo_no {a : Pat} (h : ¬ only a = some []) : only (.mo a) = none ∧ only (.ag a) = none ∧ only (.mb a) = none := ⟨if_neg h, if_neg h, if_neg h⟩
theorem only_sg {x : Str} (h : (cd x).length = 1) : only (.sg x) = some (cd x) := if_pos h
theorem only_sg_no {x : Str} (h : ¬ (cd x).length = 1) : only (.sg x) = none := if_neg h
end
def rawOf (dbl nil : Bool) (us : List Str) : List Str := (us ++ (if dbl = true then us.map (fun u => u ++ u) else [])) ++ (if nil = true then [("" : Str)] else [])
theorem app_len (u v : Str) : (u ++ v).length = u.length + v.length := by rw [← cd_len, cd_app, List.length_append, cd_len, cd_len]
theorem TwoS.more {p1 : Pat} {us : List Str} (t : TwoS p1 us) (dbl nil : Bool) (h : dbl = true ∨ nil = true) : (only p1 = some [] ∧ (∀ u, u ∈ rawOf dbl nil us → u = "") ∧ rawOf dbl nil us ≠ []) ∨ (only p1 ≠ some [] ∧ ∃ u v, u ∈ rawOf dbl nil us ∧ v ∈ rawOf dbl nil us ∧ u ≠ v) := by
  have sub : ∀ u, u ∈ us → u ∈ rawOf dbl nil us := fun u hu => List.mem_append_left _ (List.mem_append_left _ hu)
  cases ho : only p1 with
  | none =>
    obtain ⟨u, v, e, ne⟩ := t.two ho
    exact .inr ⟨(fun e => by cases e), u, v, sub u (by rw [e]; simp), sub v (by rw [e]; simp), ne⟩
  | some l =>
    obtain ⟨x, rfl, rfl⟩ := t.one ho
    by_cases c : cd x = []
    · have ex : x = "" := cd_inj (by rw [c]; rfl)
      subst ex
      refine .inl ⟨by rw [c], fun u hu => ?_, fun e => ?_⟩
      · have hu : u ∈ (([""] : List Str) ++ (if dbl = true then [("" : Str)] else [])) ++ (if nil = true then [("" : Str)] else []) := hu
        cases dbl <;> cases nil <;> simpa using hu
      · have := sub "" (List.mem_singleton_self _)
        rw [e] at this; cases this
    · refine .inr ⟨fun e => c (Option.some.inj e), ?_⟩
      cases nil with
      | true => exact ⟨x, "", sub x (List.mem_singleton_self _), List.mem_append_right _ (List.mem_singleton_self _), fun e => c (by rw [e]; rfl)⟩
      | false =>
        have hd : dbl = true := h.resolve_right (by decide)
        subst hd
        refine ⟨x, x ++ x, sub x (List.mem_singleton_self _), List.mem_append_left _ (List.mem_append_right _ (List.mem_singleton_self _)), fun e => c ?_⟩
        have := congrArg cd e
        rw [cd_app] at this
        have := congrArg List.length this
        rw [List.length_append] at this
        exact List.eq_nil_of_length_eq_zero (by omega)
theorem raw_len {dbl nil : Bool} {us : List Str} {B : Nat} (h : ∀ u, u ∈ us → u.length ≤ B) : ∀ u, u ∈ rawOf dbl nil us → u.length ≤ B * 2 := fun u hu => by
  rcases List.mem_append.mp hu with hu | hu
  · rcases List.mem_append.mp hu with hu | hu
    · have := h u hu; omega
    · cases dbl with
      | true =>
        obtain ⟨z, hz, rfl⟩ := List.mem_map.mp hu
        have := h z hz
        rw [app_len]; omega
      | false => cases hu
  · cases nil with
    | true => rw [List.mem_singleton.mp hu]; exact Nat.zero_le _
    | false => cases hu
theorem itNW {A B : Prop} {u v : Str} (h : decide (u = v) = false) (hA : A) : if (!decide (V.str u = V.str v)) = true then A else B := by
  rw [dec_str, h]; exact iteT hA
theorem itNE {A B : Prop} {u v : Str} (h : decide (u = v) = true) (hB : B) : if (!decide (V.str u = V.str v)) = true then A else B := by
  rw [dec_str, h]; exact iteF hB
/-! ### [f(e) for a in a list for e in another] -/
theorem lc2_inner {K : PySem.W.Frag} {D l1 : Addr} {k1 : Nat} {vs1 : List Nat} {τ : L2.St} {H4 : Hp} {te : TE} {Nx : Hp → Prop} {zs acc : List V} (g : V → V)
    (hw : ∀ v : V, wipe ((wipe τ vs1).set k1 (some v)) vs1 = wipe τ vs1)
    (hte : ∀ v, v ∈ zs → ∀ H Q, Q (g v) H → te ((wipe τ vs1).set k1 (some v)) H Q)
    (el : H4 l1 = some (.lst zs)) (eD : H4 D = some (.lst acc)) (ne : l1 ≠ D) (hl : acc.length + zs.length ≤ sizeLine)
    (fin : Nx (upd H4 D (.lst (acc ++ zs.map g)))) :
    ∃ W1 : Nat → Nat → Hp → Prop, (∃ m, W1 0 m H4) ∧ ∀ j k H, W1 j k H →
          ((Itl K l1).stop j H ∧ Nx H) ∨ ((Itl K l1).go j H ∧ ∃ Nx1 : Hp → Prop, (∀ H', Nx1 H' → ∃ k', k' < k ∧ W1 (j + 1) k' H') ∧ ∀ x H', (Itl K l1).yld j H x H' → gName k1 x (wipe τ vs1) H' fun σ3 H5 => wipe σ3 vs1 = wipe τ vs1 ∧ tYes σ3 H5 fun b H6 =>
            if b = true then te σ3 H6 fun y H7 => ∃ acc, H7 D = some (.lst acc) ∧ acc.length < sizeLine ∧ Nx1 (upd H7 D (.lst (acc ++ [y]))) else Nx1 H6) := by
  refine ⟨fun j k H => k = zs.length - j ∧ j ≤ zs.length ∧ H = upd H4 D (.lst (acc ++ (zs.take j).map g)), ⟨_, rfl, Nat.zero_le _, ?_⟩, ?_⟩
  · show H4 = upd H4 D (.lst (acc ++ []))
    rw [List.append_nil]
    exact (upd_id eD).symm
  rintro j k H ⟨rfl, hj, rfl⟩
  have sq : SqL K (upd H4 D (.lst (acc ++ (zs.take j).map g))) l1 zs := SqL.of (by rw [upd_ne ne]; exact el)
  by_cases hlt : j < zs.length
  case neg =>
    have e : j = zs.length := by omega
    subst e
    refine .inl ⟨⟨_, sq, Nat.le_refl _⟩, ?_⟩
    rw [List.take_length]
    exact fin
  refine .inr ⟨⟨_, zs[j], sq, by simp [hlt]⟩, fun H => H = upd H4 D (.lst (acc ++ (zs.take (j + 1)).map g)), fun H' e => ⟨zs.length - (j + 1), by omega, rfl, hlt, e⟩, fun x H' y => ?_⟩
  obtain ⟨h1, y⟩ := y
  subst h1
  have y := y _ sq
  have ex : x = zs[j] := by
    rw [List.getElem?_eq_getElem hlt] at y
    exact (Option.some.inj y).symm
  subst ex
  refine ⟨hw _, ?_⟩
  simp only [tYes, ↓reduceIte]
  refine hte _ (List.getElem_mem hlt) _ _ ⟨_, upd_same, ?_, ?_⟩
  · rw [List.length_append, List.length_map, List.length_take]
    omega
  · show _ = _
    rw [upd_upd, List.append_assoc]
    congr 3
    rw [List.take_succ, List.getElem?_eq_getElem hlt, List.map_append]
    rfl
theorem lc2_outer {K : PySem.W.Frag} {a D : Addr} {k0 k1 : Nat} {vs vs1 : List Nat} {xs : List V} {σ : L2.St} {H1 : Hp} {wi1 : TI} {te : TE} {Qd : Hp → Prop}
    (hv : ∀ v, wipe ((wipe σ vs).set k0 (some v)) vs = wipe σ vs)
    (Pv : Nat → Hp → Prop) (h0 : Pv 0 (upd H1 D (.lst [])))
    (hD : ∀ i H, Pv i H → SqL K H a xs)
    (hs : ∀ i x H, xs[i]? = some x → Pv i H → wi1 ((wipe σ vs).set k0 (some x)) H fun J1 H4 => ∃ W1 : Nat → Nat → Hp → Prop, (∃ m, W1 0 m H4) ∧ ∀ j k H, W1 j k H →
          (J1.stop j H ∧ Pv (i + 1) H) ∨ (J1.go j H ∧ ∃ Nx1 : Hp → Prop, (∀ H', Nx1 H' → ∃ k', k' < k ∧ W1 (j + 1) k' H') ∧ ∀ y H', J1.yld j H y H' → gName k1 y (wipe ((wipe σ vs).set k0 (some x)) vs1) H' fun σ3 H5 => wipe σ3 vs1 = wipe ((wipe σ vs).set k0 (some x)) vs1 ∧ tYes σ3 H5 fun b H6 =>
            if b = true then te σ3 H6 fun y H7 => ∃ acc, H7 D = some (.lst acc) ∧ acc.length < sizeLine ∧ Nx1 (upd H7 D (.lst (acc ++ [y]))) else Nx1 H6))
    (hd : ∀ H, Pv xs.length H → Qd H) :
    ∃ W : Nat → Nat → Hp → Prop, (∃ m, W 0 m (upd H1 D (.lst []))) ∧ ∀ i m H, W i m H →
      ((Itl K a).stop i H ∧ Qd H) ∨ ((Itl K a).go i H ∧ ∃ Nx : Hp → Prop, (∀ H', Nx H' → ∃ m', m' < m ∧ W (i + 1) m' H') ∧ ∀ x H', (Itl K a).yld i H x H' → gName k0 x (wipe σ vs) H' fun σ2 H2 => wipe σ2 vs = wipe σ vs ∧ tYes σ2 H2 fun b H3 =>
        if b = true then wi1 σ2 H3 fun J1 H4 => ∃ W1 : Nat → Nat → Hp → Prop, (∃ m, W1 0 m H4) ∧ ∀ j k H, W1 j k H →
          (J1.stop j H ∧ Nx H) ∨ (J1.go j H ∧ ∃ Nx1 : Hp → Prop, (∀ H', Nx1 H' → ∃ k', k' < k ∧ W1 (j + 1) k' H') ∧ ∀ x H', J1.yld j H x H' → gName k1 x (wipe σ2 vs1) H' fun σ3 H5 => wipe σ3 vs1 = wipe σ2 vs1 ∧ tYes σ3 H5 fun b H6 =>
            if b = true then te σ3 H6 fun y H7 => ∃ acc, H7 D = some (.lst acc) ∧ acc.length < sizeLine ∧ Nx1 (upd H7 D (.lst (acc ++ [y]))) else Nx1 H6)
        else Nx H3) := by
  refine ⟨fun i m H => m = xs.length - i ∧ i ≤ xs.length ∧ Pv i H, ⟨xs.length, by simp, Nat.zero_le _, h0⟩, ?_⟩
  rintro i m H ⟨rfl, hi, p⟩
  have sq := hD i H p
  by_cases hlt : i < xs.length
  case neg =>
    have e : i = xs.length := by omega
    subst e
    exact .inl ⟨⟨xs, sq, Nat.le_refl _⟩, hd H p⟩
  refine .inr ⟨⟨xs, xs[i], sq, by simp [hlt]⟩, fun H' => Pv (i + 1) H', fun H' p' => ⟨xs.length - (i + 1), by omega, rfl, hlt, p'⟩, fun x H' y => ?_⟩
  obtain ⟨e, y⟩ := y
  subst e
  have ex := y xs sq
  refine ⟨hv x, ?_⟩
  simp only [tYes, ↓reduceIte]
  exact hs i x H' ex p
end Pa
set_option maxHeartbeats 4000000
namespace Pa
open PySem PySem.Spec PyProof.Rows L2 Ty Se
def spTwo (d : Nat) : Sp := fun vs H Q _ => ∃ (v : V) (p : Pat), vs = [v] ∧ RP H p v ∧ Wf p ∧ deepP p ≤ d ∧ deepP p ≤ 16 ∧ ∀ l ys H', H l = none → H' l = some (.lst (ys.map V.str)) → TwoS p ys → (∀ y, y ∈ ys → y.length ≤ 2 ^ deepP p) → Same H H' → Q (.ref l) H'
theorem scTwo : FnScope ["pattern", "word", "parts", "some", "one", "other", "text"] ["pattern"] (defScope sTwo) := ⟨rfl, rfl, rfl, by decide +kernel, rfl, by decide +kernel, by decide +kernel⟩
section
variable {P : Program} {w : World} {K : PySem.W.Frag} {mg : Str → Option Value} {base : Heap} {f g : Addr} {fd gd : FuncData}
theorem two_left : FnOk P w K mg base CX0 1 f fd ["pattern"] (spTwo 0) := by
  have no : ∀ vs H Q E, ¬ spTwo 0 vs H Q E := fun vs H Q E h => by
    obtain ⟨_, p, _, _, _, h, _⟩ := h
    have := deep_pos p
    omega
  exact ⟨fun vs H Q E h => absurd h (no vs H Q E), fun A outer s H args us vs Q E _ _ _ _ h => absurd h (no vs H Q E)⟩
theorem ok_two {d : Nat} (F : Fun K "two_texts" "two_texts" sTwo f fd) (GM : FnOk P w K mg base CX0 (d + 1) f fd ["pattern"] (spTwo d)) (bF : Binds K fd ["pattern"] []) (mF : mg "two_texts" = some (.ref f))
    (mi : mg "int" = none) (mll : mg "list" = none) (mse : mg "set" = none) (mso : mg "sorted" = none) :
    FnOk P w K mg base CX0 (d + 2) f fd ["pattern"] (spTwo (d + 1)) := by
  refine F.ok scTwo (fun vs H Q E h => ?_) (fun cdv A outer s0 H vs Q E0 hr h => ?_)
  · obtain ⟨_, _, rfl, _⟩ := h
    rfl
  obtain ⟨v, p, rfl, rp, wf, hd, h16, q⟩ := h
  refine ⟨_, pss_cons (ps_asg (pv 0) (pg_star1 rfl (pg_name (i := 1) scTwo.nd rfl (.inr rfl)) (pg_name (i := 2) scTwo.nd rfl (.inr rfl))))
    (pss_cons (ps_if (pt_cmpR op_eq (pv 1) pe_str (nomark _)) (pss_one (ps_ret (pe_callTy (call_listS rfl) rfl mll (by decide +kernel) (pa_cons (pe_slice sl_str (pe_ix ix_list (pv 2) pe_int (fun _ _ => rfl)) po_none (po_some pe_int)) pa_nil)))) pss_nil)
    (pss_cons (ps_if (pt_cmpR op_eq (pv 1) pe_str (nomark _)) (pss_one (ps_ret (pe_lst (pa_cons pe_str pa_nil)))) pss_nil)
    (pss_cons (ps_set (i := 3) scTwo.nd rfl (.inl rfl) (pe_call GM hr rfl mF F.kp bF .nil pass0 (pa_cons (pe_ix ix_list (pv 2) pe_int (fun _ _ => rfl)) pa_nil)))
    (pss_cons (ps_if (pt_cmpR op_eq (pv 1) pe_str (nomark _))
      (pss_one (ps_setLc2 (i := 3) (own := [("one", 4), ("other", 5)]) (vs1 := [5]) (g := gName 4) (tt := tYes) (g1 := gName 5) (tt1 := tYes) rfl scTwo.nd rfl rfl rfl (pi_list (pv 3)) (blkOk_by (N := ["pattern", "word", "parts", "some", "one", "other", "text"]) (sc := defScope sTwo) (by decide +kernel)) (by decide) (fun _ _ _ _ _ => pg_name (i := 4) scTwo.nd rfl (Or.inl rfl)) (fun _ _ _ _ _ => pts_nil)
        (fun _ _ _ _ _ => (show PI _ _ _ (iList K _) from pi_list (pe_call GM hr rfl mF F.kp bF .nil pass0 (pa_cons (pe_ix (show IxR _ (rIxL K) from ix_list) (pv 2) pe_int (fun _ _ => rfl)) pa_nil)))) (fun _ _ _ _ _ => pg_name (i := 5) scTwo.nd rfl (Or.inl rfl)) (fun _ _ _ _ _ => pts_nil) (fun _ _ _ _ _ => pe_op op_add_str (pv 4) (pv 5))))
      (pss_one (ps_if (pt_cmpR op_eq (pv 1) pe_str (nomark _))
        (pss_one (ps_set (i := 3) scTwo.nd rfl (.inl rfl) (pe_op op_cat (pv 3) (pe_call GM hr rfl mF F.kp bF .nil pass0 (pa_cons (pe_ix ix_list (pv 2) pe_int (fun _ _ => rfl)) pa_nil)))))
        (pss_one (ps_set (i := 3) scTwo.nd rfl (.inl rfl) (pe_op op_cat (pe_op op_cat (pv 3)
            (pe_lc (own := [("text", 6)]) (g := gName 6) (tt := tTest _) rfl scTwo.nd (pi_list (pv 3)) (blkOk_by (N := ["pattern", "word", "parts", "some", "one", "other", "text"]) (sc := defScope sTwo) (by decide +kernel)) (fun _ _ _ _ _ => pg_name (i := 6) scTwo.nd rfl (Or.inl rfl)) (fun _ _ _ _ _ => pts_one (pt_cmpR op_ne (pv 1) pe_str (nomark _))) (fun _ _ _ _ _ => pe_op op_add_str (pv 6) (pv 6))))
            (pe_op op_rep (pe_lst (pa_cons pe_str pa_nil)) (pe_callTy call_int1 rfl mi (by decide +kernel) (pa_cons (pe_cmpR op_ne (pv 1) pe_str (nomark _)) pa_nil)))))))))
    (pss_one (ps_ret (pe_slice sl_list (pe_callB (cr_sortedTx rfl) rfl mso (by decide +kernel) (pa_cons (pe_callTy (cr_setTx rfl) rfl mse (by decide +kernel) (pa_cons (pv 3) pa_nil)) pa_nil)) po_none (po_some pe_int)))))))), ?_⟩
  obtain ⟨a, vs, rfl, ha, hcase⟩ := rp.open
  have pw : 2 ^ deepP p ≤ 65536 := Nat.pow_le_pow_right (n := 2) (by decide) h16
  have lvs : vs.length ≤ 16000 := by
    rcases hcase with ⟨x, _, rfl⟩ | ⟨_, _, h⟩
    · show 1 ≤ 16000; decide
    · have h1 := Paired.length h
      have h2 : (partsP p).length ≤ 2 := by cases p <;> (show _ ≤ 2) <;> simp [partsP]
      omega
  refine ⟨_, rfl, a, _, vs, rfl, SqT.of ha, lvs, fun D hD => ?_⟩
  have s1 := same_new hD (.lst vs)
  refine ⟨_, rfl, rfl, _, rfl, ?_⟩
  -- sorted(set(some))[:2]
  have fin : ∀ (H2 : Hp) (l : Addr) (raw : List Str), Same H H2 → H2 l = some (.lst (raw.map V.str)) → raw.length ≤ 10 → (∀ y, y ∈ raw → y.length ≤ 2 ^ deepP p) → ((∃ x, only p = some (cd x) ∧ (∀ u, u ∈ raw → u = x) ∧ raw ≠ []) ∨ (only p = none ∧ ∃ u v, u ∈ raw ∧ v ∈ raw ∧ u ≠ v)) →
      rSetTx K P w [.ref l] H2 fun y H3 => rSortedTx P w [y] H3 fun y H4 => ∃ i : Int, V.int 2 = V.int i ∧ rSlL K y none (some i) H4 Q := fun H2 l raw s2 el hl hy hr => by
    refine ⟨l, raw, rfl, SqL.of el, (by unfold scanBound; omega), fun p2 hp2 => ?_⟩
    have s3 := same_new hp2 (SetTx P w p2 (gather [] raw))
    have hg := gather_len raw ([] : List Str)
    rw [List.length_nil, Nat.zero_add] at hg
    refine ⟨p2, gather [] raw, rfl, upd_same, by omega, fun ys p3 pm _ hp3 => ?_⟩
    have s4 := same_new hp3 (.lst (ys.map V.str))
    refine ⟨_, rfl, p3, _, rfl, SqL.of upd_same, fun p4 hp4 => ?_⟩
    have s5 := same_new hp4 (.lst (cutV (ys.map V.str) none (some 2)))
    have e : cutV (ys.map V.str) none (some 2) = (ys.take 2).map V.str := by
      rw [show (some (2 : Int)) = some ((2 : Nat) : Int) from rfl, cut_to, List.map_take]
    have sA := s2.trans (s3.trans s4)
    have hnew : H p4 = none := by
      cases e : H p4 with
      | none => rfl
      | some o => rw [sA _ _ e] at hp4; cases hp4
    rw [e]
    refine q p4 (ys.take 2) _ hnew upd_same (TwoS.of pm hr) (fun y hm => hy y ?_) (sA.trans (same_new hp4 _))
    exact gather_mem.mp (pm.mem_iff.mp (List.mem_of_mem_take hm))
  cases p with
  | sg x =>
    obtain ⟨x', e, rfl⟩ : ∃ x', Pat.sg x = .sg x' ∧ vs = [.str x'] := hcase.elim id fun h => absurd rfl h.1
    injection e with e
    subst e
    obtain ⟨w1, w2, w3⟩ := wf
    refine itE (by show decide (("signs" : Str) = "signs") = true; decide +kernel) ?_
    have lx := rising_few w2 w3
    refine ⟨_, rfl, D, _, _, _, rfl, rfl, SqL.of upd_same, at_zero, _, rfl, x, rfl, by rw [sizeLine_eq]; omega, ?_⟩
    have hcut : cutS x none (some 2) = ⟨((cd x).take 2).toArray⟩ := cutS_to x
    rw [hcut]
    have hl2 : (⟨((cd x).take 2).toArray⟩ : Str).length = ((cd x).take 2).length := List.size_toArray ..
    refine ⟨_, rfl, by rw [hl2, List.length_take, sizeLine_eq]; omega, fun l hl => ?_⟩
    have hlH : H l = none := by
      cases e : H l with
      | none => rfl
      | some o => rw [s1 _ _ e] at hl; cases hl
    have es : signsV ⟨((cd x).take 2).toArray⟩ = (((cd x).take 2).map fun c => (⟨#[c]⟩ : Str)).map V.str := by
      unfold signsV
      rw [List.map_map]; rfl
    rw [es]
    refine q l _ _ hlH upd_same ?_ (fun y hy => ?_) (s1.trans (same_new hl _))
    · obtain ⟨c, t, ec⟩ : ∃ c l, cd x = c :: l := by
        cases e : cd x with
        | nil => exact absurd e w1
        | cons c l => exact ⟨c, l, rfl⟩
      cases t with
      | nil =>
        refine .inl ⟨x, only_sg (by rw [ec]; rfl), ?_⟩
        have : x = ⟨#[c]⟩ := cd_inj ec
        rw [ec, this]; rfl
      | cons c2 t =>
        refine .inr ⟨only_sg_no (by rw [ec, List.length_cons, List.length_cons]; omega), ?_, ?_⟩
        · rw [ec]; rfl
        · rw [ec]
          have w2' : (cd x).Pairwise (· < ·) := w2
          rw [ec] at w2'
          have := (List.pairwise_cons.mp w2').1 c2 List.mem_cons_self
          show [(⟨#[c]⟩ : Str), ⟨#[c2]⟩].Nodup
          refine List.nodup_cons.mpr ⟨fun h => ?_, by simp⟩
          have h := congrArg cd (List.mem_singleton.mp h)
          have h' : [c] = [c2] := h
          injection h' with h'
          omega
    · obtain ⟨c, _, rfl⟩ := List.mem_map.mp hy
      show 1 ≤ 2 ^ 1
      decide
  | em =>
    refine itW (by show decide (("empty" : Str) = "signs") = false; decide +kernel) ?_
    refine ⟨_, rfl, rfl, _, rfl, itE (by show decide (("empty" : Str) = "empty") = true; decide +kernel) ?_⟩
    refine ⟨(by show 1 ≤ sizeLine; decide), fun l hl => ?_⟩
    have hlH : H l = none := by
      cases e : H l with
      | none => rfl
      | some o => rw [s1 _ _ e] at hl; cases hl
    exact q l [""] _ hlH upd_same (.inl ⟨"", rfl, rfl⟩) (fun y hy => by rw [List.mem_singleton.mp hy]; exact Nat.zero_le _) (s1.trans (same_new hl _))
  | th p1 p2 =>
    obtain ⟨h1, h2, h3⟩ : wordP (.th p1 p2) ≠ "signs" ∧ signsP (.th p1 p2) = Str.empty ∧ RPs H vs [p1, p2] := hcase.resolve_left fun ⟨_, e, _⟩ => by cases e
    obtain ⟨v1, v2, rfl, r1, r2⟩ := two_parts h3
    have hd1 : deepP p1 ≤ d ∧ deepP p2 ≤ d ∧ deepP p1 ≤ 16 ∧ deepP p2 ≤ 16 := by unfold deepP at hd h16; omega
    have e1 := Nat.pow_le_pow_right (n := 2) (by decide) (Nat.le_max_left (deepP p1) (deepP p2))
    have e2 := Nat.pow_le_pow_right (n := 2) (by decide) (Nat.le_max_right (deepP p1) (deepP p2))
    have e3 : 2 ^ deepP (.th p1 p2) = 2 ^ max (deepP p1) (deepP p2) * 2 := Nat.pow_succ ..
    refine itW (by show decide (("then" : Str) = "signs") = false; decide +kernel) ?_
    refine ⟨_, rfl, rfl, _, rfl, itW (by show decide (("then" : Str) = "empty") = false; decide +kernel) ?_⟩
    refine ⟨_, rfl, D, _, _, _, rfl, rfl, SqL.of upd_same, at_zero, v1, p1, rfl, r1.tk (Tk.of_same s1), wf.1, hd1.1, hd1.2.2.1, fun l1 us H2 nl1 el1 t1 b1 s2 => ?_⟩
    refine ⟨_, rfl, rfl, _, rfl, itE (by show decide (("then" : Str) = "then") = true; decide +kernel) ?_⟩
    refine ⟨_, rfl, l1, rfl, ⟨_, SqL.of el1⟩, fun L hL => ?_⟩
    have sA := s1.trans s2
    have sL := same_new hL (.lst [])
    have hLH : H L = none := by
      cases e : H L with
      | none => rfl
      | some o => rw [sA _ _ e] at hL; cases hL
    have ne1 : l1 ≠ L := fun e => by rw [e, hL] at el1; cases el1
    have neD : D ≠ L := fun e => by rw [← e, s2 _ _ upd_same] at hL; cases hL
    refine lc2_outer (K := K) (xs := us.map V.str) (fun _ => rfl) (fun i H' => ∃ acc : List Str, H' L = some (.lst (acc.map V.str)) ∧ H' l1 = some (.lst (us.map V.str)) ∧ H' D = some (.lst [v1, v2]) ∧ Same H H' ∧ acc.length ≤ 2 * i ∧ (∀ y, y ∈ acc → y.length ≤ 2 ^ deepP (.th p1 p2)) ∧
        (∀ y : Str, only p2 = some (cd y) → acc = (us.take i).map (· ++ y)) ∧ (only p2 = none → 1 ≤ i → ∃ a b, a ∈ acc ∧ b ∈ acc ∧ a ≠ b))
      ⟨[], upd_same, sL _ _ el1, sL _ _ (s2 _ _ upd_same), sA.trans sL, Nat.zero_le _, (fun _ h => by cases h), (fun _ _ => rfl), (fun _ h => by omega)⟩ (fun i H' h => by obtain ⟨_, _, h, _⟩ := h; exact SqL.of h) (fun i xv H' hxi pv' => ?turn) (fun H' pv' => ?done)
    case done =>
      obtain ⟨acc, eL, _, _, sS, la, ly, c1, c2⟩ := pv'
      have hus := t1.few
      rw [List.length_map] at la c2
      rw [List.length_map, List.take_length] at c1
      refine ⟨_, rfl, fin H' L acc sS eL (by omega) ly ?_⟩
      cases ho2 : only p2 with
      | none => exact .inr ⟨only_th_no (.inr ho2), c2 ho2 hus.1⟩
      | some y' =>
        have ey : y' = cd ⟨y'.toArray⟩ := rfl
        rw [ey] at ho2
        have ca := c1 _ ho2
        cases ho1 : only p1 with
        | none =>
          obtain ⟨u, v, rfl, ne⟩ := t1.two ho1
          refine .inr ⟨only_th_no (.inl ho1), u ++ ⟨y'.toArray⟩, v ++ ⟨y'.toArray⟩, by rw [ca]; simp, by rw [ca]; simp, fun e => ne (cd_inj ?_)⟩
          have := congrArg cd e
          rw [cd_app, cd_app] at this
          exact List.append_cancel_right this
        | some x' =>
          obtain ⟨x, rfl, rfl⟩ := t1.one ho1
          refine .inl ⟨x ++ ⟨y'.toArray⟩, by rw [only_th ho1 ho2, cd_app], fun u hu => ?_, by rw [ca]; simp⟩
          rw [ca] at hu
          simpa using hu
    case turn =>
      obtain ⟨acc, eL, el, eD, sS, la, ly, c1, c2⟩ := pv'
      rw [List.getElem?_map] at hxi
      obtain ⟨u, hu, rfl⟩ : ∃ u, us[i]? = some u ∧ V.str u = xv := by
        cases e : us[i]? with
        | none => rw [e] at hxi; cases hxi
        | some k => rw [e] at hxi; exact ⟨k, rfl, Option.some.inj hxi⟩
      have lu := b1 u (List.mem_of_getElem? hu)
      refine ⟨_, rfl, D, _, _, _, rfl, rfl, SqL.of eD, at_one, v2, p2, rfl, r2.tk (Tk.of_same sS), wf.2, hd1.2.1, hd1.2.2.2, fun l3 zs H3 nl3 el3 t3 b3 s3 => ⟨l3, rfl, ⟨_, SqL.of el3⟩, ?_⟩⟩
      have eL3 := s3 _ _ eL
      have ne3 : l3 ≠ L := fun e => by rw [e, eL] at nl3; cases nl3
      have hi2 : i < us.length := (List.getElem?_eq_some_iff.mp hu).1
      have hus := t1.few
      have hzs := t3.few
      refine lc2_inner (fun z => match z with | .str z => V.str (u ++ z) | z => z) (fun _ => rfl) (fun z hz H Q h => ?_) el3 eL3 ne3 (by rw [List.length_map, List.length_map, sizeLine_eq]; omega) ⟨acc ++ zs.map (u ++ ·), ?_, ?_, ?_, same_upd (sS.trans s3) hLH, ?_, fun y hy => ?_, fun y hy => ?_, fun hn _ => ?_⟩
      · obtain ⟨z', hz', rfl⟩ := List.mem_map.mp hz
        have := b3 z' hz'
        exact ⟨_, rfl, _, rfl, u, z', rfl, rfl, by rw [sizeLine_eq]; omega, h⟩
      · rw [upd_same, List.map_append, List.map_map, List.map_map]; rfl
      · rw [upd_ne ne1]; exact s3 _ _ el
      · rw [upd_ne neD]; exact s3 _ _ eD
      · rw [List.length_append, List.length_map]; omega
      · rcases List.mem_append.mp hy with hy | hy
        · exact ly y hy
        · obtain ⟨z, hz, rfl⟩ := List.mem_map.mp hy
          have h1 := b3 z hz
          have h2 : (u ++ z).length = u.length + z.length := app_len u z
          rw [h2, e3]; omega
      · obtain ⟨y2, ey, rfl⟩ := t3.one hy
        have := cd_inj ey
        subst this
        rw [c1 _ hy, List.take_add_one, hu, List.map_append]
        rfl
      · obtain ⟨a, b, rfl, ne⟩ := t3.two hn
        refine ⟨u ++ a, u ++ b, by simp, by simp, fun e => ne (cd_inj ?_)⟩
        have := congrArg cd e
        rw [cd_app, cd_app] at this
        exact List.append_cancel_left this
  | oo p1 p2 =>
    obtain ⟨h1, h2, h3⟩ : wordP (.oo p1 p2) ≠ "signs" ∧ signsP (.oo p1 p2) = Str.empty ∧ RPs H vs [p1, p2] := hcase.resolve_left fun ⟨_, e, _⟩ => by cases e
    obtain ⟨v1, v2, rfl, r1, r2⟩ := two_parts h3
    have hd1 : deepP p1 ≤ d ∧ deepP p2 ≤ d ∧ deepP p1 ≤ 16 ∧ deepP p2 ≤ 16 := by unfold deepP at hd h16; omega
    have e1 := Nat.pow_le_pow_right (n := 2) (by decide) (Nat.le_max_left (deepP p1) (deepP p2))
    have e2 := Nat.pow_le_pow_right (n := 2) (by decide) (Nat.le_max_right (deepP p1) (deepP p2))
    have e3 : 2 ^ deepP (.oo p1 p2) = 2 ^ max (deepP p1) (deepP p2) * 2 := Nat.pow_succ ..
    refine itW (by show decide (("or" : Str) = "signs") = false; decide +kernel) ?_
    refine ⟨_, rfl, rfl, _, rfl, itW (by show decide (("or" : Str) = "empty") = false; decide +kernel) ?_⟩
    refine ⟨_, rfl, D, _, _, _, rfl, rfl, SqL.of upd_same, at_zero, v1, p1, rfl, r1.tk (Tk.of_same s1), wf.1, hd1.1, hd1.2.2.1, fun l1 us H2 nl1 el1 t1 b1 s2 => ?_⟩
    refine ⟨_, rfl, rfl, _, rfl, itW (by show decide (("or" : Str) = "then") = false; decide +kernel) ?_⟩
    refine ⟨_, rfl, rfl, _, rfl, itE (by show decide (("or" : Str) = "or") = true; decide +kernel) ?_⟩
    refine ⟨_, rfl, _, rfl, D, _, _, _, rfl, rfl, SqL.of (s2 _ _ upd_same), at_one, v2, p2, rfl, r2.tk (Tk.of_same (s1.trans s2)), wf.2, hd1.2.1, hd1.2.2.2, fun l3 zs H3 nl3 el3 t3 b3 s3 => ?_⟩
    have f1 := t1.few
    have f3 := t3.few
    refine ⟨l1, l3, _, _, rfl, rfl, s3 _ _ el1, el3, by rw [List.length_map, List.length_map, sizeLine_eq]; omega, fun l4 hl4 => ?_⟩
    have s4 := same_new hl4 (.lst (us.map V.str ++ zs.map V.str))
    refine ⟨_, rfl, fin _ l4 (us ++ zs) ((s1.trans s2).trans (s3.trans s4)) (by rw [upd_same, List.map_append]) (by rw [List.length_append]; omega) (fun y hy => ?_) ?_⟩
    · rcases List.mem_append.mp hy with hy | hy
      · have := b1 y hy; omega
      · have := b3 y hy; omega
    · by_cases c : only p1 = only p2
      · cases ho : only p1 with
        | none =>
          obtain ⟨u, v, e, ne⟩ := t1.two ho
          exact .inr ⟨by rw [only_oo c, ho], u, v, by rw [e]; simp, by rw [e]; simp, ne⟩
        | some l =>
          obtain ⟨x, rfl, rfl⟩ := t1.one ho
          obtain ⟨x2, ex, rfl⟩ := t3.one (c ▸ ho)
          have := cd_inj ex
          subst this
          exact .inl ⟨x, by rw [only_oo c, ho], fun u hu => by simpa using hu, by simp⟩
      · refine .inr ⟨only_oo_no c, ?_⟩
        cases ho : only p1 with
        | none =>
          obtain ⟨u, v, e, ne⟩ := t1.two ho
          exact ⟨u, v, by rw [e]; simp, by rw [e]; simp, ne⟩
        | some l =>
          obtain ⟨x, rfl, rfl⟩ := t1.one ho
          cases ho2 : only p2 with
          | none =>
            obtain ⟨u, v, e, ne⟩ := t3.two ho2
            exact ⟨u, v, by rw [e]; simp, by rw [e]; simp, ne⟩
          | some l =>
            obtain ⟨x2, rfl, rfl⟩ := t3.one ho2
            exact ⟨x, x2, by simp, by simp, fun e => c (by rw [ho, ho2, e])⟩
  | mb p1 =>
    obtain ⟨h1, h2, h3⟩ : wordP (.mb p1) ≠ "signs" ∧ signsP (.mb p1) = Str.empty ∧ RPs H vs [p1] := hcase.resolve_left fun ⟨_, e, _⟩ => by cases e
    obtain ⟨v1, rfl, r1⟩ := one_part h3
    have hd1 : deepP p1 ≤ d ∧ deepP p1 ≤ 16 := by unfold deepP at hd h16; omega
    have e3 : 2 ^ deepP (.mb p1) = 2 ^ deepP p1 * 2 := Nat.pow_succ ..
    refine itW (by show decide (("maybe" : Str) = "signs") = false; decide +kernel) ?_
    refine ⟨_, rfl, rfl, _, rfl, itW (by show decide (("maybe" : Str) = "empty") = false; decide +kernel) ?_⟩
    refine ⟨_, rfl, D, _, _, _, rfl, rfl, SqL.of upd_same, at_zero, v1, p1, rfl, r1.tk (Tk.of_same s1), wf, hd1.1, hd1.2, fun l1 us H2 nl1 el1 t1 b1 s2 => ?_⟩
    have f1 := t1.few
    refine ⟨_, rfl, rfl, _, rfl, itW (by show decide (("maybe" : Str) = "then") = false; decide +kernel) ?_⟩
    refine ⟨_, rfl, rfl, _, rfl, itW (by show decide (("maybe" : Str) = "or") = false; decide +kernel) ?_⟩
    refine ⟨_, rfl, _, rfl, l1, rfl, ⟨_, SqL.of el1⟩, fun L hL => ?_⟩
    have sA := s1.trans s2
    have sL := same_new hL (.lst [])
    have hLH : H L = none := by
      cases e : H L with
      | none => rfl
      | some o => rw [sA _ _ e] at hL; cases hL
    have ne1 : l1 ≠ L := fun e => by rw [e, hL] at el1; cases el1
    refine lc_list (K := K) (xs := us.map V.str) (fun i H' => H' L = some (.lst ((if (false : Bool) = true then (us.take i).map (fun u : Str => u ++ u) else []).map V.str)) ∧ H' l1 = some (.lst (us.map V.str)) ∧ Same H H') ⟨upd_same, sL _ _ el1, sA.trans sL⟩ (fun i H' _ h => SqL.of h.2.1) (fun i xv H' hxi pv' => ?turnmb) (fun H' pv' => ?donemb)
    case turnmb =>
      obtain ⟨eL, el, sS⟩ := pv'
      rw [List.getElem?_map] at hxi
      obtain ⟨u, hu, rfl⟩ : ∃ u, us[i]? = some u ∧ V.str u = xv := by
        cases e : us[i]? with
        | none => rw [e] at hxi; cases hxi
        | some k => rw [e] at hxi; exact ⟨k, rfl, Option.some.inj hxi⟩
      have lu := b1 u (List.mem_of_getElem? hu)
      refine ⟨rfl, _, rfl, rfl, _, rfl, itNE (by show decide (("maybe" : Str) = "maybe") = true; decide +kernel) ?_⟩
      exact ⟨eL, el, sS⟩
    case donemb =>
      obtain ⟨eL, el, sS⟩ := pv'
      rw [List.length_map, List.take_length] at eL
      refine ⟨l1, L, _, _, rfl, rfl, el, eL, by rw [List.length_map, List.length_map, sizeLine_eq]; simp; omega, fun p4 hp4 => ?_⟩
      have s4 := same_new hp4 (.lst (us.map V.str ++ (if (false : Bool) = true then us.map (fun u : Str => u ++ u) else []).map V.str))
      refine ⟨(by show 1 ≤ sizeLine; decide), fun p5 hp5 => ⟨_, rfl, rfl, .inr ⟨_, rfl, ?_⟩⟩⟩
      have s5 := same_new hp5 (.lst [.str ""])
      rw [dec_str, show decide (wordP (.mb p1) = "more") = false from (by show decide (("maybe" : Str) = "more") = false; decide +kernel)]
      refine ⟨p5, _, _, rfl, rfl, upd_same, (by decide), (by decide), (by show _ ≤ sizeLine; rw [sizeLine_eq]; decide), fun p6 hp6 => ?_⟩
      have s6 := same_new hp6 (.lst ((if (true : Bool) = true then [("" : Str)] else []).map V.str))
      refine ⟨p4, p6, us.map V.str ++ (if (false : Bool) = true then us.map (fun u : Str => u ++ u) else []).map V.str, (if (true : Bool) = true then [("" : Str)] else []).map V.str, rfl, rfl, s6 _ _ (s5 _ _ upd_same), upd_same, by rw [List.length_append, List.length_map, List.length_map, List.length_map, sizeLine_eq]; simp; omega, fun p7 hp7 => ?_⟩
      have s7 := same_new hp7 (.lst ((us.map V.str ++ (if (false : Bool) = true then us.map (fun u : Str => u ++ u) else []).map V.str) ++ (if (true : Bool) = true then [("" : Str)] else []).map V.str))
      refine ⟨_, rfl, fin _ p7 (rawOf false true us) (sS.trans (s4.trans (s5.trans (s6.trans s7)))) (by rw [upd_same]; unfold rawOf; rw [List.map_append, List.map_append]) (by unfold rawOf; rw [List.length_append, List.length_append]; simp; omega) (fun y hy => by rw [e3]; exact raw_len b1 y hy) ?_⟩
      rcases t1.more false true (.inr rfl) with ⟨g1, g2, g3⟩ | ⟨g1, g2⟩
      · exact .inl ⟨"", (only_mo g1).2.2, g2, g3⟩
      · exact .inr ⟨(only_mo_no g1).2.2, g2⟩
  | ag p1 =>
    obtain ⟨h1, h2, h3⟩ : wordP (.ag p1) ≠ "signs" ∧ signsP (.ag p1) = Str.empty ∧ RPs H vs [p1] := hcase.resolve_left fun ⟨_, e, _⟩ => by cases e
    obtain ⟨v1, rfl, r1⟩ := one_part h3
    have hd1 : deepP p1 ≤ d ∧ deepP p1 ≤ 16 := by unfold deepP at hd h16; omega
    have e3 : 2 ^ deepP (.ag p1) = 2 ^ deepP p1 * 2 := Nat.pow_succ ..
    refine itW (by show decide (("again" : Str) = "signs") = false; decide +kernel) ?_
    refine ⟨_, rfl, rfl, _, rfl, itW (by show decide (("again" : Str) = "empty") = false; decide +kernel) ?_⟩
    refine ⟨_, rfl, D, _, _, _, rfl, rfl, SqL.of upd_same, at_zero, v1, p1, rfl, r1.tk (Tk.of_same s1), wf, hd1.1, hd1.2, fun l1 us H2 nl1 el1 t1 b1 s2 => ?_⟩
    have f1 := t1.few
    refine ⟨_, rfl, rfl, _, rfl, itW (by show decide (("again" : Str) = "then") = false; decide +kernel) ?_⟩
    refine ⟨_, rfl, rfl, _, rfl, itW (by show decide (("again" : Str) = "or") = false; decide +kernel) ?_⟩
    refine ⟨_, rfl, _, rfl, l1, rfl, ⟨_, SqL.of el1⟩, fun L hL => ?_⟩
    have sA := s1.trans s2
    have sL := same_new hL (.lst [])
    have hLH : H L = none := by
      cases e : H L with
      | none => rfl
      | some o => rw [sA _ _ e] at hL; cases hL
    have ne1 : l1 ≠ L := fun e => by rw [e, hL] at el1; cases el1
    refine lc_list (K := K) (xs := us.map V.str) (fun i H' => H' L = some (.lst ((if (true : Bool) = true then (us.take i).map (fun u : Str => u ++ u) else []).map V.str)) ∧ H' l1 = some (.lst (us.map V.str)) ∧ Same H H') ⟨upd_same, sL _ _ el1, sA.trans sL⟩ (fun i H' _ h => SqL.of h.2.1) (fun i xv H' hxi pv' => ?turnag) (fun H' pv' => ?doneag)
    case turnag =>
      obtain ⟨eL, el, sS⟩ := pv'
      rw [List.getElem?_map] at hxi
      obtain ⟨u, hu, rfl⟩ : ∃ u, us[i]? = some u ∧ V.str u = xv := by
        cases e : us[i]? with
        | none => rw [e] at hxi; cases hxi
        | some k => rw [e] at hxi; exact ⟨k, rfl, Option.some.inj hxi⟩
      have lu := b1 u (List.mem_of_getElem? hu)
      refine ⟨rfl, _, rfl, rfl, _, rfl, itNW (by show decide (("again" : Str) = "maybe") = false; decide +kernel) ?_⟩
      refine ⟨_, rfl, _, rfl, u, u, rfl, rfl, by have := pow_small hd1.2 lu; rw [sizeLine_eq]; omega, _, eL, ?_, ?_, ?_, same_upd sS hLH⟩
      · rw [if_pos rfl, List.length_map, List.length_map, List.length_take, sizeLine_eq]; omega
      · rw [upd_same, if_pos rfl, if_pos rfl, List.take_add_one, hu, List.map_append, List.map_append]
        rfl
      · rw [upd_ne ne1]; exact el
    case doneag =>
      obtain ⟨eL, el, sS⟩ := pv'
      rw [List.length_map, List.take_length] at eL
      refine ⟨l1, L, _, _, rfl, rfl, el, eL, by rw [List.length_map, List.length_map, sizeLine_eq]; simp; omega, fun p4 hp4 => ?_⟩
      have s4 := same_new hp4 (.lst (us.map V.str ++ (if (true : Bool) = true then us.map (fun u : Str => u ++ u) else []).map V.str))
      refine ⟨(by show 1 ≤ sizeLine; decide), fun p5 hp5 => ⟨_, rfl, rfl, .inr ⟨_, rfl, ?_⟩⟩⟩
      have s5 := same_new hp5 (.lst [.str ""])
      rw [dec_str, show decide (wordP (.ag p1) = "more") = false from (by show decide (("again" : Str) = "more") = false; decide +kernel)]
      refine ⟨p5, _, _, rfl, rfl, upd_same, (by decide), (by decide), (by show _ ≤ sizeLine; rw [sizeLine_eq]; decide), fun p6 hp6 => ?_⟩
      have s6 := same_new hp6 (.lst ((if (true : Bool) = true then [("" : Str)] else []).map V.str))
      refine ⟨p4, p6, us.map V.str ++ (if (true : Bool) = true then us.map (fun u : Str => u ++ u) else []).map V.str, (if (true : Bool) = true then [("" : Str)] else []).map V.str, rfl, rfl, s6 _ _ (s5 _ _ upd_same), upd_same, by rw [List.length_append, List.length_map, List.length_map, List.length_map, sizeLine_eq]; simp; omega, fun p7 hp7 => ?_⟩
      have s7 := same_new hp7 (.lst ((us.map V.str ++ (if (true : Bool) = true then us.map (fun u : Str => u ++ u) else []).map V.str) ++ (if (true : Bool) = true then [("" : Str)] else []).map V.str))
      refine ⟨_, rfl, fin _ p7 (rawOf true true us) (sS.trans (s4.trans (s5.trans (s6.trans s7)))) (by rw [upd_same]; unfold rawOf; rw [List.map_append, List.map_append]) (by unfold rawOf; rw [List.length_append, List.length_append]; simp; omega) (fun y hy => by rw [e3]; exact raw_len b1 y hy) ?_⟩
      rcases t1.more true true (.inl rfl) with ⟨g1, g2, g3⟩ | ⟨g1, g2⟩
      · exact .inl ⟨"", (only_mo g1).2.1, g2, g3⟩
      · exact .inr ⟨(only_mo_no g1).2.1, g2⟩
  | mo p1 =>
    obtain ⟨h1, h2, h3⟩ : wordP (.mo p1) ≠ "signs" ∧ signsP (.mo p1) = Str.empty ∧ RPs H vs [p1] := hcase.resolve_left fun ⟨_, e, _⟩ => by cases e
    obtain ⟨v1, rfl, r1⟩ := one_part h3
    have hd1 : deepP p1 ≤ d ∧ deepP p1 ≤ 16 := by unfold deepP at hd h16; omega
    have e3 : 2 ^ deepP (.mo p1) = 2 ^ deepP p1 * 2 := Nat.pow_succ ..
    refine itW (by show decide (("more" : Str) = "signs") = false; decide +kernel) ?_
    refine ⟨_, rfl, rfl, _, rfl, itW (by show decide (("more" : Str) = "empty") = false; decide +kernel) ?_⟩
    refine ⟨_, rfl, D, _, _, _, rfl, rfl, SqL.of upd_same, at_zero, v1, p1, rfl, r1.tk (Tk.of_same s1), wf, hd1.1, hd1.2, fun l1 us H2 nl1 el1 t1 b1 s2 => ?_⟩
    have f1 := t1.few
    refine ⟨_, rfl, rfl, _, rfl, itW (by show decide (("more" : Str) = "then") = false; decide +kernel) ?_⟩
    refine ⟨_, rfl, rfl, _, rfl, itW (by show decide (("more" : Str) = "or") = false; decide +kernel) ?_⟩
    refine ⟨_, rfl, _, rfl, l1, rfl, ⟨_, SqL.of el1⟩, fun L hL => ?_⟩
    have sA := s1.trans s2
    have sL := same_new hL (.lst [])
    have hLH : H L = none := by
      cases e : H L with
      | none => rfl
      | some o => rw [sA _ _ e] at hL; cases hL
    have ne1 : l1 ≠ L := fun e => by rw [e, hL] at el1; cases el1
    refine lc_list (K := K) (xs := us.map V.str) (fun i H' => H' L = some (.lst ((if (true : Bool) = true then (us.take i).map (fun u : Str => u ++ u) else []).map V.str)) ∧ H' l1 = some (.lst (us.map V.str)) ∧ Same H H') ⟨upd_same, sL _ _ el1, sA.trans sL⟩ (fun i H' _ h => SqL.of h.2.1) (fun i xv H' hxi pv' => ?turnmo) (fun H' pv' => ?donemo)
    case turnmo =>
      obtain ⟨eL, el, sS⟩ := pv'
      rw [List.getElem?_map] at hxi
      obtain ⟨u, hu, rfl⟩ : ∃ u, us[i]? = some u ∧ V.str u = xv := by
        cases e : us[i]? with
        | none => rw [e] at hxi; cases hxi
        | some k => rw [e] at hxi; exact ⟨k, rfl, Option.some.inj hxi⟩
      have lu := b1 u (List.mem_of_getElem? hu)
      refine ⟨rfl, _, rfl, rfl, _, rfl, itNW (by show decide (("more" : Str) = "maybe") = false; decide +kernel) ?_⟩
      refine ⟨_, rfl, _, rfl, u, u, rfl, rfl, by have := pow_small hd1.2 lu; rw [sizeLine_eq]; omega, _, eL, ?_, ?_, ?_, same_upd sS hLH⟩
      · rw [if_pos rfl, List.length_map, List.length_map, List.length_take, sizeLine_eq]; omega
      · rw [upd_same, if_pos rfl, if_pos rfl, List.take_add_one, hu, List.map_append, List.map_append]
        rfl
      · rw [upd_ne ne1]; exact el
    case donemo =>
      obtain ⟨eL, el, sS⟩ := pv'
      rw [List.length_map, List.take_length] at eL
      refine ⟨l1, L, _, _, rfl, rfl, el, eL, by rw [List.length_map, List.length_map, sizeLine_eq]; simp; omega, fun p4 hp4 => ?_⟩
      have s4 := same_new hp4 (.lst (us.map V.str ++ (if (true : Bool) = true then us.map (fun u : Str => u ++ u) else []).map V.str))
      refine ⟨(by show 1 ≤ sizeLine; decide), fun p5 hp5 => ⟨_, rfl, rfl, .inr ⟨_, rfl, ?_⟩⟩⟩
      have s5 := same_new hp5 (.lst [.str ""])
      rw [dec_str, show decide (wordP (.mo p1) = "more") = true from (by show decide (("more" : Str) = "more") = true; decide +kernel)]
      refine ⟨p5, _, _, rfl, rfl, upd_same, (by decide), (by decide), (by show _ ≤ sizeLine; rw [sizeLine_eq]; decide), fun p6 hp6 => ?_⟩
      have s6 := same_new hp6 (.lst ((if (false : Bool) = true then [("" : Str)] else []).map V.str))
      refine ⟨p4, p6, us.map V.str ++ (if (true : Bool) = true then us.map (fun u : Str => u ++ u) else []).map V.str, (if (false : Bool) = true then [("" : Str)] else []).map V.str, rfl, rfl, s6 _ _ (s5 _ _ upd_same), upd_same, by rw [List.length_append, List.length_map, List.length_map, List.length_map, sizeLine_eq]; simp; omega, fun p7 hp7 => ?_⟩
      have s7 := same_new hp7 (.lst ((us.map V.str ++ (if (true : Bool) = true then us.map (fun u : Str => u ++ u) else []).map V.str) ++ (if (false : Bool) = true then [("" : Str)] else []).map V.str))
      refine ⟨_, rfl, fin _ p7 (rawOf true false us) (sS.trans (s4.trans (s5.trans (s6.trans s7)))) (by rw [upd_same]; unfold rawOf; rw [List.map_append, List.map_append]) (by unfold rawOf; rw [List.length_append, List.length_append]; simp; omega) (fun y hy => by rw [e3]; exact raw_len b1 y hy) ?_⟩
      rcases t1.more true false (.inl rfl) with ⟨g1, g2, g3⟩ | ⟨g1, g2⟩
      · exact .inl ⟨"", (only_mo g1).1, g2, g3⟩
      · exact .inr ⟨(only_mo_no g1).1, g2⟩
end
end Pa
set_option maxHeartbeats 4000000
namespace Pa
open PySem PySem.Spec PyProof.Rows L2 Ty Se
def spOnly (d : Nat) : Sp := fun vs H Q _ => ∃ (v : V) (p : Pat), vs = [v] ∧ RP H p v ∧ Wf p ∧ deepP p ≤ d ∧ deepP p ≤ 16 ∧ ∀ (u : Option Str) H', u.map cd = only p → oLen u ≤ 65536 → Same H H' → Q (oV u) H'
theorem scOnly : FnScope ["pattern", "some"] ["pattern"] (defScope sOnly) := ⟨rfl, rfl, rfl, by decide +kernel, rfl, by decide +kernel, by decide +kernel⟩
section
variable {P : Program} {w : World} {K : PySem.W.Frag} {mg : Str → Option Value} {base : Heap} {f g : Addr} {fd gd : FuncData}
theorem ok_only {d : Nat} (F : Fun K "only_text" "only_text" sOnly f fd) (G : FnOk P w K mg base CX0 (d + 1) g gd ["pattern"] (spTwo d)) (bG : Binds K gd ["pattern"] []) (kG : PySem.W.keepIn K (.ref g) = true) (mG : mg "two_texts" = some (.ref g)) (ml : mg "len" = none) :
    FnOk P w K mg base CX0 (d + 2) f fd ["pattern"] (spOnly d) := by
  refine F.ok scOnly (fun vs H Q E h => ?_) (fun cdv A outer s0 H vs Q E0 hr h => ?_)
  · obtain ⟨_, _, rfl, _⟩ := h
    rfl
  obtain ⟨v, p, rfl, rp, wf, hd, h16, q⟩ := h
  refine ⟨_, pss_cons (ps_set (i := 1) scOnly.nd rfl (.inl rfl) (pe_call G hr rfl mG kG bG .nil pass0 (pa_cons (pv 0) pa_nil)))
    (pss_one (ps_ret (pe_ifExp (pt_cmpR op_eq (pe_callB call_len_seq rfl ml PySem.boot_len (pa_cons (pv 1) pa_nil)) pe_int (nomark _)) (pe_ix ix_list (pv 1) pe_int (fun _ _ => rfl)) pe_non))), ?_⟩
  refine ⟨_, rfl, v, p, rfl, rp, wf, hd, h16, fun l ys H' nl el t b s1 => ?_⟩
  refine ⟨_, rfl, l, _, rfl, .inl (SqL.of el), rfl, _, rfl, ?_⟩
  rw [dec_int, List.length_map]
  rcases t with ⟨x, h1, rfl⟩ | ⟨h1, h2, h3⟩
  · refine iteT ?_
    exact ⟨_, rfl, l, _, _, _, rfl, rfl, SqL.of el, at_zero, q (some x) H' h1.symm (pow_small h16 (b x (List.mem_singleton_self _))) s1⟩
  · rw [h2]
    refine iteF ?_
    exact q none H' h1.symm (Nat.zero_le _) s1
end
end Pa
set_option maxHeartbeats 4000000
namespace Pa
open PySem PySem.Spec PyProof.Rows L2 Ty Se
/-! ### the law's draws -/
def allSigns : List Nat := 10 :: (List.range' 32 5 ++ List.range' 38 89)
def allS : Str := ⟨allSigns.toArray⟩
theorem allS_low : ∀ c, c ∈ allSigns → c < 128 := by decide +kernel
theorem allS_len : allS.length = 95 := rfl
def spAll : Sp := fun vs H Q _ => vs = [] ∧ Q (.str allS) H
/-- a text to draw signs from -/
structure Plain (x : Str) : Prop where
  one : 1 ≤ x.length
  few : x.length ≤ 200
  low : ∀ c, c ∈ x.cps.toList → c < 128
theorem plain_all : Plain allS := ⟨by decide, by decide, fun c h => allS_low c h⟩
/-- how many signs it names -/
def manyP : Pat → Nat
  | .sg x => x.length
  | .em => 0
  | .th a b => manyP a + manyP b
  | .oo a b => manyP a + manyP b
  | .ag a => manyP a
  | .mo a => manyP a
  | .mb a => manyP a
def Drawn (j : Addr) (H : Hp) (C D S M : Nat) (Q : VK) : Prop := ∀ (v : V) (p : Pat) (H' : Hp), RP H' p v → Wf p → deepP p ≤ D → sizeP p ≤ S → manyP p ≤ M → Jar j H' C → Keep j H H' → Q v H'
def spOf : Sp := fun vs H Q _ => ∃ (j : Addr) (C : Nat) (x : Str), vs = [.ref j, .str x] ∧ Jar j H C ∧ C ≤ 999999000 ∧ Plain x ∧ Drawn j H (C + 5) 1 1 3 Q
theorem scOf : FnScope ["jar", "plain", "pool", "some", "k"] ["jar", "plain"] (defScope sOf) := ⟨rfl, rfl, rfl, by decide +kernel, rfl, by decide +kernel, by decide +kernel⟩
theorem lt_one (a b : Nat) : ltCps [a] [b] = decide (a < b) := by
  show (decide (a < b) || (a == b && false)) = _
  rw [Bool.and_false, Bool.or_false]
theorem rise_codes : ∀ (l : List Nat) (c : Nat), risingS ⟨#[c]⟩ (l.map fun c => (⟨#[c]⟩ : Str)) = true → (c :: l).Pairwise (· ≤ ·)
  | [], c, _ => by simp
  | d :: l, c, h => by
    have h' : (!ltCps [d] [c] && risingS ⟨#[d]⟩ (l.map fun c => (⟨#[c]⟩ : Str))) = true := h
    rw [Bool.and_eq_true, lt_one] at h'
    obtain ⟨h1, h2⟩ := h'
    have ih := rise_codes l d h2
    have hcd : c ≤ d := by
      have : ¬ d < c := by simpa using h1
      omega
    refine List.pairwise_cons.mpr ⟨fun e he => ?_, ih⟩
    rcases List.mem_cons.mp he with q | q
    · rw [q]; exact hcd
    · exact Nat.le_trans hcd ((List.pairwise_cons.mp ih).1 e q)
theorem sorted_codes {l : List Nat} (h : sortedS (l.map fun c => (⟨#[c]⟩ : Str)) = true) (nd : l.Nodup) : l.Pairwise (· < ·) := by
  cases l with
  | nil => exact .nil
  | cons c l =>
    have := rise_codes l c h
    refine (List.Pairwise.and this nd).imp fun ⟨h1, h2⟩ => Nat.lt_of_le_of_ne h1 h2
section
variable {P : Program} {w : World} {K : PySem.W.Frag} {mg : Str → Option Value} {base : Heap} {f g e : Addr} {fd gd ed : FuncData}
theorem ok_all (F : Fun K "_law_all_signs" "_law_all_signs" sAll f fd) : FnOk P w K mg base CX0 1 f fd [] spAll := by
  refine F.ok scAll (fun vs H Q E h => ?_) (fun cdv A outer s H vs Q E hr h => ?_)
  · obtain ⟨rfl, _⟩ := h
    rfl
  obtain ⟨rfl, q⟩ := h
  refine ⟨_, pss_cons (ps_set (i := 0) scAll.nd rfl (.inl rfl) pe_str) (pss_one (ps_ret (pe_op op_add_str (pv 0) pe_str))), ?_⟩
  refine ⟨_, rfl, _, _, rfl, rfl, by decide +kernel, ?_⟩
  refine cast (congrArg (fun z => Q (V.str z) H) ?_) q
  decide +kernel
theorem ok_of (F : Fun K "_law_signs_of" "_law_signs_of" sOf f fd) (G : FnOk P w K mg base CX0 1 g gd ["jar", "many"] spDip) (bG : Binds K gd ["jar", "many"] []) (kG : PySem.W.keepIn K (.ref g) = true) (mG : mg "_law_dip" = some (.ref g))
    (GA : FnOk P w K mg base CX0 1 e ed [] spAll) (bA : Binds K ed [] []) (kA : PySem.W.keepIn K (.ref e) = true) (mA : mg "_law_all_signs" = some (.ref e))
    (mi : mg "int" = none) (ms : mg "sorted" = none) (mt : mg "set" = none) (mr : mg "range" = none) (ml : mg "len" = none) :
    FnOk P w K mg base CX0 2 f fd ["jar", "plain"] spOf := by
  refine F.ok scOf (fun vs H Q E h => ?_) (fun cdv A outer s H vs Q E hr h => ?_)
  · obtain ⟨j, C, x, rfl, _⟩ := h
    rfl
  obtain ⟨j, C, x, rfl, hj, hC, hx, q⟩ := h
  refine ⟨_, pss_cons (ps_set (i := 2) scOf.nd rfl (.inr rfl) (pe_ix ix_list (pe_lst (pa_cons (pv 1) (pa_cons (pe_call0 GA hr rfl mA kA bA .nil pass0) pa_nil)))
      (pe_callTy call_int1 rfl mi (by decide +kernel) (pa_cons (pe_cmpR op_eq (pe_call G hr rfl mG kG bG .nil pass0 (pa_cons (pv 0) (pa_cons pe_int pa_nil))) pe_int (nomark _)) pa_nil)) (fun _ _ => rfl)))
    (pss_cons (ps_set (i := 3) scOf.nd rfl (.inl rfl) (pe_callB (cr_sortedTx rfl) rfl ms (by decide +kernel) (pa_cons (pe_callTy (cr_setTx rfl) rfl mt (by decide +kernel) (pa_cons
        (pe_lc (own := [("k", 4)]) (g := gName 4) (tt := tYes) rfl scOf.nd (pi_range1 rfl mr (pa_cons (pe_op op_add pe_int (pe_call G hr rfl mG kG bG .nil pass0 (pa_cons (pv 0) (pa_cons pe_int pa_nil)))) pa_nil)) (blkOk_by (N := ["jar", "plain", "pool", "some", "k"]) (sc := defScope sOf) (by decide +kernel)) (fun _ _ _ _ _ => pg_name (i := 4) scOf.nd rfl (Or.inl rfl)) (fun _ _ _ _ _ => pts_nil)
          (fun _ _ _ _ _ => pe_ix ix_str (pv 2) (pe_call G hr rfl mG kG bG .nil pass0 (pa_cons (pv 0) (pa_cons (pe_callB call_len_str rfl ml PySem.boot_len (pa_cons (pv 2) pa_nil)) pa_nil))) (fun _ _ => rfl))) pa_nil)) pa_nil)))
    (pss_one (ps_ret (pe_tup (pa_cons pe_str (pa_cons (pe_join pe_str (pv 3)) pa_nil)))))), ?_⟩
  refine ⟨_, rfl, rfl, (by show 2 ≤ sizeLine; decide), fun p hp => ?_⟩
  have k0 := same_new hp (.lst [.str x, .str allS])
  refine ⟨_, rfl, j, C, 12, rfl, hj.keep k0, by omega, by decide, by decide, fun r H1 r0 r1 hj1 kp1 => ?_⟩
  have hpj := hj.ne hp
  refine ⟨rfl, .inr ⟨_, rfl, ?_⟩⟩
  obtain ⟨y, hat, hy⟩ : ∃ y, atI [V.str x, V.str allS] (if decide (V.int r = V.int 0) = true then 1 else 0) = some (.str y) ∧ Plain y := by
    by_cases c : decide (V.int r = V.int 0) = true
    · rw [if_pos c]; exact ⟨allS, rfl, plain_all⟩
    · rw [if_neg c]; exact ⟨x, rfl, hx⟩
  refine ⟨p, _, _, _, rfl, rfl, SqL.of (kp1 _ _ hpj upd_same), hat, ?_⟩
  refine ⟨_, rfl, j, C + 1, 3, rfl, hj1, by omega, by decide, by decide, fun r2 H2 r20 r21 hj2 kp2 => ?_⟩
  refine ⟨_, _, rfl, rfl, _, rfl, by omega, by omega, fun D hD => ?_⟩
  have hDj := hj2.ne hD
  have k3 : Keep j H H2 := (Keep.of_same k0).trans (kp1.trans kp2)
  refine lc_range (lo := 0) (n := (1 + r2).toNat) (fun i H' => ∃ ys : List Str, H' D = some (.lst (ys.map V.str)) ∧ ys.length = i ∧ Ones ys ∧ Jar j H' (C + 2 + i) ∧ Keep j H H') ⟨[], upd_same, rfl, (fun _ h => by cases h), hj2.keep (same_new hD _), k3.trans (keep_new hD _)⟩ (fun i H' hi p => ?_) (fun H' p => ?_)
  · obtain ⟨ys, hys, hl, ho, hj', kp'⟩ := p
    refine ⟨rfl, ?_⟩
    simp only [tYes, ↓reduceIte]
    have hyl : y.length ≤ sizeLine := by rw [sizeLine_eq]; have := hy.few; omega
    have hy1 := hy.one
    have hy2 := hy.few
    refine ⟨_, rfl, _, rfl, _, rfl, y, rfl, hyl, j, C + 2 + i, _, rfl, hj', by omega, by omega, by omega, fun r3 H3 r30 r31 hj3 kp3 => ?_⟩
    have hyc : y.cps.toList.length = y.length := Array.length_toList
    obtain ⟨c, hc1, hc2⟩ := at_in (l := y.cps.toList) r30 (by rw [hyc]; exact r31)
    refine ⟨y, _, c, rfl, rfl, hyl, hc1, _, kp3 _ _ hDj hys, by rw [List.length_map, sizeLine_eq]; omega, ys ++ [⟨#[c]⟩], ?_, ?_, ?_, ?_, ?_⟩
    · rw [upd_same, List.map_append]
      rfl
    · rw [List.length_append, hl]; rfl
    · intro z hz
      rcases List.mem_append.mp hz with h | h
      · exact ho z h
      · exact ⟨c, hy.low c (List.mem_of_getElem? hc2), List.mem_singleton.mp h⟩
    · exact (hj3.upd hDj).mono (by omega)
    · intro b o hb ho
      rw [upd_ne (ne_of_none (k3 b o hb ho) hD)]
      exact kp3 b o hb (kp' b o hb ho)
  · obtain ⟨ys, hys, hl, ho, hj', kp'⟩ := p
    have h4 : ys.length ≤ 3 := by rw [hl]; omega
    have hy0 : 1 ≤ ys.length := by rw [hl]; omega
    refine ⟨D, ys, rfl, SqL.of hys, by show ys.length + 1 < 4096; omega, fun p2 hp2 => ?_⟩
    have hgl := gather_len ys ([] : List Str)
    rw [List.length_nil, Nat.zero_add] at hgl
    have n2 := same_new hp2 (SetTx P w p2 (gather [] ys))
    refine ⟨p2, gather [] ys, rfl, upd_same, by omega, fun zs p3 pm hs hp3 => ?_⟩
    have hzl : zs.length ≤ 3 := by rw [pm.length_eq]; omega
    have hzm : ∀ z, z ∈ zs ↔ z ∈ ys := fun z => by rw [pm.mem_iff, gather_mem]
    have hzo : Ones zs := fun z hz => ho z ((hzm z).mp hz)
    have hznd : zs.Nodup := pm.nodup_iff.mpr (gather_nodup .nil)
    have hz0 : zs ≠ [] := fun e => by
      obtain ⟨y0, hy0'⟩ : ∃ y0, y0 ∈ ys := by
        cases ys with
        | nil => exact absurd hy0 (by decide)
        | cons y0 t => exact ⟨y0, List.mem_cons_self⟩
      have := (hzm y0).mpr hy0'
      rw [e] at this; cases this
    obtain ⟨l, rfl, hlow⟩ := hzo.codes
    have hlnd : l.Nodup := (List.Pairwise.of_map (S := fun a b : Str => a ≠ b) (R := fun a b : Nat => a ≠ b) (fun c => (⟨#[c]⟩ : Str)) (fun a b hab e => hab (by rw [e])) hznd)
    have hl0 : l ≠ [] := fun e => hz0 (by rw [e]; rfl)
    have hup := sorted_codes hs hlnd
    rw [List.length_map] at hzl
    have n3 := same_new hp3 (.lst ((l.map fun c => (⟨#[c]⟩ : Str)).map V.str))
    refine ⟨⟨_, rfl⟩, _, rfl, _, p3, _, rfl, rfl, .inl (SqL.of upd_same), ?_, ?_⟩
    · rw [ones_sum]
      show _ + _ * 0 ≤ _
      omega
    · rw [join_one]
      refine ⟨(by show 2 ≤ sizeLine; decide), fun p4 hp4 => ?_⟩
      have s4 := (n2.trans n3).trans (same_new hp4 (.tup [.str "signs", .str ⟨l.toArray⟩]))
      have hj4 := hj'.keep s4
      exact q _ (.sg ⟨l.toArray⟩) _ ⟨p4, rfl, upd_same⟩ ⟨hl0, hup, hlow⟩ (Nat.le_refl _) (Nat.le_refl _) (by show (⟨l.toArray⟩ : Str).length ≤ 3; rw [← cd_len]; exact hzl) (hj4.mono (by omega)) (kp'.trans (Keep.of_same s4))
/-! ### moulds -/
def nd : Nat → Nat
  | 0 => 6
  | k + 1 => 2 * nd k + 6
def ms : Nat → Nat
  | 0 => 1
  | k + 1 => 2 * ms k + 1
def mm : Nat → Nat
  | 0 => 3
  | k + 1 => 2 * mm k
theorem mm_three : ∀ k, 3 ≤ mm k
  | 0 => Nat.le_refl _
  | k + 1 => by have := mm_three k; unfold mm; omega
theorem nd_six : ∀ k, 6 ≤ nd k
  | 0 => Nat.le_refl _
  | k + 1 => by unfold nd; omega
theorem ms_one : ∀ k, 1 ≤ ms k
  | 0 => Nat.le_refl _
  | k + 1 => by unfold ms; omega
def spMould (n : Nat) : Sp := fun vs H Q _ => ∃ (j : Addr) (C k : Nat) (x : Str), vs = [.ref j, .str x, .int (k : Nat)] ∧ k < n ∧ Jar j H C ∧ C + nd k ≤ 999998000 ∧ Plain x ∧ Drawn j H (C + nd k) (k + 1) (ms k) (mm k) Q
theorem scMould : FnScope ["jar", "plain", "deep", "way", "one"] ["jar", "plain", "deep"] (defScope sMould) := ⟨rfl, rfl, rfl, by decide +kernel, rfl, by decide +kernel, by decide +kernel⟩
theorem mould_left : FnOk P w K mg base CX0 2 f fd ["jar", "plain", "deep"] (spMould 0) := by
  have no : ∀ vs H Q E, ¬ spMould 0 vs H Q E := fun vs H Q E h => by
    obtain ⟨j, C, k, x, _, h, _⟩ := h
    omega
  exact ⟨fun vs H Q E h => absurd h (no vs H Q E), fun A outer s H args us vs Q E _ _ _ _ h => absurd h (no vs H Q E)⟩
theorem ok_mould {n : Nat} (F : Fun K "_law_mould" "_law_mould" sMould f fd) (GM : FnOk P w K mg base CX0 (n + 2) f fd ["jar", "plain", "deep"] (spMould n)) (bF : Binds K fd ["jar", "plain", "deep"] []) (mF : mg "_law_mould" = some (.ref f))
    (G : FnOk P w K mg base CX0 1 g gd ["jar", "many"] spDip) (bG : Binds K gd ["jar", "many"] []) (kG : PySem.W.keepIn K (.ref g) = true) (mG : mg "_law_dip" = some (.ref g))
    (GS : FnOk P w K mg base CX0 2 e ed ["jar", "plain"] spOf) (bS : Binds K ed ["jar", "plain"] []) (kS : PySem.W.keepIn K (.ref e) = true) (mS : mg "_law_signs_of" = some (.ref e)) :
    FnOk P w K mg base CX0 (n + 3) f fd ["jar", "plain", "deep"] (spMould (n + 1)) := by
  refine F.ok scMould (fun vs H Q E h => ?_) (fun cdv A outer s H vs Q E hr h => ?_)
  · obtain ⟨j, C, k, x, rfl, _⟩ := h
    rfl
  obtain ⟨j, C, k, x, rfl, hk, hj, hC, hx, q⟩ := h
  have G' := G.mono (show 1 ≤ n + 2 by omega)
  have GS' := GS.mono (show 2 ≤ n + 2 by omega)
  have h6 := nd_six k
  have h1 := ms_one k
  have h3 := mm_three k
  refine ⟨_, pss_cons (ps_set (i := 3) scMould.nd rfl (.inl rfl) (pe_call G' hr rfl mG kG bG .nil pass0 (pa_cons (pv 0) (pa_cons pe_int pa_nil))))
    (pss_cons (ps_if (PW.pt (pw_or (pt_cmpR op_lt (pv 2) pe_int (nomark _)) (pw_or1 (pt_cmpR op_lt (pv 3) pe_int (nomark _)))))
      (pss_one (ps_ret (pe_call GS' hr rfl mS kS bS .nil pass0 (pa_cons (pv 0) (pa_cons (pv 1) pa_nil))))) pss_nil)
    (pss_cons (ps_if (pt_cmpR op_eq (pv 3) pe_int (nomark _)) (pss_one (ps_ret (pe_tup (pa_cons pe_str pa_nil)))) pss_nil)
    (pss_cons (ps_set (i := 4) scMould.nd rfl (.inl rfl) (pe_call GM hr rfl mF F.kp bF .nil pass0 (pa_cons (pv 0) (pa_cons (pv 1) (pa_cons (pe_op op_sub (pv 2) pe_int) pa_nil)))))
    (pss_cons (ps_if (pt_cmpR op_lt (pv 3) pe_int (nomark _))
      (pss_one (ps_ret (pe_tup (pa_cons (pe_ix ix_list (pe_lst (pa_cons pe_str (pa_cons pe_str (pa_cons pe_str pa_nil)))) (pe_op op_sub (pv 3) pe_int) (fun _ _ => rfl)) (pa_cons (pv 4) (pa_cons (pe_call GM hr rfl mF F.kp bF .nil pass0 (pa_cons (pv 0) (pa_cons (pv 1) (pa_cons (pe_op op_sub (pv 2) pe_int) pa_nil)))) pa_nil)))))) pss_nil)
    (pss_one (ps_ret (pe_tup (pa_cons (pe_ix ix_list (pe_lst (pa_cons pe_str (pa_cons pe_str (pa_cons pe_str pa_nil)))) (pe_op op_sub (pv 3) pe_int) (fun _ _ => rfl)) (pa_cons (pv 4) pa_nil))))))))), ?_⟩
  refine ⟨_, rfl, j, C, 10, rfl, hj, by omega, by decide, by decide, fun r H1 r0 r1 hj1 kp1 => ?_⟩
  refine ⟨_, rfl, _, _, rfl, rfl, _, rfl, ?_⟩
  have leaf : ∀ (Q' : VK), (∀ v H', Q v H' → Q' v H') → Drawn j H1 (C + 1 + 5) 1 1 3 Q' := fun Q' hq v d H' rd wd dd sd md jd kd => hq _ _ (q v d H' rd wd (by omega) (by omega) (by omega) (jd.mono (by omega)) (kp1.trans kd))
  refine ite2 (fun c => ?_) (fun c => ?_)
  · exact ⟨_, rfl, _, rfl, j, C + 1, x, rfl, hj1, by omega, hx, leaf _ fun _ _ h => h⟩
  refine ⟨_, rfl, _, _, rfl, rfl, _, rfl, ?_⟩
  refine ite2 (fun c2 => ?_) (fun c2 => ?_)
  · exact ⟨_, rfl, _, rfl, j, C + 1, x, rfl, hj1, by omega, hx, leaf _ fun _ _ h => h⟩
  have c' : ¬ ((k : Nat) : Int) < 2 := of_decide_eq_false (Bool.eq_false_iff.mpr c)
  have c2' : ¬ r < 3 := of_decide_eq_false (Bool.eq_false_iff.mpr c2)
  obtain ⟨k, rfl⟩ : ∃ k', k = k' + 1 := ⟨k - 1, by omega⟩
  have hdeep : ((k + 1 : Nat) : Int) - 1 = (k : Nat) := by omega
  have end1 : nd (k + 1) = 2 * nd k + 6 := rfl
  have ems : ms (k + 1) = 2 * ms k + 1 := rfl
  have emm : mm (k + 1) = 2 * mm k := rfl
  have h6' := nd_six k
  refine ⟨_, rfl, rfl, _, rfl, ?_⟩
  refine ite2 (fun c3 => ?_) (fun c3 => ?_)
  · refine ⟨(by show 1 ≤ sizeLine; decide), fun p hp => ?_⟩
    have s2 := same_new hp (.tup [.str "empty"])
    exact q _ .em _ ⟨p, rfl, upd_same⟩ trivial (by show 1 ≤ _; omega) h1 (Nat.zero_le _) ((hj1.keep s2).mono (by omega)) (kp1.trans (Keep.of_same s2))
  have c3' : r ≠ 9 := fun e => of_decide_eq_false (Bool.eq_false_iff.mpr c3) (by rw [e])
  refine ⟨_, rfl, _, rfl, _, rfl, _, _, rfl, rfl, j, C + 1, k, x, ?_, by omega, hj1, by omega, hx, fun v1 d1 H2 rd1 wd1 dd1 sd1 md1 jd1 kd1 => ?_⟩
  · show [V.ref j, V.str x, V.int (((k + 1 : Nat) : Int) - 1)] ++ [] = _
    rw [hdeep]; rfl
  refine ⟨_, rfl, _, _, rfl, rfl, _, rfl, ?_⟩
  refine ite2 (fun c4 => ?_) (fun c4 => ?_)
  · have c4' : r < 6 := of_decide_eq_true c4
    refine ⟨(by show 3 ≤ sizeLine; decide), fun p hp => ?_⟩
    have s3 := same_new hp (.lst [.str "then", .str "then", .str "or"])
    obtain ⟨y, hy1, hy2⟩ : ∃ y : Str, atI [V.str "then", V.str "then", V.str "or"] (r - 3) = some (.str y) ∧ (y = "then" ∨ y = "or") := by
      have h : r = 3 ∨ r = 4 ∨ r = 5 := by omega
      rcases h with rfl | rfl | rfl
      · exact ⟨_, rfl, .inl rfl⟩
      · exact ⟨_, rfl, .inl rfl⟩
      · exact ⟨_, rfl, .inr rfl⟩
    refine ⟨_, rfl, _, _, rfl, rfl, p, _, _, _, rfl, rfl, SqL.of upd_same, hy1, _, rfl, _, rfl, _, rfl, _, rfl, _, _, rfl, rfl, j, C + 1 + nd k, k, x, ?_, by omega, jd1.keep s3, by omega, hx, fun v2 d2 H3 rd2 wd2 dd2 sd2 md2 jd2 kd2 => ?_⟩
    · show [V.ref j, V.str x, V.int (((k + 1 : Nat) : Int) - 1)] ++ [] = _
      rw [hdeep]; rfl
    refine ⟨(by show 3 ≤ sizeLine; decide), fun p2 hp2 => ?_⟩
    have s4 := same_new hp2 (.tup [.str y, v1, v2])
    have rd1' := (rd1.tk (Tk.of_same s3)).tk (Tk.of_keep (jd1.keep s3) kd2)
    have kA := kp1.trans (kd1.trans ((Keep.of_same s3).trans (kd2.trans (Keep.of_same s4))))
    rcases hy2 with rfl | rfl
    · exact q _ (.th d1 d2) _ ⟨p2, v1, v2, rfl, upd_same, rd1'.tk (Tk.of_same s4), rd2.tk (Tk.of_same s4)⟩ ⟨wd1, wd2⟩ (by show max _ _ + 1 ≤ _; omega) (by show _ + _ + 1 ≤ _; omega) (by show manyP d1 + manyP d2 ≤ _; omega) ((jd2.keep s4).mono (by omega)) kA
    · exact q _ (.oo d1 d2) _ ⟨p2, v1, v2, rfl, upd_same, rd1'.tk (Tk.of_same s4), rd2.tk (Tk.of_same s4)⟩ ⟨wd1, wd2⟩ (by show max _ _ + 1 ≤ _; omega) (by show _ + _ + 1 ≤ _; omega) (by show manyP d1 + manyP d2 ≤ _; omega) ((jd2.keep s4).mono (by omega)) kA
  · have c4' : ¬ r < 6 := of_decide_eq_false (Bool.eq_false_iff.mpr c4)
    refine ⟨(by show 3 ≤ sizeLine; decide), fun p hp => ?_⟩
    have s3 := same_new hp (.lst [.str "again", .str "more", .str "maybe"])
    obtain ⟨y, hy1, hy2⟩ : ∃ y : Str, atI [V.str "again", V.str "more", V.str "maybe"] (r - 6) = some (.str y) ∧ (y = "again" ∨ y = "more" ∨ y = "maybe") := by
      have h : r = 6 ∨ r = 7 ∨ r = 8 := by omega
      rcases h with rfl | rfl | rfl
      · exact ⟨_, rfl, .inl rfl⟩
      · exact ⟨_, rfl, .inr (.inl rfl)⟩
      · exact ⟨_, rfl, .inr (.inr rfl)⟩
    refine ⟨_, rfl, _, _, rfl, rfl, p, _, _, _, rfl, rfl, SqL.of upd_same, hy1, _, rfl, (by show 2 ≤ sizeLine; decide), fun p2 hp2 => ?_⟩
    have s4 := same_new hp2 (.tup [.str y, v1])
    have rd1' := (rd1.tk (Tk.of_same s3)).tk (Tk.of_same s4)
    have kA := kp1.trans (kd1.trans ((Keep.of_same s3).trans (Keep.of_same s4)))
    rcases hy2 with rfl | rfl | rfl
    · exact q _ (.ag d1) _ ⟨p2, v1, rfl, upd_same, rd1'⟩ wd1 (by show _ + 1 ≤ _; omega) (by show _ + 1 ≤ _; omega) (by show manyP d1 ≤ _; omega) (((jd1.keep s3).keep s4).mono (by omega)) kA
    · exact q _ (.mo d1) _ ⟨p2, v1, rfl, upd_same, rd1'⟩ wd1 (by show _ + 1 ≤ _; omega) (by show _ + 1 ≤ _; omega) (by show manyP d1 ≤ _; omega) (((jd1.keep s3).keep s4).mono (by omega)) kA
    · exact q _ (.mb d1) _ ⟨p2, v1, rfl, upd_same, rd1'⟩ wd1 (by show _ + 1 ≤ _; omega) (by show _ + 1 ≤ _; omega) (by show manyP d1 ≤ _; omega) (((jd1.keep s3).keep s4).mono (by omega)) kA
end
end Pa
set_option maxHeartbeats 4000000
namespace Pa
open PySem PySem.Spec PyProof.Rows L2 Ty Se
theorem deep_part {p q : Pat} (h : q ∈ partsP p) : deepP q + 1 ≤ deepP p := by
  cases p with
  | sg _ => cases h
  | em => cases h
  | th a b =>
    show _ ≤ max (deepP a) (deepP b) + 1
    rcases List.mem_cons.mp h with e | h
    · rw [e]; omega
    · rw [List.mem_singleton.mp h]; omega
  | oo a b =>
    show _ ≤ max (deepP a) (deepP b) + 1
    rcases List.mem_cons.mp h with e | h
    · rw [e]; omega
    · rw [List.mem_singleton.mp h]; omega
  | ag a => rw [List.mem_singleton.mp h]; exact Nat.le_refl _
  | mo a => rw [List.mem_singleton.mp h]; exact Nat.le_refl _
  | mb a => rw [List.mem_singleton.mp h]; exact Nat.le_refl _
theorem wf_part {p q : Pat} (w : Wf p) (h : q ∈ partsP p) : Wf q := by
  cases p with
  | sg _ => cases h
  | em => cases h
  | th a b =>
    rcases List.mem_cons.mp h with e | h
    · rw [e]; exact w.1
    · rw [List.mem_singleton.mp h]; exact w.2
  | oo a b =>
    rcases List.mem_cons.mp h with e | h
    · rw [e]; exact w.1
    · rw [List.mem_singleton.mp h]; exact w.2
  | ag a => rw [List.mem_singleton.mp h]; exact w
  | mo a => rw [List.mem_singleton.mp h]; exact w
  | mb a => rw [List.mem_singleton.mp h]; exact w
theorem D_low {s : List Pat} {w : List Nat} {n : Nat} (h : D s w n) (hw : ∀ p, p ∈ s → Wf p) : ∀ c, c ∈ w → c < 128 := by
  induction h with
  | nil => intro c hc; cases hc
  | sg hc _ ih =>
    intro c h
    rcases List.mem_cons.mp h with e | h
    · rw [e]; exact (hw _ List.mem_cons_self).2.2 _ hc
    · exact ih (fun p hp => hw p (List.mem_cons_of_mem _ hp)) c h
  | em _ ih => exact ih fun p hp => hw p (List.mem_cons_of_mem _ hp)
  | @th a b k _ _ _ ih =>
    exact ih fun p hp => by
      have h0 := hw _ List.mem_cons_self
      rcases List.mem_cons.mp hp with e | hp
      · rw [e]; exact h0.1
      · rcases List.mem_cons.mp hp with e | hp
        · rw [e]; exact h0.2
        · exact hw p (List.mem_cons_of_mem _ hp)
  | @o1 a b k _ _ _ ih =>
    exact ih fun p hp => by
      rcases List.mem_cons.mp hp with e | hp
      · rw [e]; exact (hw _ List.mem_cons_self).1
      · exact hw p (List.mem_cons_of_mem _ hp)
  | @o2 a b k _ _ _ ih =>
    exact ih fun p hp => by
      rcases List.mem_cons.mp hp with e | hp
      · rw [e]; exact (hw _ List.mem_cons_self).2
      · exact hw p (List.mem_cons_of_mem _ hp)
  | a0 _ ih => exact ih fun p hp => hw p (List.mem_cons_of_mem _ hp)
  | @a1 a k _ _ _ ih =>
    exact ih fun p hp => by
      rcases List.mem_cons.mp hp with e | hp
      · rw [e]; exact hw (.ag a) List.mem_cons_self
      · exact hw p hp
  | @mo a k _ _ _ ih =>
    exact ih fun p hp => by
      have h0 : Wf a := hw (.mo a) List.mem_cons_self
      rcases List.mem_cons.mp hp with e | hp
      · rw [e]; exact h0
      · rcases List.mem_cons.mp hp with e | hp
        · rw [e]; exact h0
        · exact hw p (List.mem_cons_of_mem _ hp)
  | m0 _ ih => exact ih fun p hp => hw p (List.mem_cons_of_mem _ hp)
  | @m1 a k _ _ _ ih =>
    exact ih fun p hp => by
      rcases List.mem_cons.mp hp with e | hp
      · rw [e]; exact hw (.mb a) List.mem_cons_self
      · exact hw p (List.mem_cons_of_mem _ hp)
theorem only_low {p : Pat} {l : List Nat} (w : Wf p) (h : only p = some l) : l.length ≤ 2 ^ deepP p ∧ ∀ c, c ∈ l → c < 128 := by
  have e := only_least h
  subst e
  obtain ⟨n, d⟩ := (least_ok w).1
  exact ⟨least_len p, D_low d fun q hq => by rw [List.mem_singleton.mp hq]; exact w⟩
theorem low_ok {x : Str} (h : ∀ c, c ∈ cd x → c < 128) : PyData.canLay0 (.str x) = true := by
  show x.cps.all (· < 0x110000) = true
  rw [Array.all_eq_true]
  intro i hi
  have := h x.cps[i] (Array.getElem_mem_toList hi)
  simp; omega
theorem iteTb {A B : Prop} {b : Bool} (h : b = true) (hA : A) : if b = true then A else B := by rw [if_pos h]; exact hA
theorem iteFb {A B : Prop} {b : Bool} (h : b = false) (hB : B) : if b = true then A else B := by rw [h]; exact hB
theorem cut_no {n : Nat} : ¬ (HT.sIx (n + 1) 0 (some 1) = 0 ∧ HT.sIx (n + 1) (n + 1) none = n + 1) := by
  rw [sIx_one]
  exact fun h => absurd h.1 (by decide)
theorem two_us {us : List (Option Str)} {p q : Pat} (h : us.map (Option.map cd) = [p, q].map only) : ∃ u v, us = [u, v] ∧ u.map cd = only p ∧ v.map cd = only q := by
  match us, h with
  | [u, v], h =>
    simp only [List.map_cons, List.map_nil, List.cons.injEq, and_true] at h
    exact ⟨u, v, rfl, h.1, h.2⟩
  | [], h => exact absurd (congrArg List.length h) (by simp)
  | [_], h => exact absurd (congrArg List.length h) (by simp)
  | _ :: _ :: _ :: _, h => exact absurd (congrArg List.length h) (by simp)
theorem one_us {us : List (Option Str)} {p : Pat} (h : us.map (Option.map cd) = [p].map only) : ∃ u, us = [u] ∧ u.map cd = only p := by
  match us, h with
  | [u], h =>
    simp only [List.map_cons, List.map_nil, List.cons.injEq, and_true] at h
    exact ⟨u, rfl, h⟩
  | [], h => exact absurd (congrArg List.length h) (by simp)
  | _ :: _ :: _, h => exact absurd (congrArg List.length h) (by simp)
def spLOnly (d : Nat) : Sp := fun vs H Q _ => ∃ (v : V) (p : Pat), vs = [v] ∧ RP H p v ∧ Wf p ∧ deepP p ≤ d ∧ deepP p ≤ 16 ∧ ∀ (u : Option Str) H', u.map cd = only p → Same H H' → Q (oV u) H'
theorem scLOnly : FnScope ["mould", "some", "part"] ["mould"] (defScope sLOnly) := ⟨rfl, rfl, rfl, by decide +kernel, rfl, by decide +kernel, by decide +kernel⟩
theorem o_cd {u : Option Str} {p : Pat} {x : Str} (h : u.map cd = only p) (e : u = some x) : only p = some (cd x) := by rw [← h, e]; rfl
theorem o_none {u : Option Str} {p : Pat} (h : u.map cd = only p) (e : u = none) : only p = none := by rw [← h, e]; rfl
theorem non_in (u v : Option Str) : inV .non [oV u, oV v] = (u.isNone || v.isNone) := by cases u <;> cases v <;> rfl
theorem eq_oV (u v : Option Str) : decide (oV u = oV v) = decide (u = v) := by
  cases u with
  | none => cases v <;> simp [oV]
  | some x => cases v <;> simp [oV]
theorem flat_oV (u : Option Str) : flatV (oV u) = true := by cases u <;> rfl
theorem scal_oV (u v : Option Str) : scal (oV u) (oV v) = true := by cases u <;> cases v <;> rfl
def oD : Option Str → PyData
  | none => .none
  | some x => .str x
section
variable {P : Program} {w : World} {K : PySem.W.Frag} {mg : Str → Option Value} {base : Heap} {f g e : Addr} {fd gd ed : FuncData}
theorem lonly_left : FnOk P w K mg base CX0 1 f fd ["mould"] (spLOnly 0) := by
  have no : ∀ vs H Q E, ¬ spLOnly 0 vs H Q E := fun vs H Q E h => by
    obtain ⟨_, p, _, _, _, h, _⟩ := h
    have := deep_pos p
    omega
  exact ⟨fun vs H Q E h => absurd h (no vs H Q E), fun A outer s H args us vs Q E _ _ _ _ h => absurd h (no vs H Q E)⟩
theorem ok_lonly {d : Nat} (F : Fun K "_law_only" "_law_only" sLOnly f fd) (GM : FnOk P w K mg base CX0 (d + 1) f fd ["mould"] (spLOnly d)) (bF : Binds K fd ["mould"] []) (mF : mg "_law_only" = some (.ref f)) (ml : mg "len" = none) :
    FnOk P w K mg base CX0 (d + 2) f fd ["mould"] (spLOnly (d + 1)) := by
  refine F.ok scLOnly (fun vs H Q E h => ?_) (fun cdv A outer s0 H vs Q E0 hr h => ?_)
  · obtain ⟨_, _, rfl, _⟩ := h
    rfl
  obtain ⟨v, p, rfl, rp, wf, hd, h16, q⟩ := h
  have hu := hr.units
  refine ⟨_, pss_cons (ps_if (pt_cmpR op_eq (pe_ix ix_tup (pv 0) pe_int (fun _ _ => rfl)) pe_str (nomark _)) (pss_one (ps_ret (pe_ifExp (pt_cmpR op_eq (pe_callB call_len_str rfl ml PySem.boot_len (pa_cons (pe_ix ix_tup (pv 0) pe_int (fun _ _ => rfl)) pa_nil)) pe_int (nomark _)) (pe_ix ix_tup (pv 0) pe_int (fun _ _ => rfl)) pe_non))) pss_nil)
    (pss_cons (ps_setLc (i := 1) (own := [("part", 2)]) (g := gName 2) (tt := tYes) rfl scLOnly.nd rfl rfl rfl (pi_tup (pe_slice sl_tup (pv 0) (po_some pe_int) po_none)) (blkOk_by (N := ["mould", "some", "part"]) (sc := defScope sLOnly) (by decide +kernel)) (fun _ _ _ _ _ => pg_name (i := 2) scLOnly.nd rfl (Or.inl rfl)) (fun _ _ _ _ _ => pts_nil)
        (fun _ _ _ _ _ => pe_call GM hr rfl mF F.kp bF .nil pass0 (pa_cons (pv 2) pa_nil)))
    (pss_cons (ps_if (PW.pt (pw_and (pt_cmpR op_eq (pe_ix ix_tup (pv 0) pe_int (fun _ _ => rfl)) pe_str (nomark _)) (pw_and1 (pt_cmpR op_notIn_seq pe_non (pv 1) rfl))))
      (pss_one (ps_ret (pe_op op_add_str (pe_ix ix_list (pv 1) pe_int (fun _ _ => rfl)) (pe_ix ix_list (pv 1) pe_int (fun _ _ => rfl))))) pss_nil)
    (pss_cons (ps_if (PW.pt (pw_and (pt_cmpR op_eq (pe_ix ix_tup (pv 0) pe_int (fun _ _ => rfl)) pe_str (nomark _)) (pw_and1 (pt_cmpR op_eq (pe_ix ix_list (pv 1) pe_int (fun _ _ => rfl)) (pe_ix ix_list (pv 1) pe_int (fun _ _ => rfl)) (nomark _)))))
      (pss_one (ps_ret (pe_ix ix_list (pv 1) pe_int (fun _ _ => rfl)))) pss_nil)
    (pss_one (ps_ret (pe_ifExp (PW.pt (pw_or (pt_cmpR op_eq (pe_ix ix_tup (pv 0) pe_int (fun _ _ => rfl)) pe_str (nomark _)) (pw_or1 (PW.pt (pw_and (pt_cmpR op_in_seq (pe_ix ix_tup (pv 0) pe_int (fun _ _ => rfl)) (pe_lst (pa_cons pe_str (pa_cons pe_str (pa_cons pe_str pa_nil)))) rfl)
        (pw_and1 (pt_cmpR (op_eqD hu) (pv 1) (pe_lst (pa_cons pe_str pa_nil)) (nomark _)))))))) pe_str pe_non)))))), ?_⟩
  obtain ⟨a, vs, rfl, ha, hcase⟩ := rp.open
  have lvs : vs.length ≤ 2 := by
    rcases hcase with ⟨x, _, rfl⟩ | ⟨_, _, h⟩
    · show 1 ≤ 2; decide
    · have h1 := Paired.length h
      have h2 : (partsP p).length ≤ 2 := by cases p <;> (show _ ≤ 2) <;> simp [partsP]
      omega
  refine ⟨_, rfl, a, _, _, _, rfl, rfl, SqT.of ha, at_zero, rfl, _, rfl, ?_⟩
  rcases hcase with ⟨x, rfl, rfl⟩ | ⟨hns, _, hps⟩
  · refine itE (by show decide (("signs" : Str) = "signs") = true; decide +kernel) ?_
    have lx := rising_few wf.2.1 wf.2.2
    refine ⟨_, rfl, a, _, _, _, rfl, rfl, SqT.of ha, at_one, x, rfl, by rw [sizeLine_eq]; omega, rfl, _, rfl, ?_⟩
    rw [dec_int]
    by_cases c : x.length = 1
    · rw [show decide (((x.length : Nat) : Int) = 1) = true from decide_eq_true (by omega)]
      exact iteT ⟨_, rfl, a, _, _, _, rfl, rfl, SqT.of ha, at_one, q (some x) H (only_sg (by rw [cd_len]; exact c)).symm same_refl⟩
    · rw [show decide (((x.length : Nat) : Int) = 1) = false from decide_eq_false (by omega)]
      exact iteF (q none H (only_sg_no (by rw [cd_len]; exact c)).symm same_refl)
  refine itW (decide_eq_false hns) ?_
  refine ⟨_, rfl, _, rfl, a, _, rfl, SqT.of ha, cut_no, fun t ht => ?_⟩
  rw [cut_tail]
  have s1 := same_new ht (.tup vs)
  refine ⟨t, rfl, ⟨_, SqT.of upd_same⟩, fun L hL => ?_⟩
  have sL := same_new hL (.lst [])
  have hLH : H L = none := by
    cases e : H L with
    | none => rfl
    | some o => rw [s1 _ _ e] at hL; cases hL
  have tL : t ≠ L := fun e => by rw [← e, upd_same] at hL; cases hL
  have lps : vs.length = (partsP p).length := Paired.length hps
  refine lc_tup (K := K) (xs := vs) (fun i H' => ∃ us : List (Option Str), H' L = some (.lst (us.map oV)) ∧ us.map (Option.map cd) = ((partsP p).take i).map only ∧ Same H H' ∧ H' t = some (.tup vs)) ⟨[], upd_same, rfl, s1.trans sL, sL _ _ upd_same⟩ (fun i H' _ h => by obtain ⟨_, _, _, _, h⟩ := h; exact SqT.of h) (fun i v H' hv h => ?turn) (fun H' h => ?done)
  case turn =>
    obtain ⟨us, eL, eu, sS, et⟩ := h
    obtain ⟨r, hr', rr⟩ := paired_get hps i v hv
    have rm := List.mem_of_getElem? hr'
    have dr := deep_part rm
    refine ⟨rfl, ?_⟩
    simp only [tYes, ↓reduceIte]
    refine ⟨_, rfl, v, r, rfl, rr.tk (Tk.of_same sS), wf_part wf rm, by omega, by omega, fun u H2 hu2 s2 => ⟨_, s2 _ _ eL, ?_, us ++ [u], by rw [upd_same, List.map_append]; rfl, ?_, same_upd (sS.trans s2) hLH, by rw [upd_ne tL]; exact s2 _ _ et⟩⟩
    · have h1 := congrArg List.length eu
      have h2 : (List.take i (partsP p)).length ≤ (partsP p).length := by rw [List.length_take]; omega
      rw [List.length_map, List.length_map] at h1
      rw [List.length_map, sizeLine_eq]; omega
    · rw [List.map_append, eu, List.take_add_one, hr', List.map_append]
      show _ ++ [u.map cd] = _ ++ [only r]
      rw [hu2]
  case done =>
    obtain ⟨us, eL, eu, sS, et⟩ := h
    rw [lps, List.take_length] at eu
    have ha' := sS _ _ ha
    cases p with
    | sg x => exact absurd rfl hns
    | em =>
      have e0 : us = [] := by cases us with | nil => rfl | cons _ _ => cases eu
      subst e0
      refine ⟨_, rfl, a, _, _, _, rfl, rfl, SqT.of ha', at_zero, rfl, _, rfl, itW (by show decide (("empty" : Str) = "then") = false; decide +kernel) (iteF ?_)⟩
      refine ⟨_, rfl, a, _, _, _, rfl, rfl, SqT.of ha', at_zero, rfl, _, rfl, itW (by show decide (("empty" : Str) = "or") = false; decide +kernel) (iteF ?_)⟩
      exact ⟨_, rfl, a, _, _, _, rfl, rfl, SqT.of ha', at_zero, rfl, _, rfl, itE (by show decide (("empty" : Str) = "empty") = true; decide +kernel) (iteT (q (some "") H' rfl sS))⟩
    | th p1 p2 =>
      obtain ⟨u1, u2, rfl, e1, e2⟩ := two_us eu
      have w1 := only_low (l := ((u1.map cd).getD [])) wf.1
      have w2 := only_low (l := ((u2.map cd).getD [])) wf.2
      have hd1 : deepP p1 ≤ 16 ∧ deepP p2 ≤ 16 := by unfold deepP at h16; omega
      refine ⟨_, rfl, a, _, _, _, rfl, rfl, SqT.of ha', at_zero, rfl, _, rfl, itE (by show decide (("then" : Str) = "then") = true; decide +kernel) ?_⟩
      refine ⟨_, rfl, L, _, rfl, .inl (SqL.of eL), rfl, (by show (flatV (oV u1) && (flatV (oV u2) && true)) = true; rw [flat_oV, flat_oV]; rfl), _, rfl, ?_⟩
      show if (!inV .non [oV u1, oV u2]) = true then _ else _
      rw [non_in]
      cases u1 with
      | none =>
        refine iteF ?_
        refine ⟨_, rfl, a, _, _, _, rfl, rfl, SqT.of ha', at_zero, rfl, _, rfl, itW (by show decide (("then" : Str) = "or") = false; decide +kernel) (iteF ?_)⟩
        refine ⟨_, rfl, a, _, _, _, rfl, rfl, SqT.of ha', at_zero, rfl, _, rfl, itW (by show decide (("then" : Str) = "empty") = false; decide +kernel) ?_⟩
        refine ⟨_, rfl, a, _, _, _, rfl, rfl, SqT.of ha', at_zero, (by show 3 ≤ sizeLine; decide), fun p5 hp5 => ?_⟩
        refine ⟨p5, _, rfl, .inl (SqL.of upd_same), rfl, rfl, _, rfl, ?_⟩
        exact iteFb (by show inV (.str "then") _ = false; decide +kernel) (iteF (q none _ (by rw [only_th_no (.inl (o_none e1 rfl))]; rfl) (sS.trans (same_new hp5 _))))
      | some x1 =>
        cases u2 with
        | none =>
          refine iteF ?_
          refine ⟨_, rfl, a, _, _, _, rfl, rfl, SqT.of ha', at_zero, rfl, _, rfl, itW (by show decide (("then" : Str) = "or") = false; decide +kernel) (iteF ?_)⟩
          refine ⟨_, rfl, a, _, _, _, rfl, rfl, SqT.of ha', at_zero, rfl, _, rfl, itW (by show decide (("then" : Str) = "empty") = false; decide +kernel) ?_⟩
          refine ⟨_, rfl, a, _, _, _, rfl, rfl, SqT.of ha', at_zero, (by show 3 ≤ sizeLine; decide), fun p5 hp5 => ?_⟩
          refine ⟨p5, _, rfl, .inl (SqL.of upd_same), rfl, rfl, _, rfl, ?_⟩
          exact iteFb (by show inV (.str "then") _ = false; decide +kernel) (iteF (q none _ (by rw [only_th_no (.inr (o_none e2 rfl))]; rfl) (sS.trans (same_new hp5 _))))
        | some x2 =>
          refine iteT ?_
          have o1 := o_cd e1 rfl
          have o2 := o_cd e2 rfl
          have b1 := pow_small hd1.1 (w1 o1).1
          have b2 := pow_small hd1.2 (w2 o2).1
          have b1' : x1.length ≤ 65536 := by rw [← cd_len]; exact b1
          have b2' : x2.length ≤ 65536 := by rw [← cd_len]; exact b2
          refine ⟨_, rfl, L, _, _, _, rfl, rfl, SqL.of eL, at_zero, _, rfl, L, _, _, _, rfl, rfl, SqL.of eL, at_one, x1, x2, rfl, rfl, by rw [sizeLine_eq]; omega, q (some (x1 ++ x2)) H' (by rw [only_th o1 o2]; show some (cd (x1 ++ x2)) = _; rw [cd_app]) sS⟩
    | oo p1 p2 =>
      obtain ⟨u1, u2, rfl, e1, e2⟩ := two_us eu
      refine ⟨_, rfl, a, _, _, _, rfl, rfl, SqT.of ha', at_zero, rfl, _, rfl, itW (by show decide (("or" : Str) = "then") = false; decide +kernel) (iteF ?_)⟩
      refine ⟨_, rfl, a, _, _, _, rfl, rfl, SqT.of ha', at_zero, rfl, _, rfl, itE (by show decide (("or" : Str) = "or") = true; decide +kernel) ?_⟩
      refine ⟨_, rfl, L, _, _, _, rfl, rfl, SqL.of eL, at_zero, _, rfl, L, _, _, _, rfl, rfl, SqL.of eL, at_one, scal_oV u1 u2, _, rfl, ?_⟩
      rw [eq_oV]
      by_cases c : u1 = u2
      · rw [decide_eq_true c]
        have h12 : only p1 = only p2 := by rw [← e1, ← e2, c]
        exact iteT ⟨_, rfl, L, _, _, _, rfl, rfl, SqL.of eL, at_zero, q u1 H' (by rw [only_oo h12]; exact e1) sS⟩
      · rw [decide_eq_false c]
        refine iteF ?_
        refine ⟨_, rfl, a, _, _, _, rfl, rfl, SqT.of ha', at_zero, rfl, _, rfl, itW (by show decide (("or" : Str) = "empty") = false; decide +kernel) ?_⟩
        refine ⟨_, rfl, a, _, _, _, rfl, rfl, SqT.of ha', at_zero, (by show 3 ≤ sizeLine; decide), fun p5 hp5 => ?_⟩
        refine ⟨p5, _, rfl, .inl (SqL.of upd_same), rfl, rfl, _, rfl, ?_⟩
        have h12 : ¬ only p1 = only p2 := fun h => c (by
          rw [← e1, ← e2] at h
          cases u1 with
          | none => cases u2 with
            | none => rfl
            | some _ => cases h
          | some x => cases u2 with
            | none => cases h
            | some y => exact congrArg some (cd_inj (Option.some.inj h)))
        exact iteFb (by show inV (.str "or") _ = false; decide +kernel) (iteF (q none _ (by rw [only_oo_no h12]; rfl) (sS.trans (same_new hp5 _))))
    | ag p1 =>
      obtain ⟨u1, rfl, e1⟩ := one_us eu
      refine ⟨_, rfl, a, _, _, _, rfl, rfl, SqT.of ha', at_zero, rfl, _, rfl, itW (by show decide (("again" : Str) = "then") = false; decide +kernel) (iteF ?_)⟩
      refine ⟨_, rfl, a, _, _, _, rfl, rfl, SqT.of ha', at_zero, rfl, _, rfl, itW (by show decide (("again" : Str) = "or") = false; decide +kernel) (iteF ?_)⟩
      refine ⟨_, rfl, a, _, _, _, rfl, rfl, SqT.of ha', at_zero, rfl, _, rfl, itW (by show decide (("again" : Str) = "empty") = false; decide +kernel) ?_⟩
      refine ⟨_, rfl, a, _, _, _, rfl, rfl, SqT.of ha', at_zero, (by show 3 ≤ sizeLine; decide), fun p5 hp5 => ?_⟩
      have s5 := same_new hp5 (.lst [.str "again", .str "more", .str "maybe"])
      refine ⟨p5, _, rfl, .inl (SqL.of upd_same), rfl, rfl, _, rfl, ?_⟩
      refine iteTb (by show inV (.str "again") _ = true; decide +kernel) ?_
      refine ⟨_, rfl, (by show 1 ≤ sizeLine; decide), fun p6 hp6 => ?_⟩
      have s6 := same_new hp6 (.lst [.str ""])
      have sA := sS.trans (s5.trans s6)
      cases u1 with
      | none =>
        refine ⟨.list [.none], .list [.str ""], .lst (SqL.of (s6 _ _ (s5 _ _ eL))) (.cons .non .nil), .lst (SqL.of upd_same) (.cons (.str _) .nil), by decide +kernel, by decide +kernel, _, rfl, ?_⟩
        have o1 : only p1 = none := o_none e1 rfl
        have o2 : ¬ only p1 = some [] := by rw [o1]; exact fun h => by cases h
        exact iteFb (by decide +kernel) (q none _ (by rw [(only_mo_no o2).2.1]; rfl) sA)
      | some x1 =>
        have o1 := o_cd e1 rfl
        have w1 := only_low (p := p1) wf o1
        refine ⟨.list [.str x1], .list [.str ""], .lst (SqL.of (s6 _ _ (s5 _ _ eL))) (.cons (.str _) .nil), .lst (SqL.of upd_same) (.cons (.str _) .nil), (by unfold SeqAt.shaped; rw [show PyData.canLay0 (.list [.str x1]) = true from by show (PyData.canLay0 (.str x1) && true) = true; rw [low_ok w1.2]; rfl]; rfl), by decide +kernel, _, rfl, ?_⟩
        rw [show PyData.eqv (.list [.str x1]) (.list [.str ""]) = (x1 == "") from by simp [PyData.eqv, PyData.eqvAll]]
        by_cases c : x1 = ""
        · subst c
          exact iteTb rfl (q (some "") _ (by rw [(only_mo o1).2.1]; rfl) sA)
        · exact iteFb (by rw [beq_eq_false_iff_ne]; exact c) (q none _ (by rw [(only_mo_no (a := p1) (by rw [o1]; exact fun h => c (cd_inj (Option.some.inj h)))).2.1]; rfl) sA)
    | mo p1 =>
      obtain ⟨u1, rfl, e1⟩ := one_us eu
      refine ⟨_, rfl, a, _, _, _, rfl, rfl, SqT.of ha', at_zero, rfl, _, rfl, itW (by show decide (("more" : Str) = "then") = false; decide +kernel) (iteF ?_)⟩
      refine ⟨_, rfl, a, _, _, _, rfl, rfl, SqT.of ha', at_zero, rfl, _, rfl, itW (by show decide (("more" : Str) = "or") = false; decide +kernel) (iteF ?_)⟩
      refine ⟨_, rfl, a, _, _, _, rfl, rfl, SqT.of ha', at_zero, rfl, _, rfl, itW (by show decide (("more" : Str) = "empty") = false; decide +kernel) ?_⟩
      refine ⟨_, rfl, a, _, _, _, rfl, rfl, SqT.of ha', at_zero, (by show 3 ≤ sizeLine; decide), fun p5 hp5 => ?_⟩
      have s5 := same_new hp5 (.lst [.str "again", .str "more", .str "maybe"])
      refine ⟨p5, _, rfl, .inl (SqL.of upd_same), rfl, rfl, _, rfl, ?_⟩
      refine iteTb (by show inV (.str "more") _ = true; decide +kernel) ?_
      refine ⟨_, rfl, (by show 1 ≤ sizeLine; decide), fun p6 hp6 => ?_⟩
      have s6 := same_new hp6 (.lst [.str ""])
      have sA := sS.trans (s5.trans s6)
      cases u1 with
      | none =>
        refine ⟨.list [.none], .list [.str ""], .lst (SqL.of (s6 _ _ (s5 _ _ eL))) (.cons .non .nil), .lst (SqL.of upd_same) (.cons (.str _) .nil), by decide +kernel, by decide +kernel, _, rfl, ?_⟩
        have o1 : only p1 = none := o_none e1 rfl
        have o2 : ¬ only p1 = some [] := by rw [o1]; exact fun h => by cases h
        exact iteFb (by decide +kernel) (q none _ (by rw [(only_mo_no o2).1]; rfl) sA)
      | some x1 =>
        have o1 := o_cd e1 rfl
        have w1 := only_low (p := p1) wf o1
        refine ⟨.list [.str x1], .list [.str ""], .lst (SqL.of (s6 _ _ (s5 _ _ eL))) (.cons (.str _) .nil), .lst (SqL.of upd_same) (.cons (.str _) .nil), (by unfold SeqAt.shaped; rw [show PyData.canLay0 (.list [.str x1]) = true from by show (PyData.canLay0 (.str x1) && true) = true; rw [low_ok w1.2]; rfl]; rfl), by decide +kernel, _, rfl, ?_⟩
        rw [show PyData.eqv (.list [.str x1]) (.list [.str ""]) = (x1 == "") from by simp [PyData.eqv, PyData.eqvAll]]
        by_cases c : x1 = ""
        · subst c
          exact iteTb rfl (q (some "") _ (by rw [(only_mo o1).1]; rfl) sA)
        · exact iteFb (by rw [beq_eq_false_iff_ne]; exact c) (q none _ (by rw [(only_mo_no (a := p1) (by rw [o1]; exact fun h => c (cd_inj (Option.some.inj h)))).1]; rfl) sA)
    | mb p1 =>
      obtain ⟨u1, rfl, e1⟩ := one_us eu
      refine ⟨_, rfl, a, _, _, _, rfl, rfl, SqT.of ha', at_zero, rfl, _, rfl, itW (by show decide (("maybe" : Str) = "then") = false; decide +kernel) (iteF ?_)⟩
      refine ⟨_, rfl, a, _, _, _, rfl, rfl, SqT.of ha', at_zero, rfl, _, rfl, itW (by show decide (("maybe" : Str) = "or") = false; decide +kernel) (iteF ?_)⟩
      refine ⟨_, rfl, a, _, _, _, rfl, rfl, SqT.of ha', at_zero, rfl, _, rfl, itW (by show decide (("maybe" : Str) = "empty") = false; decide +kernel) ?_⟩
      refine ⟨_, rfl, a, _, _, _, rfl, rfl, SqT.of ha', at_zero, (by show 3 ≤ sizeLine; decide), fun p5 hp5 => ?_⟩
      have s5 := same_new hp5 (.lst [.str "again", .str "more", .str "maybe"])
      refine ⟨p5, _, rfl, .inl (SqL.of upd_same), rfl, rfl, _, rfl, ?_⟩
      refine iteTb (by show inV (.str "maybe") _ = true; decide +kernel) ?_
      refine ⟨_, rfl, (by show 1 ≤ sizeLine; decide), fun p6 hp6 => ?_⟩
      have s6 := same_new hp6 (.lst [.str ""])
      have sA := sS.trans (s5.trans s6)
      cases u1 with
      | none =>
        refine ⟨.list [.none], .list [.str ""], .lst (SqL.of (s6 _ _ (s5 _ _ eL))) (.cons .non .nil), .lst (SqL.of upd_same) (.cons (.str _) .nil), by decide +kernel, by decide +kernel, _, rfl, ?_⟩
        have o1 : only p1 = none := o_none e1 rfl
        have o2 : ¬ only p1 = some [] := by rw [o1]; exact fun h => by cases h
        exact iteFb (by decide +kernel) (q none _ (by rw [(only_mo_no o2).2.2]; rfl) sA)
      | some x1 =>
        have o1 := o_cd e1 rfl
        have w1 := only_low (p := p1) wf o1
        refine ⟨.list [.str x1], .list [.str ""], .lst (SqL.of (s6 _ _ (s5 _ _ eL))) (.cons (.str _) .nil), .lst (SqL.of upd_same) (.cons (.str _) .nil), (by unfold SeqAt.shaped; rw [show PyData.canLay0 (.list [.str x1]) = true from by show (PyData.canLay0 (.str x1) && true) = true; rw [low_ok w1.2]; rfl]; rfl), by decide +kernel, _, rfl, ?_⟩
        rw [show PyData.eqv (.list [.str x1]) (.list [.str ""]) = (x1 == "") from by simp [PyData.eqv, PyData.eqvAll]]
        by_cases c : x1 = ""
        · subst c
          exact iteTb rfl (q (some "") _ (by rw [(only_mo o1).2.2]; rfl) sA)
        · exact iteFb (by rw [beq_eq_false_iff_ne]; exact c) (q none _ (by rw [(only_mo_no (a := p1) (by rw [o1]; exact fun h => c (cd_inj (Option.some.inj h)))).2.2]; rfl) sA)
end
end Pa
set_option maxHeartbeats 4000000
namespace Pa
open PySem PySem.Spec PyProof.Rows L2 Ty Se
/-! ### alike -/
inductive Lf : V → Prop
  | non : Lf .non
  | bl (b : Bool) : Lf (.bl b)
  | str (x : Str) : Lf (.str x)
theorem lf_oV (u : Option Str) : Lf (oV u) := by
  cases u with
  | none => exact .non
  | some x => exact .str x
def spAlikeL : Sp := fun vs H Q _ => ∃ v, vs = [v, v] ∧ Lf v ∧ ∀ H', Same H H' → Q (.bl true) H'
def spAlike : Sp := fun vs H Q _ => ∃ (a b : Addr) (xs : List V), vs = [.ref a, .ref b] ∧ H a = some (.lst xs) ∧ H b = some (.lst xs) ∧ (∀ v, v ∈ xs → Lf v) ∧ xs.length ≤ 100 ∧ ∀ H', Same H H' → Q (.bl true) H'
theorem scAlike : FnScope ["found", "owed", "k"] ["found", "owed"] (defScope sAlike) := ⟨rfl, rfl, rfl, by decide +kernel, rfl, by decide +kernel, by decide +kernel⟩
def lfT : V → String
  | .bl _ => "bool"
  | .str _ => "str"
  | _ => "NoneType"
theorem lf_ty {K : PySem.W.Frag} {H : Hp} {v : V} (h : Lf v) : TyX K H v (.type (lfT v)) := by
  cases h with
  | non => exact .base .non
  | bl b => exact .base (.bl b)
  | str x => exact .base (.str x)
theorem lf_not {K : PySem.W.Frag} {v : V} (h : Lf v) : PySem.W.kitAny K (.type (lfT v)) [.type "list", .type "tuple"] = some false := by
  cases h with
  | non => exact kitAny_cons (kit_ty (show kitB "NoneType" "list" = some false by decide +kernel)) (fun _ => kitAny_cons (kit_ty (show kitB "NoneType" "tuple" = some false by decide +kernel)) (fun _ => kitAny_nil) (fun z => by cases z)) (fun z => by cases z)
  | bl b => exact kitAny_cons (kit_ty (show kitB "bool" "list" = some false by decide +kernel)) (fun _ => kitAny_cons (kit_ty (show kitB "bool" "tuple" = some false by decide +kernel)) (fun _ => kitAny_nil) (fun z => by cases z)) (fun z => by cases z)
  | str x => exact kitAny_cons (kit_ty (show kitB "str" "list" = some false by decide +kernel)) (fun _ => kitAny_cons (kit_ty (show kitB "str" "tuple" = some false by decide +kernel)) (fun _ => kitAny_nil) (fun z => by cases z)) (fun z => by cases z)
theorem list_any {K : PySem.W.Frag} : PySem.W.kitAny K (.type "list") [.type "list", .type "tuple"] = some true := kitAny_cons (kit_ty (show kitB "list" "list" = some true by decide +kernel)) (fun z => by cases z) fun _ => rfl
theorem ty2 : Paired ClsV [V.ty "list", V.ty "tuple"] [.type "list", .type "tuple"] := .cons (.ty _) (.cons (.ty _) .nil)
theorem all_trues (n : Nat) : (List.replicate n true).all id = true := by
  rw [List.all_eq_true]
  intro b hb
  rw [(List.mem_replicate.mp hb).2]; rfl
section
variable {P : Program} {w : World} {K : PySem.W.Frag} {mg : Str → Option Value} {base : Heap} {f g e : Addr} {fd gd ed : FuncData}
theorem ok_alike {k : Nat} {sp sp' : Sp} (F : Fun K "_law_alike" "_law_alike" sAlike f fd) (G : FnOk P w K mg base CX0 k f fd ["found", "owed"] sp) (bF : Binds K fd ["found", "owed"] []) (mF : mg "_law_alike" = some (.ref f))
    (mi : mg "isinstance" = none) (ms : mg "str" = none) (mn : mg "int" = none) (mb : mg "bool" = none) (mt : mg "tuple" = none) (mll : mg "list" = none) (ml : mg "len" = none) (ma : mg "all" = none) (mr : mg "range" = none)
    (hsp : (sp' = spAlikeL) ∨ (sp = spAlikeL ∧ sp' = spAlike)) :
    FnOk P w K mg base CX0 (k + 1) f fd ["found", "owed"] sp' := by
  refine F.ok scAlike (fun vs H Q E h => ?_) (fun cdv A outer s0 H vs Q E0 hr h => ?_)
  · rcases hsp with rfl | ⟨_, rfl⟩
    · obtain ⟨_, rfl, _⟩ := h
      rfl
    · obtain ⟨_, _, _, rfl, _⟩ := h
      rfl
  have hu := hr.units
  refine ⟨_, pss_cons (ps_if (pt_val (pe_callB call_isiT rfl mi (by decide +kernel) (pa_cons (pv 1) (pa_cons (pe_tup (pa_cons (pe_bltn rfl mll (by decide +kernel) (show RelV (.ty "list") (.type "list") from rfl)) (pa_cons (pe_bltn rfl mt (by decide +kernel) (show RelV (.ty "tuple") (.type "tuple") from rfl)) pa_nil))) pa_nil))))
      (pss_cons (ps_if (PW.pt (pw_or (pt_not (pt_val (pe_callB call_isiT rfl mi (by decide +kernel) (pa_cons (pv 0) (pa_cons (pe_tup (pa_cons (pe_bltn rfl mll (by decide +kernel) (show RelV (.ty "list") (.type "list") from rfl)) (pa_cons (pe_bltn rfl mt (by decide +kernel) (show RelV (.ty "tuple") (.type "tuple") from rfl)) pa_nil))) pa_nil)))))
          (pw_or1 (pt_cmpR op_ne (pe_callB call_isi rfl mi (by decide +kernel) (pa_cons (pv 0) (pa_cons (pe_bltn rfl mll (by decide +kernel) (show RelV (.ty "list") (.type "list") from rfl)) pa_nil))) (pe_callB call_isi rfl mi (by decide +kernel) (pa_cons (pv 1) (pa_cons (pe_bltn rfl mll (by decide +kernel) (show RelV (.ty "list") (.type "list") from rfl)) pa_nil))) (nomark _)))))
        (pss_one (ps_ret pe_bl)) pss_nil)
      (pss_one (ps_ret (pe_and (pe_cmpR op_eq (pe_callB call_len_seq rfl ml PySem.boot_len (pa_cons (pv 0) pa_nil)) (pe_callB call_len_seq rfl ml PySem.boot_len (pa_cons (pv 1) pa_nil)) (nomark _)) (pe_one (pe_callB (cr_all rfl) rfl ma (by decide +kernel) (pa_cons
        (pe_lc (own := [("k", 2)]) (g := gName 2) (tt := tYes) rfl scAlike.nd (pi_range1 rfl mr (pa_cons (pe_callB call_len_seq rfl ml PySem.boot_len (pa_cons (pv 1) pa_nil)) pa_nil)) (blkOk_by (N := ["found", "owed", "k"]) (sc := defScope sAlike) (by decide +kernel)) (fun _ _ _ _ _ => pg_name (i := 2) scAlike.nd rfl (Or.inl rfl)) (fun _ _ _ _ _ => pts_nil)
          (fun _ _ _ _ _ => pe_call G hr rfl mF F.kp bF .nil pass0 (pa_cons (pe_ix (show IxR _ (rIxL K) from ix_list) (pv 0) (pv 2) (fun _ _ => rfl)) (pa_cons (pe_ix (show IxR _ (rIxL K) from ix_list) (pv 1) (pv 2) (fun _ _ => rfl)) pa_nil)))) pa_nil))))))) pss_nil)
    (pss_cons (ps_if (PW.pt (pw_or (pt_cmpR op_isN (pv 1) pe_non (nomark _)) (pw_or1 (pt_val (pe_callB call_isi rfl mi (by decide +kernel) (pa_cons (pv 1) (pa_cons (pe_bltn rfl ms (by decide +kernel) (show RelV (.ty "str") (.type "str") from rfl)) pa_nil)))))))
      (pss_one (ps_ret (pe_and (pe_cmpR op_eq (pv 0) (pv 1) (nomark _)) (pe_one (pe_cmpR op_eq (pe_cmpR op_isN (pv 1) pe_non (nomark _)) (pe_cmpR op_isN (pv 0) pe_non (nomark _)) (nomark _)))))) pss_nil)
    (pss_one (ps_ret (pe_and (pe_cmpR op_eq (pe_callB call_isi rfl mi (by decide +kernel) (pa_cons (pv 0) (pa_cons (pe_bltn rfl mb (by decide +kernel) (show RelV (.ty "bool") (.type "bool") from rfl)) pa_nil))) (pe_callB call_isi rfl mi (by decide +kernel) (pa_cons (pv 1) (pa_cons (pe_bltn rfl mb (by decide +kernel) (show RelV (.ty "bool") (.type "bool") from rfl)) pa_nil))) (nomark _))
      (pe_and (pe_callB call_isi rfl mi (by decide +kernel) (pa_cons (pv 0) (pa_cons (pe_bltn rfl mn (by decide +kernel) (show RelV (.ty "int") (.type "int") from rfl)) pa_nil))) (pe_one (pe_cmpR op_eq (pv 0) (pv 1) (nomark _)))))))), ?_⟩
  rcases hsp with rfl | ⟨rfl, rfl⟩
  · obtain ⟨v, rfl, lf, q⟩ := h
    refine ⟨_, rfl, (by show 2 ≤ sizeLine; decide), fun p hp => ?_⟩
    have s1 := same_new hp (.tup [.ty "list", .ty "tuple"])
    refine ⟨_, p, _, _, _, _, rfl, upd_same, ty2, lf_ty lf, lf_not lf, _, rfl, iteF ?_⟩
    cases lf with
    | non => exact ⟨_, rfl, rfl, _, rfl, iteT (iteT ⟨_, rfl, _, rfl, rfl, _, rfl, iteT ⟨_, rfl, rfl, _, rfl, rfl, rfl, q _ s1⟩⟩)⟩
    | str x =>
      refine ⟨_, rfl, rfl, _, rfl, iteF ?_⟩
      refine ⟨_, rfl, .str x, .ty "str", _, _, _, rfl, .ty _, .base (.str x), kit_ty (show kitB "str" "str" = some true by decide +kernel), _, rfl, iteT ?_⟩
      refine ⟨_, rfl, _, rfl, rfl, _, rfl, ?_⟩
      rw [show decide (V.str x = V.str x) = true from decide_eq_true rfl]
      exact iteT ⟨_, rfl, rfl, _, rfl, rfl, rfl, q _ s1⟩
    | bl b =>
      refine ⟨_, rfl, rfl, _, rfl, iteF ?_⟩
      refine ⟨_, rfl, .bl b, .ty "str", _, _, _, rfl, .ty _, .base (.bl b), kit_ty (show kitB "bool" "str" = some false by decide +kernel), _, rfl, iteF ?_⟩
      refine ⟨_, rfl, .bl b, .ty "bool", _, _, _, rfl, .ty _, .base (.bl b), kit_ty (show kitB "bool" "bool" = some true by decide +kernel), _, rfl, .bl b, .ty "bool", _, _, _, rfl, .ty _, .base (.bl b), kit_ty (show kitB "bool" "bool" = some true by decide +kernel), rfl, _, rfl, iteT ?_⟩
      refine ⟨_, rfl, .bl b, .ty "int", _, _, _, rfl, .ty _, .base (.bl b), kit_ty (show kitB "bool" "int" = some true by decide +kernel), _, rfl, iteT ⟨_, rfl, _, rfl, rfl, ?_⟩⟩
      rw [decide_eq_true rfl]
      exact q _ s1
  · obtain ⟨a, b, xs, rfl, ha, hb, lf, lx, q⟩ := h
    refine ⟨_, rfl, (by show 2 ≤ sizeLine; decide), fun p hp => ?_⟩
    have s1 := same_new hp (.tup [.ty "list", .ty "tuple"])
    refine ⟨_, p, _, _, _, _, rfl, upd_same, ty2, .base (.lst (s1 _ _ hb)), list_any, _, rfl, iteT ?_⟩
    refine ⟨_, rfl, (by show 2 ≤ sizeLine; decide), fun p2 hp2 => ?_⟩
    have s2 := s1.trans (same_new hp2 (.tup [.ty "list", .ty "tuple"]))
    refine ⟨_, p2, _, _, _, _, rfl, upd_same, ty2, .base (.lst (s2 _ _ ha)), list_any, _, rfl, iteF ?_⟩
    refine ⟨_, rfl, .ref a, .ty "list", _, _, _, rfl, .ty _, .base (.lst (s2 _ _ ha)), kit_ty (show kitB "list" "list" = some true by decide +kernel), _, rfl, .ref b, .ty "list", _, _, _, rfl, .ty _, .base (.lst (s2 _ _ hb)), kit_ty (show kitB "list" "list" = some true by decide +kernel), rfl, _, rfl, iteF ?_⟩
    generalize upd (upd H p (.tup [.ty "list", .ty "tuple"])) p2 (.tup [.ty "list", .ty "tuple"]) = H1 at s2
    have ea := s2 _ _ ha
    have eb := s2 _ _ hb
    refine ⟨_, rfl, a, _, rfl, .inl (SqL.of ea), _, rfl, b, _, rfl, .inl (SqL.of eb), rfl, _, rfl, ?_⟩
    rw [dec_int, decide_eq_true rfl]
    refine iteT ?_
    refine ⟨_, rfl, b, _, rfl, .inl (SqL.of eb), _, rfl, by omega, by omega, fun D hD => ?_⟩
    have sD := same_new hD (.lst [])
    have hDH : H D = none := by
      cases e : H D with
      | none => rfl
      | some o => rw [s2 _ _ e] at hD; cases hD
    refine lc_range (lo := 0) (fun i H' => H' D = some (.lst ((List.replicate i true).map V.bl)) ∧ Same H H') ⟨upd_same, s2.trans sD⟩ (fun i H' hi p' => ?_) (fun H' p' => ?_)
    · obtain ⟨eD, sS⟩ := p'
      refine ⟨rfl, ?_⟩
      simp only [tYes, ↓reduceIte]
      have hi' : i < xs.length := by omega
      have hv : xs[i]? = some xs[i] := List.getElem?_eq_getElem hi'
      have hz : (0 : Int) + (i : Nat) = (i : Nat) := Int.zero_add _
      rw [hz]
      refine ⟨_, rfl, _, rfl, a, _, _, _, rfl, rfl, SqL.of (sS _ _ ha), atI_nat hv, _, rfl, _, rfl, b, _, _, _, rfl, rfl, SqL.of (sS _ _ hb), atI_nat hv, _, rfl, lf _ (List.getElem_mem hi'), fun H2 s3 => ⟨_, s3 _ _ eD, ?_, ?_, same_upd (sS.trans s3) hDH⟩⟩
      · rw [List.length_map, List.length_replicate, sizeLine_eq]; omega
      · rw [upd_same, List.replicate_succ', List.map_append]; rfl
    · obtain ⟨eD, sS⟩ := p'
      refine ⟨D, _, rfl, SqL.of eD, ?_⟩
      rw [all_trues]
      exact q _ sS
end
end Pa
set_option maxHeartbeats 4000000
namespace Pa
open PySem PySem.Spec PyProof.Rows L2 Ty Se
def spAgains (d : Nat) : Sp := fun vs H Q _ => ∃ (v : V) (p : Pat), vs = [v] ∧ RP H p v ∧ deepP p ≤ d ∧ ∀ (n : Int) H', Same H H' → Q (.int n) H'
theorem scAgains : FnScope ["mould", "part"] ["mould"] (defScope sAgains) := ⟨rfl, rfl, rfl, by decide +kernel, rfl, by decide +kernel, by decide +kernel⟩
def spAround (d : Nat) : Sp := fun vs H Q _ => ∃ (j : Addr) (C : Nat) (v : V) (p : Pat), vs = [.ref j, v] ∧ Jar j H C ∧ C ≤ 999998000 ∧ RP H p v ∧ Wf p ∧ deepP p ≤ d ∧ Drawn j H (C + 2) (deepP p + 1) (sizeP p + 2) (manyP p) Q
theorem scAround : FnScope ["jar", "mould", "way"] ["jar", "mould"] (defScope sAround) := ⟨rfl, rfl, rfl, by decide +kernel, rfl, by decide +kernel, by decide +kernel⟩
def spAlong (d : Nat) : Sp := fun vs H Q _ => ∃ (j : Addr) (C : Nat) (v : V) (p : Pat), vs = [.ref j, v] ∧ Jar j H C ∧ C + 4 ^ deepP p ≤ 999998000 ∧ RP H p v ∧ Wf p ∧ deepP p ≤ d ∧ deepP p ≤ 16 ∧ ∀ (x : Str) H', x.length ≤ 2 ^ deepP p → Jar j H' (C + 4 ^ deepP p) → Keep j H H' → Q (.str x) H'
theorem scAlong : FnScope ["jar", "mould", "many", "k"] ["jar", "mould"] (defScope sAlong) := ⟨rfl, rfl, rfl, by decide +kernel, rfl, by decide +kernel, by decide +kernel⟩
theorem join_two {ys : List Str} {B : Nat} (h : ys.length ≤ 2) (hb : ∀ y, y ∈ ys → y.length ≤ B) : (Txt.join "" ys).length ≤ B * 2 ∧ (ys.map (·.length)).sum ≤ B * 2 := by
  rw [TL.join_eq]
  match ys, h, hb with
  | [], _, _ => exact ⟨Nat.zero_le _, Nat.zero_le _⟩
  | [a], _, hb =>
    have := hb a (List.mem_singleton_self _)
    have e : Str.join "" [a] = a := rfl
    rw [e]
    exact ⟨by omega, by show a.length + 0 ≤ _; omega⟩
  | [a, b], _, hb =>
    have h1 := hb a (by simp)
    have h2 := hb b (by simp)
    have e : Str.join "" [a, b] = a ++ "" ++ b := rfl
    rw [e, app_len, app_len]
    have e0 : ("" : Str).length = 0 := rfl
    exact ⟨by omega, by show a.length + (b.length + 0) ≤ _; omega⟩
  | _ :: _ :: _ :: _, h, _ => exact absurd h (by simp)
section
variable {P : Program} {w : World} {K : PySem.W.Frag} {mg : Str → Option Value} {base : Heap} {f g e : Addr} {fd gd ed : FuncData}
theorem agains_left : FnOk P w K mg base CX0 1 f fd ["mould"] (spAgains 0) := by
  have no : ∀ vs H Q E, ¬ spAgains 0 vs H Q E := fun vs H Q E h => by
    obtain ⟨_, p, _, _, h, _⟩ := h
    have := deep_pos p
    omega
  exact ⟨fun vs H Q E h => absurd h (no vs H Q E), fun A outer s H args us vs Q E _ _ _ _ h => absurd h (no vs H Q E)⟩
theorem ok_agains {d : Nat} (F : Fun K "_law_agains" "_law_agains" sAgains f fd) (GM : FnOk P w K mg base CX0 (d + 1) f fd ["mould"] (spAgains d)) (bF : Binds K fd ["mould"] []) (mF : mg "_law_agains" = some (.ref f)) (mi : mg "int" = none) (msu : mg "sum" = none) :
    FnOk P w K mg base CX0 (d + 2) f fd ["mould"] (spAgains (d + 1)) := by
  refine F.ok scAgains (fun vs H Q E h => ?_) (fun cdv A outer s0 H vs Q E0 hr h => ?_)
  · obtain ⟨_, _, rfl, _⟩ := h
    rfl
  obtain ⟨v, p, rfl, rp, hd, q⟩ := h
  refine ⟨_, pss_cons (ps_if (pt_cmpR op_eq (pe_ix ix_tup (pv 0) pe_int (fun _ _ => rfl)) pe_str (nomark _)) (pss_one (ps_ret pe_int)) pss_nil)
    (pss_one (ps_ret (pe_op op_add (pe_callTy call_int1 rfl mi (by decide +kernel) (pa_cons (pe_cmpR op_in_seq (pe_ix ix_tup (pv 0) pe_int (fun _ _ => rfl)) (pe_lst (pa_cons pe_str (pa_cons pe_str pa_nil))) rfl) pa_nil))
      (pe_callB (cr_sum rfl) rfl msu (by decide +kernel) (pa_cons (pe_lc (own := [("part", 1)]) (g := gName 1) (tt := tYes) rfl scAgains.nd (pi_tup (pe_slice sl_tup (pv 0) (po_some pe_int) po_none)) (blkOk_by (N := ["mould", "part"]) (sc := defScope sAgains) (by decide +kernel)) (fun _ _ _ _ _ => pg_name (i := 1) scAgains.nd rfl (Or.inl rfl)) (fun _ _ _ _ _ => pts_nil)
        (fun _ _ _ _ _ => pe_call GM hr rfl mF F.kp bF .nil pass0 (pa_cons (pv 1) pa_nil))) pa_nil))))), ?_⟩
  obtain ⟨a, vs, rfl, ha, hcase⟩ := rp.open
  refine ⟨_, rfl, a, _, _, _, rfl, rfl, SqT.of ha, at_zero, rfl, _, rfl, ?_⟩
  rcases hcase with ⟨x, rfl, rfl⟩ | ⟨hns, _, hps⟩
  · exact itE (by show decide (("signs" : Str) = "signs") = true; decide +kernel) (q 0 H same_refl)
  refine itW (decide_eq_false hns) ?_
  refine ⟨_, rfl, a, _, _, _, rfl, rfl, SqT.of ha, at_zero, (by show 2 ≤ sizeLine; decide), fun p1 hp1 => ?_⟩
  have s0 := same_new hp1 (.lst [.str "again", .str "more"])
  refine ⟨p1, _, rfl, .inl (SqL.of upd_same), rfl, rfl, .inr ⟨_, rfl, ?_⟩⟩
  refine ⟨_, rfl, _, rfl, a, _, rfl, SqT.of (s0 _ _ ha), cut_no, fun t ht => ?_⟩
  rw [cut_tail]
  have s1 := s0.trans (same_new ht (.tup vs))
  refine ⟨t, rfl, ⟨_, SqT.of upd_same⟩, fun L hL => ?_⟩
  have lps : vs.length = (partsP p).length := Paired.length hps
  have l2 : (partsP p).length ≤ 2 := by cases p <;> (show _ ≤ 2) <;> simp [partsP]
  have et0 : (upd (upd H p1 (.lst [.str "again", .str "more"])) t (.tup vs)) t = some (.tup vs) := upd_same
  generalize upd (upd H p1 (.lst [.str "again", .str "more"])) t (.tup vs) = H1 at s1 hL et0
  have sL := same_new hL (.lst [])
  have hLH : H L = none := by
    cases e : H L with
    | none => rfl
    | some o => rw [s1 _ _ e] at hL; cases hL
  have tL : t ≠ L := fun e => by rw [← e, et0] at hL; cases hL
  refine lc_tup (K := K) (xs := vs) (fun i H' => ∃ ns : List Int, H' L = some (.lst (ns.map V.int)) ∧ ns.length ≤ i ∧ Same H H' ∧ H' t = some (.tup vs)) ⟨[], upd_same, Nat.zero_le _, s1.trans sL, sL _ _ et0⟩ (fun i H' _ h => by obtain ⟨_, _, _, _, h⟩ := h; exact SqT.of h) (fun i v H' hv h => ?turn) (fun H' h => ?done)
  case turn =>
    obtain ⟨ns, eL, ln, sS, et⟩ := h
    obtain ⟨r, hr', rr⟩ := paired_get hps i v hv
    have rm := List.mem_of_getElem? hr'
    have dr := deep_part rm
    have hi := (List.getElem?_eq_some_iff.mp hv).1
    refine ⟨rfl, ?_⟩
    simp only [tYes, ↓reduceIte]
    exact ⟨_, rfl, v, r, rfl, rr.tk (Tk.of_same sS), by omega, fun n H2 s2 => ⟨_, s2 _ _ eL, by rw [List.length_map, sizeLine_eq]; omega, ns ++ [n], by rw [upd_same, List.map_append]; rfl, by rw [List.length_append]; show ns.length + 1 ≤ i + 1; omega, same_upd (sS.trans s2) hLH, by rw [upd_ne tL]; exact s2 _ _ et⟩⟩
  case done =>
    obtain ⟨ns, eL, ln, sS, et⟩ := h
    exact ⟨L, ns, rfl, SqL.of eL, _, _, rfl, rfl, q _ H' sS⟩
theorem ok_around {d : Nat} (F : Fun K "_law_around" "_law_around" sAround f fd) (G : FnOk P w K mg base CX0 1 g gd ["jar", "many"] spDip) (bG : Binds K gd ["jar", "many"] []) (kG : PySem.W.keepIn K (.ref g) = true) (mG : mg "_law_dip" = some (.ref g))
    (GA : FnOk P w K mg base CX0 (d + 1) e ed ["mould"] (spAgains d)) (bA : Binds K ed ["mould"] []) (kA : PySem.W.keepIn K (.ref e) = true) (mA : mg "_law_agains" = some (.ref e)) :
    FnOk P w K mg base CX0 (d + 2) f fd ["jar", "mould"] (spAround d) := by
  refine F.ok scAround (fun vs H Q E h => ?_) (fun cdv A outer s0 H vs Q E0 hr h => ?_)
  · obtain ⟨_, _, _, _, rfl, _⟩ := h
    rfl
  obtain ⟨j, C, v, p, rfl, hj, hC, rp, wf, hd, q⟩ := h
  have G' := G.mono (show 1 ≤ d + 1 by omega)
  refine ⟨_, pss_cons (ps_set (i := 2) scAround.nd rfl (.inl rfl) (pe_call G' hr rfl mG kG bG .nil pass0 (pa_cons (pv 0) (pa_cons pe_int pa_nil))))
    (pss_cons (ps_if (PW.pt (pw_and (pt_cmpR op_in_seq (pv 2) (pe_lst (pa_cons pe_int (pa_cons pe_int pa_nil))) rfl) (pw_and1 (pt_cmpR op_gt (pe_call GA hr rfl mA kA bA .nil pass0 (pa_cons (pv 1) pa_nil)) pe_int (nomark _)))))
      (pss_one (ps_set (i := 2) scAround.nd rfl (.inl rfl) (pe_ix ix_list (pe_lst (pa_cons pe_int (pa_cons pe_int (pa_cons pe_int pa_nil)))) (pe_call G' hr rfl mG kG bG .nil pass0 (pa_cons (pv 0) (pa_cons pe_int pa_nil))) (fun _ _ => rfl)))) pss_nil)
    (pss_cons (ps_if (pt_cmpR op_lt (pv 2) pe_int (nomark _))
      (pss_one (ps_ret (pe_ix ix_list (pe_lst (pa_cons (pe_tup (pa_cons pe_str (pa_cons (pe_tup (pa_cons pe_str pa_nil)) (pa_cons (pv 1) pa_nil)))) (pa_cons (pe_tup (pa_cons pe_str (pa_cons (pv 1) (pa_cons (pe_tup (pa_cons pe_str pa_nil)) pa_nil)))) pa_nil))) (pv 2) (fun _ _ => rfl)))) pss_nil)
    (pss_one (ps_ret (pe_tup (pa_cons (pe_ix ix_list (pe_lst (pa_cons pe_str (pa_cons pe_str (pa_cons pe_str pa_nil)))) (pe_op op_sub (pv 2) pe_int) (fun _ _ => rfl)) (pa_cons (pv 1) pa_nil))))))), ?_⟩
  refine ⟨_, rfl, j, C, 5, rfl, hj, by omega, by decide, by decide, fun way H1 w0 w5 hj1 kp1 => ?_⟩
  refine ⟨_, rfl, (by show 2 ≤ sizeLine; decide), fun p1 hp1 => ?_⟩
  have s1 := same_new hp1 (.lst [.int 2, .int 3])
  refine ⟨p1, _, rfl, .inl (SqL.of upd_same), rfl, rfl, _, rfl, ?_⟩
  have hj2 := hj1.keep s1
  have kp2 := kp1.trans (Keep.of_same s1)
  generalize upd H1 p1 (.lst [.int 2, .int 3]) = H2 at hj2 kp2
  clear s1 hp1
  refine ite2 (fun c1 => ?_) (fun c1 => ?_)
  · refine ⟨_, rfl, v, p, rfl, rp.tk (Tk.of_keep hj kp2), hd, fun n H3 s3 => ⟨_, _, rfl, rfl, _, rfl, ?_⟩⟩
    have hj3 := hj2.keep s3
    have kp3 := kp2.trans (Keep.of_same s3)
    refine ite2 (fun c2 => ?_) (fun c2 => ?_)
    · refine ⟨(by show 3 ≤ sizeLine; decide), fun p4 hp4 => ?_⟩
      have s4 := same_new hp4 (.lst [.int 0, .int 1, .int 4])
      have p4j := hj3.ne hp4
      refine ⟨_, rfl, j, C + 1, 3, rfl, hj3.keep s4, by omega, by decide, by decide, fun r HX r0 r1 hjX kp5 => ?_⟩
      have kX := (kp3.trans (Keep.of_same s4)).trans kp5
      clear w0 w5
      obtain ⟨way, hy, w0, w5⟩ : ∃ way : Int, atI [V.int 0, V.int 1, V.int 4] r = some (.int way) ∧ 0 ≤ way ∧ way < 5 := by
        have h : r = 0 ∨ r = 1 ∨ r = 2 := by omega
        rcases h with rfl | rfl | rfl
        · exact ⟨0, rfl, by decide, by decide⟩
        · exact ⟨1, rfl, by decide, by decide⟩
        · exact ⟨4, rfl, by decide, by decide⟩
      refine ⟨p4, _, _, _, rfl, rfl, SqL.of (kp5 _ _ p4j upd_same), hy, ?_⟩
      have rpX : RP HX p v := rp.tk (Tk.of_keep hj kX)
      refine ⟨_, rfl, _, _, rfl, rfl, _, rfl, ?_⟩
      refine ite2 (fun c => ?_) (fun c => ?_)
      · have c' : way < 2 := of_decide_eq_true c
        refine ⟨(by show 1 ≤ sizeLine; decide), fun t1 ht1 => ⟨_, rfl, (by show 3 ≤ sizeLine; decide), fun t2 ht2 => ⟨_, rfl, (by show 1 ≤ sizeLine; decide), fun t3 ht3 => ⟨(by show 3 ≤ sizeLine; decide), fun t4 ht4 => ⟨(by show 2 ≤ sizeLine; decide), fun l hl => ?_⟩⟩⟩⟩⟩
        have z1 := same_new ht1 (.tup [.str "empty"])
        have z2 := same_new ht2 (.tup [.str "or", .ref t1, v])
        have z3 := same_new ht3 (.tup [.str "empty"])
        have z4 := same_new ht4 (.tup [.str "then", v, .ref t3])
        have z5 := same_new hl (.lst [.ref t2, .ref t4])
        have zA := z1.trans (z2.trans (z3.trans (z4.trans z5)))
        have kA := kX.trans (Keep.of_same zA)
        have jA := hjX.keep zA
        have rA := rpX.tk (Tk.of_same zA)
        have y1 := (z2.trans (z3.trans (z4.trans z5))) _ _ upd_same
        have y2 := (z3.trans (z4.trans z5)) _ _ upd_same
        have y3 := (z4.trans z5) _ _ upd_same
        have y4 := z5 _ _ upd_same
        obtain rfl | rfl : way = 0 ∨ way = 1 := by omega
        · exact ⟨_, rfl, l, _, _, _, rfl, rfl, SqL.of upd_same, at_zero, q _ (.oo .em p) _ ⟨t2, _, _, rfl, y2, ⟨t1, rfl, y1⟩, rA⟩ ⟨trivial, wf⟩ (by show max 1 _ + 1 ≤ _; have := deep_pos p; omega) (by show 1 + _ + 1 ≤ _; omega) (by show 0 + _ ≤ _; omega) jA kA⟩
        · exact ⟨_, rfl, l, _, _, _, rfl, rfl, SqL.of upd_same, at_one, q _ (.th p .em) _ ⟨t4, _, _, rfl, y4, rA, ⟨t3, rfl, y3⟩⟩ ⟨wf, trivial⟩ (by show max _ 1 + 1 ≤ _; have := deep_pos p; omega) (by show _ + 1 + 1 ≤ _; omega) (by show _ + 0 ≤ _; omega) jA kA⟩
      · have c' : ¬ way < 2 := of_decide_eq_false (Bool.eq_false_iff.mpr c)
        refine ⟨(by show 3 ≤ sizeLine; decide), fun l hl => ?_⟩
        have z1 := same_new hl (.lst [.str "again", .str "more", .str "maybe"])
        have go : ∀ (y : Str) (p' : Pat), Wf p' → deepP p' ≤ deepP p + 1 → sizeP p' ≤ sizeP p + 2 → manyP p' ≤ manyP p → (∀ H' t, H' t = some (.tup [.str y, v]) → RP H' p v → RP H' p' (.ref t)) → ∀ t, (upd HX l (.lst [.str "again", .str "more", .str "maybe"])) t = none → Q (.ref t) (upd (upd HX l (.lst [.str "again", .str "more", .str "maybe"])) t (.tup [.str y, v])) := fun y p' w1 w2 w3 w4 hh t ht => by
          have zA := z1.trans (same_new ht (.tup [.str y, v]))
          exact q _ p' _ (hh _ t upd_same (rpX.tk (Tk.of_same zA))) w1 w2 w3 w4 (hjX.keep zA) (kX.trans (Keep.of_same zA))
        obtain rfl | rfl | rfl : way = 2 ∨ way = 3 ∨ way = 4 := by omega
        · exact ⟨_, rfl, _, _, rfl, rfl, l, _, _, _, rfl, rfl, SqL.of upd_same, (show atI [V.str "again", V.str "more", V.str "maybe"] (2 - 2) = some (V.str "again") from rfl), _, rfl, (by show 2 ≤ sizeLine; decide), go _ (.ag p) wf (by show _ + 1 ≤ _; omega) (by show _ + 1 ≤ _; omega) (by show manyP p ≤ _; omega) fun _ t h r => ⟨t, _, rfl, h, r⟩⟩
        · exact ⟨_, rfl, _, _, rfl, rfl, l, _, _, _, rfl, rfl, SqL.of upd_same, (show atI [V.str "again", V.str "more", V.str "maybe"] (3 - 2) = some (V.str "more") from rfl), _, rfl, (by show 2 ≤ sizeLine; decide), go _ (.mo p) wf (by show _ + 1 ≤ _; omega) (by show _ + 1 ≤ _; omega) (by show manyP p ≤ _; omega) fun _ t h r => ⟨t, _, rfl, h, r⟩⟩
        · exact ⟨_, rfl, _, _, rfl, rfl, l, _, _, _, rfl, rfl, SqL.of upd_same, (show atI [V.str "again", V.str "more", V.str "maybe"] (4 - 2) = some (V.str "maybe") from rfl), _, rfl, (by show 2 ≤ sizeLine; decide), go _ (.mb p) wf (by show _ + 1 ≤ _; omega) (by show _ + 1 ≤ _; omega) (by show manyP p ≤ _; omega) fun _ t h r => ⟨t, _, rfl, h, r⟩⟩
    · have hjX := hj3.mono (show C + 1 ≤ C + 2 by omega)
      have kX := kp3
      revert hjX kX
      generalize H3 = HX
      intro hjX kX
      have rpX : RP HX p v := rp.tk (Tk.of_keep hj kX)
      refine ⟨_, rfl, _, _, rfl, rfl, _, rfl, ?_⟩
      refine ite2 (fun c => ?_) (fun c => ?_)
      · have c' : way < 2 := of_decide_eq_true c
        refine ⟨(by show 1 ≤ sizeLine; decide), fun t1 ht1 => ⟨_, rfl, (by show 3 ≤ sizeLine; decide), fun t2 ht2 => ⟨_, rfl, (by show 1 ≤ sizeLine; decide), fun t3 ht3 => ⟨(by show 3 ≤ sizeLine; decide), fun t4 ht4 => ⟨(by show 2 ≤ sizeLine; decide), fun l hl => ?_⟩⟩⟩⟩⟩
        have z1 := same_new ht1 (.tup [.str "empty"])
        have z2 := same_new ht2 (.tup [.str "or", .ref t1, v])
        have z3 := same_new ht3 (.tup [.str "empty"])
        have z4 := same_new ht4 (.tup [.str "then", v, .ref t3])
        have z5 := same_new hl (.lst [.ref t2, .ref t4])
        have zA := z1.trans (z2.trans (z3.trans (z4.trans z5)))
        have kA := kX.trans (Keep.of_same zA)
        have jA := hjX.keep zA
        have rA := rpX.tk (Tk.of_same zA)
        have y1 := (z2.trans (z3.trans (z4.trans z5))) _ _ upd_same
        have y2 := (z3.trans (z4.trans z5)) _ _ upd_same
        have y3 := (z4.trans z5) _ _ upd_same
        have y4 := z5 _ _ upd_same
        obtain rfl | rfl : way = 0 ∨ way = 1 := by omega
        · exact ⟨_, rfl, l, _, _, _, rfl, rfl, SqL.of upd_same, at_zero, q _ (.oo .em p) _ ⟨t2, _, _, rfl, y2, ⟨t1, rfl, y1⟩, rA⟩ ⟨trivial, wf⟩ (by show max 1 _ + 1 ≤ _; have := deep_pos p; omega) (by show 1 + _ + 1 ≤ _; omega) (by show 0 + _ ≤ _; omega) jA kA⟩
        · exact ⟨_, rfl, l, _, _, _, rfl, rfl, SqL.of upd_same, at_one, q _ (.th p .em) _ ⟨t4, _, _, rfl, y4, rA, ⟨t3, rfl, y3⟩⟩ ⟨wf, trivial⟩ (by show max _ 1 + 1 ≤ _; have := deep_pos p; omega) (by show _ + 1 + 1 ≤ _; omega) (by show _ + 0 ≤ _; omega) jA kA⟩
      · have c' : ¬ way < 2 := of_decide_eq_false (Bool.eq_false_iff.mpr c)
        refine ⟨(by show 3 ≤ sizeLine; decide), fun l hl => ?_⟩
        have z1 := same_new hl (.lst [.str "again", .str "more", .str "maybe"])
        have go : ∀ (y : Str) (p' : Pat), Wf p' → deepP p' ≤ deepP p + 1 → sizeP p' ≤ sizeP p + 2 → manyP p' ≤ manyP p → (∀ H' t, H' t = some (.tup [.str y, v]) → RP H' p v → RP H' p' (.ref t)) → ∀ t, (upd HX l (.lst [.str "again", .str "more", .str "maybe"])) t = none → Q (.ref t) (upd (upd HX l (.lst [.str "again", .str "more", .str "maybe"])) t (.tup [.str y, v])) := fun y p' w1 w2 w3 w4 hh t ht => by
          have zA := z1.trans (same_new ht (.tup [.str y, v]))
          exact q _ p' _ (hh _ t upd_same (rpX.tk (Tk.of_same zA))) w1 w2 w3 w4 (hjX.keep zA) (kX.trans (Keep.of_same zA))
        obtain rfl | rfl | rfl : way = 2 ∨ way = 3 ∨ way = 4 := by omega
        · exact ⟨_, rfl, _, _, rfl, rfl, l, _, _, _, rfl, rfl, SqL.of upd_same, (show atI [V.str "again", V.str "more", V.str "maybe"] (2 - 2) = some (V.str "again") from rfl), _, rfl, (by show 2 ≤ sizeLine; decide), go _ (.ag p) wf (by show _ + 1 ≤ _; omega) (by show _ + 1 ≤ _; omega) (by show manyP p ≤ _; omega) fun _ t h r => ⟨t, _, rfl, h, r⟩⟩
        · exact ⟨_, rfl, _, _, rfl, rfl, l, _, _, _, rfl, rfl, SqL.of upd_same, (show atI [V.str "again", V.str "more", V.str "maybe"] (3 - 2) = some (V.str "more") from rfl), _, rfl, (by show 2 ≤ sizeLine; decide), go _ (.mo p) wf (by show _ + 1 ≤ _; omega) (by show _ + 1 ≤ _; omega) (by show manyP p ≤ _; omega) fun _ t h r => ⟨t, _, rfl, h, r⟩⟩
        · exact ⟨_, rfl, _, _, rfl, rfl, l, _, _, _, rfl, rfl, SqL.of upd_same, (show atI [V.str "again", V.str "more", V.str "maybe"] (4 - 2) = some (V.str "maybe") from rfl), _, rfl, (by show 2 ≤ sizeLine; decide), go _ (.mb p) wf (by show _ + 1 ≤ _; omega) (by show _ + 1 ≤ _; omega) (by show manyP p ≤ _; omega) fun _ t h r => ⟨t, _, rfl, h, r⟩⟩
  · have hjX := hj2.mono (show C + 1 ≤ C + 2 by omega)
    have kX := kp2
    revert hjX kX
    generalize H2 = HX
    intro hjX kX
    have rpX : RP HX p v := rp.tk (Tk.of_keep hj kX)
    refine ⟨_, rfl, _, _, rfl, rfl, _, rfl, ?_⟩
    refine ite2 (fun c => ?_) (fun c => ?_)
    · have c' : way < 2 := of_decide_eq_true c
      refine ⟨(by show 1 ≤ sizeLine; decide), fun t1 ht1 => ⟨_, rfl, (by show 3 ≤ sizeLine; decide), fun t2 ht2 => ⟨_, rfl, (by show 1 ≤ sizeLine; decide), fun t3 ht3 => ⟨(by show 3 ≤ sizeLine; decide), fun t4 ht4 => ⟨(by show 2 ≤ sizeLine; decide), fun l hl => ?_⟩⟩⟩⟩⟩
      have z1 := same_new ht1 (.tup [.str "empty"])
      have z2 := same_new ht2 (.tup [.str "or", .ref t1, v])
      have z3 := same_new ht3 (.tup [.str "empty"])
      have z4 := same_new ht4 (.tup [.str "then", v, .ref t3])
      have z5 := same_new hl (.lst [.ref t2, .ref t4])
      have zA := z1.trans (z2.trans (z3.trans (z4.trans z5)))
      have kA := kX.trans (Keep.of_same zA)
      have jA := hjX.keep zA
      have rA := rpX.tk (Tk.of_same zA)
      have y1 := (z2.trans (z3.trans (z4.trans z5))) _ _ upd_same
      have y2 := (z3.trans (z4.trans z5)) _ _ upd_same
      have y3 := (z4.trans z5) _ _ upd_same
      have y4 := z5 _ _ upd_same
      obtain rfl | rfl : way = 0 ∨ way = 1 := by omega
      · exact ⟨_, rfl, l, _, _, _, rfl, rfl, SqL.of upd_same, at_zero, q _ (.oo .em p) _ ⟨t2, _, _, rfl, y2, ⟨t1, rfl, y1⟩, rA⟩ ⟨trivial, wf⟩ (by show max 1 _ + 1 ≤ _; have := deep_pos p; omega) (by show 1 + _ + 1 ≤ _; omega) (by show 0 + _ ≤ _; omega) jA kA⟩
      · exact ⟨_, rfl, l, _, _, _, rfl, rfl, SqL.of upd_same, at_one, q _ (.th p .em) _ ⟨t4, _, _, rfl, y4, rA, ⟨t3, rfl, y3⟩⟩ ⟨wf, trivial⟩ (by show max _ 1 + 1 ≤ _; have := deep_pos p; omega) (by show _ + 1 + 1 ≤ _; omega) (by show _ + 0 ≤ _; omega) jA kA⟩
    · have c' : ¬ way < 2 := of_decide_eq_false (Bool.eq_false_iff.mpr c)
      refine ⟨(by show 3 ≤ sizeLine; decide), fun l hl => ?_⟩
      have z1 := same_new hl (.lst [.str "again", .str "more", .str "maybe"])
      have go : ∀ (y : Str) (p' : Pat), Wf p' → deepP p' ≤ deepP p + 1 → sizeP p' ≤ sizeP p + 2 → manyP p' ≤ manyP p → (∀ H' t, H' t = some (.tup [.str y, v]) → RP H' p v → RP H' p' (.ref t)) → ∀ t, (upd HX l (.lst [.str "again", .str "more", .str "maybe"])) t = none → Q (.ref t) (upd (upd HX l (.lst [.str "again", .str "more", .str "maybe"])) t (.tup [.str y, v])) := fun y p' w1 w2 w3 w4 hh t ht => by
        have zA := z1.trans (same_new ht (.tup [.str y, v]))
        exact q _ p' _ (hh _ t upd_same (rpX.tk (Tk.of_same zA))) w1 w2 w3 w4 (hjX.keep zA) (kX.trans (Keep.of_same zA))
      obtain rfl | rfl | rfl : way = 2 ∨ way = 3 ∨ way = 4 := by omega
      · exact ⟨_, rfl, _, _, rfl, rfl, l, _, _, _, rfl, rfl, SqL.of upd_same, (show atI [V.str "again", V.str "more", V.str "maybe"] (2 - 2) = some (V.str "again") from rfl), _, rfl, (by show 2 ≤ sizeLine; decide), go _ (.ag p) wf (by show _ + 1 ≤ _; omega) (by show _ + 1 ≤ _; omega) (by show manyP p ≤ _; omega) fun _ t h r => ⟨t, _, rfl, h, r⟩⟩
      · exact ⟨_, rfl, _, _, rfl, rfl, l, _, _, _, rfl, rfl, SqL.of upd_same, (show atI [V.str "again", V.str "more", V.str "maybe"] (3 - 2) = some (V.str "more") from rfl), _, rfl, (by show 2 ≤ sizeLine; decide), go _ (.mo p) wf (by show _ + 1 ≤ _; omega) (by show _ + 1 ≤ _; omega) (by show manyP p ≤ _; omega) fun _ t h r => ⟨t, _, rfl, h, r⟩⟩
      · exact ⟨_, rfl, _, _, rfl, rfl, l, _, _, _, rfl, rfl, SqL.of upd_same, (show atI [V.str "again", V.str "more", V.str "maybe"] (4 - 2) = some (V.str "maybe") from rfl), _, rfl, (by show 2 ≤ sizeLine; decide), go _ (.mb p) wf (by show _ + 1 ≤ _; omega) (by show _ + 1 ≤ _; omega) (by show manyP p ≤ _; omega) fun _ t h r => ⟨t, _, rfl, h, r⟩⟩
end
end Pa
set_option maxHeartbeats 4000000
namespace Pa
open PySem PySem.Spec PyProof.Rows L2 Ty Se
theorem pow4 (d : Nat) : 4 ^ (d + 1) = 4 * 4 ^ d := by rw [Nat.pow_succ, Nat.mul_comm]
theorem pow4_pos (d : Nat) : 1 ≤ 4 ^ d := Nat.pow_le_pow_right (n := 4) (by decide) (Nat.zero_le d)
theorem pow4_max (a b : Nat) : 4 ^ a ≤ 4 ^ max a b ∧ 4 ^ b ≤ 4 ^ max a b := ⟨Nat.pow_le_pow_right (by decide) (Nat.le_max_left _ _), Nat.pow_le_pow_right (by decide) (Nat.le_max_right _ _)⟩
theorem pow2_max (a b : Nat) : 2 ^ a ≤ 2 ^ max a b ∧ 2 ^ b ≤ 2 ^ max a b := ⟨Nat.pow_le_pow_right (by decide) (Nat.le_max_left _ _), Nat.pow_le_pow_right (by decide) (Nat.le_max_right _ _)⟩
theorem at_two {α : Type} {x y z : α} {xs : List α} : atI (x :: y :: z :: xs) 2 = some z := atI_nat (j := 2) rfl
section
variable {P : Program} {w : World} {K : PySem.W.Frag} {mg : Str → Option Value} {base : Heap} {f g e : Addr} {fd gd ed : FuncData}
theorem along_left : FnOk P w K mg base CX0 1 f fd ["jar", "mould"] (spAlong 0) := by
  have no : ∀ vs H Q E, ¬ spAlong 0 vs H Q E := fun vs H Q E h => by
    obtain ⟨_, _, _, p, _, _, _, _, _, h, _⟩ := h
    have := deep_pos p
    omega
  exact ⟨fun vs H Q E h => absurd h (no vs H Q E), fun A outer s H args us vs Q E _ _ _ _ h => absurd h (no vs H Q E)⟩
theorem ok_along {d : Nat} (F : Fun K "_law_along" "_law_along" sAlong f fd) (GM : FnOk P w K mg base CX0 (d + 1) f fd ["jar", "mould"] (spAlong d)) (bF : Binds K fd ["jar", "mould"] []) (mF : mg "_law_along" = some (.ref f))
    (G : FnOk P w K mg base CX0 1 g gd ["jar", "many"] spDip) (bG : Binds K gd ["jar", "many"] []) (kG : PySem.W.keepIn K (.ref g) = true) (mG : mg "_law_dip" = some (.ref g)) (ml : mg "len" = none) (mr : mg "range" = none) :
    FnOk P w K mg base CX0 (d + 2) f fd ["jar", "mould"] (spAlong (d + 1)) := by
  refine F.ok scAlong (fun vs H Q E h => ?_) (fun cdv A outer s0 H vs Q E0 hr h => ?_)
  · obtain ⟨_, _, _, _, rfl, _⟩ := h
    rfl
  obtain ⟨j, C, v, p, rfl, hj, hC, rp, wf, hd, h16, q⟩ := h
  have hu := hu_of hr
  have G' := G.mono (show 1 ≤ d + 1 by omega)
  refine ⟨_, pss_cons (ps_if (pt_cmpR op_eq (pe_ix ix_tup (pv 1) pe_int (fun _ _ => rfl)) pe_str (nomark _)) (pss_one (ps_ret (pe_ix ix_str (pe_ix ix_tup (pv 1) pe_int (fun _ _ => rfl)) (pe_call G' hr rfl mG kG bG .nil pass0 (pa_cons (pv 0) (pa_cons (pe_callB call_len_str rfl ml PySem.boot_len (pa_cons (pe_ix ix_tup (pv 1) pe_int (fun _ _ => rfl)) pa_nil)) pa_nil))) (fun _ _ => rfl)))) pss_nil)
    (pss_cons (ps_if (pt_cmpR op_eq (pe_ix ix_tup (pv 1) pe_int (fun _ _ => rfl)) pe_str (nomark _)) (pss_one (ps_ret pe_str)) pss_nil)
    (pss_cons (ps_if (pt_cmpR op_eq (pe_ix ix_tup (pv 1) pe_int (fun _ _ => rfl)) pe_str (nomark _)) (pss_one (ps_ret (pe_op op_add_str (pe_call GM hr rfl mF F.kp bF .nil pass0 (pa_cons (pv 0) (pa_cons (pe_ix ix_tup (pv 1) pe_int (fun _ _ => rfl)) pa_nil))) (pe_call GM hr rfl mF F.kp bF .nil pass0 (pa_cons (pv 0) (pa_cons (pe_ix ix_tup (pv 1) pe_int (fun _ _ => rfl)) pa_nil)))))) pss_nil)
    (pss_cons (ps_if (pt_cmpR op_eq (pe_ix ix_tup (pv 1) pe_int (fun _ _ => rfl)) pe_str (nomark _)) (pss_one (ps_ret (pe_call GM hr rfl mF F.kp bF .nil pass0 (pa_cons (pv 0) (pa_cons (pe_ix ix_tup (pv 1) (pe_op op_add pe_int (pe_call G' hr rfl mG kG bG .nil pass0 (pa_cons (pv 0) (pa_cons pe_int pa_nil)))) (fun _ _ => rfl)) pa_nil))))) pss_nil)
    (pss_cons (ps_set (i := 2) scAlong.nd rfl (.inl rfl) (pe_dget hu (pe_disp (pps_cons pe_str (pe_call G' hr rfl mG kG bG .nil pass0 (pa_cons (pv 0) (pa_cons pe_int pa_nil))) (pps_cons pe_str (pe_op op_add pe_int (pe_call G' hr rfl mG kG bG .nil pass0 (pa_cons (pv 0) (pa_cons pe_int pa_nil)))) (pps_cons pe_str (pe_call G' hr rfl mG kG bG .nil pass0 (pa_cons (pv 0) (pa_cons pe_int pa_nil))) pps_nil))) rfl rfl (fun z => by cases z) (by decide)) (pe_ix ix_tup (pv 1) pe_int (fun _ _ => rfl)) (fun _ _ => rfl)))
    (pss_one (ps_ret (pe_join pe_str (pe_lc (own := [("k", 3)]) (g := gName 3) (tt := tYes) rfl scAlong.nd (pi_range1 rfl mr (pa_cons (pv 2) pa_nil)) (blkOk_by (N := ["jar", "mould", "many", "k"]) (sc := defScope sAlong) (by decide +kernel)) (fun _ _ _ _ _ => pg_name (i := 3) scAlong.nd rfl (Or.inl rfl)) (fun _ _ _ _ _ => pts_nil)
        (fun _ _ _ _ _ => pe_call GM hr rfl mF F.kp bF .nil pass0 (pa_cons (pv 0) (pa_cons (pe_ix (show IxR _ (rIxT K) from ix_tup) (pv 1) pe_int (fun _ _ => rfl)) pa_nil))))))))))), ?_⟩
  have p4 := pow4_pos (deepP p)
  have hp2 : 1 ≤ 2 ^ deepP p := Nat.one_le_two_pow
  cases p with
  | sg x =>
    obtain ⟨a, rfl, ha⟩ := rp
    refine ⟨_, rfl, a, _, _, _, rfl, rfl, SqT.of ha, at_zero, rfl, _, rfl, itE (by show decide (("signs" : Str) = "signs") = true; decide +kernel) ?_⟩
    have lx := rising_few wf.2.1 wf.2.2
    have l1 : 1 ≤ x.length := by
      rw [← cd_len]
      exact List.length_pos_iff.mpr wf.1
    refine ⟨_, rfl, a, _, _, _, rfl, rfl, SqT.of ha, at_one, _, rfl, _, rfl, a, _, _, _, rfl, rfl, SqT.of ha, at_one, x, rfl, by rw [sizeLine_eq]; omega, j, C, _, rfl, hj, by omega, by omega, by omega, fun r H1 r0 r1 hj1 k1 => ?_⟩
    obtain ⟨c, hc, _⟩ := at_in (l := x.cps.toList) r0 (by rw [len_x]; exact r1)
    exact ⟨x, _, c, rfl, rfl, by rw [sizeLine_eq]; omega, hc, q ⟨#[c]⟩ H1 (by show 1 ≤ _; exact hp2) (hj1.mono (by omega)) k1⟩
  | em =>
    obtain ⟨a, rfl, ha⟩ := rp
    refine ⟨_, rfl, a, _, _, _, rfl, rfl, SqT.of ha, at_zero, rfl, _, rfl, itW (by show decide (("empty" : Str) = "signs") = false; decide +kernel) ?_⟩
    refine ⟨_, rfl, a, _, _, _, rfl, rfl, SqT.of ha, at_zero, rfl, _, rfl, itE (by show decide (("empty" : Str) = "empty") = true; decide +kernel) ?_⟩
    exact q "" H (Nat.zero_le _) (hj.mono (by omega)) (Keep.of_same same_refl)
  | th p1 p2 =>
    obtain ⟨a, u1, u2, rfl, ha, r1, r2⟩ := rp
    have hd1 : deepP p1 ≤ d ∧ deepP p2 ≤ d ∧ deepP p1 ≤ 16 ∧ deepP p2 ≤ 16 := by unfold deepP at hd h16; omega
    have e4 : 4 ^ deepP (.th p1 p2) = 4 * 4 ^ max (deepP p1) (deepP p2) := pow4 _
    have e2 : 2 ^ deepP (.th p1 p2) = 2 ^ max (deepP p1) (deepP p2) * 2 := Nat.pow_succ ..
    have m4 := pow4_max (deepP p1) (deepP p2)
    have m2 := pow2_max (deepP p1) (deepP p2)
    refine ⟨_, rfl, a, _, _, _, rfl, rfl, SqT.of ha, at_zero, rfl, _, rfl, itW (by show decide (("then" : Str) = "signs") = false; decide +kernel) ?_⟩
    refine ⟨_, rfl, a, _, _, _, rfl, rfl, SqT.of ha, at_zero, rfl, _, rfl, itW (by show decide (("then" : Str) = "empty") = false; decide +kernel) ?_⟩
    refine ⟨_, rfl, a, _, _, _, rfl, rfl, SqT.of ha, at_zero, rfl, _, rfl, itE (by show decide (("then" : Str) = "then") = true; decide +kernel) ?_⟩
    refine ⟨_, rfl, _, rfl, a, _, _, _, rfl, rfl, SqT.of ha, at_one, j, C, u1, p1, rfl, hj, by omega, r1, wf.1, hd1.1, hd1.2.2.1, fun x1 H1 l1 hj1 k1 => ?_⟩
    have t1 := Tk.of_keep hj k1
    refine ⟨_, rfl, _, rfl, a, _, _, _, rfl, rfl, SqT.of (t1 _ _ ha), at_two, j, _, u2, p2, rfl, hj1, by omega, r2.tk t1, wf.2, hd1.2.1, hd1.2.2.2, fun x2 H2 l2 hj2 k2 => ?_⟩
    have b1 := pow_small hd1.2.2.1 l1
    have b2 := pow_small hd1.2.2.2 l2
    exact ⟨x1, x2, rfl, rfl, by rw [sizeLine_eq]; omega, q _ H2 (by rw [app_len]; omega) (hj2.mono (by omega)) (k1.trans k2)⟩
  | oo p1 p2 =>
    obtain ⟨a, u1, u2, rfl, ha, r1, r2⟩ := rp
    have hd1 : deepP p1 ≤ d ∧ deepP p2 ≤ d ∧ deepP p1 ≤ 16 ∧ deepP p2 ≤ 16 := by unfold deepP at hd h16; omega
    have e4 : 4 ^ deepP (.oo p1 p2) = 4 * 4 ^ max (deepP p1) (deepP p2) := pow4 _
    have e2 : 2 ^ deepP (.oo p1 p2) = 2 ^ max (deepP p1) (deepP p2) * 2 := Nat.pow_succ ..
    have m4 := pow4_max (deepP p1) (deepP p2)
    have m2 := pow2_max (deepP p1) (deepP p2)
    have m0 := pow4_pos (deepP p1)
    refine ⟨_, rfl, a, _, _, _, rfl, rfl, SqT.of ha, at_zero, rfl, _, rfl, itW (by show decide (("or" : Str) = "signs") = false; decide +kernel) ?_⟩
    refine ⟨_, rfl, a, _, _, _, rfl, rfl, SqT.of ha, at_zero, rfl, _, rfl, itW (by show decide (("or" : Str) = "empty") = false; decide +kernel) ?_⟩
    refine ⟨_, rfl, a, _, _, _, rfl, rfl, SqT.of ha, at_zero, rfl, _, rfl, itW (by show decide (("or" : Str) = "then") = false; decide +kernel) ?_⟩
    refine ⟨_, rfl, a, _, _, _, rfl, rfl, SqT.of ha, at_zero, rfl, _, rfl, itE (by show decide (("or" : Str) = "or") = true; decide +kernel) ?_⟩
    refine ⟨_, rfl, _, rfl, _, rfl, j, C, 2, rfl, hj, by omega, by decide, by decide, fun r H1 r0 r1' hj1 k1 => ?_⟩
    have t1 := Tk.of_keep hj k1
    obtain rfl | rfl : r = 0 ∨ r = 1 := by omega
    · exact ⟨_, _, rfl, rfl, a, _, _, _, rfl, rfl, SqT.of (t1 _ _ ha), (show atI [V.str "or", u1, u2] (1 + 0) = some u1 from rfl), j, C + 1, u1, p1, rfl, hj1, by omega, r1.tk t1, wf.1, hd1.1, hd1.2.2.1, fun x1 H2 l1 hj2 k2 => q x1 H2 (by omega) (hj2.mono (by omega)) (k1.trans k2)⟩
    · exact ⟨_, _, rfl, rfl, a, _, _, _, rfl, rfl, SqT.of (t1 _ _ ha), (show atI [V.str "or", u1, u2] (1 + 1) = some u2 from rfl), j, C + 1, u2, p2, rfl, hj1, by omega, r2.tk t1, wf.2, hd1.2.1, hd1.2.2.2, fun x1 H2 l1 hj2 k2 => q x1 H2 (by omega) (hj2.mono (by omega)) (k1.trans k2)⟩
  | ag p1 =>
    obtain ⟨a, u1, rfl, ha, r1⟩ := rp
    have hd1 : deepP p1 ≤ d ∧ deepP p1 ≤ 16 := by unfold deepP at hd h16; omega
    have e4 : 4 ^ deepP (.ag p1) = 4 * 4 ^ deepP p1 := pow4 _
    have e2 : 2 ^ deepP (.ag p1) = 2 ^ deepP p1 * 2 := Nat.pow_succ ..
    have m0 : 4 ≤ 4 ^ deepP p1 := by
      have := Nat.pow_le_pow_right (n := 4) (by decide) (deep_pos p1)
      omega
    refine ⟨_, rfl, a, _, _, _, rfl, rfl, SqT.of ha, at_zero, rfl, _, rfl, itW (by show decide (("again" : Str) = "signs") = false; decide +kernel) ?_⟩
    refine ⟨_, rfl, a, _, _, _, rfl, rfl, SqT.of ha, at_zero, rfl, _, rfl, itW (by show decide (("again" : Str) = "empty") = false; decide +kernel) ?_⟩
    refine ⟨_, rfl, a, _, _, _, rfl, rfl, SqT.of ha, at_zero, rfl, _, rfl, itW (by show decide (("again" : Str) = "then") = false; decide +kernel) ?_⟩
    refine ⟨_, rfl, a, _, _, _, rfl, rfl, SqT.of ha, at_zero, rfl, _, rfl, itW (by show decide (("again" : Str) = "or") = false; decide +kernel) ?_⟩
    intro b hb
    have s0 := same_new hb (.dK [])
    have bj := hj.ne hb
    refine ⟨_, rfl, j, C, 3, rfl, hj.keep s0, by omega, by decide, by decide, fun n1 H1 n10 n11 hj1 k1 => ?_⟩
    refine ⟨_, rfl, j, C + 1, 2, rfl, hj1, by omega, by decide, by decide, fun n2 H2 n20 n21 hj2 k2 => ⟨_, _, rfl, rfl, ?_⟩⟩
    refine ⟨_, rfl, j, C + 2, 2, rfl, hj2, by omega, by decide, by decide, fun n3 H3 n30 n31 hj3 k3 => ?_⟩
    have kb := k1.trans (k2.trans k3)
    refine ⟨kb _ _ bj upd_same, [(Sum.inr "again", .int n1), (Sum.inr "more", .int (1 + n2)), (Sum.inr "maybe", .int n3)], rfl, (by show 3 ≤ 15; decide), ?_⟩
    have k4 : Keep j H (upd H3 b (.dK (mergeK [] [(Sum.inr "again", .int n1), (Sum.inr "more", .int (1 + n2)), (Sum.inr "maybe", .int n3)]))) := ((Keep.of_same s0).trans kb).upd hb
    have hj4 : Jar j (upd H3 b (.dK (mergeK [] [(Sum.inr "again", .int n1), (Sum.inr "more", .int (1 + n2)), (Sum.inr "maybe", .int n3)]))) (C + 3) := hj3.upd bj
    have eb : (upd H3 b (.dK (mergeK [] [(Sum.inr "again", .int n1), (Sum.inr "more", .int (1 + n2)), (Sum.inr "maybe", .int n3)]))) b = some (.dK (mergeK [] [(Sum.inr "again", .int n1), (Sum.inr "more", .int (1 + n2)), (Sum.inr "maybe", .int n3)])) := upd_same
    generalize upd H3 b (.dK (mergeK [] [(Sum.inr "again", .int n1), (Sum.inr "more", .int (1 + n2)), (Sum.inr "maybe", .int n3)])) = H4 at k4 hj4 eb
    have hv : valV (mergeK [] [(Sum.inr "again", V.int n1), (Sum.inr "more", .int (1 + n2)), (Sum.inr "maybe", .int n3)]) (Sum.inr "again" : Key) = some (.int (n1)) := by
      show valV (putK (putK (putK [] (Sum.inr "again" : Key) (V.int n1)) (Sum.inr "more") (.int (1 + n2))) (Sum.inr "maybe") (.int n3)) (Sum.inr "again" : Key) = _
      rw [valV_put, valV_put, valV_put]
      rw [if_neg (by decide +kernel), if_neg (by decide +kernel), if_pos rfl]
    have t4 := Tk.of_keep hj k4
    refine ⟨_, rfl, a, _, _, _, rfl, rfl, SqT.of (t4 _ _ ha), at_zero, b, .int (n1), rfl, (by rw [← hv]; exact DGet.k (k := Sum.inr "again") eb), ?_⟩
    have nb : 0 ≤ (n1) ∧ (n1) ≤ 2 := by omega
    revert nb
    generalize (n1) = many
    intro nb
    refine ⟨⟨_, rfl⟩, _, rfl, _, rfl, by omega, by omega, fun D hD => ?_⟩
    have Dj := hj4.ne hD
    have sD := same_new hD (.lst [])
    have hDH : H D = none := new_back k4 Dj hD
    refine lc_range (lo := 0) (n := many.toNat) (fun i H' => ∃ ys : List Str, H' D = some (.lst (ys.map V.str)) ∧ ys.length = i ∧ (∀ y, y ∈ ys → y.length ≤ 2 ^ deepP p1) ∧ Jar j H' (C + 3 + i * 4 ^ deepP p1) ∧ Keep j H H') ⟨[], upd_same, rfl, (fun _ h => by cases h), by rw [Nat.zero_mul]; exact hj4.keep sD, k4.trans (Keep.of_same sD)⟩ (fun i H' hi h => ?turnag) (fun H' h => ?doneag)
    case turnag =>
      obtain ⟨ys, eD, ly, hb', hj5, k5⟩ := h
      have t5 := Tk.of_keep hj k5
      have hi2 : i < 2 := by omega
      have him : i * 4 ^ deepP p1 ≤ 1 * 4 ^ deepP p1 := Nat.mul_le_mul_right _ (by omega)
      rw [Nat.one_mul] at him
      refine ⟨rfl, ?_⟩
      simp only [tYes, ↓reduceIte]
      refine ⟨_, rfl, _, rfl, a, _, _, _, rfl, rfl, SqT.of (t5 _ _ ha), at_one, j, _, u1, p1, rfl, hj5, by omega, r1.tk t5, wf, hd1.1, hd1.2, fun x H6 lx hj6 k6 => ⟨_, k6 _ _ Dj eD, by rw [List.length_map, sizeLine_eq]; omega, ys ++ [x], by rw [upd_same, List.map_append]; rfl, by rw [List.length_append, ly]; rfl, fun y hy => ?_, ?_, (k5.trans k6).upd hDH⟩⟩
      · rcases List.mem_append.mp hy with hy | hy
        · exact hb' y hy
        · rw [List.mem_singleton.mp hy]; exact lx
      · have := hj6.upd (o := .lst (ys.map V.str ++ [V.str x])) Dj
        rw [Nat.add_mul, Nat.one_mul, ← Nat.add_assoc]
        exact this
    case doneag =>
      obtain ⟨ys, eD, ly, hb', hj5, k5⟩ := h
      obtain ⟨g1, g2⟩ := join_two (ys := ys) (by omega) hb'
      have b1 : 2 ^ deepP p1 ≤ 65536 := Nat.pow_le_pow_right (n := 2) (by decide) hd1.2
      have him : many.toNat * 4 ^ deepP p1 ≤ 2 * 4 ^ deepP p1 := Nat.mul_le_mul_right _ (by omega)
      refine ⟨_, D, ys, rfl, rfl, .inl (SqL.of eD), ?_, q _ H' (by rw [e2]; exact g1) (hj5.mono (by omega)) k5⟩
      show _ + _ * 0 ≤ _
      omega
  | mo p1 =>
    obtain ⟨a, u1, rfl, ha, r1⟩ := rp
    have hd1 : deepP p1 ≤ d ∧ deepP p1 ≤ 16 := by unfold deepP at hd h16; omega
    have e4 : 4 ^ deepP (.mo p1) = 4 * 4 ^ deepP p1 := pow4 _
    have e2 : 2 ^ deepP (.mo p1) = 2 ^ deepP p1 * 2 := Nat.pow_succ ..
    have m0 : 4 ≤ 4 ^ deepP p1 := by
      have := Nat.pow_le_pow_right (n := 4) (by decide) (deep_pos p1)
      omega
    refine ⟨_, rfl, a, _, _, _, rfl, rfl, SqT.of ha, at_zero, rfl, _, rfl, itW (by show decide (("more" : Str) = "signs") = false; decide +kernel) ?_⟩
    refine ⟨_, rfl, a, _, _, _, rfl, rfl, SqT.of ha, at_zero, rfl, _, rfl, itW (by show decide (("more" : Str) = "empty") = false; decide +kernel) ?_⟩
    refine ⟨_, rfl, a, _, _, _, rfl, rfl, SqT.of ha, at_zero, rfl, _, rfl, itW (by show decide (("more" : Str) = "then") = false; decide +kernel) ?_⟩
    refine ⟨_, rfl, a, _, _, _, rfl, rfl, SqT.of ha, at_zero, rfl, _, rfl, itW (by show decide (("more" : Str) = "or") = false; decide +kernel) ?_⟩
    intro b hb
    have s0 := same_new hb (.dK [])
    have bj := hj.ne hb
    refine ⟨_, rfl, j, C, 3, rfl, hj.keep s0, by omega, by decide, by decide, fun n1 H1 n10 n11 hj1 k1 => ?_⟩
    refine ⟨_, rfl, j, C + 1, 2, rfl, hj1, by omega, by decide, by decide, fun n2 H2 n20 n21 hj2 k2 => ⟨_, _, rfl, rfl, ?_⟩⟩
    refine ⟨_, rfl, j, C + 2, 2, rfl, hj2, by omega, by decide, by decide, fun n3 H3 n30 n31 hj3 k3 => ?_⟩
    have kb := k1.trans (k2.trans k3)
    refine ⟨kb _ _ bj upd_same, [(Sum.inr "again", .int n1), (Sum.inr "more", .int (1 + n2)), (Sum.inr "maybe", .int n3)], rfl, (by show 3 ≤ 15; decide), ?_⟩
    have k4 : Keep j H (upd H3 b (.dK (mergeK [] [(Sum.inr "again", .int n1), (Sum.inr "more", .int (1 + n2)), (Sum.inr "maybe", .int n3)]))) := ((Keep.of_same s0).trans kb).upd hb
    have hj4 : Jar j (upd H3 b (.dK (mergeK [] [(Sum.inr "again", .int n1), (Sum.inr "more", .int (1 + n2)), (Sum.inr "maybe", .int n3)]))) (C + 3) := hj3.upd bj
    have eb : (upd H3 b (.dK (mergeK [] [(Sum.inr "again", .int n1), (Sum.inr "more", .int (1 + n2)), (Sum.inr "maybe", .int n3)]))) b = some (.dK (mergeK [] [(Sum.inr "again", .int n1), (Sum.inr "more", .int (1 + n2)), (Sum.inr "maybe", .int n3)])) := upd_same
    generalize upd H3 b (.dK (mergeK [] [(Sum.inr "again", .int n1), (Sum.inr "more", .int (1 + n2)), (Sum.inr "maybe", .int n3)])) = H4 at k4 hj4 eb
    have hv : valV (mergeK [] [(Sum.inr "again", V.int n1), (Sum.inr "more", .int (1 + n2)), (Sum.inr "maybe", .int n3)]) (Sum.inr "more" : Key) = some (.int (1 + n2)) := by
      show valV (putK (putK (putK [] (Sum.inr "again" : Key) (V.int n1)) (Sum.inr "more") (.int (1 + n2))) (Sum.inr "maybe") (.int n3)) (Sum.inr "more" : Key) = _
      rw [valV_put, valV_put, valV_put]
      rw [if_neg (by decide +kernel), if_pos rfl]
    have t4 := Tk.of_keep hj k4
    refine ⟨_, rfl, a, _, _, _, rfl, rfl, SqT.of (t4 _ _ ha), at_zero, b, .int (1 + n2), rfl, (by rw [← hv]; exact DGet.k (k := Sum.inr "more") eb), ?_⟩
    have nb : 0 ≤ (1 + n2) ∧ (1 + n2) ≤ 2 := by omega
    revert nb
    generalize (1 + n2) = many
    intro nb
    refine ⟨⟨_, rfl⟩, _, rfl, _, rfl, by omega, by omega, fun D hD => ?_⟩
    have Dj := hj4.ne hD
    have sD := same_new hD (.lst [])
    have hDH : H D = none := new_back k4 Dj hD
    refine lc_range (lo := 0) (n := many.toNat) (fun i H' => ∃ ys : List Str, H' D = some (.lst (ys.map V.str)) ∧ ys.length = i ∧ (∀ y, y ∈ ys → y.length ≤ 2 ^ deepP p1) ∧ Jar j H' (C + 3 + i * 4 ^ deepP p1) ∧ Keep j H H') ⟨[], upd_same, rfl, (fun _ h => by cases h), by rw [Nat.zero_mul]; exact hj4.keep sD, k4.trans (Keep.of_same sD)⟩ (fun i H' hi h => ?turnmo) (fun H' h => ?donemo)
    case turnmo =>
      obtain ⟨ys, eD, ly, hb', hj5, k5⟩ := h
      have t5 := Tk.of_keep hj k5
      have hi2 : i < 2 := by omega
      have him : i * 4 ^ deepP p1 ≤ 1 * 4 ^ deepP p1 := Nat.mul_le_mul_right _ (by omega)
      rw [Nat.one_mul] at him
      refine ⟨rfl, ?_⟩
      simp only [tYes, ↓reduceIte]
      refine ⟨_, rfl, _, rfl, a, _, _, _, rfl, rfl, SqT.of (t5 _ _ ha), at_one, j, _, u1, p1, rfl, hj5, by omega, r1.tk t5, wf, hd1.1, hd1.2, fun x H6 lx hj6 k6 => ⟨_, k6 _ _ Dj eD, by rw [List.length_map, sizeLine_eq]; omega, ys ++ [x], by rw [upd_same, List.map_append]; rfl, by rw [List.length_append, ly]; rfl, fun y hy => ?_, ?_, (k5.trans k6).upd hDH⟩⟩
      · rcases List.mem_append.mp hy with hy | hy
        · exact hb' y hy
        · rw [List.mem_singleton.mp hy]; exact lx
      · have := hj6.upd (o := .lst (ys.map V.str ++ [V.str x])) Dj
        rw [Nat.add_mul, Nat.one_mul, ← Nat.add_assoc]
        exact this
    case donemo =>
      obtain ⟨ys, eD, ly, hb', hj5, k5⟩ := h
      obtain ⟨g1, g2⟩ := join_two (ys := ys) (by omega) hb'
      have b1 : 2 ^ deepP p1 ≤ 65536 := Nat.pow_le_pow_right (n := 2) (by decide) hd1.2
      have him : many.toNat * 4 ^ deepP p1 ≤ 2 * 4 ^ deepP p1 := Nat.mul_le_mul_right _ (by omega)
      refine ⟨_, D, ys, rfl, rfl, .inl (SqL.of eD), ?_, q _ H' (by rw [e2]; exact g1) (hj5.mono (by omega)) k5⟩
      show _ + _ * 0 ≤ _
      omega
  | mb p1 =>
    obtain ⟨a, u1, rfl, ha, r1⟩ := rp
    have hd1 : deepP p1 ≤ d ∧ deepP p1 ≤ 16 := by unfold deepP at hd h16; omega
    have e4 : 4 ^ deepP (.mb p1) = 4 * 4 ^ deepP p1 := pow4 _
    have e2 : 2 ^ deepP (.mb p1) = 2 ^ deepP p1 * 2 := Nat.pow_succ ..
    have m0 : 4 ≤ 4 ^ deepP p1 := by
      have := Nat.pow_le_pow_right (n := 4) (by decide) (deep_pos p1)
      omega
    refine ⟨_, rfl, a, _, _, _, rfl, rfl, SqT.of ha, at_zero, rfl, _, rfl, itW (by show decide (("maybe" : Str) = "signs") = false; decide +kernel) ?_⟩
    refine ⟨_, rfl, a, _, _, _, rfl, rfl, SqT.of ha, at_zero, rfl, _, rfl, itW (by show decide (("maybe" : Str) = "empty") = false; decide +kernel) ?_⟩
    refine ⟨_, rfl, a, _, _, _, rfl, rfl, SqT.of ha, at_zero, rfl, _, rfl, itW (by show decide (("maybe" : Str) = "then") = false; decide +kernel) ?_⟩
    refine ⟨_, rfl, a, _, _, _, rfl, rfl, SqT.of ha, at_zero, rfl, _, rfl, itW (by show decide (("maybe" : Str) = "or") = false; decide +kernel) ?_⟩
    intro b hb
    have s0 := same_new hb (.dK [])
    have bj := hj.ne hb
    refine ⟨_, rfl, j, C, 3, rfl, hj.keep s0, by omega, by decide, by decide, fun n1 H1 n10 n11 hj1 k1 => ?_⟩
    refine ⟨_, rfl, j, C + 1, 2, rfl, hj1, by omega, by decide, by decide, fun n2 H2 n20 n21 hj2 k2 => ⟨_, _, rfl, rfl, ?_⟩⟩
    refine ⟨_, rfl, j, C + 2, 2, rfl, hj2, by omega, by decide, by decide, fun n3 H3 n30 n31 hj3 k3 => ?_⟩
    have kb := k1.trans (k2.trans k3)
    refine ⟨kb _ _ bj upd_same, [(Sum.inr "again", .int n1), (Sum.inr "more", .int (1 + n2)), (Sum.inr "maybe", .int n3)], rfl, (by show 3 ≤ 15; decide), ?_⟩
    have k4 : Keep j H (upd H3 b (.dK (mergeK [] [(Sum.inr "again", .int n1), (Sum.inr "more", .int (1 + n2)), (Sum.inr "maybe", .int n3)]))) := ((Keep.of_same s0).trans kb).upd hb
    have hj4 : Jar j (upd H3 b (.dK (mergeK [] [(Sum.inr "again", .int n1), (Sum.inr "more", .int (1 + n2)), (Sum.inr "maybe", .int n3)]))) (C + 3) := hj3.upd bj
    have eb : (upd H3 b (.dK (mergeK [] [(Sum.inr "again", .int n1), (Sum.inr "more", .int (1 + n2)), (Sum.inr "maybe", .int n3)]))) b = some (.dK (mergeK [] [(Sum.inr "again", .int n1), (Sum.inr "more", .int (1 + n2)), (Sum.inr "maybe", .int n3)])) := upd_same
    generalize upd H3 b (.dK (mergeK [] [(Sum.inr "again", .int n1), (Sum.inr "more", .int (1 + n2)), (Sum.inr "maybe", .int n3)])) = H4 at k4 hj4 eb
    have hv : valV (mergeK [] [(Sum.inr "again", V.int n1), (Sum.inr "more", .int (1 + n2)), (Sum.inr "maybe", .int n3)]) (Sum.inr "maybe" : Key) = some (.int (n3)) := by
      show valV (putK (putK (putK [] (Sum.inr "again" : Key) (V.int n1)) (Sum.inr "more") (.int (1 + n2))) (Sum.inr "maybe") (.int n3)) (Sum.inr "maybe" : Key) = _
      rw [valV_put, valV_put, valV_put]
      rw [if_pos rfl]
    have t4 := Tk.of_keep hj k4
    refine ⟨_, rfl, a, _, _, _, rfl, rfl, SqT.of (t4 _ _ ha), at_zero, b, .int (n3), rfl, (by rw [← hv]; exact DGet.k (k := Sum.inr "maybe") eb), ?_⟩
    have nb : 0 ≤ (n3) ∧ (n3) ≤ 2 := by omega
    revert nb
    generalize (n3) = many
    intro nb
    refine ⟨⟨_, rfl⟩, _, rfl, _, rfl, by omega, by omega, fun D hD => ?_⟩
    have Dj := hj4.ne hD
    have sD := same_new hD (.lst [])
    have hDH : H D = none := new_back k4 Dj hD
    refine lc_range (lo := 0) (n := many.toNat) (fun i H' => ∃ ys : List Str, H' D = some (.lst (ys.map V.str)) ∧ ys.length = i ∧ (∀ y, y ∈ ys → y.length ≤ 2 ^ deepP p1) ∧ Jar j H' (C + 3 + i * 4 ^ deepP p1) ∧ Keep j H H') ⟨[], upd_same, rfl, (fun _ h => by cases h), by rw [Nat.zero_mul]; exact hj4.keep sD, k4.trans (Keep.of_same sD)⟩ (fun i H' hi h => ?turnmb) (fun H' h => ?donemb)
    case turnmb =>
      obtain ⟨ys, eD, ly, hb', hj5, k5⟩ := h
      have t5 := Tk.of_keep hj k5
      have hi2 : i < 2 := by omega
      have him : i * 4 ^ deepP p1 ≤ 1 * 4 ^ deepP p1 := Nat.mul_le_mul_right _ (by omega)
      rw [Nat.one_mul] at him
      refine ⟨rfl, ?_⟩
      simp only [tYes, ↓reduceIte]
      refine ⟨_, rfl, _, rfl, a, _, _, _, rfl, rfl, SqT.of (t5 _ _ ha), at_one, j, _, u1, p1, rfl, hj5, by omega, r1.tk t5, wf, hd1.1, hd1.2, fun x H6 lx hj6 k6 => ⟨_, k6 _ _ Dj eD, by rw [List.length_map, sizeLine_eq]; omega, ys ++ [x], by rw [upd_same, List.map_append]; rfl, by rw [List.length_append, ly]; rfl, fun y hy => ?_, ?_, (k5.trans k6).upd hDH⟩⟩
      · rcases List.mem_append.mp hy with hy | hy
        · exact hb' y hy
        · rw [List.mem_singleton.mp hy]; exact lx
      · have := hj6.upd (o := .lst (ys.map V.str ++ [V.str x])) Dj
        rw [Nat.add_mul, Nat.one_mul, ← Nat.add_assoc]
        exact this
    case donemb =>
      obtain ⟨ys, eD, ly, hb', hj5, k5⟩ := h
      obtain ⟨g1, g2⟩ := join_two (ys := ys) (by omega) hb'
      have b1 : 2 ^ deepP p1 ≤ 65536 := Nat.pow_le_pow_right (n := 2) (by decide) hd1.2
      have him : many.toNat * 4 ^ deepP p1 ≤ 2 * 4 ^ deepP p1 := Nat.mul_le_mul_right _ (by omega)
      refine ⟨_, D, ys, rfl, rfl, .inl (SqL.of eD), ?_, q _ H' (by rw [e2]; exact g1) (hj5.mono (by omega)) k5⟩
      show _ + _ * 0 ≤ _
      omega
end
end Pa
set_option maxHeartbeats 4000000
namespace Pa
open PySem PySem.Spec PyProof.Rows L2 Ty Se
theorem paired_last {α β : Type} {R : α → β → Prop} : ∀ {l : List α} {x : α} {m : List β}, Paired R (l ++ [x]) m → ∃ m' y, m = m' ++ [y] ∧ Paired R l m' ∧ R x y
  | [], x, m, h => by
    cases h with
    | cons h t => cases t; exact ⟨[], _, rfl, .nil, h⟩
  | a :: l, x, m, h => by
    cases h with
    | cons h t =>
      obtain ⟨m', y, rfl, p, r⟩ := paired_last t
      exact ⟨_ :: m', y, rfl, .cons h p, r⟩
def manyS (ps : List Pat) : Nat := (ps.map manyP).sum
theorem manyS_app (ps qs : List Pat) : manyS (ps ++ qs) = manyS ps + manyS qs := by unfold manyS; rw [List.map_append, List.sum_append]
theorem many_parts (p : Pat) (h : ∀ x, p ≠ .sg x) : manyP p = manyS (partsP p) := by
  cases p with
  | sg x => exact absurd rfl (h x)
  | em => rfl
  | th a b => show _ = manyP a + (manyP b + 0); rfl
  | oo a b => show _ = manyP a + (manyP b + 0); rfl
  | ag a => show _ = manyP a + 0; rfl
  | mo a => show _ = manyP a + 0; rfl
  | mb a => show _ = manyP a + 0; rfl
theorem wf_all {p : Pat} (w : Wf p) : ∀ q, q ∈ partsP p → Wf q := fun q hq => wf_part w hq
def spPool : Sp := fun vs H Q _ => ∃ (rk t0 : Addr) (n0 s0 v : V) (p : Pat), vs = [.ref rk] ∧ H rk = some (.lst [.ref t0]) ∧ H t0 = some (.tup [n0, v, s0]) ∧ RP H p v ∧ Wf p ∧ manyP p ≤ 48 ∧ sizeP p ≤ 1000 ∧
  ∀ ys l H', H l = none → H' l = some (.lst (ys.map V.str)) → Ones ys → 1 ≤ ys.length → ys.length ≤ 49 → Same H H' → Q (.ref l) H'
theorem scPool : FnScope ["rack", "mould", "todo", "found", "name", "skips", "sign"] ["rack"] (defScope sPool) := ⟨rfl, rfl, rfl, by decide +kernel, rfl, by decide +kernel, by decide +kernel⟩
section
variable {P : Program} {w : World} {K : PySem.W.Frag} {mg : Str → Option Value} {base : Heap} {f g e : Addr} {fd gd ed : FuncData}
theorem ok_pool (F : Fun K "_law_pool" "_law_pool" sPool f fd) (GA : FnOk P w K mg base CX0 1 e ed [] spAll) (bA : Binds K ed [] []) (kA : PySem.W.keepIn K (.ref e) = true) (mA : mg "_law_all_signs" = some (.ref e)) (mse : mg "set" = none) (mso : mg "sorted" = none) :
    FnOk P w K mg base CX0 2 f fd ["rack"] spPool := by
  refine F.ok scPool (fun vs H Q E h => ?_) (fun cdv A outer s0 H vs Q E0 hr h => ?_)
  · obtain ⟨_, _, _, _, _, _, rfl, _⟩ := h
    rfl
  obtain ⟨rk, t0, n0, s0, v, p, rfl, hrk, ht0, rp, wf, h48, hz, q⟩ := h
  have hu := hr.units
  refine ⟨_, pss_cons (ps_setLc (i := 2) (own := [("name", 4), ("mould", 1), ("skips", 5)]) (g := gTup K 3 (gCons (gName 4) (gCons (gName 1) (gCons (gName 5) gNil)))) (tt := tYes) rfl scPool.nd rfl rfl rfl (pi_list (pv 0)) (blkOk_by (N := ["rack", "mould", "todo", "found", "name", "skips", "sign"]) (sc := defScope sPool) (by decide +kernel)) (fun _ _ _ _ _ => pg_tup rfl (pgs_cons (pg_name (i := 4) scPool.nd rfl (Or.inl rfl)) (pgs_cons (pg_name (i := 1) scPool.nd rfl (Or.inl rfl)) (pgs_cons (pg_name (i := 5) scPool.nd rfl (Or.inl rfl)) pgs_nil)))) (fun _ _ _ _ _ => pts_nil) (fun _ _ _ _ _ => pv 1))
    (pss_cons (ps_set (i := 3) scPool.nd rfl (.inr rfl) (pe_lst pa_nil))
    (pss_cons (ps_while PassesOwn.never (pt_cmpR (op_neL0 hu) (pv 2) (pe_lst pa_nil) (nomark _))
      (pss_cons (ps_set (i := 1) scPool.nd rfl (.inl rfl) (pe_bm0 PySem.F.plainAttrs_list PySem.F.slot_list_pop PySem.F.type_list_pop mt_pop (pv 2)))
      (pss_one (ps_if (pt_cmpR op_eq (pe_ix ix_tup (pv 1) pe_int (fun _ _ => rfl)) pe_str (nomark _))
        (pss_one (ps_expr (pe_bm PySem.F.plainAttrs_list PySem.F.slot_list_extend PySem.F.type_list_extend (mt_extS rfl) (pv 3) (pa_cons (pe_ix ix_tup (pv 1) pe_int (fun _ _ => rfl)) pa_nil))))
        (pss_one (ps_expr (pe_bm PySem.F.plainAttrs_list PySem.F.slot_list_extend PySem.F.type_list_extend mt_extT (pv 2) (pa_cons (pe_slice sl_tup (pv 1) (po_some pe_int) po_none) pa_nil))))))))
    (pss_one (ps_ret (pe_op op_cat (pe_callB (cr_sortedTx rfl) rfl mso (by decide +kernel) (pa_cons (pe_callTy (cr_setTx rfl) rfl mse (by decide +kernel) (pa_cons (pv 3) pa_nil)) pa_nil))
      (pe_slice sl_list (pe_lc (own := [("sign", 6)]) (g := gName 6) (tt := tTest _) rfl scPool.nd (pi_str (pe_call0 GA hr rfl mA kA bA .nil pass0)) (blkOk_by (N := ["rack", "mould", "todo", "found", "name", "skips", "sign"]) (sc := defScope sPool) (by decide +kernel)) (fun _ _ _ _ _ => pg_name (i := 6) scPool.nd rfl (Or.inl rfl)) (fun _ _ _ _ _ => pts_one (pt_cmpR (show OpR _ _ (rIn K true) from op_notIn_seq) (pv 6) (pv 3) rfl)) (fun _ _ _ _ _ => pv 6)) po_none (po_some pe_int))))))), ?_⟩
  refine ⟨_, rfl, rk, rfl, ⟨_, SqL.of hrk⟩, fun td htd => ?_⟩
  have s1 := same_new htd (.lst [])
  have rtd : rk ≠ td := fun e => by rw [e, htd] at hrk; cases hrk
  refine lc_list (K := K) (xs := [V.ref t0]) (fun i H' => H' = upd H td (.lst (if i = 0 then [] else [v]))) rfl (fun i H' _ h => by rw [h]; exact SqL.of (by rw [upd_ne rtd]; exact hrk)) (fun i xv H' hxi pv' => ?turn1) (fun H1 pv1 => ?rest)
  case turn1 =>
    subst pv'
    obtain rfl : i = 0 := by
      have := (List.getElem?_eq_some_iff.mp hxi).1
      have h2 : ([V.ref t0] : List V).length = 1 := rfl
      omega
    obtain rfl : xv = .ref t0 := (Option.some.inj hxi).symm
    have ht0' : (upd H td (.lst [])) t0 = some (.tup [n0, v, s0]) := s1 _ _ ht0
    refine ⟨t0, _, rfl, SqT.of ht0', rfl, _, _, rfl, _, _, rfl, _, _, rfl, rfl, rfl, ?_⟩
    simp only [tYes, ↓reduceIte]
    exact ⟨_, rfl, [], upd_same, by decide, upd_upd⟩
  case rest =>
  have pv1 : H1 = upd H td (.lst [v]) := pv1
  have s1 := same_new htd (.lst [v])
  rw [← pv1] at s1
  have etd : H1 td = some (.lst [v]) := by rw [pv1]; exact upd_same
  refine ⟨(by show 0 ≤ sizeLine; decide), fun fo hfo => ?_⟩
  have tf : td ≠ fo := fun e => by rw [← e, etd] at hfo; cases hfo
  have s2 := same_new hfo (.lst [])
  have hfoH : H fo = none := by
    cases e : H fo with
    | none => rfl
    | some o => rw [s1 _ _ e] at hfo; cases hfo
  refine while_inv (fun m σ H' => ∃ ts rs fs x1, σ = [some (.ref rk), x1, some (.ref td), some (.ref fo), none, none, none] ∧ H' td = some (.lst ts) ∧ RPs H' ts rs ∧ (∀ r, r ∈ rs → Wf r) ∧ H' fo = some (.lst (fs.map V.str)) ∧ Ones fs ∧ fs.length + manyS rs ≤ 48 ∧ Same H H' ∧ m = sumP rs ∧ m ≤ 1000)
    ⟨_, [v], [p], [], _, rfl, s2 _ _ etd, .cons (rp.tk (Tk.of_same (s1.trans s2))) .nil, (fun r h => by rw [List.mem_singleton.mp h]; exact wf), upd_same, (fun _ h => by cases h), (by show 0 + (manyP p + 0) ≤ 48; omega), s1.trans s2, rfl, (by show sizeP p + 0 ≤ 1000; omega)⟩ (fun m σ H' pv' => ?_)
  obtain ⟨ts, rs, fs, x1, rfl, eT, hrs, hwf, eF, hones, hlen, sm, hm, hm1⟩ := pv'
  refine ⟨_, rfl, (by show 0 ≤ sizeLine; decide), fun pn hpn => ⟨td, pn, _, rfl, rfl, same_new hpn _ _ _ eT, upd_same, ?_⟩⟩
  have s3 := same_new hpn (.lst [])
  replace sm := sm.trans s3
  replace eT := s3 _ _ eT
  replace eF := s3 _ _ eF
  replace hrs := hrs.tk (Tk.of_same s3)
  generalize upd H' pn (.lst []) = H3 at eT eF sm hrs
  clear s3 hpn
  have lrs := Paired.length hrs
  rcases List.eq_nil_or_concat ts with rfl | ⟨ts', u, rfl⟩
  · refine ⟨_, rfl, iteF ?_⟩
    -- what was found, in order, and one sign more
    refine ⟨_, rfl, fo, fs, rfl, SqL.of eF, (by unfold scanBound; omega), fun p2 hp2 => ?_⟩
    have n2 := same_new hp2 (SetTx P w p2 (gather [] fs))
    have hg := gather_len fs ([] : List Str)
    rw [List.length_nil, Nat.zero_add] at hg
    refine ⟨p2, gather [] fs, rfl, upd_same, by omega, fun zs p3 pm _ hp3 => ?_⟩
    have n3 : Same (upd H3 p2 (SetTx P w p2 (gather [] fs))) (upd (upd H3 p2 (SetTx P w p2 (gather [] fs))) p3 (.lst (zs.map V.str))) := same_new hp3 _
    have hzm : ∀ z, z ∈ zs ↔ z ∈ fs := fun z => by rw [pm.mem_iff, gather_mem]
    have hzl : zs.length ≤ 48 := by rw [pm.length_eq]; omega
    have s5 := sm.trans (n2.trans n3)
    have eF5 := n3 _ _ (n2 _ _ eF)
    have eZ : (upd (upd H3 p2 (SetTx P w p2 (gather [] fs))) p3 (.lst (zs.map V.str))) p3 = some (.lst (zs.map V.str)) := upd_same
    refine ⟨rfl, allS, rfl, fun L hL0 => ?_⟩
    have hL : (upd (upd H3 p2 (SetTx P w p2 (gather [] fs))) p3 (.lst (zs.map V.str))) L = none := hL0
    have sL := same_new hL (.lst [])
    have hLH : H L = none := by
      cases e : H L with
      | none => rfl
      | some o => rw [s5 _ _ e] at hL; cases hL
    have fL : fo ≠ L := fun e => by rw [← e, eF5] at hL; cases hL
    have zL : p3 ≠ L := fun e => by rw [← e, eZ] at hL; cases hL
    refine lc_it walk_str (fun i H' => ∃ acc : List Str, H' L = some (.lst (acc.map V.str)) ∧ Ones acc ∧ acc.length ≤ i ∧ (fs = [] → acc.length = i) ∧ H' fo = some (.lst (fs.map V.str)) ∧ H' p3 = some (.lst (zs.map V.str)) ∧ Same H H') ⟨[], upd_same, (fun _ h => by cases h), Nat.le_refl _, (fun _ => rfl), sL _ _ eF5, sL _ _ eZ, s5.trans sL⟩ (fun _ _ _ _ => trivial) (fun i y Ha Hb hi h z => ?turn2) (fun H' h => ?done2)
    case turn2 =>
      obtain ⟨acc, eL, ho, hl, he, eFa, eZa, sA⟩ := h
      obtain ⟨rfl, c, hc, rfl⟩ := z
      have hc128 : c < 128 := allS_low c (by
        have : allS.cps.toList[i]? = some c := by rw [Array.getElem?_toList]; exact hc
        exact List.mem_of_getElem? this)
      refine ⟨rfl, _, rfl, _, rfl, fo, _, rfl, .inl (SqL.of eFa), rfl, (by rw [List.all_eq_true]; intro x hx; obtain ⟨z, _, rfl⟩ := List.mem_map.mp hx; rfl), _, rfl, ?_⟩
      refine ite2 (fun c1 => ?_) (fun c1 => ?_)
      · have hi' : i < 95 := hi
        refine ⟨_, rfl, _, eL, by rw [List.length_map, sizeLine_eq]; omega, acc ++ [⟨#[c]⟩], by rw [upd_same, List.map_append]; rfl, fun y hy => ?_, by rw [List.length_append]; show acc.length + 1 ≤ _; omega, fun e => by rw [List.length_append, he e]; rfl, by rw [upd_ne fL]; exact eFa, by rw [upd_ne zL]; exact eZa, same_upd sA hLH⟩
        rcases List.mem_append.mp hy with hy | hy
        · exact ho y hy
        · exact ⟨c, hc128, List.mem_singleton.mp hy⟩
      · refine ⟨acc, eL, ho, by omega, fun e => ?_, eFa, eZa, sA⟩
        subst e
        exact absurd rfl c1
    case done2 =>
      obtain ⟨acc, eL, ho, hl, he, eFa, eZa, sA⟩ := h
      refine ⟨_, rfl, L, _, rfl, SqL.of eL, fun p6 hp6 => ?_⟩
      have ec : cutV (acc.map V.str) none (some 1) = (acc.take 1).map V.str := by
        rw [show (some (1 : Int)) = some ((1 : Nat) : Int) from rfl, cut_to, List.map_take]
      rw [ec]
      have n6 := same_new hp6 (.lst ((acc.take 1).map V.str))
      refine ⟨p3, p6, _, _, rfl, rfl, n6 _ _ eZa, upd_same, by rw [List.length_map, List.length_map, List.length_take, sizeLine_eq]; omega, fun p7 hp7 => ?_⟩
      have n7 := same_new hp7 (.lst (zs.map V.str ++ (acc.take 1).map V.str))
      have hnew : H p7 = none := by
        cases e : H p7 with
        | none => rfl
        | some o => rw [n6 _ _ (sA _ _ e)] at hp7; cases hp7
      refine q (zs ++ acc.take 1) p7 _ hnew (by rw [upd_same, List.map_append]) (fun y hy => ?_) ?_ (by rw [List.length_append, List.length_take]; omega) (sA.trans (n6.trans n7))
      · rcases List.mem_append.mp hy with hy | hy
        · exact hones y ((hzm y).mp hy)
        · exact ho y (List.mem_of_mem_take hy)
      · rw [List.length_append, List.length_take]
        cases fs with
        | nil =>
          have := he rfl
          have h95 : allS.cps.size = 95 := rfl
          omega
        | cons z fs' =>
          have : z ∈ zs := (hzm z).mpr List.mem_cons_self
          have := List.length_pos_of_mem this
          omega
  · obtain ⟨rs', r, rfl, hrs', rr⟩ := paired_last (by rw [List.concat_eq_append] at hrs; exact hrs)
    rw [List.concat_eq_append] at eT lrs ⊢
    refine ⟨_, rfl, ?_⟩
    have hne' : (if true = true then !(ts' ++ [u]).isEmpty else (ts' ++ [u]).isEmpty) = true := by cases ts' <;> rfl
    rw [hne']
    refine iteT ?_
    refine ⟨_, fun _ _ h => h, ?_⟩
    refine ⟨_, rfl, .inl ⟨rfl, _, SqL.of eT⟩, td, _, u, rfl, rfl, eT, by simp, ?_⟩
    rw [List.dropLast_concat]
    obtain ⟨a, vs, rfl, ha, hcase⟩ := rr.open
    have at1 : td ≠ a := fun e => by rw [← e, eT] at ha; cases ha
    have ha4 : (upd H3 td (.lst ts')) a = some (.tup (.str (wordP r) :: vs)) := by rw [upd_ne (Ne.symm at1)]; exact ha
    have tk4 : Tk H3 (upd H3 td (.lst ts')) := Tk.lst eT
    have eF4 : (upd H3 td (.lst ts')) fo = some (.lst (fs.map V.str)) := by rw [upd_ne (Ne.symm tf)]; exact eF
    have eT4 : (upd H3 td (.lst ts')) td = some (.lst ts') := upd_same
    have htdH : H td = none := htd
    have sm4 : Same H (upd H3 td (.lst ts')) := same_upd sm htdH
    replace hrs' := RPs.tk hrs' tk4
    have hcase4 : (∃ x, r = .sg x ∧ vs = [.str x]) ∨ (wordP r ≠ "signs" ∧ signsP r = Str.empty ∧ RPs (upd H3 td (.lst ts')) vs (partsP r)) := hcase.imp id fun ⟨h1, h2, h3⟩ => ⟨h1, h2, RPs.tk h3 tk4⟩
    generalize upd H3 td (.lst ts') = H4 at ha4 eF4 eT4 sm4 hrs' hcase4
    rw [sumP_app] at hm
    rw [manyS_app] at hlen
    have hsz := size_parts r
    have hm' : m = sumP rs' + (sizeP r + 0) := hm
    have lr' := Paired.length hrs'
    have lsum := sumP_len rs'
    have lsm : fs.length + (manyS rs' + (manyP r + 0)) ≤ 48 := hlen
    refine ⟨_, rfl, a, _, _, _, rfl, rfl, SqT.of ha4, at_zero, rfl, _, rfl, ?_⟩
    rcases hcase4 with ⟨x, rfl, rfl⟩ | ⟨hns, _, hps⟩
    · refine itE (by show decide (("signs" : Str) = "signs") = true; decide +kernel) ?_
      have hx : x.length + manyS rs' + fs.length ≤ 48 := by
        have : manyP (.sg x) = x.length := rfl
        omega
      refine ⟨_, rfl, .inl ⟨rfl, _, SqL.of eF4⟩, _, rfl, a, _, _, _, rfl, rfl, SqT.of ha4, at_one, fo, _, x, rfl, rfl, eF4, by rw [List.length_map, sizeLine_eq]; omega, ?_⟩
      have e1 : sizeP (.sg x) = 1 := rfl
      have es : fs.map V.str ++ signsV x = (fs ++ x.cps.toList.map fun c => (⟨#[c]⟩ : Str)).map V.str := by
        unfold signsV
        rw [List.map_append, List.map_map]; rfl
      rw [es]
      refine ⟨sumP rs', by omega, ts', rs', fs ++ x.cps.toList.map fun c => (⟨#[c]⟩ : Str), _, rfl, by rw [upd_ne tf]; exact eT4, RPs.tk hrs' (Tk.lst eF4), fun r hr => hwf r (List.mem_append_left _ hr), upd_same, fun y hy => ?_, by rw [List.length_append, List.length_map, len_x]; omega, same_upd sm4 hfoH, rfl, by omega⟩
      rcases List.mem_append.mp hy with hy | hy
      · exact hones y hy
      · obtain ⟨c, hc, rfl⟩ := List.mem_map.mp hy
        exact ⟨c, (hwf (.sg x) (List.mem_append_right _ (List.mem_singleton_self _))).2.2 c hc, rfl⟩
    · refine itW (decide_eq_false hns) ?_
      have hmp := many_parts r (fun x e => hns (by rw [e]; rfl))
      refine ⟨_, rfl, .inl ⟨rfl, _, SqL.of eT4⟩, _, rfl, _, rfl, a, _, rfl, SqT.of ha4, cut_no, fun t ht => ?_⟩
      rw [cut_tail]
      have n5 := same_new ht (.tup vs)
      have lvs : vs.length = (partsP r).length := Paired.length hps
      have l2 : (partsP r).length ≤ 2 := by cases r <;> (show _ ≤ 2) <;> simp [partsP]
      refine ⟨td, t, ts', vs, rfl, rfl, n5 _ _ eT4, SqT.of upd_same, by rw [sizeLine_eq]; omega, ?_⟩
      have tk6 : Tk H4 (upd (upd H4 t (.tup vs)) td (.lst (ts' ++ vs))) := (Tk.of_same n5).trans (Tk.lst (n5 _ _ eT4))
      refine ⟨sumP (rs' ++ partsP r), by rw [sumP_app]; omega, ts' ++ vs, rs' ++ partsP r, fs, _, rfl, upd_same, paired_app (RPs.tk hrs' tk6) ?_, fun r' hr' => ?_, by rw [upd_ne (Ne.symm tf)]; exact n5 _ _ eF4, hones, by rw [manyS_app]; omega, same_upd (sm4.trans n5) htdH, rfl, by rw [sumP_app]; omega⟩
      · exact RPs.tk hps tk6
      · rcases List.mem_append.mp hr' with hr' | hr'
        · exact hwf r' (List.mem_append_left _ hr')
        · exact wf_part (hwf r (List.mem_append_right _ (List.mem_singleton_self _))) hr'
end
end Pa
set_option maxHeartbeats 4000000
namespace Pa
open PySem PySem.Spec PyProof.Rows L2 Ty Se
def spText : Sp := fun vs H Q _ => ∃ (j rk t0 : Addr) (C : Nat) (n0 s0 v : V) (p : Pat), vs = [.ref j, .ref rk, .int 7] ∧ Jar j H C ∧ C ≤ 999998000 ∧ H rk = some (.lst [.ref t0]) ∧ H t0 = some (.tup [n0, v, s0]) ∧ RP H p v ∧ Wf p ∧ manyP p ≤ 48 ∧ sizeP p ≤ 1000 ∧
  ∀ (x : Str) H', x.length ≤ 7 → Jar j H' (C + 8) → Keep j H H' → Q (.str x) H'
theorem scTextD : FnScope ["jar", "rack", "most", "pool", "k"] ["jar", "rack", "most"] (defScope sTextD) := ⟨rfl, rfl, rfl, by decide +kernel, rfl, by decide +kernel, by decide +kernel⟩
section
variable {P : Program} {w : World} {K : PySem.W.Frag} {mg : Str → Option Value} {base : Heap} {f g e : Addr} {fd gd ed : FuncData}
theorem ok_text (F : Fun K "_law_text" "_law_text" sTextD f fd) (G : FnOk P w K mg base CX0 1 g gd ["jar", "many"] spDip) (bG : Binds K gd ["jar", "many"] []) (kG : PySem.W.keepIn K (.ref g) = true) (mG : mg "_law_dip" = some (.ref g))
    (GP : FnOk P w K mg base CX0 2 e ed ["rack"] spPool) (bP : Binds K ed ["rack"] []) (kP : PySem.W.keepIn K (.ref e) = true) (mP : mg "_law_pool" = some (.ref e)) (ml : mg "len" = none) (mr : mg "range" = none) :
    FnOk P w K mg base CX0 3 f fd ["jar", "rack", "most"] spText := by
  refine F.ok scTextD (fun vs H Q E h => ?_) (fun cdv A outer s0 H vs Q E0 hr h => ?_)
  · obtain ⟨_, _, _, _, _, _, _, _, rfl, _⟩ := h
    rfl
  obtain ⟨j, rk, t0, C, n0, s0, v, p, rfl, hj, hC, hrk, ht0, rp, wf, h48, hz, q⟩ := h
  have G' := G.mono (show 1 ≤ 2 by decide)
  refine ⟨_, pss_cons (ps_set (i := 3) scTextD.nd rfl (.inr rfl) (pe_call GP hr rfl mP kP bP .nil pass0 (pa_cons (pv 1) pa_nil)))
    (pss_one (ps_ret (pe_join pe_str (pe_lc (own := [("k", 4)]) (g := gName 4) (tt := tYes) rfl scTextD.nd (pi_range1 rfl mr (pa_cons (pe_call G' hr rfl mG kG bG .nil pass0 (pa_cons (pv 0) (pa_cons (pe_op op_add (pv 2) pe_int) pa_nil))) pa_nil)) (blkOk_by (N := ["jar", "rack", "most", "pool", "k"]) (sc := defScope sTextD) (by decide +kernel)) (fun _ _ _ _ _ => pg_name (i := 4) scTextD.nd rfl (Or.inl rfl)) (fun _ _ _ _ _ => pts_nil)
      (fun _ _ _ _ _ => pe_ix (show IxR _ (rIxL K) from ix_list) (pv 3) (pe_call G' hr rfl mG kG bG .nil pass0 (pa_cons (pv 0) (pa_cons (pe_callB (show CallR _ _ (fun xs H Q => ∃ p ys, xs = [V.ref p] ∧ (SqL K H p ys ∨ SqT K H p ys) ∧ Q (V.int (ys.length : Nat)) H) from call_len_seq) rfl ml PySem.boot_len (pa_cons (pv 3) pa_nil)) pa_nil))) (fun _ _ => rfl)))))), ?_⟩
  refine ⟨_, rfl, rk, t0, n0, s0, v, p, rfl, hrk, ht0, rp, wf, h48, hz, fun ys l H1 nl el ho y1 y49 s1 => ?_⟩
  have lj : l ≠ j := hj.ne nl
  have hj1 := hj.keep s1
  refine ⟨⟨_, rfl⟩, _, rfl, _, rfl, _, _, rfl, rfl, j, C, 8, rfl, hj1, by omega, by decide, by decide, fun n H2 n0 n8 hj2 k2 => ⟨_, rfl, by omega, by omega, fun D hD => ?_⟩⟩
  have Dj := hj2.ne hD
  have sD := same_new hD (.lst [])
  have k2' := (Keep.of_same s1).trans k2
  have hDH : H D = none := new_back k2' Dj hD
  have el2 : H2 l = some (.lst (ys.map V.str)) := k2 _ _ lj el
  have lD : l ≠ D := fun e => by rw [e, hD] at el2; cases el2
  refine lc_range (lo := 0) (n := n.toNat) (fun i H' => ∃ zs : List Str, H' D = some (.lst (zs.map V.str)) ∧ zs.length = i ∧ Ones zs ∧ Jar j H' (C + 1 + i) ∧ Keep j H H' ∧ H' l = some (.lst (ys.map V.str))) ⟨[], upd_same, rfl, (fun _ h => by cases h), hj2.keep sD, k2'.trans (Keep.of_same sD), sD _ _ el2⟩ (fun i H' hi h => ?turn) (fun H' h => ?done)
  case turn =>
    obtain ⟨zs, eD, lz, hz', hj5, k5, el5⟩ := h
    refine ⟨rfl, ?_⟩
    simp only [tYes, ↓reduceIte]
    refine ⟨_, rfl, _, rfl, _, rfl, l, _, rfl, .inl (SqL.of el5), j, _, _, rfl, hj5, by omega, by rw [List.length_map]; omega, by rw [List.length_map]; omega, fun r H6 r0 r1 hj6 k6 => ?_⟩
    obtain ⟨y, hy, hy2⟩ := at_in (l := ys.map V.str) r0 r1
    obtain ⟨z, hz2, rfl⟩ := List.mem_map.mp (List.mem_of_getElem? hy2)
    refine ⟨l, _, _, _, rfl, rfl, SqL.of (k6 _ _ lj el5), hy, _, k6 _ _ Dj eD, by rw [List.length_map, sizeLine_eq]; omega, zs ++ [z], by rw [upd_same, List.map_append]; rfl, by rw [List.length_append, lz]; rfl, fun y hy => ?_, hj6.upd Dj, (k5.trans k6).upd hDH, by rw [upd_ne lD]; exact k6 _ _ lj el5⟩
    rcases List.mem_append.mp hy with hy | hy
    · exact hz' y hy
    · rw [List.mem_singleton.mp hy]; exact ho z hz2
  case done =>
    obtain ⟨zs, eD, lz, hz', hj5, k5, el5⟩ := h
    obtain ⟨cs, rfl, _⟩ := hz'.codes
    rw [List.length_map] at lz
    refine ⟨_, D, _, rfl, rfl, .inl (SqL.of eD), ?_, ?_⟩
    · rw [ones_sum]
      show _ + _ * 0 ≤ _
      omega
    · rw [join_one]
      refine q _ H' ?_ (hj5.mono (by omega)) k5
      have : (⟨cs.toArray⟩ : Str).length = cs.length := List.size_toArray ..
      rw [this]; omega
end
end Pa
set_option maxHeartbeats 4000000
namespace Pa
open PySem PySem.Spec PyProof.Rows L2 Ty Se
/-! ### rows of patterns opened step by step -/
def succ : List Pat → List (List Pat)
  | [] => []
  | .sg _ :: _ => []
  | .em :: k => [k]
  | .th a b :: k => [a :: b :: k]
  | .oo a b :: k => [a :: k, b :: k]
  | .ag a :: k => [a :: .ag a :: k, k]
  | .mo a :: k => [a :: .ag a :: k]
  | .mb a :: k => [a :: k, k]
def Final : List Pat → Prop
  | [] => True
  | .sg _ :: _ => True
  | _ => False
theorem succ_sound {s s' : List Pat} (h : s' ∈ succ s) {w : List Nat} (g : LS s' w) : LS s w := by
  obtain ⟨n, g⟩ := g
  match s, h with
  | .em :: k, h => rw [List.mem_singleton.mp h] at g; exact ⟨_, .em g⟩
  | .th a b :: k, h => rw [List.mem_singleton.mp h] at g; exact ⟨_, .th g⟩
  | .oo a b :: k, h =>
    rcases List.mem_cons.mp h with e | h
    · rw [e] at g; exact ⟨_, .o1 g⟩
    · rw [List.mem_singleton.mp h] at g; exact ⟨_, .o2 g⟩
  | .ag a :: k, h =>
    rcases List.mem_cons.mp h with e | h
    · rw [e] at g; exact ⟨_, .a1 g⟩
    · rw [List.mem_singleton.mp h] at g; exact ⟨_, .a0 g⟩
  | .mo a :: k, h => rw [List.mem_singleton.mp h] at g; exact ⟨_, .mo g⟩
  | .mb a :: k, h =>
    rcases List.mem_cons.mp h with e | h
    · rw [e] at g; exact ⟨_, .m1 g⟩
    · rw [List.mem_singleton.mp h] at g; exact ⟨_, .m0 g⟩
theorem succ_step {s : List Pat} {w : List Nat} {n : Nat} (h : D s w n) (hf : ¬ Final s) : ∃ s' m, s' ∈ succ s ∧ m < n ∧ D s' w m := by
  cases h with
  | nil => exact absurd trivial hf
  | sg _ _ => exact absurd trivial hf
  | em h => exact ⟨_, _, List.mem_singleton_self _, Nat.lt_succ_self _, h⟩
  | th h => exact ⟨_, _, List.mem_singleton_self _, Nat.lt_succ_self _, h⟩
  | o1 h => exact ⟨_, _, List.mem_cons_self, Nat.lt_succ_self _, h⟩
  | o2 h => exact ⟨_, _, List.mem_cons_of_mem _ (List.mem_singleton_self _), Nat.lt_succ_self _, h⟩
  | a0 h => exact ⟨_, _, List.mem_cons_of_mem _ (List.mem_singleton_self _), Nat.lt_succ_self _, h⟩
  | a1 h => exact ⟨_, _, List.mem_cons_self, Nat.lt_succ_self _, h⟩
  | mo h => exact ⟨_, _, List.mem_singleton_self _, Nat.lt_succ_self _, h⟩
  | m0 h => exact ⟨_, _, List.mem_cons_of_mem _ (List.mem_singleton_self _), Nat.lt_succ_self _, h⟩
  | m1 h => exact ⟨_, _, List.mem_cons_self, Nat.lt_succ_self _, h⟩
def nxt (s s' : List Pat) : Prop := s' ∈ succ s ∨ ∃ x, s = .sg x :: s'
def nodes : Pat → List Pat → List (List Pat)
  | .sg x, k => [.sg x :: k]
  | .em, k => [.em :: k]
  | .th a b, k => (.th a b :: k) :: (nodes a (b :: k) ++ nodes b k)
  | .oo a b, k => (.oo a b :: k) :: (nodes a k ++ nodes b k)
  | .ag a, k => (.ag a :: k) :: nodes a (.ag a :: k)
  | .mo a, k => (.mo a :: k) :: (.ag a :: k) :: nodes a (.ag a :: k)
  | .mb a, k => (.mb a :: k) :: nodes a k
theorem nodes_head (p : Pat) (k : List Pat) : (p :: k) ∈ nodes p k := by cases p <;> exact List.mem_cons_self
theorem nodes_len : ∀ (p : Pat) (k : List Pat), (nodes p k).length ≤ 2 * sizeP p
  | .sg x, k => by show 1 ≤ 2 * 1; decide
  | .em, k => by show 1 ≤ 2 * 1; decide
  | .th a b, k => by
    have h1 := nodes_len a (b :: k)
    have h2 := nodes_len b k
    show (nodes a (b :: k) ++ nodes b k).length + 1 ≤ 2 * (sizeP a + sizeP b + 1)
    rw [List.length_append]; omega
  | .oo a b, k => by
    have h1 := nodes_len a k
    have h2 := nodes_len b k
    show (nodes a k ++ nodes b k).length + 1 ≤ 2 * (sizeP a + sizeP b + 1)
    rw [List.length_append]; omega
  | .ag a, k => by
    have h1 := nodes_len a (.ag a :: k)
    show (nodes a (.ag a :: k)).length + 1 ≤ 2 * (sizeP a + 1)
    omega
  | .mo a, k => by
    have h1 := nodes_len a (.ag a :: k)
    show (nodes a (.ag a :: k)).length + 1 + 1 ≤ 2 * (sizeP a + 1)
    omega
  | .mb a, k => by
    have h1 := nodes_len a k
    show (nodes a k).length + 1 ≤ 2 * (sizeP a + 1)
    omega
theorem nodes_next : ∀ (p : Pat) (k s s' : List Pat), s ∈ nodes p k → nxt s s' → s' ∈ nodes p k ∨ s' = k
  | .sg x, k, s, s', h, n => by
    rw [List.mem_singleton.mp h] at n
    rcases n with n | ⟨y, n⟩
    · cases n
    · injection n with _ n; exact .inr n.symm
  | .em, k, s, s', h, n => by
    rw [List.mem_singleton.mp h] at n
    rcases n with n | ⟨y, n⟩
    · exact .inr (List.mem_singleton.mp n)
    · cases n
  | .th a b, k, s, s', h, n => by
    rcases List.mem_cons.mp h with e | h
    · rw [e] at n
      rcases n with n | ⟨y, n⟩
      · rw [List.mem_singleton.mp n]
        exact .inl (List.mem_cons_of_mem _ (List.mem_append_left _ (nodes_head _ _)))
      · cases n
    · rcases List.mem_append.mp h with h | h
      · rcases nodes_next a (b :: k) s s' h n with g | g
        · exact .inl (List.mem_cons_of_mem _ (List.mem_append_left _ g))
        · rw [g]; exact .inl (List.mem_cons_of_mem _ (List.mem_append_right _ (nodes_head _ _)))
      · rcases nodes_next b k s s' h n with g | g
        · exact .inl (List.mem_cons_of_mem _ (List.mem_append_right _ g))
        · exact .inr g
  | .oo a b, k, s, s', h, n => by
    rcases List.mem_cons.mp h with e | h
    · rw [e] at n
      rcases n with n | ⟨y, n⟩
      · rcases List.mem_cons.mp n with e | n
        · rw [e]; exact .inl (List.mem_cons_of_mem _ (List.mem_append_left _ (nodes_head _ _)))
        · rw [List.mem_singleton.mp n]; exact .inl (List.mem_cons_of_mem _ (List.mem_append_right _ (nodes_head _ _)))
      · cases n
    · rcases List.mem_append.mp h with h | h
      · rcases nodes_next a k s s' h n with g | g
        · exact .inl (List.mem_cons_of_mem _ (List.mem_append_left _ g))
        · exact .inr g
      · rcases nodes_next b k s s' h n with g | g
        · exact .inl (List.mem_cons_of_mem _ (List.mem_append_right _ g))
        · exact .inr g
  | .ag a, k, s, s', h, n => by
    rcases List.mem_cons.mp h with e | h
    · rw [e] at n
      rcases n with n | ⟨y, n⟩
      · rcases List.mem_cons.mp n with e | n
        · rw [e]; exact .inl (List.mem_cons_of_mem _ (nodes_head _ _))
        · rw [List.mem_singleton.mp n]; exact .inr rfl
      · cases n
    · rcases nodes_next a (.ag a :: k) s s' h n with g | g
      · exact .inl (List.mem_cons_of_mem _ g)
      · rw [g]; exact .inl List.mem_cons_self
  | .mo a, k, s, s', h, n => by
    rcases List.mem_cons.mp h with e | h
    · rw [e] at n
      rcases n with n | ⟨y, n⟩
      · rw [List.mem_singleton.mp n]; exact .inl (List.mem_cons_of_mem _ (List.mem_cons_of_mem _ (nodes_head _ _)))
      · cases n
    · rcases List.mem_cons.mp h with e | h
      · rw [e] at n
        rcases n with n | ⟨y, n⟩
        · rcases List.mem_cons.mp n with e | n
          · rw [e]; exact .inl (List.mem_cons_of_mem _ (List.mem_cons_of_mem _ (nodes_head _ _)))
          · rw [List.mem_singleton.mp n]; exact .inr rfl
        · cases n
      · rcases nodes_next a (.ag a :: k) s s' h n with g | g
        · exact .inl (List.mem_cons_of_mem _ (List.mem_cons_of_mem _ g))
        · rw [g]; exact .inl (List.mem_cons_of_mem _ List.mem_cons_self)
  | .mb a, k, s, s', h, n => by
    rcases List.mem_cons.mp h with e | h
    · rw [e] at n
      rcases n with n | ⟨y, n⟩
      · rcases List.mem_cons.mp n with e | n
        · rw [e]; exact .inl (List.mem_cons_of_mem _ (nodes_head _ _))
        · rw [List.mem_singleton.mp n]; exact .inr rfl
      · cases n
    · rcases nodes_next a k s s' h n with g | g
      · exact .inl (List.mem_cons_of_mem _ g)
      · exact .inr g
theorem nodes_in : ∀ (p : Pat) (k s : List Pat) (G : Pat → Prop) (d : Nat), s ∈ nodes p k → deepP p ≤ d → (∀ q, Wf q → deepP q ≤ d → G q) → Wf p → (∀ q, q ∈ k → G q) → (∀ q, q ∈ s → G q) ∧ s.length ≤ k.length + deepP p := by
  have one : ∀ {p : Pat} {k : List Pat} {G : Pat → Prop} {d n : Nat}, deepP p ≤ d → (∀ q, Wf q → deepP q ≤ d → G q) → Wf p → (∀ q, q ∈ k → G q) → 1 ≤ n → (∀ q, q ∈ p :: k → G q) ∧ (p :: k).length ≤ k.length + n := fun h1 h2 h3 h4 h5 => ⟨fun q hq => by
    rcases List.mem_cons.mp hq with e | hq
    · rw [e]; exact h2 _ h3 h1
    · exact h4 q hq, by rw [List.length_cons]; omega⟩
  intro p
  induction p with
  | sg x => intro k s G d h hd hG wf hk; rw [List.mem_singleton.mp h]; exact one hd hG wf hk (Nat.le_refl _)
  | em => intro k s G d h hd hG wf hk; rw [List.mem_singleton.mp h]; exact one hd hG wf hk (Nat.le_refl _)
  | th a b iha ihb =>
    intro k s G d h hd hG wf hk
    have e : deepP (.th a b) = max (deepP a) (deepP b) + 1 := rfl
    rcases List.mem_cons.mp h with e' | h
    · rw [e']; exact one hd hG wf hk (by omega)
    · rcases List.mem_append.mp h with h | h
      · obtain ⟨g1, g2⟩ := iha (b :: k) s G d h (by omega) hG wf.1 (one (by omega) hG wf.2 hk (Nat.le_refl _)).1
        rw [List.length_cons] at g2
        exact ⟨g1, by omega⟩
      · obtain ⟨g1, g2⟩ := ihb k s G d h (by omega) hG wf.2 hk
        exact ⟨g1, by omega⟩
  | oo a b iha ihb =>
    intro k s G d h hd hG wf hk
    have e : deepP (.oo a b) = max (deepP a) (deepP b) + 1 := rfl
    rcases List.mem_cons.mp h with e' | h
    · rw [e']; exact one hd hG wf hk (by omega)
    · rcases List.mem_append.mp h with h | h
      · obtain ⟨g1, g2⟩ := iha k s G d h (by omega) hG wf.1 hk
        exact ⟨g1, by omega⟩
      · obtain ⟨g1, g2⟩ := ihb k s G d h (by omega) hG wf.2 hk
        exact ⟨g1, by omega⟩
  | ag a iha =>
    intro k s G d h hd hG wf hk
    have e : deepP (.ag a) = deepP a + 1 := rfl
    rcases List.mem_cons.mp h with e' | h
    · rw [e']; exact one hd hG wf hk (by omega)
    · obtain ⟨g1, g2⟩ := iha (.ag a :: k) s G d h (by omega) hG wf (one hd hG wf hk (Nat.le_refl _)).1
      rw [List.length_cons] at g2
      exact ⟨g1, by omega⟩
  | mo a iha =>
    intro k s G d h hd hG wf hk
    have e : deepP (.mo a) = deepP a + 1 := rfl
    have e2 : deepP (.ag a) = deepP a + 1 := rfl
    have wf' : Wf (.ag a) := wf
    rcases List.mem_cons.mp h with e' | h
    · rw [e']; exact one hd hG wf hk (by omega)
    · rcases List.mem_cons.mp h with e' | h
      · rw [e']; exact one (by omega) hG wf' hk (by omega)
      · obtain ⟨g1, g2⟩ := iha (.ag a :: k) s G d h (by omega) hG wf (one (by omega) hG wf' hk (Nat.le_refl _)).1
        rw [List.length_cons] at g2
        exact ⟨g1, by omega⟩
  | mb a iha =>
    intro k s G d h hd hG wf hk
    have e : deepP (.mb a) = deepP a + 1 := rfl
    rcases List.mem_cons.mp h with e' | h
    · rw [e']; exact one hd hG wf hk (by omega)
    · obtain ⟨g1, g2⟩ := iha k s G d h (by omega) hG wf hk
      exact ⟨g1, by omega⟩
/-- a closed set of rows -/
structure Uni (U : List (List Pat)) : Prop where
  cl : ∀ s, s ∈ U → ∀ s', nxt s s' → s' ∈ U
  few : U.length ≤ 200
  ok : ∀ s, s ∈ U → (∀ q, q ∈ s → Wf q ∧ deepP q ≤ 16) ∧ s.length ≤ 100
theorem uni_of {p : Pat} (w : Wf p) (h : deepP p ≤ 16) (z : sizeP p ≤ 90) : Uni ([] :: nodes p []) where
  cl := fun s hs s' n => by
    rcases List.mem_cons.mp hs with e | hs
    · rw [e] at n
      rcases n with n | ⟨_, n⟩
      · cases n
      · cases n
    · rcases nodes_next p [] s s' hs n with g | g
      · exact List.mem_cons_of_mem _ g
      · rw [g]; exact List.mem_cons_self
  few := by
    have := nodes_len p []
    rw [List.length_cons]; omega
  ok := fun s hs => by
    rcases List.mem_cons.mp hs with e | hs
    · rw [e]; exact ⟨(fun _ h => by cases h), Nat.zero_le _⟩
    · obtain ⟨g1, g2⟩ := nodes_in p [] s (fun q => Wf q ∧ deepP q ≤ 16) 16 hs h (fun q h1 h2 => ⟨h1, h2⟩) w (fun _ h => by cases h)
      exact ⟨g1, by rw [List.length_nil] at g2; omega⟩
/-! ### rows as data -/
def dP : Pat → PyData
  | .sg x => .tuple [.str "signs", .str x]
  | .em => .tuple [.str "empty"]
  | .th a b => .tuple [.str "then", dP a, dP b]
  | .oo a b => .tuple [.str "or", dP a, dP b]
  | .ag a => .tuple [.str "again", dP a]
  | .mo a => .tuple [.str "more", dP a]
  | .mb a => .tuple [.str "maybe", dP a]
def dR : Pat → List PyData
  | .sg x => [.str x]
  | .em => []
  | .th a b => [dP a, dP b]
  | .oo a b => [dP a, dP b]
  | .ag a => [dP a]
  | .mo a => [dP a]
  | .mb a => [dP a]
theorem dP_eq (p : Pat) : dP p = .tuple (.str (wordP p) :: dR p) := by cases p <;> rfl
theorem eqv_word {p q : Pat} (h : wordP p ≠ wordP q) : PyData.eqv (dP p) (dP q) = false := by
  rw [dP_eq, dP_eq]
  show ((wordP p == wordP q) && _) = false
  rw [beq_eq_false_iff_ne.mpr h]; rfl
theorem eqv_rest {p q : Pat} (h : wordP p = wordP q) : PyData.eqv (dP p) (dP q) = PyData.eqvAll (dR p) (dR q) := by
  rw [dP_eq, dP_eq]
  show ((wordP p == wordP q) && _) = _
  rw [beq_iff_eq.mpr h]; rfl
def tag : Pat → Nat
  | .sg _ => 0
  | .em => 1
  | .th _ _ => 2
  | .oo _ _ => 3
  | .ag _ => 4
  | .mo _ => 5
  | .mb _ => 6
def wordT : Nat → Str
  | 0 => "signs"
  | 1 => "empty"
  | 2 => "then"
  | 3 => "or"
  | 4 => "again"
  | 5 => "more"
  | _ => "maybe"
theorem word_tag (p : Pat) : wordP p = wordT (tag p) ∧ tag p < 7 := by cases p <;> exact ⟨rfl, by simp [tag]⟩
theorem wordT_inj : ∀ i, i < 7 → ∀ j, j < 7 → wordT i = wordT j → i = j := by decide +kernel
theorem mism {p q : Pat} (h : tag p ≠ tag q) : PyData.eqv (dP p) (dP q) = true ↔ p = q := by
  have hw : wordP p ≠ wordP q := fun e => by
    rw [(word_tag p).1, (word_tag q).1] at e
    exact h (wordT_inj _ (word_tag p).2 _ (word_tag q).2 e)
  exact ⟨(fun e => by rw [eqv_word hw] at e; cases e), (fun e => absurd (congrArg tag e) h)⟩
theorem eqv_one (d e : PyData) : PyData.eqvAll [d] [e] = PyData.eqv d e := by
  show (PyData.eqv d e && true) = _
  rw [Bool.and_true]
theorem eqv_two (d e d' e' : PyData) : PyData.eqvAll [d, d'] [e, e'] = (PyData.eqv d e && PyData.eqv d' e') := by
  show (PyData.eqv d e && (PyData.eqv d' e' && true)) = _
  rw [Bool.and_true]
theorem eqv_dP : ∀ p q : Pat, PyData.eqv (dP p) (dP q) = true ↔ p = q := by
  intro p
  induction p with
  | sg x =>
    intro q
    cases q with
    | sg y =>
      rw [eqv_rest (p := .sg x) (q := .sg y) rfl]
      show PyData.eqvAll [.str x] [.str y] = true ↔ _
      rw [eqv_one]
      show (x == y) = true ↔ _
      rw [beq_iff_eq]
      exact ⟨fun h => by rw [h], fun h => by injection h⟩
    | _ => exact mism (by simp [tag])
  | em =>
    intro q
    cases q with
    | em => exact ⟨fun _ => rfl, fun _ => by rw [eqv_rest (p := .em) (q := .em) rfl]; rfl⟩
    | _ => exact mism (by simp [tag])
  | th a b iha ihb =>
    intro q
    cases q with
    | th c d =>
      rw [eqv_rest (p := .th a b) (q := .th c d) rfl]
      show PyData.eqvAll [dP a, dP b] [dP c, dP d] = true ↔ _
      rw [eqv_two, Bool.and_eq_true, iha, ihb]
      exact ⟨fun ⟨h1, h2⟩ => by rw [h1, h2], fun h => by injection h with h1 h2; exact ⟨h1, h2⟩⟩
    | _ => exact mism (by simp [tag])
  | oo a b iha ihb =>
    intro q
    cases q with
    | oo c d =>
      rw [eqv_rest (p := .oo a b) (q := .oo c d) rfl]
      show PyData.eqvAll [dP a, dP b] [dP c, dP d] = true ↔ _
      rw [eqv_two, Bool.and_eq_true, iha, ihb]
      exact ⟨fun ⟨h1, h2⟩ => by rw [h1, h2], fun h => by injection h with h1 h2; exact ⟨h1, h2⟩⟩
    | _ => exact mism (by simp [tag])
  | ag a iha =>
    intro q
    cases q with
    | ag c =>
      rw [eqv_rest (p := .ag a) (q := .ag c) rfl]
      show PyData.eqvAll [dP a] [dP c] = true ↔ _
      rw [eqv_one, iha]
      exact ⟨fun h1 => by rw [h1], fun h => by injection h⟩
    | _ => exact mism (by simp [tag])
  | mo a iha =>
    intro q
    cases q with
    | mo c =>
      rw [eqv_rest (p := .mo a) (q := .mo c) rfl]
      show PyData.eqvAll [dP a] [dP c] = true ↔ _
      rw [eqv_one, iha]
      exact ⟨fun h1 => by rw [h1], fun h => by injection h⟩
    | _ => exact mism (by simp [tag])
  | mb a iha =>
    intro q
    cases q with
    | mb c =>
      rw [eqv_rest (p := .mb a) (q := .mb c) rfl]
      show PyData.eqvAll [dP a] [dP c] = true ↔ _
      rw [eqv_one, iha]
      exact ⟨fun h1 => by rw [h1], fun h => by injection h⟩
    | _ => exact mism (by simp [tag])
def dS (s : List Pat) : PyData := .tuple (s.map dP)
theorem eqv_list : ∀ s t : List Pat, PyData.eqvAll (s.map dP) (t.map dP) = true ↔ s = t
  | [], [] => ⟨fun _ => rfl, fun _ => rfl⟩
  | [], _ :: _ => ⟨(fun h => by cases h), (fun h => by cases h)⟩
  | _ :: _, [] => ⟨(fun h => by cases h), (fun h => by cases h)⟩
  | p :: s, q :: t => by
    show (PyData.eqv (dP p) (dP q) && PyData.eqvAll (s.map dP) (t.map dP)) = true ↔ _
    rw [Bool.and_eq_true, eqv_dP, eqv_list]
    exact ⟨fun ⟨h1, h2⟩ => by rw [h1, h2], fun h => by injection h with h1 h2; exact ⟨h1, h2⟩⟩
theorem eqv_dS (s t : List Pat) : PyData.eqv (dS s) (dS t) = true ↔ s = t := eqv_list s t
theorem any_dS (s : List Pat) (S : List (List Pat)) : ((S.map dS).any fun z => PyData.eqv z (dS s)) = true ↔ s ∈ S := by
  rw [List.any_eq_true]
  constructor
  · rintro ⟨z, hz, e⟩
    obtain ⟨t, ht, rfl⟩ := List.mem_map.mp hz
    rw [eqv_dS] at e
    rw [← e]; exact ht
  · intro h
    exact ⟨dS s, List.mem_map.mpr ⟨s, h, rfl⟩, (eqv_dS s s).mpr rfl⟩
theorem lay_dP : ∀ p : Pat, Wf p → PyData.canLay0 (dP p) = true
  | .sg x, w => by
    show (PyData.canLay0 (.str "signs") && (PyData.canLay0 (.str x) && true)) = true
    rw [low_ok w.2.2]
    decide +kernel
  | .em, w => by decide +kernel
  | .th a b, w => by
    show (PyData.canLay0 (.str "then") && (PyData.canLay0 (dP a) && (PyData.canLay0 (dP b) && true))) = true
    rw [lay_dP a w.1, lay_dP b w.2]
    decide +kernel
  | .oo a b, w => by
    show (PyData.canLay0 (.str "or") && (PyData.canLay0 (dP a) && (PyData.canLay0 (dP b) && true))) = true
    rw [lay_dP a w.1, lay_dP b w.2]
    decide +kernel
  | .ag a, w => by
    show (PyData.canLay0 (.str "again") && (PyData.canLay0 (dP a) && true)) = true
    rw [lay_dP a w]
    decide +kernel
  | .mo a, w => by
    show (PyData.canLay0 (.str "more") && (PyData.canLay0 (dP a) && true)) = true
    rw [lay_dP a w]
    decide +kernel
  | .mb a, w => by
    show (PyData.canLay0 (.str "maybe") && (PyData.canLay0 (dP a) && true)) = true
    rw [lay_dP a w]
    decide +kernel
theorem depth_dP : ∀ p : Pat, PyData.depth (dP p) ≤ deepP p
  | .sg x => Nat.le_refl _
  | .em => Nat.le_refl _
  | .th a b => by
    have h1 := depth_dP a
    have h2 := depth_dP b
    show max 0 (max (PyData.depth (dP a)) (max (PyData.depth (dP b)) 0)) + 1 ≤ max (deepP a) (deepP b) + 1
    omega
  | .oo a b => by
    have h1 := depth_dP a
    have h2 := depth_dP b
    show max 0 (max (PyData.depth (dP a)) (max (PyData.depth (dP b)) 0)) + 1 ≤ max (deepP a) (deepP b) + 1
    omega
  | .ag a => by
    have h1 := depth_dP a
    show max 0 (max (PyData.depth (dP a)) 0) + 1 ≤ deepP a + 1
    omega
  | .mo a => by
    have h1 := depth_dP a
    show max 0 (max (PyData.depth (dP a)) 0) + 1 ≤ deepP a + 1
    omega
  | .mb a => by
    have h1 := depth_dP a
    show max 0 (max (PyData.depth (dP a)) 0) + 1 ≤ deepP a + 1
    omega
theorem lay_all : ∀ ds : List PyData, (∀ d, d ∈ ds → PyData.canLay0 d = true) → PyData.canLayAll0 ds = true
  | [], _ => rfl
  | d :: ds, h => by
    show (PyData.canLay0 d && PyData.canLayAll0 ds) = true
    rw [h d List.mem_cons_self, lay_all ds fun e he => h e (List.mem_cons_of_mem _ he)]
    rfl
theorem depth_all {n : Nat} : ∀ ds : List PyData, (∀ d, d ∈ ds → PyData.depth d ≤ n) → PyData.depthAll ds ≤ n
  | [], _ => Nat.zero_le _
  | d :: ds, h => by
    have h1 := h d List.mem_cons_self
    have h2 := depth_all ds fun e he => h e (List.mem_cons_of_mem _ he)
    show max (PyData.depth d) (PyData.depthAll ds) ≤ n
    omega
theorem Uni.lay {U : List (List Pat)} (u : Uni U) {s : List Pat} (h : s ∈ U) : PyData.canLay0 (dS s) = true ∧ PyData.depth (dS s) ≤ 17 := by
  have ok := (u.ok s h).1
  constructor
  · refine lay_all _ fun d hd => ?_
    obtain ⟨p, hp, rfl⟩ := List.mem_map.mp hd
    exact lay_dP p (ok p hp).1
  · show PyData.depthAll (s.map dP) + 1 ≤ 17
    have := depth_all (n := 16) (s.map dP) fun d hd => by
      obtain ⟨p, hp, rfl⟩ := List.mem_map.mp hd
      have h1 := depth_dP p
      have h2 := (ok p hp).2
      omega
    omega
theorem Uni.shaped {U : List (List Pat)} (u : Uni U) {s : List Pat} (h : s ∈ U) : SeqAt.shaped (dS s) = true := by
  unfold SeqAt.shaped
  obtain ⟨h1, h2⟩ := u.lay h
  rw [h1, decide_eq_true (by omega)]; rfl
theorem Uni.shapedL {U S : List (List Pat)} (u : Uni U) (h : ∀ s, s ∈ S → s ∈ U) : SeqAt.shaped (.list (S.map dS)) = true := by
  unfold SeqAt.shaped
  have h1 : PyData.canLay0 (.list (S.map dS)) = true := lay_all _ fun d hd => by
    obtain ⟨s, hs, rfl⟩ := List.mem_map.mp hd
    exact (u.lay (h s hs)).1
  have h2 : PyData.depth (.list (S.map dS)) ≤ 18 := by
    show PyData.depthAll (S.map dS) + 1 ≤ 18
    have := depth_all (n := 17) (S.map dS) fun d hd => by
      obtain ⟨s, hs, rfl⟩ := List.mem_map.mp hd
      exact (u.lay (h s hs)).2
    omega
  rw [h1, decide_eq_true (by omega)]; rfl
/-- a row of patterns in the heap -/
def RS (H : Hp) (s : List Pat) (v : V) : Prop := ∃ a vs, v = .ref a ∧ H a = some (.tup vs) ∧ RPs H vs s
theorem RS.tk {H H' : Hp} {s : List Pat} {v : V} (r : RS H s v) (k : Tk H H') : RS H' s v := by
  obtain ⟨a, vs, e, h1, h2⟩ := r
  exact ⟨a, vs, e, k _ _ h1, RPs.tk h2 k⟩
theorem dp_of {K : PySem.W.Frag} {H : Hp} : ∀ {p : Pat} {v : V}, RP H p v → Dp K H v (dP p)
  | .sg x, v, h => by obtain ⟨a, rfl, h⟩ := h; exact .tup (SqT.of h) (.cons (.str _) (.cons (.str _) .nil))
  | .em, v, h => by obtain ⟨a, rfl, h⟩ := h; exact .tup (SqT.of h) (.cons (.str _) .nil)
  | .th p q, v, h => by obtain ⟨a, u, w, rfl, h, r1, r2⟩ := h; exact .tup (SqT.of h) (.cons (.str _) (.cons (dp_of r1) (.cons (dp_of r2) .nil)))
  | .oo p q, v, h => by obtain ⟨a, u, w, rfl, h, r1, r2⟩ := h; exact .tup (SqT.of h) (.cons (.str _) (.cons (dp_of r1) (.cons (dp_of r2) .nil)))
  | .ag p, v, h => by obtain ⟨a, u, rfl, h, r1⟩ := h; exact .tup (SqT.of h) (.cons (.str _) (.cons (dp_of r1) .nil))
  | .mo p, v, h => by obtain ⟨a, u, rfl, h, r1⟩ := h; exact .tup (SqT.of h) (.cons (.str _) (.cons (dp_of r1) .nil))
  | .mb p, v, h => by obtain ⟨a, u, rfl, h, r1⟩ := h; exact .tup (SqT.of h) (.cons (.str _) (.cons (dp_of r1) .nil))
theorem dps_of {K : PySem.W.Frag} {H : Hp} : ∀ {vs : List V} {s : List Pat}, RPs H vs s → DpAll K H vs (s.map dP)
  | _, _, .nil => .nil
  | _, _, .cons r t => .cons (dp_of r) (dps_of t)
theorem RS.dp {K : PySem.W.Frag} {H : Hp} {s : List Pat} {v : V} (r : RS H s v) : Dp K H v (dS s) := by
  obtain ⟨a, vs, rfl, h1, h2⟩ := r
  exact .tup (SqT.of h1) (dps_of h2)
def RSs (H : Hp) (vs : List V) (S : List (List Pat)) : Prop := Paired (fun v s => RS H s v) vs S
theorem RSs.tk {H H' : Hp} {vs : List V} {S : List (List Pat)} (r : RSs H vs S) (k : Tk H H') : RSs H' vs S := paired_imp (fun _ _ r => r.tk k) r
theorem RSs.dp {K : PySem.W.Frag} {H : Hp} : ∀ {vs : List V} {S : List (List Pat)}, RSs H vs S → DpAll K H vs (S.map dS)
  | _, _, .nil => .nil
  | _, _, .cons r t => .cons r.dp (RSs.dp t)
/-- what has been found and what waits while rows are opened -/
structure Opn (U O W S F : List (List Pat)) : Prop where
  wU : ∀ s, s ∈ W → s ∈ U
  sU : ∀ s, s ∈ S → s ∈ U
  nd : S.Nodup
  fS : ∀ s, s ∈ F → s ∈ S
  fF : ∀ s, s ∈ F → Final s
  fl : F.length ≤ S.length
  st : ∀ s, s ∈ S → s ∈ F ∨ (¬ Final s ∧ ∀ s', s' ∈ succ s → s' ∈ W ∨ s' ∈ S)
  o : ∀ s, s ∈ O → s ∈ W ∨ s ∈ S
  so : ∀ s, (s ∈ W ∨ s ∈ S) → ∀ w, LS s w → ∃ s0, s0 ∈ O ∧ LS s0 w
theorem Opn.few {U O W S F : List (List Pat)} (h : Opn U O W S F) : S.length ≤ U.length := nodup_len h.nd h.sU
theorem Opn.fin {U O S F : List (List Pat)} (h : Opn U O [] S F) : ∀ w, (∃ s, s ∈ O ∧ LS s w) ↔ ∃ s, s ∈ F ∧ LS s w := by
  have key : ∀ (n : Nat) (s : List Pat) (w : List Nat), s ∈ S → D s w n → ∃ f, f ∈ F ∧ LS f w := by
    intro n
    induction n using Nat.strongRecOn with
    | ind n ih =>
      intro s w hs hd
      rcases h.st s hs with hf | ⟨hnf, hs'⟩
      · exact ⟨s, hf, n, hd⟩
      · obtain ⟨s', m, h1, h2, h3⟩ := succ_step hd hnf
        rcases hs' s' h1 with z | z
        · cases z
        · exact ih m h2 s' w z h3
  intro w
  constructor
  · rintro ⟨s, hs, n, hd⟩
    rcases h.o s hs with z | z
    · cases z
    · exact key n s w z hd
  · rintro ⟨s, hs, g⟩
    exact h.so s (.inr (h.fS s hs)) w g
/-- one row is taken out -/
theorem Opn.skip {U O W S F : List (List Pat)} {s : List Pat} (h : Opn U O (W ++ [s]) S F) (hs : s ∈ S) : Opn U O W S F where
  wU := fun t ht => h.wU t (List.mem_append_left _ ht)
  sU := h.sU
  nd := h.nd
  fS := h.fS
  fF := h.fF
  fl := h.fl
  st := fun t ht => (h.st t ht).imp id fun ⟨h1, h2⟩ => ⟨h1, fun t' ht' => by
    rcases h2 t' ht' with z | z
    · rcases List.mem_append.mp z with z | z
      · exact .inl z
      · rw [List.mem_singleton.mp z]; exact .inr hs
    · exact .inr z⟩
  o := fun t ht => by
    rcases h.o t ht with z | z
    · rcases List.mem_append.mp z with z | z
      · exact .inl z
      · rw [List.mem_singleton.mp z]; exact .inr hs
    · exact .inr z
  so := fun t ht => h.so t (ht.imp (fun z => List.mem_append_left _ z) id)
theorem Opn.found {U O W S F : List (List Pat)} {s : List Pat} (h : Opn U O (W ++ [s]) S F) (hs : s ∉ S) (hf : Final s) : Opn U O W (S ++ [s]) (F ++ [s]) where
  wU := fun t ht => h.wU t (List.mem_append_left _ ht)
  sU := fun t ht => by
    rcases List.mem_append.mp ht with z | z
    · exact h.sU t z
    · exact h.wU t (List.mem_append_right _ z)
  nd := List.nodup_append.mpr ⟨h.nd, by simp, fun a ha b hb e => hs (by rw [← List.mem_singleton.mp hb, ← e]; exact ha)⟩
  fS := fun t ht => by
    rcases List.mem_append.mp ht with z | z
    · exact List.mem_append_left _ (h.fS t z)
    · exact List.mem_append_right _ z
  fF := fun t ht => by
    rcases List.mem_append.mp ht with z | z
    · exact h.fF t z
    · rw [List.mem_singleton.mp z]; exact hf
  fl := by rw [List.length_append, List.length_append]; have := h.fl; show F.length + 1 ≤ S.length + 1; omega
  st := fun t ht => by
    rcases List.mem_append.mp ht with z | z
    · rcases h.st t z with g | ⟨h1, h2⟩
      · exact .inl (List.mem_append_left _ g)
      · refine .inr ⟨h1, fun t' ht' => ?_⟩
        rcases h2 t' ht' with y | y
        · rcases List.mem_append.mp y with y | y
          · exact .inl y
          · exact .inr (List.mem_append_right _ y)
        · exact .inr (List.mem_append_left _ y)
    · exact .inl (List.mem_append_right _ z)
  o := fun t ht => by
    rcases h.o t ht with z | z
    · rcases List.mem_append.mp z with z | z
      · exact .inl z
      · exact .inr (List.mem_append_right _ z)
    · exact .inr (List.mem_append_left _ z)
  so := fun t ht => h.so t (by
    rcases ht with z | z
    · exact .inl (List.mem_append_left _ z)
    · rcases List.mem_append.mp z with z | z
      · exact .inr z
      · exact .inl (List.mem_append_right _ z))
theorem Opn.push {U O W S F W' : List (List Pat)} {s : List Pat} (u : Uni U) (h : Opn U O (W ++ [s]) S F) (hs : s ∉ S) (hf : ¬ Final s) (hw : ∀ t, t ∈ W' ↔ t ∈ succ s) : Opn U O (W ++ W') (S ++ [s]) F where
  wU := fun t ht => by
    rcases List.mem_append.mp ht with z | z
    · exact h.wU t (List.mem_append_left _ z)
    · exact u.cl s (h.wU s (List.mem_append_right _ (List.mem_singleton_self _))) t (.inl ((hw t).mp z))
  sU := fun t ht => by
    rcases List.mem_append.mp ht with z | z
    · exact h.sU t z
    · exact h.wU t (List.mem_append_right _ z)
  nd := List.nodup_append.mpr ⟨h.nd, by simp, fun a ha b hb e => hs (by rw [← List.mem_singleton.mp hb, ← e]; exact ha)⟩
  fS := fun t ht => List.mem_append_left _ (h.fS t ht)
  fF := h.fF
  fl := by rw [List.length_append]; have := h.fl; omega
  st := fun t ht => by
    rcases List.mem_append.mp ht with z | z
    · rcases h.st t z with g | ⟨h1, h2⟩
      · exact .inl g
      · refine .inr ⟨h1, fun t' ht' => ?_⟩
        rcases h2 t' ht' with y | y
        · rcases List.mem_append.mp y with y | y
          · exact .inl (List.mem_append_left _ y)
          · exact .inr (List.mem_append_right _ y)
        · exact .inr (List.mem_append_left _ y)
    · rw [List.mem_singleton.mp z]
      exact .inr ⟨hf, fun t' ht' => .inl (List.mem_append_right _ ((hw t').mpr ht'))⟩
  o := fun t ht => by
    rcases h.o t ht with z | z
    · rcases List.mem_append.mp z with z | z
      · exact .inl (List.mem_append_left _ z)
      · exact .inr (List.mem_append_right _ z)
    · exact .inr (List.mem_append_left _ z)
  so := fun t ht w g => by
    have old : ∀ t, (t ∈ W ++ [s] ∨ t ∈ S) → LS t w → ∃ s0, s0 ∈ O ∧ LS s0 w := fun t ht => h.so t ht w
    rcases ht with z | z
    · rcases List.mem_append.mp z with z | z
      · exact old t (.inl (List.mem_append_left _ z)) g
      · exact old s (.inl (List.mem_append_right _ (List.mem_singleton_self _))) (succ_sound ((hw t).mp z) g)
    · rcases List.mem_append.mp z with z | z
      · exact old t (.inr z) g
      · exact old t (.inl (List.mem_append_right _ z)) g
theorem opn_start {U O : List (List Pat)} (h : ∀ s, s ∈ O → s ∈ U) : Opn U O O [] [] :=
  ⟨h, (fun _ h => by cases h), .nil, (fun _ h => by cases h), (fun _ h => by cases h), Nat.le_refl _, (fun _ h => by cases h), (fun s h => .inl h), fun s h w g => ⟨s, h.resolve_right (fun z => by cases z), g⟩⟩
end Pa
set_option maxHeartbeats 4000000
namespace Pa
open PySem PySem.Spec PyProof.Rows L2 Ty Se
section
variable {X : Cx}
def rNeT0 (K : PySem.W.Frag) : R2 := fun x y H Q => ∃ a b xs, x = .ref a ∧ y = .ref b ∧ SqT K H a xs ∧ SqT K H b [] ∧ Q (.bl (!decide (xs = []))) H
theorem op_neT0 (hu : X.A.units < cLine) : OpR X (compareOp .NotEq) (rNeT0 X.K) := by
  intro pins s σ H x y v u Q I rx ry h
  obtain ⟨a, b, xs, rfl, rfl, ha, hb, q⟩ := h
  cases rx
  cases ry
  obtain ⟨its, r1, p1, _⟩ := I.tuple ha
  obtain ⟨its2, r2, p2, _⟩ := I.tuple hb
  cases r2
  have hlen := r1.length
  refine (SeqAt.RcNeAt.tuples (e := fun _ => true) p1 p2 hu (fun k h1 h2 => absurd h2 (by simp))) X.prog X.w _ _ ⟨.bl _, H, I, rfl, ?_⟩
  have e : ((List.range (min its.toArray.size ([] : List Value).toArray.size)).all (fun _ => true) && its.toArray.size == ([] : List Value).toArray.size) = decide (xs = []) := by
    cases xs with
    | nil =>
      cases its with
      | nil => rfl
      | cons => cases hlen
    | cons =>
      cases its with
      | nil => cases hlen
      | cons => simp
  rw [e]
  exact q
end
theorem _root_.L2.Room.u65 {k : Nat} {A : Around} (r : Room k A) : A.units + 65 < cLine := by have := r.un; omega
section
variable {K : PySem.W.Frag} {H : Hp} {Q : VK}
theorem catA_read {a b : Addr} {xs ys : List V} (ha : H a = some (.tup xs)) (hb : H b = some (.tup ys)) (sz : xs.length + ys.length ≤ sizeLine) (q : ∀ c H', Same H H' → H' c = some (.tup (xs ++ ys)) → Q (.ref c) H') : rCatA K (.ref a) (.ref b) H Q :=
  ⟨a, b, xs, ys, rfl, rfl, SqT.of ha, SqT.of hb, sz, fun e => q b H same_refl (by rw [e]; exact hb), fun _ e => q a H same_refl (by rw [e, List.append_nil]; exact ha), fun _ _ p hp => q p _ (same_new hp _) upd_same⟩
theorem tail_read {a : Addr} {x : V} {xs : List V} (ha : H a = some (.tup (x :: xs))) (q : ∀ t H', Same H H' → H' t = some (.tup xs) → Q (.ref t) H') {σ : L2.St} : tNoPart σ H fun u H3 => rSlT K (.ref a) (some 1) u H3 Q :=
  ⟨a, _, rfl, SqT.of ha, cut_no, fun t ht => by rw [cut_tail]; exact q t _ (same_new ht _) upd_same⟩
theorem mid_read {a : Addr} {x y z : V} (ha : H a = some (.tup [x, y, z])) (q : ∀ t H', Same H H' → H' t = some (.tup [y]) → Q (.ref t) H') : rSlT K (.ref a) (some 1) (some 2) H Q :=
  ⟨a, _, rfl, SqT.of ha, (fun h => absurd h.1 (by show ¬ HT.sIx 3 0 (some 1) = 0; decide)), fun t ht => by
    have e : cutV [x, y, z] (some 1) (some 2) = [y] := rfl
    rw [e]; exact q t _ (same_new ht _) upd_same⟩
theorem last_read {a : Addr} {x y z : V} (ha : H a = some (.tup [x, y, z])) (q : ∀ t H', Same H H' → H' t = some (.tup [z]) → Q (.ref t) H') {σ : L2.St} : tNoPart σ H fun u H3 => rSlT K (.ref a) (some 2) u H3 Q :=
  ⟨a, _, rfl, SqT.of ha, (fun h => absurd h.1 (by show ¬ HT.sIx 3 0 (some 2) = 0; decide)), fun t ht => by
    have e : cutV [x, y, z] (some 2) none = [z] := rfl
    rw [e]; exact q t _ (same_new ht _) upd_same⟩
end
/-- the three lists while rows are opened -/
structure Sta (o fo se : Addr) (H0 H : Hp) (W F S : List (List Pat)) : Prop where
  w : ∃ ts, H o = some (.lst ts) ∧ RSs H ts W
  f : ∃ ts, H fo = some (.lst ts) ∧ RSs H ts F
  s : ∃ ts, H se = some (.lst ts) ∧ RSs H ts S
  k : Keep o H0 H
  nf : H0 fo = none
  ns : H0 se = none
  of : o ≠ fo
  os : o ≠ se
  fs : fo ≠ se
section
variable {o fo se : Addr} {H0 H H' : Hp} {W F S : List (List Pat)}
theorem Sta.same (h : Sta o fo se H0 H W F S) (s : Same H H') : Sta o fo se H0 H' W F S where
  w := by obtain ⟨ts, e, r⟩ := h.w; exact ⟨ts, s _ _ e, r.tk (Tk.of_same s)⟩
  f := by obtain ⟨ts, e, r⟩ := h.f; exact ⟨ts, s _ _ e, r.tk (Tk.of_same s)⟩
  s := by obtain ⟨ts, e, r⟩ := h.s; exact ⟨ts, s _ _ e, r.tk (Tk.of_same s)⟩
  k := h.k.trans (Keep.of_same s)
  nf := h.nf
  ns := h.ns
  of := h.of
  os := h.os
  fs := h.fs
theorem Sta.setO (h : Sta o fo se H0 H W F S) {ts' : List V} {W' : List (List Pat)} (r : RSs H ts' W') : Sta o fo se H0 (upd H o (.lst ts')) W' F S where
  w := by obtain ⟨ts, e, _⟩ := h.w; exact ⟨ts', upd_same, r.tk (Tk.lst e)⟩
  f := by obtain ⟨ts, e, r'⟩ := h.f; obtain ⟨ts0, e0, _⟩ := h.w; exact ⟨ts, by rw [upd_ne (Ne.symm h.of)]; exact e, r'.tk (Tk.lst e0)⟩
  s := by obtain ⟨ts, e, r'⟩ := h.s; obtain ⟨ts0, e0, _⟩ := h.w; exact ⟨ts, by rw [upd_ne (Ne.symm h.os)]; exact e, r'.tk (Tk.lst e0)⟩
  k := fun c u n e => by rw [upd_ne n]; exact h.k c u n e
  nf := h.nf
  ns := h.ns
  of := h.of
  os := h.os
  fs := h.fs
theorem Sta.pushO (h : Sta o fo se H0 H W F S) {ts vs : List V} {W' : List (List Pat)} (e : H o = some (.lst ts)) (r : RSs H vs W') : Sta o fo se H0 (upd H o (.lst (ts ++ vs))) (W ++ W') F S := by
  obtain ⟨ts', e', r'⟩ := h.w
  rw [e] at e'
  injection e' with e'
  injection e' with e'
  subst e'
  exact h.setO (paired_app r' r)
theorem Sta.pushF (h : Sta o fo se H0 H W F S) {ts vs : List V} {W' : List (List Pat)} (e : H fo = some (.lst ts)) (r : RSs H vs W') : Sta o fo se H0 (upd H fo (.lst (ts ++ vs))) W (F ++ W') S where
  w := by obtain ⟨ts', e', r'⟩ := h.w; exact ⟨ts', by rw [upd_ne h.of]; exact e', r'.tk (Tk.lst e)⟩
  f := by
    obtain ⟨ts', e', r'⟩ := h.f
    rw [e] at e'
    injection e' with e'
    injection e' with e'
    subst e'
    exact ⟨_, upd_same, RSs.tk (paired_app r' r : RSs H (ts ++ vs) (F ++ W')) (Tk.lst e)⟩
  s := by obtain ⟨ts', e', r'⟩ := h.s; exact ⟨ts', by rw [upd_ne (Ne.symm h.fs)]; exact e', r'.tk (Tk.lst e)⟩
  k := h.k.upd h.nf
  nf := h.nf
  ns := h.ns
  of := h.of
  os := h.os
  fs := h.fs
theorem Sta.pushS (h : Sta o fo se H0 H W F S) {ts vs : List V} {W' : List (List Pat)} (e : H se = some (.lst ts)) (r : RSs H vs W') : Sta o fo se H0 (upd H se (.lst (ts ++ vs))) W F (S ++ W') where
  w := by obtain ⟨ts', e', r'⟩ := h.w; exact ⟨ts', by rw [upd_ne h.os]; exact e', r'.tk (Tk.lst e)⟩
  f := by obtain ⟨ts', e', r'⟩ := h.f; exact ⟨ts', by rw [upd_ne h.fs]; exact e', r'.tk (Tk.lst e)⟩
  s := by
    obtain ⟨ts', e', r'⟩ := h.s
    rw [e] at e'
    injection e' with e'
    injection e' with e'
    subst e'
    exact ⟨_, upd_same, RSs.tk (paired_app r' r : RSs H (ts ++ vs) (S ++ W')) (Tk.lst e)⟩
  k := h.k.upd h.ns
  nf := h.nf
  ns := h.ns
  of := h.of
  os := h.os
  fs := h.fs
theorem Sta.dict (h : Sta o fo se H0 H W F S) {d : Addr} {ks : List (Key × V)} (e : H d = some (.dK ks)) (n : H0 d = none) (ks' : List (Key × V)) : Sta o fo se H0 (upd H d (.dK ks')) W F S := by
  have ne : ∀ {c xs}, H c = some (.lst xs) → c ≠ d := fun {c xs} e' q => by rw [q, e] at e'; cases e'
  have tk : Tk H (upd H d (.dK ks')) := fun c xs e' => by rw [upd_ne (fun q => by rw [q, e] at e'; cases e')]; exact e'
  obtain ⟨ts, e1, r1⟩ := h.w
  obtain ⟨ts2, e2, r2⟩ := h.f
  obtain ⟨ts3, e3, r3⟩ := h.s
  exact ⟨⟨ts, by rw [upd_ne (ne e1)]; exact e1, r1.tk tk⟩, ⟨ts2, by rw [upd_ne (ne e2)]; exact e2, r2.tk tk⟩, ⟨ts3, by rw [upd_ne (ne e3)]; exact e3, r3.tk tk⟩, h.k.upd n, h.nf, h.ns, h.of, h.os, h.fs⟩
end
def spOpened : Sp := fun vs H Q _ => ∃ (o : Addr) (ts : List V) (O U : List (List Pat)), vs = [.ref o] ∧ H o = some (.lst ts) ∧ RSs H ts O ∧ Uni U ∧ (∀ s, s ∈ O → s ∈ U) ∧ O.length ≤ 1000 ∧
  ∀ l fs F H', H l = none → H' l = some (.lst fs) → RSs H' fs F → (∀ s, s ∈ F → s ∈ U ∧ Final s) → F.length ≤ 200 → (∀ w, (∃ s, s ∈ O ∧ LS s w) ↔ ∃ s, s ∈ F ∧ LS s w) → Keep o H H' → Q (.ref l) H'
theorem scOpened : FnScope ["owes", "found", "seen", "owed", "more"] ["owes"] (defScope sOpened) := ⟨rfl, rfl, rfl, by decide +kernel, rfl, by decide +kernel, by decide +kernel⟩
section
variable {P : Program} {w : World} {K : PySem.W.Frag} {mg : Str → Option Value} {base : Heap} {f g e : Addr} {fd gd ed : FuncData}
theorem ok_opened (F : Fun K "_law_opened" "_law_opened" sOpened f fd) : FnOk P w K mg base CX0 1 f fd ["owes"] spOpened := by
  refine F.ok scOpened (fun vs H Q E h => ?_) (fun cdv A outer s0 H vs Q E0 hr h => ?_)
  · obtain ⟨_, _, _, _, rfl, _⟩ := h
    rfl
  obtain ⟨o, ts0, O, U, rfl, ho, hO, hU, hOU, hOl, q⟩ := h
  have hu := hr.units
  have hu0 := hr.units0
  have hu65 := hr.u65
  have hu1 := hu_of hr
  refine ⟨_, pss_cons (ps_set (i := 1) scOpened.nd rfl (.inl rfl) (pe_lst pa_nil))
    (pss_cons (ps_set (i := 2) scOpened.nd rfl (.inl rfl) (pe_lst pa_nil))
    (pss_cons (ps_while PassesOwn.never (pt_cmpR (op_neL0 hu) (pv 0) (pe_lst pa_nil) (nomark _))
      (pss_cons (ps_set (i := 3) scOpened.nd rfl (.inl rfl) (pe_bm0 PySem.F.plainAttrs_list PySem.F.slot_list_pop PySem.F.type_list_pop mt_pop (pv 0)))
      (pss_one (ps_if (pt_cmpR (op_notInD hu65) (pv 3) (pv 2) rfl)
        (pss_cons (ps_expr (pe_bm PySem.F.plainAttrs_list PySem.F.slot_list_append PySem.F.type_list_append mt_append (pv 2) (pa_cons (pv 3) pa_nil)))
        (pss_cons (ps_if (PW.pt (pw_or (pt_cmpR (op_eqT0 hu0) (pv 3) (pe_tup pa_nil) (nomark _)) (pw_or1 (pt_cmpR op_eq (pe_ix ix_tup (pe_ix ix_tup (pv 3) pe_int (fun _ _ => rfl)) pe_int (fun _ _ => rfl)) pe_str (nomark _)))))
          (pss_one (ps_expr (pe_bm PySem.F.plainAttrs_list PySem.F.slot_list_append PySem.F.type_list_append mt_append (pv 1) (pa_cons (pv 3) pa_nil))))
          (pss_one (ps_if (pt_cmpR op_eq (pe_ix ix_tup (pe_ix ix_tup (pv 3) pe_int (fun _ _ => rfl)) pe_int (fun _ _ => rfl)) pe_str (nomark _))
            (pss_one (ps_expr (pe_bm PySem.F.plainAttrs_list PySem.F.slot_list_append PySem.F.type_list_append mt_append (pv 0) (pa_cons (pe_op op_catA (pe_slice sl_tup (pe_ix ix_tup (pv 3) pe_int (fun _ _ => rfl)) (po_some pe_int) po_none) (pe_slice sl_tup (pv 3) (po_some pe_int) po_none)) pa_nil))))
            (pss_one (ps_if (pt_cmpR op_eq (pe_ix ix_tup (pe_ix ix_tup (pv 3) pe_int (fun _ _ => rfl)) pe_int (fun _ _ => rfl)) pe_str (nomark _))
              (pss_one (ps_expr (pe_bm PySem.F.plainAttrs_list PySem.F.slot_list_extend PySem.F.type_list_extend mt_extend (pv 0) (pa_cons (pe_lst (pa_cons (pe_op op_catA (pe_slice sl_tup (pe_ix ix_tup (pv 3) pe_int (fun _ _ => rfl)) (po_some pe_int) (po_some pe_int)) (pe_slice sl_tup (pv 3) (po_some pe_int) po_none)) (pa_cons (pe_op op_catA (pe_slice sl_tup (pe_ix ix_tup (pv 3) pe_int (fun _ _ => rfl)) (po_some pe_int) po_none) (pe_slice sl_tup (pv 3) (po_some pe_int) po_none)) pa_nil))) pa_nil))))
              (pss_one (ps_if (pt_cmpR op_ne (pe_ix ix_tup (pe_ix ix_tup (pv 3) pe_int (fun _ _ => rfl)) pe_int (fun _ _ => rfl)) pe_str (nomark _))
                (pss_cons (ps_set (i := 4) scOpened.nd rfl (.inl rfl) (pe_dget hu1 (pe_disp (pps_cons pe_str (pe_tup (pa_cons (pe_tup (pa_cons pe_str (pa_cons (pe_ix ix_tup (pe_ix ix_tup (pv 3) pe_int (fun _ _ => rfl)) (pe_un un_neg pe_int) (fun _ _ => rfl)) pa_nil))) pa_nil)) (pps_cons pe_str (pe_tup (pa_cons (pe_tup (pa_cons pe_str (pa_cons (pe_ix ix_tup (pe_ix ix_tup (pv 3) pe_int (fun _ _ => rfl)) (pe_un un_neg pe_int) (fun _ _ => rfl)) pa_nil))) pa_nil)) (pps_cons pe_str (pe_tup pa_nil) pps_nil))) rfl rfl (fun z => by cases z) (by decide)) (pe_ix ix_tup (pe_ix ix_tup (pv 3) pe_int (fun _ _ => rfl)) pe_int (fun _ _ => rfl)) (fun _ _ => rfl)))
                (pss_one (ps_expr (pe_bm PySem.F.plainAttrs_list PySem.F.slot_list_append PySem.F.type_list_append mt_append (pv 0) (pa_cons (pe_op op_catA (pe_op op_catA (pe_tup (pa_cons (pe_ix ix_tup (pe_ix ix_tup (pv 3) pe_int (fun _ _ => rfl)) pe_int (fun _ _ => rfl)) pa_nil)) (pv 4)) (pe_slice sl_tup (pv 3) (po_some pe_int) po_none)) pa_nil))))) pss_nil)))))))
        (pss_one (ps_if (PW.pt (pw_and (pt_cmpR (op_neT0 hu0) (pv 3) (pe_tup pa_nil) (nomark _)) (pw_and1 (pt_cmpR op_in_seq (pe_ix ix_tup (pe_ix ix_tup (pv 3) pe_int (fun _ _ => rfl)) pe_int (fun _ _ => rfl)) (pe_lst (pa_cons pe_str (pa_cons pe_str (pa_cons pe_str pa_nil)))) rfl))))
          (pss_one (ps_expr (pe_bm PySem.F.plainAttrs_list PySem.F.slot_list_append PySem.F.type_list_append mt_append (pv 0) (pa_cons (pe_slice sl_tup (pv 3) (po_some pe_int) po_none) pa_nil)))) pss_nil))))
        pss_nil))))
    (pss_one (ps_ret (pv 1))))), ?_⟩
  -- BODY
  refine ⟨(by show 0 ≤ sizeLine; decide), fun fo hfo => ⟨(by show 0 ≤ sizeLine; decide), fun se hse => ?_⟩⟩
  have z1 := same_new hfo (.lst [])
  have z2 := same_new hse (.lst [])
  have ofo : o ≠ fo := fun e => by rw [e, hfo] at ho; cases ho
  have ose : o ≠ se := fun e => by
    have := z1 _ _ ho
    rw [e, hse] at this; cases this
  have fse : fo ≠ se := ne_of_none upd_same hse
  have hseH : H se = none := by rw [upd_ne (Ne.symm fse)] at hse; exact hse
  have sta0 : Sta o fo se H (upd (upd H fo (.lst [])) se (.lst [])) O [] [] := ⟨⟨ts0, z2 _ _ (z1 _ _ ho), hO.tk (Tk.of_same (z1.trans z2))⟩, ⟨[], by rw [upd_ne fse]; exact upd_same, .nil⟩, ⟨[], upd_same, .nil⟩, Keep.of_same (z1.trans z2), hfo, hseH, ofo, ose, fse⟩
  generalize upd (upd H fo (.lst [])) se (.lst []) = H1 at sta0
  have hU2 := hU.few
  refine while_inv (fun m σ H' => ∃ W F S x3 x4, σ = [some (.ref o), some (.ref fo), some (.ref se), x3, x4] ∧ Sta o fo se H H' W F S ∧ Opn U O W S F ∧ m = 3 * (U.length - S.length) + W.length ∧ m ≤ 2000)
    ⟨_, O, [], [], _, _, rfl, sta0, opn_start hOU, rfl, (by rw [List.length_nil]; omega)⟩ (fun m σ H2 pv' => ?_)
  clear sta0 z1 z2
  obtain ⟨W, F, S, x3, x4, rfl, sta, opn, hm, hm2⟩ := pv'
  obtain ⟨ts, eO, rO⟩ := sta.w
  refine ⟨_, rfl, (by show 0 ≤ sizeLine; decide), fun pn hpn => ⟨o, pn, _, rfl, rfl, same_new hpn _ _ _ eO, upd_same, ?_⟩⟩
  have z3 := same_new hpn (.lst [])
  replace sta := sta.same z3
  replace eO := z3 _ _ eO
  replace rO := rO.tk (Tk.of_same z3)
  generalize upd H2 pn (.lst []) = H3 at sta eO rO
  clear z3 hpn
  rcases List.eq_nil_or_concat ts with rfl | ⟨ts', u, rfl⟩
  · cases rO
    refine ⟨_, rfl, iteF ?_⟩
    obtain ⟨fs, eF, rF⟩ := sta.f
    exact ⟨_, rfl, q fo fs F H3 sta.nf eF rF (fun s hs => ⟨opn.sU s (opn.fS s hs), opn.fF s hs⟩) (by have h1 := opn.fl; have h2 := opn.few; omega) opn.fin sta.k⟩
  rw [List.concat_eq_append] at eO rO ⊢
  obtain ⟨W, s, rfl, rW, rs⟩ := paired_last rO
  refine ⟨_, rfl, ?_⟩
  have hne' : (if true = true then !(ts' ++ [u]).isEmpty else (ts' ++ [u]).isEmpty) = true := by cases ts' <;> rfl
  rw [hne']
  refine iteT ?_
  refine ⟨_, fun _ _ h => h, ?_⟩
  refine ⟨_, rfl, .inl ⟨rfl, _, SqL.of eO⟩, o, _, u, rfl, rfl, eO, by simp, ?_⟩
  rw [List.dropLast_concat]
  replace sta := sta.setO (ts' := ts') (W' := W) rW
  replace rs := rs.tk (Tk.lst (o := .lst ts') eO)
  generalize upd H3 o (.lst ts') = H4 at sta rs
  clear eO rO rW
  have hsU : s ∈ U := opn.wU s (List.mem_append_right _ (List.mem_singleton_self _))
  obtain ⟨ss, eS, rS⟩ := sta.s
  refine ⟨_, rfl, _, rfl, dS s, S.map dS, rs.dp, .lst (SqL.of eS) (RSs.dp rS), hU.shaped hsU, hU.shapedL opn.sU, _, rfl, ?_⟩
  have hwl : (W ++ [s]).length = W.length + 1 := List.length_append
  have hsl : (S ++ [s]).length = S.length + 1 := List.length_append
  by_cases hs : s ∈ S
  · rw [(any_dS s S).mpr hs]
    exact iteF ⟨_, (by omega), W, F, S, _, _, rfl, sta, opn.skip hs, rfl, (by omega)⟩
  rw [show ((S.map dS).any fun z => PyData.eqv z (dS s)) = false from Bool.eq_false_iff.mpr fun h => hs ((any_dS s S).mp h)]
  refine iteT ?_
  have lss : ss.length = S.length := Paired.length rS
  have hfew := opn.few
  refine ⟨_, rfl, .inl ⟨rfl, _, SqL.of eS⟩, _, rfl, se, _, _, rfl, rfl, eS, by rw [sizeLine_eq]; omega, ?_⟩
  replace sta := sta.pushS eS (vs := [u]) (W' := [s]) (.cons rs .nil)
  replace rs := rs.tk (Tk.lst (o := .lst (ss ++ [u])) eS)
  generalize upd H4 se (.lst (ss ++ [u])) = H5 at sta rs
  clear eS rS
  obtain ⟨a, vs, rfl, ha, hps⟩ := rs
  have hWl : W.length ≤ 2000 := by omega
  -- owed == ()
  refine ⟨_, rfl, (by show 0 ≤ sizeLine; decide), fun p6 hp6 => ⟨a, p6, _, rfl, rfl, SqT.of (same_new hp6 _ _ _ ha), SqT.of upd_same, _, rfl, ?_⟩⟩
  have z6 := same_new hp6 (.tup [])
  replace sta := sta.same z6
  replace ha := z6 _ _ ha
  replace hps := RPs.tk hps (Tk.of_same z6)
  generalize upd H5 p6 (.tup []) = H6 at sta ha hps
  clear z6 hp6
  have few1 : S.length + 1 ≤ U.length := by
    have h1 : (S ++ [s]).Nodup := List.nodup_append.mpr ⟨opn.nd, by simp, fun x hx y hy e => hs (by rw [← List.mem_singleton.mp hy, ← e]; exact hx)⟩
    have h2 := nodup_len (m := U) h1 fun x hx => by
      rcases List.mem_append.mp hx with hx | hx
      · exact opn.sU x hx
      · rw [List.mem_singleton.mp hx]; exact hsU
    omega
  have hok := hU.ok s hsU
  cases hps with
  | nil =>
    refine iteT (iteT ?_)
    obtain ⟨fs, eF, rF⟩ := sta.f
    have lfs : fs.length = F.length := Paired.length rF
    have hfl := opn.fl
    refine ⟨_, rfl, .inl ⟨rfl, _, SqL.of eF⟩, _, rfl, fo, _, _, rfl, rfl, eF, by rw [sizeLine_eq]; omega, ?_⟩
    replace sta := sta.pushF eF (vs := [V.ref a]) (W' := [[]]) (.cons ⟨a, [], rfl, ha, .nil⟩ .nil)
    replace ha := Tk.lst (o := .lst (fs ++ [V.ref a])) eF _ _ ha
    generalize upd H6 fo (.lst (fs ++ [V.ref a])) = H7 at sta ha
    refine ⟨_, rfl, (by show 0 ≤ sizeLine; decide), fun p8 hp8 => ⟨a, p8, _, rfl, rfl, SqT.of (same_new hp8 _ _ _ ha), SqT.of upd_same, _, rfl, iteF (iteF ?_)⟩⟩
    exact ⟨_, (by omega), W, F ++ [[]], S ++ [[]], _, _, rfl, sta.same (same_new hp8 _), opn.found hs trivial, rfl, (by omega)⟩
  | @cons vp p vk k rp rk =>
    rw [decide_eq_false (List.cons_ne_nil _ _)]
    refine iteF ?_
    have lvk : vk.length = k.length := Paired.length rk
    have lk : k.length + 1 ≤ 100 := hok.2
    cases p with
    | sg x =>
      obtain ⟨b, rfl, hb⟩ := rp
      refine ⟨_, rfl, a, _, _, _, rfl, rfl, SqT.of ha, at_zero, b, _, _, _, rfl, rfl, SqT.of hb, at_zero, rfl, _, rfl, itE (by show decide (("signs" : Str) = "signs") = true; decide +kernel) ?_⟩
      obtain ⟨fs, eF, rF⟩ := sta.f
      have lfs : fs.length = F.length := Paired.length rF
      have hfl := opn.fl
      refine ⟨_, rfl, .inl ⟨rfl, _, SqL.of eF⟩, _, rfl, fo, _, _, rfl, rfl, eF, by rw [sizeLine_eq]; omega, ?_⟩
      replace sta := sta.pushF eF (vs := [V.ref a]) (W' := [.sg x :: k]) (.cons ⟨a, _, rfl, ha, .cons ⟨b, rfl, hb⟩ rk⟩ .nil)
      have tk := Tk.lst (o := .lst (fs ++ [V.ref a])) eF
      replace ha := tk _ _ ha
      replace hb := tk _ _ hb
      replace rk := RPs.tk rk tk
      generalize upd H6 fo (.lst (fs ++ [V.ref a])) = H7 at sta ha hb rk
      -- the row behind it
      refine ⟨_, rfl, (by show 0 ≤ sizeLine; decide), fun p8 hp8 => ⟨a, p8, _, rfl, rfl, SqT.of (same_new hp8 _ _ _ ha), SqT.of upd_same, _, rfl, ?_⟩⟩
      rw [decide_eq_false (List.cons_ne_nil _ _)]
      refine iteT ?_
      have z := same_new hp8 (.tup [])
      replace sta := sta.same z
      replace ha := z _ _ ha
      replace hb := z _ _ hb
      replace rk := RPs.tk rk (Tk.of_same z)
      generalize upd H7 p8 (.tup []) = H8 at sta ha hb rk
      clear z hp8
      refine ⟨_, rfl, a, _, _, _, rfl, rfl, SqT.of ha, at_zero, b, _, _, _, rfl, rfl, SqT.of hb, at_zero, (by show 3 ≤ sizeLine; decide), fun p9 hp9 => ⟨p9, _, rfl, .inl (SqL.of upd_same), rfl, rfl, _, rfl, iteFb (by show inV (.str "signs") _ = false; decide +kernel) ?_⟩⟩
      have z := same_new hp9 (.lst [.str "empty", .str "again", .str "maybe"])
      replace sta := sta.same z
      replace ha := z _ _ ha
      replace hb := z _ _ hb
      replace rk := RPs.tk rk (Tk.of_same z)
      generalize upd H8 p9 (.lst [.str "empty", .str "again", .str "maybe"]) = H9 at sta ha hb rk
      clear z hp9
      exact ⟨_, (by simp only [List.length_append, List.length_cons, List.length_nil] at *; omega), W, F ++ [.sg x :: k], S ++ [.sg x :: k], _, _, rfl, sta, opn.found hs trivial, rfl, (by simp only [List.length_append, List.length_cons, List.length_nil] at *; omega)⟩
    | em =>
      obtain ⟨b, rfl, hb⟩ := rp
      refine ⟨_, rfl, a, _, _, _, rfl, rfl, SqT.of ha, at_zero, b, _, _, _, rfl, rfl, SqT.of hb, at_zero, rfl, _, rfl, itW (by show decide (("empty" : Str) = "signs") = false; decide +kernel) ?_⟩
      refine ⟨_, rfl, a, _, _, _, rfl, rfl, SqT.of ha, at_zero, b, _, _, _, rfl, rfl, SqT.of hb, at_zero, rfl, _, rfl, itW (by show decide (("empty" : Str) = "then") = false; decide +kernel) ?_⟩
      refine ⟨_, rfl, a, _, _, _, rfl, rfl, SqT.of ha, at_zero, b, _, _, _, rfl, rfl, SqT.of hb, at_zero, rfl, _, rfl, itW (by show decide (("empty" : Str) = "or") = false; decide +kernel) ?_⟩
      refine ⟨_, rfl, a, _, _, _, rfl, rfl, SqT.of ha, at_zero, b, _, _, _, rfl, rfl, SqT.of hb, at_zero, rfl, _, rfl, itNE (by show decide (("empty" : Str) = "empty") = true; decide +kernel) ?_⟩
      -- the row behind it
      refine ⟨_, rfl, (by show 0 ≤ sizeLine; decide), fun p8 hp8 => ⟨a, p8, _, rfl, rfl, SqT.of (same_new hp8 _ _ _ ha), SqT.of upd_same, _, rfl, ?_⟩⟩
      rw [decide_eq_false (List.cons_ne_nil _ _)]
      refine iteT ?_
      have z := same_new hp8 (.tup [])
      replace sta := sta.same z
      replace ha := z _ _ ha
      replace hb := z _ _ hb
      replace rk := RPs.tk rk (Tk.of_same z)
      generalize upd H6 p8 (.tup []) = H8 at sta ha hb rk
      clear z hp8
      refine ⟨_, rfl, a, _, _, _, rfl, rfl, SqT.of ha, at_zero, b, _, _, _, rfl, rfl, SqT.of hb, at_zero, (by show 3 ≤ sizeLine; decide), fun p9 hp9 => ⟨p9, _, rfl, .inl (SqL.of upd_same), rfl, rfl, _, rfl, iteTb (by show inV (.str "empty") _ = true; decide +kernel) ?_⟩⟩
      have z := same_new hp9 (.lst [.str "empty", .str "again", .str "maybe"])
      replace sta := sta.same z
      replace ha := z _ _ ha
      replace hb := z _ _ hb
      replace rk := RPs.tk rk (Tk.of_same z)
      generalize upd H8 p9 (.lst [.str "empty", .str "again", .str "maybe"]) = H9 at sta ha hb rk
      clear z hp9
      obtain ⟨tq, eO, rO⟩ := sta.w
      have ltq := Paired.length rO
      refine ⟨_, rfl, .inl ⟨rfl, _, SqL.of eO⟩, _, rfl, _, rfl, tail_read ha fun t Ht zt et => ?_⟩
      replace sta := sta.same zt
      replace eO := zt _ _ eO
      replace rk := RPs.tk rk (Tk.of_same zt)
      refine ⟨o, _, _, rfl, rfl, eO, (by rw [sizeLine_eq, ltq]; first | omega | (simp only [List.length_append, List.length_cons, List.length_nil]; omega)), ?_⟩
      replace sta := sta.pushO eO (vs := [V.ref t]) (W' := [k]) (.cons ⟨t, vk, rfl, et, rk⟩ .nil)
      exact ⟨_, (by simp only [List.length_append, List.length_cons, List.length_nil] at *; omega), W ++ [k], F, S ++ [.em :: k], _, _, rfl, sta, opn.push hU hs (fun h => h) (fun t => Iff.rfl), rfl, (by simp only [List.length_append, List.length_cons, List.length_nil] at *; omega)⟩
    | th p1 p2 =>
      obtain ⟨b, u1, u2, rfl, hb, r1, r2⟩ := rp
      refine ⟨_, rfl, a, _, _, _, rfl, rfl, SqT.of ha, at_zero, b, _, _, _, rfl, rfl, SqT.of hb, at_zero, rfl, _, rfl, itW (by show decide (("then" : Str) = "signs") = false; decide +kernel) ?_⟩
      refine ⟨_, rfl, a, _, _, _, rfl, rfl, SqT.of ha, at_zero, b, _, _, _, rfl, rfl, SqT.of hb, at_zero, rfl, _, rfl, itE (by show decide (("then" : Str) = "then") = true; decide +kernel) ?_⟩
      obtain ⟨tq, eO, rO⟩ := sta.w
      have ltq := Paired.length rO
      refine ⟨_, rfl, .inl ⟨rfl, _, SqL.of eO⟩, _, rfl, a, _, _, _, rfl, rfl, SqT.of ha, at_zero, _, rfl, tail_read hb fun t1 Ha za e1 => ?_⟩
      refine ⟨_, rfl, _, rfl, tail_read (za _ _ ha) fun t2 Hb zb e2 => catA_read (zb _ _ e1) e2 (by rw [sizeLine_eq]; simp only [List.length_cons, List.length_nil]; omega) fun c Hc zc ec => ?_⟩
      have zA := za.trans (zb.trans zc)
      replace sta := sta.same zA
      replace eO := zA _ _ eO
      replace ha := zA _ _ ha
      replace hb := zA _ _ hb
      replace rk := RPs.tk rk (Tk.of_same zA)
      replace r1 := r1.tk (Tk.of_same zA)
      replace r2 := r2.tk (Tk.of_same zA)
      refine ⟨o, _, _, rfl, rfl, eO, (by rw [sizeLine_eq, ltq]; omega), ?_⟩
      replace sta := sta.pushO eO (vs := [V.ref c]) (W' := [p1 :: p2 :: k]) (.cons ⟨c, _, rfl, ec, .cons r1 (.cons r2 rk)⟩ .nil)
      have tk := Tk.lst (o := .lst (tq ++ [V.ref c])) eO
      replace ha := tk _ _ ha
      replace hb := tk _ _ hb
      replace rk := RPs.tk rk tk
      generalize upd Hc o (.lst (tq ++ [V.ref c])) = H7 at sta ha hb rk
      -- the row behind it
      refine ⟨_, rfl, (by show 0 ≤ sizeLine; decide), fun p8 hp8 => ⟨a, p8, _, rfl, rfl, SqT.of (same_new hp8 _ _ _ ha), SqT.of upd_same, _, rfl, ?_⟩⟩
      rw [decide_eq_false (List.cons_ne_nil _ _)]
      refine iteT ?_
      have z := same_new hp8 (.tup [])
      replace sta := sta.same z
      replace ha := z _ _ ha
      replace hb := z _ _ hb
      replace rk := RPs.tk rk (Tk.of_same z)
      generalize upd H7 p8 (.tup []) = H8 at sta ha hb rk
      clear z hp8
      refine ⟨_, rfl, a, _, _, _, rfl, rfl, SqT.of ha, at_zero, b, _, _, _, rfl, rfl, SqT.of hb, at_zero, (by show 3 ≤ sizeLine; decide), fun p9 hp9 => ⟨p9, _, rfl, .inl (SqL.of upd_same), rfl, rfl, _, rfl, iteFb (by show inV (.str "then") _ = false; decide +kernel) ?_⟩⟩
      have z := same_new hp9 (.lst [.str "empty", .str "again", .str "maybe"])
      replace sta := sta.same z
      replace ha := z _ _ ha
      replace hb := z _ _ hb
      replace rk := RPs.tk rk (Tk.of_same z)
      generalize upd H8 p9 (.lst [.str "empty", .str "again", .str "maybe"]) = H9 at sta ha hb rk
      clear z hp9
      exact ⟨_, (by simp only [List.length_append, List.length_cons, List.length_nil] at *; omega), W ++ [p1 :: p2 :: k], F, S ++ [.th p1 p2 :: k], _, _, rfl, sta, opn.push hU hs (fun h => h) (fun t => Iff.rfl), rfl, (by simp only [List.length_append, List.length_cons, List.length_nil] at *; omega)⟩
    | oo p1 p2 =>
      obtain ⟨b, u1, u2, rfl, hb, r1, r2⟩ := rp
      refine ⟨_, rfl, a, _, _, _, rfl, rfl, SqT.of ha, at_zero, b, _, _, _, rfl, rfl, SqT.of hb, at_zero, rfl, _, rfl, itW (by show decide (("or" : Str) = "signs") = false; decide +kernel) ?_⟩
      refine ⟨_, rfl, a, _, _, _, rfl, rfl, SqT.of ha, at_zero, b, _, _, _, rfl, rfl, SqT.of hb, at_zero, rfl, _, rfl, itW (by show decide (("or" : Str) = "then") = false; decide +kernel) ?_⟩
      refine ⟨_, rfl, a, _, _, _, rfl, rfl, SqT.of ha, at_zero, b, _, _, _, rfl, rfl, SqT.of hb, at_zero, rfl, _, rfl, itE (by show decide (("or" : Str) = "or") = true; decide +kernel) ?_⟩
      obtain ⟨tq, eO, rO⟩ := sta.w
      have ltq := Paired.length rO
      refine ⟨_, rfl, .inl ⟨rfl, _, SqL.of eO⟩, _, rfl, a, _, _, _, rfl, rfl, SqT.of ha, at_zero, _, rfl, _, rfl, mid_read hb fun t1 Ha za e1 => ?_⟩
      refine ⟨_, rfl, _, rfl, tail_read (za _ _ ha) fun t2 Hb zb e2 => catA_read (zb _ _ e1) e2 (by rw [sizeLine_eq]; simp only [List.length_cons, List.length_nil]; omega) fun c Hc zc ec => ?_⟩
      have zA := za.trans (zb.trans zc)
      refine ⟨_, rfl, a, _, _, _, rfl, rfl, SqT.of (zA _ _ ha), at_zero, _, rfl, last_read (zA _ _ hb) fun t3 Hd zd e3 => ?_⟩
      refine ⟨_, rfl, _, rfl, tail_read ((zA.trans zd) _ _ ha) fun t4 He ze e4 => catA_read (ze _ _ e3) e4 (by rw [sizeLine_eq]; simp only [List.length_cons, List.length_nil]; omega) fun c' Hf zf ef => ?_⟩
      have zB := zA.trans (zd.trans (ze.trans zf))
      have ec' := (zd.trans (ze.trans zf)) _ _ ec
      refine ⟨(by show 2 ≤ sizeLine; decide), fun l hl => ?_⟩
      have zl := same_new hl (.lst [V.ref c, V.ref c'])
      have zC := zB.trans zl
      replace sta := sta.same zC
      replace eO := zC _ _ eO
      replace ha := zC _ _ ha
      replace hb := zC _ _ hb
      replace rk := RPs.tk rk (Tk.of_same zC)
      replace r1 := r1.tk (Tk.of_same zC)
      replace r2 := r2.tk (Tk.of_same zC)
      replace ec' := zl _ _ ec'
      replace ef := zl _ _ ef
      refine ⟨o, l, _, _, rfl, rfl, eO, upd_same, (by rw [sizeLine_eq, ltq]; simp only [List.length_cons, List.length_nil]; omega), ?_⟩
      replace sta := sta.pushO eO (vs := [V.ref c, V.ref c']) (W' := [p1 :: k, p2 :: k]) (.cons ⟨c, _, rfl, ec', .cons r1 rk⟩ (.cons ⟨c', _, rfl, ef, .cons r2 rk⟩ .nil))
      have tk := Tk.lst (o := .lst (tq ++ [V.ref c, V.ref c'])) eO
      replace ha := tk _ _ ha
      replace hb := tk _ _ hb
      replace rk := RPs.tk rk tk
      generalize upd (upd Hf l (.lst [V.ref c, V.ref c'])) o (.lst (tq ++ [V.ref c, V.ref c'])) = H7 at sta ha hb rk
      -- the row behind it
      refine ⟨_, rfl, (by show 0 ≤ sizeLine; decide), fun p8 hp8 => ⟨a, p8, _, rfl, rfl, SqT.of (same_new hp8 _ _ _ ha), SqT.of upd_same, _, rfl, ?_⟩⟩
      rw [decide_eq_false (List.cons_ne_nil _ _)]
      refine iteT ?_
      have z := same_new hp8 (.tup [])
      replace sta := sta.same z
      replace ha := z _ _ ha
      replace hb := z _ _ hb
      replace rk := RPs.tk rk (Tk.of_same z)
      generalize upd H7 p8 (.tup []) = H8 at sta ha hb rk
      clear z hp8
      refine ⟨_, rfl, a, _, _, _, rfl, rfl, SqT.of ha, at_zero, b, _, _, _, rfl, rfl, SqT.of hb, at_zero, (by show 3 ≤ sizeLine; decide), fun p9 hp9 => ⟨p9, _, rfl, .inl (SqL.of upd_same), rfl, rfl, _, rfl, iteFb (by show inV (.str "or") _ = false; decide +kernel) ?_⟩⟩
      have z := same_new hp9 (.lst [.str "empty", .str "again", .str "maybe"])
      replace sta := sta.same z
      replace ha := z _ _ ha
      replace hb := z _ _ hb
      replace rk := RPs.tk rk (Tk.of_same z)
      generalize upd H8 p9 (.lst [.str "empty", .str "again", .str "maybe"]) = H9 at sta ha hb rk
      clear z hp9
      exact ⟨_, (by simp only [List.length_append, List.length_cons, List.length_nil] at *; omega), W ++ [p1 :: k, p2 :: k], F, S ++ [.oo p1 p2 :: k], _, _, rfl, sta, opn.push hU hs (fun h => h) (fun t => Iff.rfl), rfl, (by simp only [List.length_append, List.length_cons, List.length_nil] at *; omega)⟩
    | ag p1 =>
      obtain ⟨b, u1, rfl, hb, r1⟩ := rp
      refine ⟨_, rfl, a, _, _, _, rfl, rfl, SqT.of ha, at_zero, b, _, _, _, rfl, rfl, SqT.of hb, at_zero, rfl, _, rfl, itW (by show decide (("again" : Str) = "signs") = false; decide +kernel) ?_⟩
      refine ⟨_, rfl, a, _, _, _, rfl, rfl, SqT.of ha, at_zero, b, _, _, _, rfl, rfl, SqT.of hb, at_zero, rfl, _, rfl, itW (by show decide (("again" : Str) = "then") = false; decide +kernel) ?_⟩
      refine ⟨_, rfl, a, _, _, _, rfl, rfl, SqT.of ha, at_zero, b, _, _, _, rfl, rfl, SqT.of hb, at_zero, rfl, _, rfl, itW (by show decide (("again" : Str) = "or") = false; decide +kernel) ?_⟩
      refine ⟨_, rfl, a, _, _, _, rfl, rfl, SqT.of ha, at_zero, b, _, _, _, rfl, rfl, SqT.of hb, at_zero, rfl, _, rfl, itNW (by show decide (("again" : Str) = "empty") = false; decide +kernel) ?_⟩
      intro dd hdd
      have zd := same_new hdd (.dK [])
      refine ⟨_, rfl, a, _, _, _, rfl, rfl, SqT.of (zd _ _ ha), at_zero, (_ : Int), rfl, b, _, _, _, rfl, rfl, SqT.of (zd _ _ hb), (show atI [V.str "again", u1] (-1) = some u1 from rfl), (by show 2 ≤ sizeLine; decide), fun q1 hq1 => ⟨(by show 1 ≤ sizeLine; decide), fun q2 hq2 => ?_⟩⟩
      have y1 := same_new hq1 (.tup [.str "again", u1])
      have y2 := same_new hq2 (.tup [.ref q1])
      have zE := zd.trans (y1.trans y2)
      refine ⟨_, rfl, a, _, _, _, rfl, rfl, SqT.of (zE _ _ ha), at_zero, (_ : Int), rfl, b, _, _, _, rfl, rfl, SqT.of (zE _ _ hb), (show atI [V.str "again", u1] (-1) = some u1 from rfl), (by show 2 ≤ sizeLine; decide), fun q3 hq3 => ⟨(by show 1 ≤ sizeLine; decide), fun q4 hq4 => ?_⟩⟩
      have y3 := same_new hq3 (.tup [.str "again", u1])
      have y4 := same_new hq4 (.tup [.ref q3])
      refine ⟨(by show 0 ≤ sizeLine; decide), fun q5 hq5 => ?_⟩
      have y5 := same_new hq5 (.tup [])
      have eq1 := (y2.trans (y3.trans (y4.trans y5))) _ _ upd_same
      have eq2 := (y3.trans (y4.trans y5)) _ _ upd_same
      have eq3 := (y4.trans y5) _ _ upd_same
      have eq4 := y5 _ _ upd_same
      have eq5 : (upd (upd (upd (upd (upd (upd H6 dd (.dK [])) q1 (.tup [.str "again", u1])) q2 (.tup [.ref q1])) q3 (.tup [.str "again", u1])) q4 (.tup [.ref q3])) q5 (.tup [])) q5 = some (.tup []) := upd_same
      have yA := y1.trans (y2.trans (y3.trans (y4.trans y5)))
      have edd := yA _ _ (upd_same (H := H6) (a := dd) (o := .dK []))
      have zF := zd.trans yA
      refine ⟨edd, [(Sum.inr "again", V.ref q2), (Sum.inr "more", V.ref q4), (Sum.inr "maybe", V.ref q5)], rfl, (by show 3 ≤ 15; decide), ?_⟩
      have hddH : H dd = none := by
        cases eh : H dd with
        | none => rfl
        | some oo =>
          exfalso
          by_cases eo : dd = o
          · obtain ⟨_, e0, _⟩ := sta.w
            rw [eo, e0] at hdd; cases hdd
          · have := sta.k _ _ eo eh
            rw [this] at hdd; cases hdd
      replace sta := sta.same zF
      have ne_t : ∀ {c xs}, (upd (upd (upd (upd (upd (upd H6 dd (.dK [])) q1 (.tup [.str "again", u1])) q2 (.tup [.ref q1])) q3 (.tup [.str "again", u1])) q4 (.tup [.ref q3])) q5 (.tup [])) c = some (.tup xs) → c ≠ dd := fun {c xs} e q => by rw [q, edd] at e; cases e
      replace ha := zF _ _ ha
      replace hb := zF _ _ hb
      replace rk := RPs.tk rk (Tk.of_same zF)
      replace r1 := r1.tk (Tk.of_same zF)
      generalize upd (upd (upd (upd (upd (upd H6 dd (.dK [])) q1 (.tup [.str "again", u1])) q2 (.tup [.ref q1])) q3 (.tup [.str "again", u1])) q4 (.tup [.ref q3])) q5 (.tup []) = Hq at sta ha hb rk r1 eq1 eq2 eq3 eq4 eq5 edd ne_t
      have tk : Tk Hq (upd Hq dd (.dK (mergeK [] [(Sum.inr "again", V.ref q2), (Sum.inr "more", V.ref q4), (Sum.inr "maybe", V.ref q5)]))) := fun c xs e => by rw [upd_ne (ne_t e)]; exact e
      replace sta := sta.dict edd hddH (mergeK [] [(Sum.inr "again", V.ref q2), (Sum.inr "more", V.ref q4), (Sum.inr "maybe", V.ref q5)])
      replace ha := tk _ _ ha
      replace hb := tk _ _ hb
      replace rk := RPs.tk rk tk
      replace r1 := r1.tk tk
      replace eq1 := tk _ _ eq1
      replace eq2 := tk _ _ eq2
      replace eq3 := tk _ _ eq3
      replace eq4 := tk _ _ eq4
      replace eq5 := tk _ _ eq5
      have ed : (upd Hq dd (.dK (mergeK [] [(Sum.inr "again", V.ref q2), (Sum.inr "more", V.ref q4), (Sum.inr "maybe", V.ref q5)]))) dd = some (.dK (mergeK [] [(Sum.inr "again", V.ref q2), (Sum.inr "more", V.ref q4), (Sum.inr "maybe", V.ref q5)])) := upd_same
      generalize upd Hq dd (.dK (mergeK [] [(Sum.inr "again", V.ref q2), (Sum.inr "more", V.ref q4), (Sum.inr "maybe", V.ref q5)])) = Hr at sta ha hb rk r1 eq1 eq2 eq3 eq4 eq5 ed
      have hv : valV (mergeK [] [(Sum.inr "again", V.ref q2), (Sum.inr "more", V.ref q4), (Sum.inr "maybe", V.ref q5)]) (Sum.inr "again" : Key) = some (.ref q2) := by
        show valV (putK (putK (putK [] (Sum.inr "again" : Key) (V.ref q2)) (Sum.inr "more") (.ref q4)) (Sum.inr "maybe") (.ref q5)) (Sum.inr "again" : Key) = _
        rw [valV_put, valV_put, valV_put]
        rw [if_neg (by decide +kernel), if_neg (by decide +kernel), if_pos rfl]
      refine ⟨_, rfl, a, _, _, _, rfl, rfl, SqT.of ha, at_zero, b, _, _, _, rfl, rfl, SqT.of hb, at_zero, dd, .ref q2, rfl, (by rw [← hv]; exact DGet.k (k := Sum.inr "again") ed), ?_⟩
      obtain ⟨tq, eO, rO⟩ := sta.w
      have ltq := Paired.length rO
      refine ⟨_, rfl, .inl ⟨rfl, _, SqL.of eO⟩, _, rfl, a, _, _, _, rfl, rfl, SqT.of ha, at_zero, b, _, _, _, rfl, rfl, SqT.of hb, at_one, (by show 1 ≤ sizeLine; decide), fun c1 hc1 => ?_⟩
      have x1 := same_new hc1 (.tup [u1])
      refine ⟨_, rfl, catA_read upd_same (x1 _ _ eq2) (by rw [sizeLine_eq]; simp only [List.length_cons, List.length_nil]; omega) fun c2 Hs x2 ec2 => ?_⟩
      refine ⟨_, rfl, _, rfl, tail_read ((x1.trans x2) _ _ ha) fun t5 Ht x3 et5 => catA_read (x3 _ _ ec2) et5 (by rw [sizeLine_eq]; simp only [List.length_append, List.length_cons, List.length_nil]; omega) fun c Hc x4 ec => ?_⟩
      have zC := x1.trans (x2.trans (x3.trans x4))
      replace sta := sta.same zC
      replace eO := zC _ _ eO
      replace ha := zC _ _ ha
      replace hb := zC _ _ hb
      replace rk := RPs.tk rk (Tk.of_same zC)
      replace r1 := r1.tk (Tk.of_same zC)
      replace eq1 := zC _ _ eq1
      replace eq3 := zC _ _ eq3
      refine ⟨o, _, _, rfl, rfl, eO, (by rw [sizeLine_eq, ltq]; omega), ?_⟩
      replace sta := sta.pushO eO (vs := [V.ref c]) (W' := [p1 :: .ag p1 :: k]) (.cons ⟨c, _, rfl, ec, .cons r1 (.cons ⟨q1, _, rfl, eq1, r1⟩ rk)⟩ .nil)
      have tk2 := Tk.lst (o := .lst (tq ++ [V.ref c])) eO
      replace ha := tk2 _ _ ha
      replace hb := tk2 _ _ hb
      replace rk := RPs.tk rk tk2
      generalize upd Hc o (.lst (tq ++ [V.ref c])) = H7 at sta ha hb rk
      -- the row behind it
      refine ⟨_, rfl, (by show 0 ≤ sizeLine; decide), fun p8 hp8 => ⟨a, p8, _, rfl, rfl, SqT.of (same_new hp8 _ _ _ ha), SqT.of upd_same, _, rfl, ?_⟩⟩
      rw [decide_eq_false (List.cons_ne_nil _ _)]
      refine iteT ?_
      have z := same_new hp8 (.tup [])
      replace sta := sta.same z
      replace ha := z _ _ ha
      replace hb := z _ _ hb
      replace rk := RPs.tk rk (Tk.of_same z)
      generalize upd H7 p8 (.tup []) = H8 at sta ha hb rk
      clear z hp8
      refine ⟨_, rfl, a, _, _, _, rfl, rfl, SqT.of ha, at_zero, b, _, _, _, rfl, rfl, SqT.of hb, at_zero, (by show 3 ≤ sizeLine; decide), fun p9 hp9 => ⟨p9, _, rfl, .inl (SqL.of upd_same), rfl, rfl, _, rfl, iteTb (by show inV (.str "again") _ = true; decide +kernel) ?_⟩⟩
      have z := same_new hp9 (.lst [.str "empty", .str "again", .str "maybe"])
      replace sta := sta.same z
      replace ha := z _ _ ha
      replace hb := z _ _ hb
      replace rk := RPs.tk rk (Tk.of_same z)
      generalize upd H8 p9 (.lst [.str "empty", .str "again", .str "maybe"]) = H9 at sta ha hb rk
      clear z hp9
      obtain ⟨tq, eO, rO⟩ := sta.w
      have ltq := Paired.length rO
      refine ⟨_, rfl, .inl ⟨rfl, _, SqL.of eO⟩, _, rfl, _, rfl, tail_read ha fun t Ht zt et => ?_⟩
      replace sta := sta.same zt
      replace eO := zt _ _ eO
      replace rk := RPs.tk rk (Tk.of_same zt)
      refine ⟨o, _, _, rfl, rfl, eO, (by rw [sizeLine_eq, ltq]; first | omega | (simp only [List.length_append, List.length_cons, List.length_nil]; omega)), ?_⟩
      replace sta := sta.pushO eO (vs := [V.ref t]) (W' := [k]) (.cons ⟨t, vk, rfl, et, rk⟩ .nil)
      exact ⟨_, (by simp only [List.length_append, List.length_cons, List.length_nil] at *; omega), (W ++ [p1 :: .ag p1 :: k]) ++ [k], F, S ++ [.ag p1 :: k], _, _, rfl, sta, (by rw [List.append_assoc]; exact opn.push hU hs (fun h => h) (fun t => Iff.rfl)), rfl, (by simp only [List.length_append, List.length_cons, List.length_nil] at *; omega)⟩
    | mo p1 =>
      obtain ⟨b, u1, rfl, hb, r1⟩ := rp
      refine ⟨_, rfl, a, _, _, _, rfl, rfl, SqT.of ha, at_zero, b, _, _, _, rfl, rfl, SqT.of hb, at_zero, rfl, _, rfl, itW (by show decide (("more" : Str) = "signs") = false; decide +kernel) ?_⟩
      refine ⟨_, rfl, a, _, _, _, rfl, rfl, SqT.of ha, at_zero, b, _, _, _, rfl, rfl, SqT.of hb, at_zero, rfl, _, rfl, itW (by show decide (("more" : Str) = "then") = false; decide +kernel) ?_⟩
      refine ⟨_, rfl, a, _, _, _, rfl, rfl, SqT.of ha, at_zero, b, _, _, _, rfl, rfl, SqT.of hb, at_zero, rfl, _, rfl, itW (by show decide (("more" : Str) = "or") = false; decide +kernel) ?_⟩
      refine ⟨_, rfl, a, _, _, _, rfl, rfl, SqT.of ha, at_zero, b, _, _, _, rfl, rfl, SqT.of hb, at_zero, rfl, _, rfl, itNW (by show decide (("more" : Str) = "empty") = false; decide +kernel) ?_⟩
      intro dd hdd
      have zd := same_new hdd (.dK [])
      refine ⟨_, rfl, a, _, _, _, rfl, rfl, SqT.of (zd _ _ ha), at_zero, (_ : Int), rfl, b, _, _, _, rfl, rfl, SqT.of (zd _ _ hb), (show atI [V.str "more", u1] (-1) = some u1 from rfl), (by show 2 ≤ sizeLine; decide), fun q1 hq1 => ⟨(by show 1 ≤ sizeLine; decide), fun q2 hq2 => ?_⟩⟩
      have y1 := same_new hq1 (.tup [.str "again", u1])
      have y2 := same_new hq2 (.tup [.ref q1])
      have zE := zd.trans (y1.trans y2)
      refine ⟨_, rfl, a, _, _, _, rfl, rfl, SqT.of (zE _ _ ha), at_zero, (_ : Int), rfl, b, _, _, _, rfl, rfl, SqT.of (zE _ _ hb), (show atI [V.str "more", u1] (-1) = some u1 from rfl), (by show 2 ≤ sizeLine; decide), fun q3 hq3 => ⟨(by show 1 ≤ sizeLine; decide), fun q4 hq4 => ?_⟩⟩
      have y3 := same_new hq3 (.tup [.str "again", u1])
      have y4 := same_new hq4 (.tup [.ref q3])
      refine ⟨(by show 0 ≤ sizeLine; decide), fun q5 hq5 => ?_⟩
      have y5 := same_new hq5 (.tup [])
      have eq1 := (y2.trans (y3.trans (y4.trans y5))) _ _ upd_same
      have eq2 := (y3.trans (y4.trans y5)) _ _ upd_same
      have eq3 := (y4.trans y5) _ _ upd_same
      have eq4 := y5 _ _ upd_same
      have eq5 : (upd (upd (upd (upd (upd (upd H6 dd (.dK [])) q1 (.tup [.str "again", u1])) q2 (.tup [.ref q1])) q3 (.tup [.str "again", u1])) q4 (.tup [.ref q3])) q5 (.tup [])) q5 = some (.tup []) := upd_same
      have yA := y1.trans (y2.trans (y3.trans (y4.trans y5)))
      have edd := yA _ _ (upd_same (H := H6) (a := dd) (o := .dK []))
      have zF := zd.trans yA
      refine ⟨edd, [(Sum.inr "again", V.ref q2), (Sum.inr "more", V.ref q4), (Sum.inr "maybe", V.ref q5)], rfl, (by show 3 ≤ 15; decide), ?_⟩
      have hddH : H dd = none := by
        cases eh : H dd with
        | none => rfl
        | some oo =>
          exfalso
          by_cases eo : dd = o
          · obtain ⟨_, e0, _⟩ := sta.w
            rw [eo, e0] at hdd; cases hdd
          · have := sta.k _ _ eo eh
            rw [this] at hdd; cases hdd
      replace sta := sta.same zF
      have ne_t : ∀ {c xs}, (upd (upd (upd (upd (upd (upd H6 dd (.dK [])) q1 (.tup [.str "again", u1])) q2 (.tup [.ref q1])) q3 (.tup [.str "again", u1])) q4 (.tup [.ref q3])) q5 (.tup [])) c = some (.tup xs) → c ≠ dd := fun {c xs} e q => by rw [q, edd] at e; cases e
      replace ha := zF _ _ ha
      replace hb := zF _ _ hb
      replace rk := RPs.tk rk (Tk.of_same zF)
      replace r1 := r1.tk (Tk.of_same zF)
      generalize upd (upd (upd (upd (upd (upd H6 dd (.dK [])) q1 (.tup [.str "again", u1])) q2 (.tup [.ref q1])) q3 (.tup [.str "again", u1])) q4 (.tup [.ref q3])) q5 (.tup []) = Hq at sta ha hb rk r1 eq1 eq2 eq3 eq4 eq5 edd ne_t
      have tk : Tk Hq (upd Hq dd (.dK (mergeK [] [(Sum.inr "again", V.ref q2), (Sum.inr "more", V.ref q4), (Sum.inr "maybe", V.ref q5)]))) := fun c xs e => by rw [upd_ne (ne_t e)]; exact e
      replace sta := sta.dict edd hddH (mergeK [] [(Sum.inr "again", V.ref q2), (Sum.inr "more", V.ref q4), (Sum.inr "maybe", V.ref q5)])
      replace ha := tk _ _ ha
      replace hb := tk _ _ hb
      replace rk := RPs.tk rk tk
      replace r1 := r1.tk tk
      replace eq1 := tk _ _ eq1
      replace eq2 := tk _ _ eq2
      replace eq3 := tk _ _ eq3
      replace eq4 := tk _ _ eq4
      replace eq5 := tk _ _ eq5
      have ed : (upd Hq dd (.dK (mergeK [] [(Sum.inr "again", V.ref q2), (Sum.inr "more", V.ref q4), (Sum.inr "maybe", V.ref q5)]))) dd = some (.dK (mergeK [] [(Sum.inr "again", V.ref q2), (Sum.inr "more", V.ref q4), (Sum.inr "maybe", V.ref q5)])) := upd_same
      generalize upd Hq dd (.dK (mergeK [] [(Sum.inr "again", V.ref q2), (Sum.inr "more", V.ref q4), (Sum.inr "maybe", V.ref q5)])) = Hr at sta ha hb rk r1 eq1 eq2 eq3 eq4 eq5 ed
      have hv : valV (mergeK [] [(Sum.inr "again", V.ref q2), (Sum.inr "more", V.ref q4), (Sum.inr "maybe", V.ref q5)]) (Sum.inr "more" : Key) = some (.ref q4) := by
        show valV (putK (putK (putK [] (Sum.inr "again" : Key) (V.ref q2)) (Sum.inr "more") (.ref q4)) (Sum.inr "maybe") (.ref q5)) (Sum.inr "more" : Key) = _
        rw [valV_put, valV_put, valV_put]
        rw [if_neg (by decide +kernel), if_pos rfl]
      refine ⟨_, rfl, a, _, _, _, rfl, rfl, SqT.of ha, at_zero, b, _, _, _, rfl, rfl, SqT.of hb, at_zero, dd, .ref q4, rfl, (by rw [← hv]; exact DGet.k (k := Sum.inr "more") ed), ?_⟩
      obtain ⟨tq, eO, rO⟩ := sta.w
      have ltq := Paired.length rO
      refine ⟨_, rfl, .inl ⟨rfl, _, SqL.of eO⟩, _, rfl, a, _, _, _, rfl, rfl, SqT.of ha, at_zero, b, _, _, _, rfl, rfl, SqT.of hb, at_one, (by show 1 ≤ sizeLine; decide), fun c1 hc1 => ?_⟩
      have x1 := same_new hc1 (.tup [u1])
      refine ⟨_, rfl, catA_read upd_same (x1 _ _ eq4) (by rw [sizeLine_eq]; simp only [List.length_cons, List.length_nil]; omega) fun c2 Hs x2 ec2 => ?_⟩
      refine ⟨_, rfl, _, rfl, tail_read ((x1.trans x2) _ _ ha) fun t5 Ht x3 et5 => catA_read (x3 _ _ ec2) et5 (by rw [sizeLine_eq]; simp only [List.length_append, List.length_cons, List.length_nil]; omega) fun c Hc x4 ec => ?_⟩
      have zC := x1.trans (x2.trans (x3.trans x4))
      replace sta := sta.same zC
      replace eO := zC _ _ eO
      replace ha := zC _ _ ha
      replace hb := zC _ _ hb
      replace rk := RPs.tk rk (Tk.of_same zC)
      replace r1 := r1.tk (Tk.of_same zC)
      replace eq1 := zC _ _ eq1
      replace eq3 := zC _ _ eq3
      refine ⟨o, _, _, rfl, rfl, eO, (by rw [sizeLine_eq, ltq]; omega), ?_⟩
      replace sta := sta.pushO eO (vs := [V.ref c]) (W' := [p1 :: .ag p1 :: k]) (.cons ⟨c, _, rfl, ec, .cons r1 (.cons ⟨q3, _, rfl, eq3, r1⟩ rk)⟩ .nil)
      have tk2 := Tk.lst (o := .lst (tq ++ [V.ref c])) eO
      replace ha := tk2 _ _ ha
      replace hb := tk2 _ _ hb
      replace rk := RPs.tk rk tk2
      generalize upd Hc o (.lst (tq ++ [V.ref c])) = H7 at sta ha hb rk
      -- the row behind it
      refine ⟨_, rfl, (by show 0 ≤ sizeLine; decide), fun p8 hp8 => ⟨a, p8, _, rfl, rfl, SqT.of (same_new hp8 _ _ _ ha), SqT.of upd_same, _, rfl, ?_⟩⟩
      rw [decide_eq_false (List.cons_ne_nil _ _)]
      refine iteT ?_
      have z := same_new hp8 (.tup [])
      replace sta := sta.same z
      replace ha := z _ _ ha
      replace hb := z _ _ hb
      replace rk := RPs.tk rk (Tk.of_same z)
      generalize upd H7 p8 (.tup []) = H8 at sta ha hb rk
      clear z hp8
      refine ⟨_, rfl, a, _, _, _, rfl, rfl, SqT.of ha, at_zero, b, _, _, _, rfl, rfl, SqT.of hb, at_zero, (by show 3 ≤ sizeLine; decide), fun p9 hp9 => ⟨p9, _, rfl, .inl (SqL.of upd_same), rfl, rfl, _, rfl, iteFb (by show inV (.str "more") _ = false; decide +kernel) ?_⟩⟩
      have z := same_new hp9 (.lst [.str "empty", .str "again", .str "maybe"])
      replace sta := sta.same z
      replace ha := z _ _ ha
      replace hb := z _ _ hb
      replace rk := RPs.tk rk (Tk.of_same z)
      generalize upd H8 p9 (.lst [.str "empty", .str "again", .str "maybe"]) = H9 at sta ha hb rk
      clear z hp9
      exact ⟨_, (by simp only [List.length_append, List.length_cons, List.length_nil] at *; omega), W ++ [p1 :: .ag p1 :: k], F, S ++ [.mo p1 :: k], _, _, rfl, sta, opn.push hU hs (fun h => h) (fun t => Iff.rfl), rfl, (by simp only [List.length_append, List.length_cons, List.length_nil] at *; omega)⟩
    | mb p1 =>
      obtain ⟨b, u1, rfl, hb, r1⟩ := rp
      refine ⟨_, rfl, a, _, _, _, rfl, rfl, SqT.of ha, at_zero, b, _, _, _, rfl, rfl, SqT.of hb, at_zero, rfl, _, rfl, itW (by show decide (("maybe" : Str) = "signs") = false; decide +kernel) ?_⟩
      refine ⟨_, rfl, a, _, _, _, rfl, rfl, SqT.of ha, at_zero, b, _, _, _, rfl, rfl, SqT.of hb, at_zero, rfl, _, rfl, itW (by show decide (("maybe" : Str) = "then") = false; decide +kernel) ?_⟩
      refine ⟨_, rfl, a, _, _, _, rfl, rfl, SqT.of ha, at_zero, b, _, _, _, rfl, rfl, SqT.of hb, at_zero, rfl, _, rfl, itW (by show decide (("maybe" : Str) = "or") = false; decide +kernel) ?_⟩
      refine ⟨_, rfl, a, _, _, _, rfl, rfl, SqT.of ha, at_zero, b, _, _, _, rfl, rfl, SqT.of hb, at_zero, rfl, _, rfl, itNW (by show decide (("maybe" : Str) = "empty") = false; decide +kernel) ?_⟩
      intro dd hdd
      have zd := same_new hdd (.dK [])
      refine ⟨_, rfl, a, _, _, _, rfl, rfl, SqT.of (zd _ _ ha), at_zero, (_ : Int), rfl, b, _, _, _, rfl, rfl, SqT.of (zd _ _ hb), (show atI [V.str "maybe", u1] (-1) = some u1 from rfl), (by show 2 ≤ sizeLine; decide), fun q1 hq1 => ⟨(by show 1 ≤ sizeLine; decide), fun q2 hq2 => ?_⟩⟩
      have y1 := same_new hq1 (.tup [.str "again", u1])
      have y2 := same_new hq2 (.tup [.ref q1])
      have zE := zd.trans (y1.trans y2)
      refine ⟨_, rfl, a, _, _, _, rfl, rfl, SqT.of (zE _ _ ha), at_zero, (_ : Int), rfl, b, _, _, _, rfl, rfl, SqT.of (zE _ _ hb), (show atI [V.str "maybe", u1] (-1) = some u1 from rfl), (by show 2 ≤ sizeLine; decide), fun q3 hq3 => ⟨(by show 1 ≤ sizeLine; decide), fun q4 hq4 => ?_⟩⟩
      have y3 := same_new hq3 (.tup [.str "again", u1])
      have y4 := same_new hq4 (.tup [.ref q3])
      refine ⟨(by show 0 ≤ sizeLine; decide), fun q5 hq5 => ?_⟩
      have y5 := same_new hq5 (.tup [])
      have eq1 := (y2.trans (y3.trans (y4.trans y5))) _ _ upd_same
      have eq2 := (y3.trans (y4.trans y5)) _ _ upd_same
      have eq3 := (y4.trans y5) _ _ upd_same
      have eq4 := y5 _ _ upd_same
      have eq5 : (upd (upd (upd (upd (upd (upd H6 dd (.dK [])) q1 (.tup [.str "again", u1])) q2 (.tup [.ref q1])) q3 (.tup [.str "again", u1])) q4 (.tup [.ref q3])) q5 (.tup [])) q5 = some (.tup []) := upd_same
      have yA := y1.trans (y2.trans (y3.trans (y4.trans y5)))
      have edd := yA _ _ (upd_same (H := H6) (a := dd) (o := .dK []))
      have zF := zd.trans yA
      refine ⟨edd, [(Sum.inr "again", V.ref q2), (Sum.inr "more", V.ref q4), (Sum.inr "maybe", V.ref q5)], rfl, (by show 3 ≤ 15; decide), ?_⟩
      have hddH : H dd = none := by
        cases eh : H dd with
        | none => rfl
        | some oo =>
          exfalso
          by_cases eo : dd = o
          · obtain ⟨_, e0, _⟩ := sta.w
            rw [eo, e0] at hdd; cases hdd
          · have := sta.k _ _ eo eh
            rw [this] at hdd; cases hdd
      replace sta := sta.same zF
      have ne_t : ∀ {c xs}, (upd (upd (upd (upd (upd (upd H6 dd (.dK [])) q1 (.tup [.str "again", u1])) q2 (.tup [.ref q1])) q3 (.tup [.str "again", u1])) q4 (.tup [.ref q3])) q5 (.tup [])) c = some (.tup xs) → c ≠ dd := fun {c xs} e q => by rw [q, edd] at e; cases e
      replace ha := zF _ _ ha
      replace hb := zF _ _ hb
      replace rk := RPs.tk rk (Tk.of_same zF)
      replace r1 := r1.tk (Tk.of_same zF)
      generalize upd (upd (upd (upd (upd (upd H6 dd (.dK [])) q1 (.tup [.str "again", u1])) q2 (.tup [.ref q1])) q3 (.tup [.str "again", u1])) q4 (.tup [.ref q3])) q5 (.tup []) = Hq at sta ha hb rk r1 eq1 eq2 eq3 eq4 eq5 edd ne_t
      have tk : Tk Hq (upd Hq dd (.dK (mergeK [] [(Sum.inr "again", V.ref q2), (Sum.inr "more", V.ref q4), (Sum.inr "maybe", V.ref q5)]))) := fun c xs e => by rw [upd_ne (ne_t e)]; exact e
      replace sta := sta.dict edd hddH (mergeK [] [(Sum.inr "again", V.ref q2), (Sum.inr "more", V.ref q4), (Sum.inr "maybe", V.ref q5)])
      replace ha := tk _ _ ha
      replace hb := tk _ _ hb
      replace rk := RPs.tk rk tk
      replace r1 := r1.tk tk
      replace eq1 := tk _ _ eq1
      replace eq2 := tk _ _ eq2
      replace eq3 := tk _ _ eq3
      replace eq4 := tk _ _ eq4
      replace eq5 := tk _ _ eq5
      have ed : (upd Hq dd (.dK (mergeK [] [(Sum.inr "again", V.ref q2), (Sum.inr "more", V.ref q4), (Sum.inr "maybe", V.ref q5)]))) dd = some (.dK (mergeK [] [(Sum.inr "again", V.ref q2), (Sum.inr "more", V.ref q4), (Sum.inr "maybe", V.ref q5)])) := upd_same
      generalize upd Hq dd (.dK (mergeK [] [(Sum.inr "again", V.ref q2), (Sum.inr "more", V.ref q4), (Sum.inr "maybe", V.ref q5)])) = Hr at sta ha hb rk r1 eq1 eq2 eq3 eq4 eq5 ed
      have hv : valV (mergeK [] [(Sum.inr "again", V.ref q2), (Sum.inr "more", V.ref q4), (Sum.inr "maybe", V.ref q5)]) (Sum.inr "maybe" : Key) = some (.ref q5) := by
        show valV (putK (putK (putK [] (Sum.inr "again" : Key) (V.ref q2)) (Sum.inr "more") (.ref q4)) (Sum.inr "maybe") (.ref q5)) (Sum.inr "maybe" : Key) = _
        rw [valV_put, valV_put, valV_put]
        rw [if_pos rfl]
      refine ⟨_, rfl, a, _, _, _, rfl, rfl, SqT.of ha, at_zero, b, _, _, _, rfl, rfl, SqT.of hb, at_zero, dd, .ref q5, rfl, (by rw [← hv]; exact DGet.k (k := Sum.inr "maybe") ed), ?_⟩
      obtain ⟨tq, eO, rO⟩ := sta.w
      have ltq := Paired.length rO
      refine ⟨_, rfl, .inl ⟨rfl, _, SqL.of eO⟩, _, rfl, a, _, _, _, rfl, rfl, SqT.of ha, at_zero, b, _, _, _, rfl, rfl, SqT.of hb, at_one, (by show 1 ≤ sizeLine; decide), fun c1 hc1 => ?_⟩
      have x1 := same_new hc1 (.tup [u1])
      refine ⟨_, rfl, catA_read upd_same (x1 _ _ eq5) (by rw [sizeLine_eq]; simp only [List.length_cons, List.length_nil]; omega) fun c2 Hs x2 ec2 => ?_⟩
      refine ⟨_, rfl, _, rfl, tail_read ((x1.trans x2) _ _ ha) fun t5 Ht x3 et5 => catA_read (x3 _ _ ec2) et5 (by rw [sizeLine_eq]; simp only [List.length_append, List.length_cons, List.length_nil]; omega) fun c Hc x4 ec => ?_⟩
      have zC := x1.trans (x2.trans (x3.trans x4))
      replace sta := sta.same zC
      replace eO := zC _ _ eO
      replace ha := zC _ _ ha
      replace hb := zC _ _ hb
      replace rk := RPs.tk rk (Tk.of_same zC)
      replace r1 := r1.tk (Tk.of_same zC)
      replace eq1 := zC _ _ eq1
      replace eq3 := zC _ _ eq3
      refine ⟨o, _, _, rfl, rfl, eO, (by rw [sizeLine_eq, ltq]; omega), ?_⟩
      replace sta := sta.pushO eO (vs := [V.ref c]) (W' := [p1 :: k]) (.cons ⟨c, _, rfl, ec, .cons r1 rk⟩ .nil)
      have tk2 := Tk.lst (o := .lst (tq ++ [V.ref c])) eO
      replace ha := tk2 _ _ ha
      replace hb := tk2 _ _ hb
      replace rk := RPs.tk rk tk2
      generalize upd Hc o (.lst (tq ++ [V.ref c])) = H7 at sta ha hb rk
      -- the row behind it
      refine ⟨_, rfl, (by show 0 ≤ sizeLine; decide), fun p8 hp8 => ⟨a, p8, _, rfl, rfl, SqT.of (same_new hp8 _ _ _ ha), SqT.of upd_same, _, rfl, ?_⟩⟩
      rw [decide_eq_false (List.cons_ne_nil _ _)]
      refine iteT ?_
      have z := same_new hp8 (.tup [])
      replace sta := sta.same z
      replace ha := z _ _ ha
      replace hb := z _ _ hb
      replace rk := RPs.tk rk (Tk.of_same z)
      generalize upd H7 p8 (.tup []) = H8 at sta ha hb rk
      clear z hp8
      refine ⟨_, rfl, a, _, _, _, rfl, rfl, SqT.of ha, at_zero, b, _, _, _, rfl, rfl, SqT.of hb, at_zero, (by show 3 ≤ sizeLine; decide), fun p9 hp9 => ⟨p9, _, rfl, .inl (SqL.of upd_same), rfl, rfl, _, rfl, iteTb (by show inV (.str "maybe") _ = true; decide +kernel) ?_⟩⟩
      have z := same_new hp9 (.lst [.str "empty", .str "again", .str "maybe"])
      replace sta := sta.same z
      replace ha := z _ _ ha
      replace hb := z _ _ hb
      replace rk := RPs.tk rk (Tk.of_same z)
      generalize upd H8 p9 (.lst [.str "empty", .str "again", .str "maybe"]) = H9 at sta ha hb rk
      clear z hp9
      obtain ⟨tq, eO, rO⟩ := sta.w
      have ltq := Paired.length rO
      refine ⟨_, rfl, .inl ⟨rfl, _, SqL.of eO⟩, _, rfl, _, rfl, tail_read ha fun t Ht zt et => ?_⟩
      replace sta := sta.same zt
      replace eO := zt _ _ eO
      replace rk := RPs.tk rk (Tk.of_same zt)
      refine ⟨o, _, _, rfl, rfl, eO, (by rw [sizeLine_eq, ltq]; first | omega | (simp only [List.length_append, List.length_cons, List.length_nil]; omega)), ?_⟩
      replace sta := sta.pushO eO (vs := [V.ref t]) (W' := [k]) (.cons ⟨t, vk, rfl, et, rk⟩ .nil)
      exact ⟨_, (by simp only [List.length_append, List.length_cons, List.length_nil] at *; omega), (W ++ [p1 :: k]) ++ [k], F, S ++ [.mb p1 :: k], _, _, rfl, sta, (by rw [List.append_assoc]; exact opn.push hU hs (fun h => h) (fun t => Iff.rfl)), rfl, (by simp only [List.length_append, List.length_cons, List.length_nil] at *; omega)⟩
end
end Pa
set_option maxHeartbeats 4000000
namespace Pa
open PySem PySem.Spec PyProof.Rows L2 Ty Se
/-- a list of rows, each opened, that spell what stands behind w in the language of p -/
structure Lv (U : List (List Pat)) (H : Hp) (l : Addr) (F : List (List Pat)) : Prop where
  l : ∃ fs, H l = some (.lst fs) ∧ RSs H fs F
  u : ∀ s, s ∈ F → s ∈ U ∧ Final s
  few : F.length ≤ 200
theorem Lv.same {U : List (List Pat)} {H H' : Hp} {l : Addr} {F : List (List Pat)} (h : Lv U H l F) (s : Same H H') : Lv U H' l F :=
  ⟨by obtain ⟨fs, e, r⟩ := h.l; exact ⟨fs, s _ _ e, r.tk (Tk.of_same s)⟩, h.u, h.few⟩
def Says (F : List (List Pat)) (w : List Nat) : Prop := ∃ s, s ∈ F ∧ LS s w
theorem final_nil {s : List Pat} (h : Final s) : LS s [] ↔ s = [] := by
  constructor
  · rintro ⟨n, d⟩
    cases d with
    | nil => rfl
    | em _ => exact absurd h (fun h => h)
    | th _ => exact absurd h (fun h => h)
    | o1 _ => exact absurd h (fun h => h)
    | o2 _ => exact absurd h (fun h => h)
    | a0 _ => exact absurd h (fun h => h)
    | a1 _ => exact absurd h (fun h => h)
    | mo _ => exact absurd h (fun h => h)
    | m0 _ => exact absurd h (fun h => h)
    | m1 _ => exact absurd h (fun h => h)
  · rintro rfl
    exact LS.nil.mpr rfl
theorem says_nil {F : List (List Pat)} (h : ∀ s, s ∈ F → Final s) : Says F [] ↔ [] ∈ F := by
  constructor
  · rintro ⟨s, hs, g⟩
    rw [(final_nil (h s hs)).mp g] at hs; exact hs
  · intro h
    exact ⟨[], h, LS.nil.mpr rfl⟩
-- what stands behind a sign
noncomputable section
open Classical
def behind (c : Nat) : List (List Pat) → List (List Pat)
  | [] => []
  | (.sg x :: k) :: F => if c ∈ cd x then k :: behind c F else behind c F
  | _ :: F => behind c F
theorem behind_yes {c : Nat} {x : Str} {k : List Pat} {F : List (List Pat)} (h : c ∈ cd x) : behind c ((.sg x :: k) :: F) = k :: behind c F := if_pos h
theorem behind_no {c : Nat} {x : Str} {k : List Pat} {F : List (List Pat)} (h : c ∉ cd x) : behind c ((.sg x :: k) :: F) = behind c F := if_neg h
end
theorem behind_app {c : Nat} : ∀ {F G : List (List Pat)}, behind c (F ++ G) = behind c F ++ behind c G
  | [], G => rfl
  | s :: F, G => by
    have ih := behind_app (c := c) (F := F) (G := G)
    match s with
    | [] => exact ih
    | .em :: _ => exact ih
    | .th _ _ :: _ => exact ih
    | .oo _ _ :: _ => exact ih
    | .ag _ :: _ => exact ih
    | .mo _ :: _ => exact ih
    | .mb _ :: _ => exact ih
    | .sg x :: k =>
      show behind c ((.sg x :: k) :: (F ++ G)) = _
      by_cases h : c ∈ cd x
      · rw [behind_yes h, behind_yes h, ih]; rfl
      · rw [behind_no h, behind_no h, ih]
theorem behind_snoc_yes {c : Nat} {x : Str} {k : List Pat} {F : List (List Pat)} (h : c ∈ cd x) : behind c (F ++ [.sg x :: k]) = behind c F ++ [k] := by rw [behind_app, behind_yes h]; rfl
theorem behind_snoc_no {c : Nat} {s : List Pat} {F : List (List Pat)} (h : ∀ x k, s = .sg x :: k → c ∉ cd x) : behind c (F ++ [s]) = behind c F := by
  rw [behind_app]
  have e : behind c [s] = [] := by
    match s, h with
    | [], _ => rfl
    | .em :: _, _ => rfl
    | .th _ _ :: _, _ => rfl
    | .oo _ _ :: _, _ => rfl
    | .ag _ :: _, _ => rfl
    | .mo _ :: _, _ => rfl
    | .mb _ :: _, _ => rfl
    | .sg x :: k', h => rw [behind_no (h x k' rfl)]; rfl
  rw [e, List.append_nil]
theorem mem_behind {c : Nat} {k : List Pat} : ∀ {F : List (List Pat)}, k ∈ behind c F ↔ ∃ x, (.sg x :: k) ∈ F ∧ c ∈ cd x
  | [] => ⟨(fun h => by cases h), (fun ⟨_, h, _⟩ => by cases h)⟩
  | s :: F => by
    have other : (∀ x k', s ≠ .sg x :: k') → behind c (s :: F) = behind c F := fun h => by
      match s, h with
      | [], _ => rfl
      | .em :: _, _ => rfl
      | .th _ _ :: _, _ => rfl
      | .oo _ _ :: _, _ => rfl
      | .ag _ :: _, _ => rfl
      | .mo _ :: _, _ => rfl
      | .mb _ :: _, _ => rfl
      | .sg x :: k', h => exact absurd rfl (h x k')
    by_cases hs : ∃ x k', s = .sg x :: k'
    · obtain ⟨x, k', rfl⟩ := hs
      by_cases hc : c ∈ cd x
      · rw [behind_yes hc, List.mem_cons, mem_behind]
        constructor
        · rintro (rfl | ⟨y, h1, h2⟩)
          · exact ⟨x, List.mem_cons_self, hc⟩
          · exact ⟨y, List.mem_cons_of_mem _ h1, h2⟩
        · rintro ⟨y, h1, h2⟩
          rcases List.mem_cons.mp h1 with e | h1
          · injection e with _ e
            exact .inl e
          · exact .inr ⟨y, h1, h2⟩
      · rw [behind_no hc, mem_behind]
        constructor
        · rintro ⟨y, h1, h2⟩
          exact ⟨y, List.mem_cons_of_mem _ h1, h2⟩
        · rintro ⟨y, h1, h2⟩
          rcases List.mem_cons.mp h1 with e | h1
          · injection e with e _
            injection e with e
            rw [e] at h2; exact absurd h2 hc
          · exact ⟨y, h1, h2⟩
    · rw [other (fun x k' e => hs ⟨x, k', e⟩), mem_behind]
      constructor
      · rintro ⟨y, h1, h2⟩
        exact ⟨y, List.mem_cons_of_mem _ h1, h2⟩
      · rintro ⟨y, h1, h2⟩
        rcases List.mem_cons.mp h1 with e | h1
        · exact absurd ⟨y, k, e.symm⟩ hs
        · exact ⟨y, h1, h2⟩
theorem says_cons {F : List (List Pat)} (h : ∀ s, s ∈ F → Final s) (c : Nat) (w : List Nat) : Says F (c :: w) ↔ Says (behind c F) w := by
  constructor
  · rintro ⟨s, hs, n, d⟩
    have hf := h s hs
    cases d with
    | sg hc d => exact ⟨_, mem_behind.mpr ⟨_, hs, hc⟩, _, d⟩
    | em _ => exact absurd hf (fun h => h)
    | th _ => exact absurd hf (fun h => h)
    | o1 _ => exact absurd hf (fun h => h)
    | o2 _ => exact absurd hf (fun h => h)
    | a0 _ => exact absurd hf (fun h => h)
    | a1 _ => exact absurd hf (fun h => h)
    | mo _ => exact absurd hf (fun h => h)
    | m0 _ => exact absurd hf (fun h => h)
    | m1 _ => exact absurd hf (fun h => h)
  · rintro ⟨k, hk, n, d⟩
    obtain ⟨x, h1, h2⟩ := mem_behind.mp hk
    exact ⟨_, h1, _, .sg h2 d⟩
def spLed : Sp := fun vs H Q _ => ∃ (o : Addr) (x : Str) (U F : List (List Pat)), vs = [.ref o, .str x] ∧ Uni U ∧ Lv U H o F ∧ ∀ l F' H', Lv U H' l F' → (∀ w, Says F (cd x ++ w) ↔ Says F' w) → (l = o ∨ H l = none) → Same H H' → Q (.ref l) H'
theorem scLed : FnScope ["owes", "line", "sign", "owed"] ["owes", "line"] (defScope sLed) := ⟨rfl, rfl, rfl, by decide +kernel, rfl, by decide +kernel, by decide +kernel⟩
def spTakes : Sp := fun vs H Q _ => ∃ (v : V) (x : Str) (p : Pat), vs = [v, .str x] ∧ RP H p v ∧ Wf p ∧ deepP p ≤ 16 ∧ sizeP p ≤ 90 ∧ ∀ (b : Bool) H', (b = true ↔ L p (cd x)) → Same H H' → Q (.bl b) H'
theorem scTakes : FnScope ["mould", "line"] ["mould", "line"] (defScope sTakes) := ⟨rfl, rfl, rfl, by decide +kernel, rfl, by decide +kernel, by decide +kernel⟩
section
variable {P : Program} {w : World} {K : PySem.W.Frag} {mg : Str → Option Value} {base : Heap} {f g e : Addr} {fd gd ed : FuncData}
theorem ok_led (F : Fun K "_law_led" "_law_led" sLed f fd) (G : FnOk P w K mg base CX0 1 g gd ["owes"] spOpened) (bG : Binds K gd ["owes"] []) (kG : PySem.W.keepIn K (.ref g) = true) (mG : mg "_law_opened" = some (.ref g)) :
    FnOk P w K mg base CX0 2 f fd ["owes", "line"] spLed := by
  refine F.ok scLed (fun vs H Q E h => ?_) (fun cdv A outer s0 H vs Q E0 hr h => ?_)
  · obtain ⟨_, _, _, _, rfl, _⟩ := h
    rfl
  obtain ⟨o, x, U, F0, rfl, hU, hL, q⟩ := h
  have hu0 := hr.units0
  refine ⟨_, pss_cons (ps_for PassesOwn.never rfl (pi_str (pv 1)) (pg_name (i := 2) scLed.nd rfl (Or.inr rfl))
      (pss_one (ps_set (i := 0) scLed.nd rfl (.inl rfl) (pe_call G hr rfl mG kG bG .nil pass0 (pa_cons
        (pe_lc (own := [("owed", 3)]) (g := gName 3) (tt := tAnd _ _) rfl scLed.nd (pi_list (pv 0)) (blkOk_by (N := ["owes", "line", "sign", "owed"]) (sc := defScope sLed) (by decide +kernel)) (fun _ _ _ _ _ => pg_name (i := 3) scLed.nd rfl (Or.inl rfl))
          (fun _ _ _ _ _ => pts_one (PW.pt (pw_and (pt_cmpR (show OpR _ _ (rNeT0 K) from op_neT0 hu0) (pv 3) (pe_tup pa_nil) (nomark _)) (pw_and1 (pt_cmpR op_in_sign (pv 2) (pe_ix (show IxR _ (rIxT K) from ix_tup) (pe_ix (show IxR _ (rIxT K) from ix_tup) (pv 3) pe_int (fun _ _ => rfl)) pe_int (fun _ _ => rfl)) rfl)))))
          (fun _ _ _ _ _ => pe_slice (show SlR _ (rSlT K) from sl_tup) (pv 3) (po_some pe_int) po_none)) pa_nil)))))
    (pss_one (ps_ret (pv 0))), ?_⟩
  refine ⟨_, rfl, x, rfl, for_it walk_str (fun i σ H' => ∃ l F' x2, σ = [some (.ref l), some (.str x), x2, none] ∧ Lv U H' l F' ∧ (∀ w, Says F0 ((cd x).take i ++ w) ↔ Says F' w) ∧ (l = o ∨ H l = none) ∧ Same H H')
    ⟨o, F0, _, rfl, hL, (fun w => Iff.rfl), .inl rfl, same_refl⟩ (fun _ _ _ _ _ => trivial) (fun i y σ Ha Hb hi h z => ?turn) (fun σ H' h => ?done)⟩
  case done =>
    obtain ⟨l, F', x2, rfl, hL', hs, hlo, sm⟩ := h
    have hsz : (cd x).take x.cps.size = cd x := List.take_of_length_le (by rw [Array.length_toList]; exact Nat.le_refl _)
    rw [hsz] at hs
    exact ⟨_, rfl, q l F' H' hL' hs hlo sm⟩
  case turn =>
    obtain ⟨l, F', x2, rfl, hL', hs, hlo, sm⟩ := h
    obtain ⟨rfl, c, hc, rfl⟩ := z
    obtain ⟨fs, el, rF⟩ := hL'.l
    have lfs : fs.length = F'.length := Paired.length rF
    have hfew := hL'.few
    have htk : (cd x).take (i + 1) = (cd x).take i ++ [c] := by
      rw [List.take_add_one, Array.getElem?_toList, hc]; rfl
    refine ⟨_, rfl, l, rfl, ⟨_, SqL.of el⟩, fun D hD => ?_⟩
    have sD := same_new hD (.lst [])
    have hDH : Hb D = none := hD
    have lD : l ≠ D := fun e => by rw [← e, el] at hD; cases hD
    refine lc_list (K := K) (xs := fs) (fun i H' => ∃ ks, H' D = some (.lst ks) ∧ RSs H' ks (behind c (F'.take i)) ∧ ks.length ≤ i ∧ H' l = some (.lst fs) ∧ RSs H' fs F' ∧ Same Hb H') ⟨[], upd_same, .nil, Nat.le_refl _, sD _ _ el, rF.tk (Tk.of_same sD), sD⟩ (fun i H' _ h => by obtain ⟨_, _, _, _, h, _⟩ := h; exact SqL.of h) (fun i v H' hv h => ?turn2) (fun H' h => ?done2)
    case done2 =>
      obtain ⟨ks, eD, rk, lk, el', rF', sS⟩ := h
      rw [lfs, List.take_length] at rk
      have lb : ks.length = (behind c F').length := Paired.length rk
      refine ⟨D, ks, behind c F', U, rfl, eD, rk, hU, fun s hs' => ?_, by omega, fun l2 fs2 F2 H2 nl2 el2 r2 u2 few2 lang kp => ?_⟩
      · obtain ⟨y, h1, _⟩ := mem_behind.mp hs'
        exact hU.cl _ (hL'.u _ h1).1 s (.inr ⟨y, rfl⟩)
      · refine ⟨l2, F2, _, rfl, ⟨⟨fs2, el2, r2⟩, u2, few2⟩, fun w => ?_, .inr (by
          cases e : H l2 with
          | none => rfl
          | some u => rw [sS _ _ (sm _ _ e)] at nl2; cases nl2), sm.trans (keep_fresh sS kp hDH)⟩
        rw [htk, List.append_assoc]
        show Says F0 ((cd x).take i ++ (c :: w)) ↔ _
        rw [hs, says_cons (fun s hs => (hL'.u s hs).2)]
        exact lang w
    case turn2 =>
      obtain ⟨ks, eD, rk, lk, el', rF', sS⟩ := h
      obtain ⟨s, hs', rs⟩ := paired_get rF' i v hv
      have hi2 : i < fs.length := (List.getElem?_eq_some_iff.mp hv).1
      have htk2 : F'.take (i + 1) = F'.take i ++ [s] := by rw [List.take_add_one, hs']; rfl
      obtain ⟨a, vs, rfl, ha, hps⟩ := rs
      refine ⟨rfl, ?_⟩
      refine ⟨_, rfl, (by show 0 ≤ sizeLine; decide), fun p1 hp1 => ⟨a, p1, _, rfl, rfl, SqT.of (same_new hp1 _ _ _ ha), SqT.of upd_same, _, rfl, ?_⟩⟩
      have z1 := same_new hp1 (.tup [])
      have keepS : ∀ H2, Same H' H2 → behind c (F'.take (i + 1)) = behind c (F'.take i) → ∃ ks, H2 D = some (.lst ks) ∧ RSs H2 ks (behind c (F'.take (i + 1))) ∧ ks.length ≤ i + 1 ∧ H2 l = some (.lst fs) ∧ RSs H2 fs F' ∧ Same Hb H2 := fun H2 s2 e =>
        ⟨ks, s2 _ _ eD, by rw [e]; exact rk.tk (Tk.of_same s2), by omega, s2 _ _ el', rF'.tk (Tk.of_same s2), sS.trans s2⟩
      have hfin := (hL'.u s (List.mem_of_getElem? hs')).2
      cases hps with
      | nil =>
        refine iteF (iteF (keepS _ z1 ?_))
        rw [htk2]
        exact behind_snoc_no (fun x k e => by cases e)
      | @cons vp p vk k rp rk' =>
        rw [decide_eq_false (List.cons_ne_nil _ _)]
        refine iteT ?_
        cases p with
        | sg y =>
          obtain ⟨b, rfl, hb⟩ := rp
          refine ⟨_, rfl, _, rfl, a, _, _, _, rfl, rfl, SqT.of (z1 _ _ ha), at_zero, b, _, _, _, rfl, rfl, SqT.of (z1 _ _ hb), at_one, c, y, rfl, rfl, _, rfl, ?_⟩
          by_cases hcy : c ∈ cd y
          · rw [decide_eq_true hcy]
            refine iteT ?_
            refine ⟨_, rfl, _, rfl, tail_read (z1 _ _ ha) fun t Ht zt et => ?_⟩
            have z2 := z1.trans zt
            have tkD : Tk Ht (upd Ht D (.lst (ks ++ [V.ref t]))) := Tk.lst (z2 _ _ eD)
            refine ⟨ks, z2 _ _ eD, by rw [sizeLine_eq]; omega, ks ++ [V.ref t], upd_same, ?_, by rw [List.length_append]; show ks.length + 1 ≤ _; omega, by rw [upd_ne lD]; exact z2 _ _ el', rF'.tk ((Tk.of_same z2).trans tkD), same_upd (sS.trans z2) hDH⟩
            rw [htk2, behind_snoc_yes hcy]
            exact paired_app ((rk.tk (Tk.of_same z2)).tk tkD) (.cons ⟨t, vk, rfl, tkD _ _ et, RPs.tk rk' ((Tk.of_same z2).trans tkD)⟩ .nil)
          · rw [decide_eq_false hcy]
            refine iteF (keepS _ z1 ?_)
            rw [htk2]
            exact behind_snoc_no (fun x k e => by injection e with e _; injection e with e; rw [← e]; exact hcy)
        | em => exact absurd hfin (fun h => h)
        | th _ _ => exact absurd hfin (fun h => h)
        | oo _ _ => exact absurd hfin (fun h => h)
        | ag _ => exact absurd hfin (fun h => h)
        | mo _ => exact absurd hfin (fun h => h)
        | mb _ => exact absurd hfin (fun h => h)
theorem ok_takes (F : Fun K "_law_takes" "_law_takes" sTakes f fd) (GL : FnOk P w K mg base CX0 2 g gd ["owes", "line"] spLed) (bL : Binds K gd ["owes", "line"] []) (kL : PySem.W.keepIn K (.ref g) = true) (mL : mg "_law_led" = some (.ref g))
    (GO : FnOk P w K mg base CX0 1 e ed ["owes"] spOpened) (bO : Binds K ed ["owes"] []) (kO : PySem.W.keepIn K (.ref e) = true) (mO : mg "_law_opened" = some (.ref e)) :
    FnOk P w K mg base CX0 3 f fd ["mould", "line"] spTakes := by
  refine F.ok scTakes (fun vs H Q E h => ?_) (fun cdv A outer s0 H vs Q E0 hr h => ?_)
  · obtain ⟨_, _, _, rfl, _⟩ := h
    rfl
  obtain ⟨v, x, p, rfl, rp, wf, h16, hz, q⟩ := h
  have hu65 := hr.u65
  have GO' := GO.mono (show 1 ≤ 2 by decide)
  refine ⟨_, pss_one (ps_ret (pe_cmpR (op_inD hu65) (pe_tup pa_nil) (pe_call GL hr rfl mL kL bL .nil pass0 (pa_cons (pe_call GO' hr rfl mO kO bO .nil pass0 (pa_cons (pe_lst (pa_cons (pe_tup (pa_cons (pv 0) pa_nil)) pa_nil)) pa_nil)) (pa_cons (pv 1) pa_nil))) rfl)), ?_⟩
  refine ⟨(by show 0 ≤ sizeLine; decide), fun p0 hp0 => ⟨_, rfl, (by show 1 ≤ sizeLine; decide), fun t ht => ⟨(by show 1 ≤ sizeLine; decide), fun l hl => ?_⟩⟩⟩
  have z1 := same_new hp0 (.tup [])
  have z2 := same_new ht (.tup [v])
  have z3 := same_new hl (.lst [.ref t])
  have zA := z1.trans (z2.trans z3)
  have hU := uni_of wf h16 hz
  have lH : H l = none := by
    cases e : H l with
    | none => rfl
    | some u => rw [z2 _ _ (z1 _ _ e)] at hl; cases hl
  have e0 := (z2.trans z3) _ _ (upd_same (H := H) (a := p0) (o := .tup []))
  have p0l : p0 ≠ l := fun e => by rw [← e, z2 _ _ upd_same] at hl; cases hl
  refine ⟨l, [.ref t], [[p]], [] :: nodes p [], rfl, upd_same, .cons ⟨t, [v], rfl, z3 _ _ upd_same, .cons (rp.tk (Tk.of_same zA)) .nil⟩ .nil, hU, (fun s hs => by rw [List.mem_singleton.mp hs]; exact List.mem_cons_of_mem _ (nodes_head p [])), (by show 1 ≤ 1000; decide), fun l2 fs F2 H2 nl2 el2 r2 u2 few2 lang kp => ?_⟩
  refine ⟨_, rfl, l2, x, _, F2, rfl, hU, ⟨⟨fs, el2, r2⟩, u2, few2⟩, fun l3 F3 H3 hL hs _ s3 => ?_⟩
  obtain ⟨gs, el3, r3⟩ := hL.l
  have e3 := s3 _ _ (kp _ _ p0l e0)
  refine ⟨dS [], F3.map dS, .tup (SqT.of e3) .nil, .lst (SqL.of el3) (RSs.dp r3), by decide +kernel, hU.shapedL fun s hs => (hL.u s hs).1, ?_⟩
  refine q _ H3 ?_ ((keep_fresh zA kp lH).trans s3)
  rw [any_dS, ← says_nil (fun s hs => (hL.u s hs).2), ← hs, List.append_nil]
  show Says F2 (cd x) ↔ LS [p] (cd x)
  have := lang (cd x)
  constructor
  · intro h
    obtain ⟨s, hs, g⟩ := this.mpr h
    rw [List.mem_singleton.mp hs] at g; exact g
  · intro h
    exact this.mp ⟨[p], List.mem_singleton_self _, h⟩
end
end Pa
set_option maxHeartbeats 4000000
namespace Pa
open PySem PySem.Spec PyProof.Rows L2 Ty Se
/-- a row, and what stands behind it -/
def Pr (U : List (List Pat)) (p : Pat) (n : Nat) (ne : Addr → Prop) (H : Hp) (v : V) : Prop := ∃ a row o F, v = .ref a ∧ H a = some (.tup [.str row, .ref o]) ∧ Lv U H o F ∧ ne o ∧ row.length ≤ n ∧ ∀ w, Says F w ↔ L p (cd row ++ w)
theorem Pr.same {U : List (List Pat)} {p : Pat} {n : Nat} {ne ne' : Addr → Prop} {H H' : Hp} {v : V} (h : Pr U p n ne H v) (s : Same H H') (hn : ∀ o, ne o → ne' o) : Pr U p n ne' H' v := by
  obtain ⟨a, row, o, F, e, h1, h2, h3, h4, h5⟩ := h
  exact ⟨a, row, o, F, e, s _ _ h1, h2.same s, hn o h3, h4, h5⟩
theorem Pr.wr {U : List (List Pat)} {p : Pat} {n : Nat} {ne : Addr → Prop} {H : Hp} {v : V} {d : Addr} {xs ys : List V} (h : Pr U p n ne H v) (hd : H d = some (.lst xs)) (hn : ∀ o, ne o → o ≠ d) : Pr U p n ne (upd H d (.lst ys)) v := by
  obtain ⟨a, row, o, F, e, h1, h2, h3, h4, h5⟩ := h
  have tk : Tk H (upd H d (.lst ys)) := Tk.lst hd
  obtain ⟨fs, e1, r1⟩ := h2.l
  exact ⟨a, row, o, F, e, tk _ _ h1, ⟨⟨fs, by rw [upd_ne (hn o h3)]; exact e1, r1.tk tk⟩, h2.u, h2.few⟩, h3, h4, h5⟩
abbrev anyA : Addr → Prop := fun _ => True
def spLonger : Sp := fun vs H Q _ => ∃ (lv pl : Addr) (ls : List V) (ys : List Str) (U : List (List Pat)) (p : Pat) (n : Nat), vs = [.ref lv, .ref pl] ∧ Uni U ∧ H lv = some (.lst ls) ∧ (∀ v, v ∈ ls → Pr U p n anyA H v) ∧ ls.length ≤ 60 ∧ H pl = some (.lst (ys.map V.str)) ∧ (∀ y, y ∈ ys → y.length = 1) ∧ ys.length ≤ 12 ∧ n ≤ 70000 ∧
  ∀ l ls' H', H' l = some (.lst ls') → (∀ v, v ∈ ls' → Pr U p (n + 1) anyA H' v) → ls'.length ≤ 60 → Same H H' → Q (.ref l) H'
theorem scLonger : FnScope ["level", "pool", "found", "row", "owes", "sign", "pair"] ["level", "pool"] (defScope sLonger) := ⟨rfl, rfl, rfl, by decide +kernel, rfl, by decide +kernel, by decide +kernel⟩
section
variable {P : Program} {w : World} {K : PySem.W.Frag} {mg : Str → Option Value} {base : Heap} {f g e : Addr} {fd gd ed : FuncData}
theorem ok_longer (F : Fun K "_law_longer" "_law_longer" sLonger f fd) (GL : FnOk P w K mg base CX0 2 g gd ["owes", "line"] spLed) (bL : Binds K gd ["owes", "line"] []) (kL : PySem.W.keepIn K (.ref g) = true) (mL : mg "_law_led" = some (.ref g)) :
    FnOk P w K mg base CX0 3 f fd ["level", "pool"] spLonger := by
  refine F.ok scLonger (fun vs H Q E h => ?_) (fun cdv A outer s0 H vs Q E0 hr h => ?_)
  · obtain ⟨_, _, _, _, _, _, _, rfl, _⟩ := h
    rfl
  obtain ⟨lv, pl, ls, ys, U, p, n, rfl, hU, hlv, hP, hl60, hpl, hy1, hy12, hn, q⟩ := h
  have hu := hr.units
  refine ⟨_, pss_cons (ps_set (i := 2) scLonger.nd rfl (.inl rfl) (pe_lst pa_nil))
    (pss_cons (ps_for PassesOwn.never rfl (pi_list (pv 0)) (pg_tup rfl (pgs_cons (pg_name (i := 3) scLonger.nd rfl (Or.inr rfl)) (pgs_cons (pg_name (i := 4) scLonger.nd rfl (Or.inr rfl)) pgs_nil)))
      (pss_one (ps_expr (pe_bm PySem.F.plainAttrs_list PySem.F.slot_list_extend PySem.F.type_list_extend mt_extend (pv 2) (pa_cons
        (pe_lc (own := [("sign", 5)]) (g := gName 5) (tt := tYes) rfl scLonger.nd (pi_list (pv 1)) (blkOk_by (N := ["level", "pool", "found", "row", "owes", "sign", "pair"]) (sc := defScope sLonger) (by decide +kernel)) (fun _ _ _ _ _ => pg_name (i := 5) scLonger.nd rfl (Or.inl rfl)) (fun _ _ _ _ _ => pts_nil)
          (fun _ _ _ _ _ => pe_tup (pa_cons (pe_op op_add_str (pv 3) (pv 5)) (pa_cons (pe_call GL hr rfl mL kL bL .nil pass0 (pa_cons (pv 4) (pa_cons (pv 5) pa_nil))) pa_nil)))) pa_nil)))))
    (pss_one (ps_ret (pe_slice sl_list (pe_lc (own := [("pair", 6)]) (g := gName 6) (tt := tTest _) rfl scLonger.nd (pi_list (pv 2)) (blkOk_by (N := ["level", "pool", "found", "row", "owes", "sign", "pair"]) (sc := defScope sLonger) (by decide +kernel)) (fun _ _ _ _ _ => pg_name (i := 6) scLonger.nd rfl (Or.inl rfl))
        (fun _ _ _ _ _ => pts_one (pt_cmpR (show OpR _ _ (rEqL0 true) from op_neL0 hu) (pe_ix (show IxR _ (rIxT K) from ix_tup) (pv 6) pe_int (fun _ _ => rfl)) (pe_lst pa_nil) (nomark _))) (fun _ _ _ _ _ => pv 6)) po_none (po_some pe_int))))), ?_⟩
  refine ⟨(by show 0 ≤ sizeLine; decide), fun fo hfo => ?_⟩
  have z1 := same_new hfo (.lst [])
  have lvf : lv ≠ fo := fun e => by rw [e, hfo] at hlv; cases hlv
  have plf : pl ≠ fo := fun e => by rw [e, hfo] at hpl; cases hpl
  have hPf : ∀ v, v ∈ ls → Pr U p n (fun o => o ≠ fo) (upd H fo (.lst [])) v := fun v hv => by
    obtain ⟨a, row, o, F, e, h1, h2, h3, h4, h5⟩ := hP v hv
    obtain ⟨fs, e1, r1⟩ := h2.l
    exact ⟨a, row, o, F, e, z1 _ _ h1, h2.same z1, (fun e => by rw [e, hfo] at e1; cases e1), h4, h5⟩
  refine ⟨_, rfl, lv, rfl, ⟨_, SqL.of (z1 _ _ hlv)⟩, ?_⟩
  have st0 : (upd H fo (.lst [])) fo = some (.lst []) := upd_same
  refine for_list (K := K) (xs := ls) (fun i σ H' => ∃ x3 x4 fs, σ = [some (.ref lv), some (.ref pl), some (.ref fo), x3, x4, none, none] ∧ H' fo = some (.lst fs) ∧ (∀ v, v ∈ fs → Pr U p (n + 1) (fun o => o ≠ fo) H' v) ∧ fs.length ≤ i * 12 ∧ H' lv = some (.lst ls) ∧ H' pl = some (.lst (ys.map V.str)) ∧ (∀ v, v ∈ ls → Pr U p n (fun o => o ≠ fo) H' v) ∧ Same H H')
    ⟨_, _, [], rfl, st0, (fun _ h => by cases h), Nat.zero_le _, z1 _ _ hlv, z1 _ _ hpl, hPf, z1⟩ (fun i σ H' _ h => by obtain ⟨_, _, _, _, _, _, _, h, _⟩ := h; exact SqL.of h) (fun i v σ H' hv h => ?turn) (fun σ H' h => ?done)
  case turn =>
    obtain ⟨x3, x4, fs, rfl, eF, hF, hfl, elv, epl, hPs, sm⟩ := h
    have vm := List.mem_of_getElem? hv
    have hi : i < ls.length := (List.getElem?_eq_some_iff.mp hv).1
    obtain ⟨a, row, o, Fr, rfl, ha, hLo, onf, hrow, hsay⟩ := hPs v vm
    refine ⟨a, _, rfl, SqT.of ha, rfl, _, _, rfl, _, _, rfl, rfl, ?_⟩
    refine ⟨_, rfl, .inl ⟨rfl, _, SqL.of eF⟩, _, rfl, pl, rfl, ⟨_, SqL.of epl⟩, fun D hD => ?_⟩
    have sD := same_new hD (.lst [])
    have hDH : H D = none := by
      cases e : H D with
      | none => rfl
      | some u => rw [sm _ _ e] at hD; cases hD
    have neD : ∀ {c u}, H' c = some u → c ≠ D := fun e q => by rw [q, hD] at e; cases e
    refine lc_list (K := K) (xs := ys.map V.str) (fun j H2 => ∃ ks, H2 D = some (.lst ks) ∧ (∀ v, v ∈ ks → Pr U p (n + 1) (fun o => o ≠ fo ∧ o ≠ D) H2 v) ∧ ks.length = j ∧ Same H' H2) ⟨[], upd_same, (fun _ h => by cases h), rfl, sD⟩ (fun j H2 _ h => by obtain ⟨_, _, _, _, s⟩ := h; exact SqL.of (s _ _ epl)) (fun j xv H2 hx h => ?turn2) (fun H2 h => ?done2)
    case turn2 =>
      obtain ⟨ks, eD, hK, lk, s2⟩ := h
      rw [List.getElem?_map] at hx
      obtain ⟨y, hy, rfl⟩ : ∃ y, ys[j]? = some y ∧ V.str y = xv := by
        cases e : ys[j]? with
        | none => rw [e] at hx; cases hx
        | some k => rw [e] at hx; exact ⟨k, rfl, Option.some.inj hx⟩
      have ly := hy1 y (List.mem_of_getElem? hy)
      have hj : j < ys.length := (List.getElem?_eq_some_iff.mp hy).1
      refine ⟨rfl, ?_⟩
      simp only [tYes, ↓reduceIte]
      refine ⟨_, rfl, _, rfl, row, y, rfl, rfl, by rw [sizeLine_eq]; omega, _, rfl, _, rfl, o, y, U, Fr, rfl, hU, hLo.same s2, fun l F' H3 hL3 hs hlo s3 => ⟨(by show 2 ≤ sizeLine; decide), fun t ht => ?_⟩⟩
      have z4 := same_new ht (.tup [.str (row ++ y), .ref l])
      have s4 := s3.trans z4
      have hlD : l ≠ fo ∧ l ≠ D := by
        rcases hlo with rfl | hlo
        · obtain ⟨_, e1, _⟩ := hLo.l
          exact ⟨onf, neD e1⟩
        · exact ⟨(fun e => by rw [e, s2 _ _ eF] at hlo; cases hlo), (fun e => by rw [e, eD] at hlo; cases hlo)⟩
      refine ⟨ks, s4 _ _ eD, by rw [sizeLine_eq]; omega, ks ++ [.ref t], upd_same, fun v hv => ?_, by rw [List.length_append, lk]; rfl, same_upd (s2.trans s4) hD⟩
      rcases List.mem_append.mp hv with hv | hv
      · exact ((hK v hv).same s4 fun _ h => h).wr (s4 _ _ eD) (fun o h => h.2)
      · rw [List.mem_singleton.mp hv]
        refine Pr.wr (xs := ks) ⟨t, row ++ y, l, F', rfl, upd_same, hL3.same z4, hlD, by rw [app_len]; omega, fun w => ?_⟩ (s4 _ _ eD) (fun o h => h.2)
        rw [← hs, hsay, cd_app, List.append_assoc]
    case done2 =>
      obtain ⟨ks, eD, hK, lk, s2⟩ := h
      rw [List.length_map] at lk
      have eF2 := s2 _ _ eF
      have fD : fo ≠ D := neD eF
      refine ⟨fo, D, _, _, rfl, rfl, eF2, eD, by rw [sizeLine_eq]; omega, ?_⟩
      refine ⟨_, _, fs ++ ks, rfl, upd_same, fun v hv => ?_, by rw [List.length_append]; omega, by rw [upd_ne lvf]; exact s2 _ _ elv, by rw [upd_ne plf]; exact s2 _ _ epl, fun v hv => ((hPs v hv).same s2 fun _ h => h).wr eF2 (fun _ h => h), same_upd (sm.trans s2) hfo⟩
      rcases List.mem_append.mp hv with hv | hv
      · exact ((hF v hv).same s2 fun _ h => h).wr eF2 (fun _ h => h)
      · exact ((hK v hv).same same_refl fun _ h => h.1).wr eF2 (fun _ h => h)
  case done =>
    obtain ⟨x3, x4, fs, rfl, eF, hF, hfl, elv, epl, hPs, sm⟩ := h
    refine ⟨_, rfl, fo, rfl, ⟨_, SqL.of eF⟩, fun D hD => ?_⟩
    have sD := same_new hD (.lst [])
    have fD : fo ≠ D := fun e => by rw [← e, eF] at hD; cases hD
    refine lc_list (K := K) (xs := fs) (fun j H2 => ∃ ks, H2 D = some (.lst ks) ∧ (∀ v, v ∈ ks → v ∈ fs) ∧ ks.length ≤ j ∧ H2 fo = some (.lst fs) ∧ Same H' H2) ⟨[], upd_same, (fun _ h => by cases h), Nat.le_refl _, sD _ _ eF, sD⟩ (fun j H2 _ h => by obtain ⟨_, _, _, _, h, _⟩ := h; exact SqL.of h) (fun j v H2 hx h => ?turn3) (fun H2 h => ?done3)
    case turn3 =>
      obtain ⟨ks, eD, hK, lk, eF2, s2⟩ := h
      have vm := List.mem_of_getElem? hx
      have hj : j < fs.length := (List.getElem?_eq_some_iff.mp hx).1
      obtain ⟨a, row, o, Fr, rfl, ha, hLo, onf, hrow, hsay⟩ := hF v vm
      obtain ⟨gs, eo, ro⟩ := hLo.l
      refine ⟨rfl, _, rfl, a, _, _, _, rfl, rfl, SqT.of (s2 _ _ ha), at_one, (by show 0 ≤ sizeLine; decide), fun p1 hp1 => ⟨o, p1, gs, rfl, rfl, same_new hp1 _ _ _ (s2 _ _ eo), upd_same, _, rfl, ?_⟩⟩
      have z1 := same_new hp1 (.lst [])
      have s3 := s2.trans z1
      refine ite2 (fun c => ?_) (fun c => ?_)
      · refine ⟨_, rfl, ks, z1 _ _ eD, by rw [sizeLine_eq]; omega, ks ++ [.ref a], upd_same, fun v hv => ?_, by rw [List.length_append]; show ks.length + 1 ≤ _; omega, by rw [upd_ne fD]; exact z1 _ _ eF2, same_upd s3 hD⟩
        rcases List.mem_append.mp hv with hv | hv
        · exact hK v hv
        · rw [List.mem_singleton.mp hv]; exact vm
      · exact ⟨ks, z1 _ _ eD, hK, by omega, z1 _ _ eF2, s3⟩
    case done3 =>
      obtain ⟨ks, eD, hK, lk, eF2, s2⟩ := h
      refine ⟨_, rfl, D, ks, rfl, SqL.of eD, fun p6 hp6 => ?_⟩
      have ec : cutV ks none (some 60) = ks.take 60 := by
        rw [show (some (60 : Int)) = some ((60 : Nat) : Int) from rfl, cut_to]
      rw [ec]
      have z6 := same_new hp6 (.lst (ks.take 60))
      have sA := s2.trans z6
      exact q p6 (ks.take 60) _ upd_same (fun v hv => (hF v (hK v (List.mem_of_mem_take hv))).same sA fun _ _ => trivial) (by rw [List.length_take]; omega) (sm.trans sA)
end
end Pa
set_option maxHeartbeats 4000000
namespace Pa
open PySem PySem.Spec PyProof.Rows L2 Ty Se
def spLLess : Sp := fun vs H Q _ => ∃ (v : V) (pl : Addr) (ys : List Str) (p : Pat), vs = [v, .ref pl, .str (leastS p)] ∧ RP H p v ∧ Wf p ∧ deepP p ≤ 16 ∧ sizeP p ≤ 90 ∧ H pl = some (.lst (ys.map V.str)) ∧ (∀ y, y ∈ ys → y.length = 1) ∧ ys.length ≤ 12 ∧ ∀ H', Same H H' → Q (.bl false) H'
theorem scLLess : FnScope ["mould", "pool", "line", "level", "lap", "row", "owes"] ["mould", "pool", "line"] (defScope sLLess) := ⟨rfl, rfl, rfl, by decide +kernel, rfl, by decide +kernel, by decide +kernel⟩
section
variable {P : Program} {w : World} {K : PySem.W.Frag} {mg : Str → Option Value} {base : Heap} {f g e : Addr} {fd gd ed : FuncData}
theorem ok_lless (F : Fun K "_law_lesser" "_law_lesser" sLLess f fd) (GL : FnOk P w K mg base CX0 3 g gd ["level", "pool"] spLonger) (bL : Binds K gd ["level", "pool"] []) (kL : PySem.W.keepIn K (.ref g) = true) (mL : mg "_law_longer" = some (.ref g))
    (GO : FnOk P w K mg base CX0 1 e ed ["owes"] spOpened) (bO : Binds K ed ["owes"] []) (kO : PySem.W.keepIn K (.ref e) = true) (mO : mg "_law_opened" = some (.ref e)) (ml : mg "len" = none) (mr : mg "range" = none) :
    FnOk P w K mg base CX0 4 f fd ["mould", "pool", "line"] spLLess := by
  refine F.ok scLLess (fun vs H Q E h => ?_) (fun cdv A outer s0 H vs Q E0 hr h => ?_)
  · obtain ⟨_, _, _, _, rfl, _⟩ := h
    rfl
  obtain ⟨v, pl, ys, p, rfl, rp, wf, h16, hz, hpl, hy1, hy12, q⟩ := h
  have hu65 := hr.u65
  have hu0 := hr.units0
  have GO' := GO.mono (show 1 ≤ 3 by decide)
  refine ⟨_, pss_cons (ps_set (i := 3) scLLess.nd rfl (.inl rfl) (pe_lst (pa_cons (pe_tup (pa_cons pe_str (pa_cons (pe_call GO' hr rfl mO kO bO .nil pass0 (pa_cons (pe_lst (pa_cons (pe_tup (pa_cons (pv 0) pa_nil)) pa_nil)) pa_nil)) pa_nil))) pa_nil)))
    (pss_cons (ps_for PassesOwn.never rfl (pi_range1 rfl mr (pa_cons (pe_op op_add (pe_callB call_len_str rfl ml PySem.boot_len (pa_cons (pv 2) pa_nil)) pe_int) pa_nil)) (pg_name (i := 4) scLLess.nd rfl (Or.inl rfl))
      (pss_cons (ps_for PassesOwn.never rfl (pi_list (pv 3)) (pg_tup rfl (pgs_cons (pg_name (i := 5) scLLess.nd rfl (Or.inl rfl)) (pgs_cons (pg_name (i := 6) scLLess.nd rfl (Or.inl rfl)) pgs_nil)))
        (pss_one (ps_if (PW.pt (pw_and (pt_cmpR (op_inD hu65) (pe_tup pa_nil) (pv 6) rfl) (pw_and1 (pt_cmpR (op_ltNS hu0)
            (pe_tup (pa_cons (pe_callB call_len_str rfl ml PySem.boot_len (pa_cons (pv 5) pa_nil)) (pa_cons (pv 5) pa_nil)))
            (pe_tup (pa_cons (pe_callB call_len_str rfl ml PySem.boot_len (pa_cons (pv 2) pa_nil)) (pa_cons (pv 2) pa_nil))) (nomark _)))))
          (pss_one (ps_ret pe_bl)) pss_nil)))
      (pss_one (ps_set (i := 3) scLLess.nd rfl (.inl rfl) (pe_call GL hr rfl mL kL bL .nil pass0 (pa_cons (pv 3) (pa_cons (pv 1) pa_nil)))))))
    (pss_one (ps_ret pe_bl))), ?_⟩
  have hU := uni_of wf h16 hz
  have hll := pow_small h16 (least_len p)
  have hline : (leastS p).length ≤ 65536 := by rw [leastS_len]; exact hll
  refine ⟨_, rfl, (by show 1 ≤ sizeLine; decide), fun t ht => ⟨(by show 1 ≤ sizeLine; decide), fun l hl => ?_⟩⟩
  have z2 := same_new ht (.tup [v])
  have z3 := same_new hl (.lst [.ref t])
  have zA := z2.trans z3
  have lH : H l = none := by
    cases e : H l with
    | none => rfl
    | some u => rw [z2 _ _ e] at hl; cases hl
  refine ⟨l, [.ref t], [[p]], [] :: nodes p [], rfl, upd_same, .cons ⟨t, [v], rfl, z3 _ _ upd_same, .cons (rp.tk (Tk.of_same zA)) .nil⟩ .nil, hU, (fun s hs => by rw [List.mem_singleton.mp hs]; exact List.mem_cons_of_mem _ (nodes_head p [])), (by show 1 ≤ 1000; decide), fun l2 fs F2 H2 nl2 el2 r2 u2 few2 lang kp => ?_⟩
  have s2 := keep_fresh zA kp lH
  refine ⟨(by show 2 ≤ sizeLine; decide), fun t2 ht2 => ⟨(by show 1 ≤ sizeLine; decide), fun lv hlv => ?_⟩⟩
  have z4 := same_new ht2 (.tup [.str "", .ref l2])
  have z5 := same_new hlv (.lst [.ref t2])
  have sB := s2.trans (z4.trans z5)
  have hpr : Pr ([] :: nodes p []) p 0 anyA (upd (upd H2 t2 (.tup [.str "", .ref l2])) lv (.lst [.ref t2])) (.ref t2) := by
    refine ⟨t2, "", l2, F2, rfl, z5 _ _ upd_same, Lv.same ⟨⟨fs, el2, r2⟩, u2, few2⟩ (z4.trans z5), trivial, Nat.le_refl _, fun w => ?_⟩
    show Says F2 w ↔ LS [p] w
    have := lang w
    constructor
    · intro h
      obtain ⟨s, hs, g⟩ := this.mpr h
      rw [List.mem_singleton.mp hs] at g; exact g
    · intro h
      exact this.mp ⟨[p], List.mem_singleton_self _, h⟩
  have elv0 : (upd (upd H2 t2 (.tup [.str "", .ref l2])) lv (.lst [.ref t2])) lv = some (.lst [.ref t2]) := upd_same
  generalize upd (upd H2 t2 (.tup [.str "", .ref l2])) lv (.lst [.ref t2]) = H3 at sB hpr elv0
  refine ⟨_, rfl, _, rfl, by rw [sizeLine_eq]; omega, _, _, rfl, rfl, _, rfl, by omega, by omega, ?_⟩
  refine for_range (lo := 0) (n := (leastS p).length + 1) (fun i σ H' => ∃ lv ls x4 x5 x6, σ = [some v, some (.ref pl), some (.str (leastS p)), some (.ref lv), x4, x5, x6] ∧ H' lv = some (.lst ls) ∧ (∀ u, u ∈ ls → Pr ([] :: nodes p []) p i anyA H' u) ∧ ls.length ≤ 60 ∧ Same H H')
    ⟨lv, [.ref t2], _, _, _, rfl, elv0, (fun u hu => by rw [List.mem_singleton.mp hu]; exact hpr), (by show 1 ≤ 60; decide), sB⟩ (fun i σ H' hi h => ?turn) (fun σ H' h => ?done)
  case done =>
    obtain ⟨_, _, _, _, _, _, _, _, _, sm⟩ := h
    exact q H' sm
  case turn =>
    obtain ⟨lv, ls, x4, x5, x6, rfl, elv, hP, h60, sm⟩ := h
    refine ⟨_, rfl, lv, rfl, ⟨_, SqL.of elv⟩, for_list (K := K) (xs := ls) (fun j σ H2 => ∃ x4 x5 x6, σ = [some v, some (.ref pl), some (.str (leastS p)), some (.ref lv), x4, x5, x6] ∧ Same H' H2)
      ⟨_, _, _, rfl, same_refl⟩ (fun j σ H2 _ h => by obtain ⟨_, _, _, _, s⟩ := h; exact SqL.of (s _ _ elv)) (fun j u σ H2 hu h => ?turn2) (fun σ H2 h => ?done2)⟩
    case done2 =>
      obtain ⟨_, _, _, rfl, s2⟩ := h
      refine ⟨_, rfl, _, rfl, lv, pl, ls, ys, _, p, i, rfl, hU, s2 _ _ elv, fun u hu => (hP u hu).same s2 fun _ h => h, h60, s2 _ _ (sm _ _ hpl), hy1, hy12, by omega, fun l ls' H4 el hP' h60' s4 => ?_⟩
      exact ⟨l, ls', _, _, _, rfl, el, hP', h60', sm.trans (s2.trans s4)⟩
    case turn2 =>
      obtain ⟨_, _, _, rfl, s2⟩ := h
      obtain ⟨a, row, o, Fr, rfl, ha, hLo, _, hrow, hsay⟩ := hP u (List.mem_of_getElem? hu)
      obtain ⟨gs, eo, ro⟩ := hLo.l
      refine ⟨a, _, rfl, SqT.of (s2 _ _ ha), rfl, _, _, rfl, _, _, rfl, rfl, ?_⟩
      refine ⟨(by show 0 ≤ sizeLine; decide), fun p1 hp1 => ?_⟩
      have z1 := same_new hp1 (.tup [])
      have s3 := s2.trans z1
      refine ⟨_, rfl, dS [], Fr.map dS, .tup (SqT.of upd_same) .nil, .lst (SqL.of (s3 _ _ eo)) (RSs.dp (ro.tk (Tk.of_same s3))), by decide +kernel, hU.shapedL fun s hs => (hLo.u s hs).1, _, rfl, ?_⟩
      refine ite2 (fun c => ?_) (fun c => ?_)
      · have hin : [] ∈ Fr := (any_dS [] Fr).mp c
        have hL : L p (cd row) := by
          have := (hsay []).mp ((says_nil fun s hs => (hLo.u s hs).2).mpr hin)
          rw [List.append_nil] at this; exact this
        have hno : ltNS (row.length : Nat) ((leastS p).length : Nat) row (leastS p) = false := Bool.eq_false_iff.mpr fun h => (least_ok wf).2 _ hL ((ltNS_slt row (leastS p)).mp h)
        refine ⟨_, rfl, row, rfl, by rw [sizeLine_eq]; omega, _, rfl, (by show 2 ≤ sizeLine; decide), fun p2 hp2 => ⟨_, rfl, leastS p, rfl, by rw [sizeLine_eq]; omega, _, rfl, (by show 2 ≤ sizeLine; decide), fun p3 hp3 => ?_⟩⟩
        have y2 := same_new hp2 (.tup [.int (row.length : Nat), .str row])
        have y3 := same_new hp3 (.tup [.int ((leastS p).length : Nat), .str (leastS p)])
        refine ⟨p2, p3, _, _, row, leastS p, rfl, rfl, SqT.of (y3 _ _ upd_same), SqT.of upd_same, _, rfl, ?_⟩
        rw [hno]
        exact iteF ⟨_, _, _, rfl, s3.trans (y2.trans y3)⟩
      · exact iteF ⟨_, _, _, rfl, s3⟩
end
end Pa
set_option maxHeartbeats 8000000
namespace Pa
open PySem PySem.Spec PyProof.Rows L2 Ty Se
theorem cutS_le (x : Str) : (cutS x none (some 12)).length ≤ 12 := by
  have h : HT.sIx x.length x.length (some ((12 : Nat) : Int)) = min 12 x.length := HT.sIx_nat ..
  have h' : HT.sIx x.length x.length (some 12) = min 12 x.length := h
  unfold cutS
  show (List.toArray _).size ≤ 12
  rw [List.size_toArray, List.length_take, h']
  have h0 : HT.sIx x.length 0 none = 0 := rfl
  rw [h0]
  omega
theorem o_inj {u v : Option Str} (h : u.map cd = v.map cd) : u = v := by
  cases u with
  | none =>
    cases v with
    | none => rfl
    | some y => cases h
  | some x =>
    cases v with
    | none => cases h
    | some y => exact congrArg some (cd_inj (Option.some.inj h))
def spRight : Sp := fun vs H Q _ => ∃ j : Addr, vs = [.ref j] ∧ Jar j H 0 ∧ ∀ H', Keep j H H' → Q (.bl true) H'
theorem scRight : FnScope ["jar", "mould", "lap", "rack", "line", "found", "lowest", "pool"] ["jar"] (defScope sRight) := ⟨rfl, rfl, rfl, by decide +kernel, rfl, by decide +kernel, by decide +kernel⟩
theorem plains : Plain "ab" ∧ Plain "abc" ∧ Plain "a1 " := ⟨⟨by decide, by decide, by decide +kernel⟩, ⟨by decide, by decide, by decide +kernel⟩, ⟨by decide, by decide, by decide +kernel⟩⟩
section
variable {P : Program} {w : World} {K : PySem.W.Frag} {mg : Str → Option Value} {base : Heap} {f f_mo f_di f_ar f_tx f_al f_sp f_ta f_sn f_ot f_lo f_lk f_ls f_po f_ll : Addr} {fd d_mo d_di d_ar d_tx d_al d_sp d_ta d_sn d_ot d_lo d_lk d_ls d_po d_ll : FuncData}
theorem ok_right (F : Fun K "_law_right" "_law_right" sRight f fd)
    (G_mo : FnOk P w K mg base CX0 7 f_mo d_mo ["jar", "plain", "deep"] (spMould 5)) (b_mo : Binds K d_mo ["jar", "plain", "deep"] []) (k_mo : PySem.W.keepIn K (.ref f_mo) = true) (m_mo : mg "_law_mould" = some (.ref f_mo))
    (G_di : FnOk P w K mg base CX0 1 f_di d_di ["jar", "many"] spDip) (b_di : Binds K d_di ["jar", "many"] []) (k_di : PySem.W.keepIn K (.ref f_di) = true) (m_di : mg "_law_dip" = some (.ref f_di))
    (G_ar : FnOk P w K mg base CX0 15 f_ar d_ar ["jar", "mould"] (spAround 13)) (b_ar : Binds K d_ar ["jar", "mould"] []) (k_ar : PySem.W.keepIn K (.ref f_ar) = true) (m_ar : mg "_law_around" = some (.ref f_ar))
    (G_tx : FnOk P w K mg base CX0 3 f_tx d_tx ["jar", "rack", "most"] spText) (b_tx : Binds K d_tx ["jar", "rack", "most"] []) (k_tx : PySem.W.keepIn K (.ref f_tx) = true) (m_tx : mg "_law_text" = some (.ref f_tx))
    (G_al : FnOk P w K mg base CX0 14 f_al d_al ["jar", "mould"] (spAlong 13)) (b_al : Binds K d_al ["jar", "mould"] []) (k_al : PySem.W.keepIn K (.ref f_al) = true) (m_al : mg "_law_along" = some (.ref f_al))
    (G_sp : FnOk P w K mg base CX0 41 f_sp d_sp ["pattern", "text"] (spSpells 13)) (b_sp : Binds K d_sp ["pattern", "text"] []) (k_sp : PySem.W.keepIn K (.ref f_sp) = true) (m_sp : mg "spells" = some (.ref f_sp))
    (G_ta : FnOk P w K mg base CX0 3 f_ta d_ta ["mould", "line"] spTakes) (b_ta : Binds K d_ta ["mould", "line"] []) (k_ta : PySem.W.keepIn K (.ref f_ta) = true) (m_ta : mg "_law_takes" = some (.ref f_ta))
    (G_sn : FnOk P w K mg base CX0 42 f_sn d_sn ["pattern"] (spNone 13)) (b_sn : Binds K d_sn ["pattern"] []) (k_sn : PySem.W.keepIn K (.ref f_sn) = true) (m_sn : mg "spells_none" = some (.ref f_sn))
    (G_ot : FnOk P w K mg base CX0 15 f_ot d_ot ["pattern"] (spOnly 13)) (b_ot : Binds K d_ot ["pattern"] []) (k_ot : PySem.W.keepIn K (.ref f_ot) = true) (m_ot : mg "only_text" = some (.ref f_ot))
    (G_lo : FnOk P w K mg base CX0 14 f_lo d_lo ["mould"] (spLOnly 13)) (b_lo : Binds K d_lo ["mould"] []) (k_lo : PySem.W.keepIn K (.ref f_lo) = true) (m_lo : mg "_law_only" = some (.ref f_lo))
    (G_lk : FnOk P w K mg base CX0 3 f_lk d_lk ["found", "owed"] spAlike) (b_lk : Binds K d_lk ["found", "owed"] []) (k_lk : PySem.W.keepIn K (.ref f_lk) = true) (m_lk : mg "_law_alike" = some (.ref f_lk))
    (G_ls : FnOk P w K mg base CX0 14 f_ls d_ls ["pattern"] (spLeast 13)) (b_ls : Binds K d_ls ["pattern"] []) (k_ls : PySem.W.keepIn K (.ref f_ls) = true) (m_ls : mg "least_spelled" = some (.ref f_ls))
    (G_po : FnOk P w K mg base CX0 2 f_po d_po ["rack"] spPool) (b_po : Binds K d_po ["rack"] []) (k_po : PySem.W.keepIn K (.ref f_po) = true) (m_po : mg "_law_pool" = some (.ref f_po))
    (G_ll : FnOk P w K mg base CX0 4 f_ll d_ll ["mould", "pool", "line"] spLLess) (b_ll : Binds K d_ll ["mould", "pool", "line"] []) (k_ll : PySem.W.keepIn K (.ref f_ll) = true) (m_ll : mg "_law_lesser" = some (.ref f_ll))
    (mi : mg "isinstance" = none) (m_bool : mg "bool" = none) (m_str : mg "str" = none) (mr : mg "range" = none) :
    FnOk P w K mg base CX0 43 f fd ["jar"] spRight := by
  refine F.ok scRight (fun vs H Q E h => ?_) (fun cdv A outer s0 H vs Q E0 hr h => ?_)
  · obtain ⟨_, rfl, _⟩ := h
    rfl
  obtain ⟨j, rfl, hj, q⟩ := h
  have H_mo := G_mo.mono (show 7 ≤ 42 by decide)
  have H_di := G_di.mono (show 1 ≤ 42 by decide)
  have H_ar := G_ar.mono (show 15 ≤ 42 by decide)
  have H_tx := G_tx.mono (show 3 ≤ 42 by decide)
  have H_al := G_al.mono (show 14 ≤ 42 by decide)
  have H_sp := G_sp.mono (show 41 ≤ 42 by decide)
  have H_ta := G_ta.mono (show 3 ≤ 42 by decide)
  have H_sn := G_sn.mono (show 42 ≤ 42 by decide)
  have H_ot := G_ot.mono (show 15 ≤ 42 by decide)
  have H_lo := G_lo.mono (show 14 ≤ 42 by decide)
  have H_lk := G_lk.mono (show 3 ≤ 42 by decide)
  have H_ls := G_ls.mono (show 14 ≤ 42 by decide)
  have H_po := G_po.mono (show 2 ≤ 42 by decide)
  have H_ll := G_ll.mono (show 4 ≤ 42 by decide)
  refine ⟨_, pss_cons (ps_set (i := 1) scRight.nd rfl (.inl rfl) (pe_call H_mo hr rfl m_mo k_mo b_mo .nil pass0 (pa_cons (pv 0) (pa_cons (pe_ix ix_list (pe_lst (pa_cons pe_str (pa_cons pe_str (pa_cons pe_str pa_nil)))) (pe_call H_di hr rfl m_di k_di b_di .nil pass0 (pa_cons (pv 0) (pa_cons pe_int pa_nil))) (fun _ _ => rfl)) (pa_cons (pe_op op_add pe_int (pe_call H_di hr rfl m_di k_di b_di .nil pass0 (pa_cons (pv 0) (pa_cons pe_int pa_nil)))) pa_nil)))))
    (pss_cons (ps_if (pt_cmpR op_eq (pe_call H_di hr rfl m_di k_di b_di .nil pass0 (pa_cons (pv 0) (pa_cons pe_int pa_nil))) pe_int (nomark _))
      (pss_one (ps_for PassesOwn.never rfl (pi_range1 rfl mr (pa_cons pe_int pa_nil)) (pg_name (i := 2) scRight.nd rfl (Or.inl rfl)) (pss_one (ps_set (i := 1) scRight.nd rfl (.inl rfl) (pe_call H_ar hr rfl m_ar k_ar b_ar .nil pass0 (pa_cons (pv 0) (pa_cons (pv 1) pa_nil))))))) pss_nil)
    (pss_cons (ps_set (i := 3) scRight.nd rfl (.inl rfl) (pe_lst (pa_cons (pe_tup (pa_cons pe_str (pa_cons (pv 1) (pa_cons pe_bl pa_nil)))) pa_nil)))
    (pss_cons (ps_for PassesOwn.never rfl (pi_range1 rfl mr (pa_cons pe_int pa_nil)) (pg_name (i := 2) scRight.nd rfl (Or.inl rfl))
      (pss_cons (ps_set (i := 4) scRight.nd rfl (.inl rfl) (pe_call H_tx hr rfl m_tx k_tx b_tx .nil pass0 (pa_cons (pv 0) (pa_cons (pv 3) (pa_cons pe_int pa_nil)))))
      (pss_cons (ps_if (pt_cmpR op_gt (pv 2) pe_int (nomark _)) (pss_one (ps_set (i := 4) scRight.nd rfl (.inl rfl) (pe_slice sl_str (pe_call H_al hr rfl m_al k_al b_al .nil pass0 (pa_cons (pv 0) (pa_cons (pv 1) pa_nil))) po_none (po_some pe_int)))) pss_nil)
      (pss_cons (ps_set (i := 5) scRight.nd rfl (.inl rfl) (pe_call H_sp hr rfl m_sp k_sp b_sp .nil pass0 (pa_cons (pv 1) (pa_cons (pv 4) pa_nil))))
      (pss_one (ps_if (PW.pt (pw_or (pt_not (pt_val (pe_callB call_isi rfl mi (by decide +kernel) (pa_cons (pv 5) (pa_cons (pe_bltn rfl m_bool (by decide +kernel) (show RelV (.ty "bool") (.type "bool") from rfl)) pa_nil))))) (pw_or (pt_cmpR op_ne (pv 5) (pe_call H_ta hr rfl m_ta k_ta b_ta .nil pass0 (pa_cons (pv 1) (pa_cons (pv 4) pa_nil))) (nomark _)) (pw_or1 (pt_cmpR op_ne (pv 5) (pe_call H_sp hr rfl m_sp k_sp b_sp .nil pass0 (pa_cons (pv 1) (pa_cons (pv 4) pa_nil))) (nomark _)))))) (pss_one (ps_ret pe_bl)) pss_nil))))))
    (pss_cons (ps_if (pt_not (pt_val (pe_call H_lk hr rfl m_lk k_lk b_lk .nil pass0 (pa_cons (pe_lst (pa_cons (pe_call H_sn hr rfl m_sn k_sn b_sn .nil pass0 (pa_cons (pv 1) pa_nil)) (pa_cons (pe_call H_ot hr rfl m_ot k_ot b_ot .nil pass0 (pa_cons (pv 1) pa_nil)) pa_nil))) (pa_cons (pe_lst (pa_cons (pe_call H_ta hr rfl m_ta k_ta b_ta .nil pass0 (pa_cons (pv 1) (pa_cons pe_str pa_nil))) (pa_cons (pe_call H_lo hr rfl m_lo k_lo b_lo .nil pass0 (pa_cons (pv 1) pa_nil)) pa_nil))) pa_nil))))) (pss_one (ps_ret pe_bl)) pss_nil)
    (pss_cons (ps_set (i := 6) scRight.nd rfl (.inl rfl) (pe_call H_ls hr rfl m_ls k_ls b_ls .nil pass0 (pa_cons (pv 1) pa_nil)))
    (pss_cons (ps_set (i := 7) scRight.nd rfl (.inl rfl) (pe_slice sl_list (pe_call H_po hr rfl m_po k_po b_po .nil pass0 (pa_cons (pv 3) pa_nil)) po_none (po_some pe_int)))
    (pss_cons (ps_if (PW.pt (pw_or (pt_not (pt_val (pe_callB call_isi rfl mi (by decide +kernel) (pa_cons (pv 6) (pa_cons (pe_bltn rfl m_str (by decide +kernel) (show RelV (.ty "str") (.type "str") from rfl)) pa_nil))))) (pw_or (pt_not (pt_val (pe_call H_ta hr rfl m_ta k_ta b_ta .nil pass0 (pa_cons (pv 1) (pa_cons (pv 6) pa_nil))))) (pw_or1 (pt_val (pe_call H_ll hr rfl m_ll k_ll b_ll .nil pass0 (pa_cons (pv 1) (pa_cons (pv 7) (pa_cons (pv 6) pa_nil))))))))) (pss_one (ps_ret pe_bl)) pss_nil)
    (pss_one (ps_ret (pe_or (pe_cmpR op_isN (pe_call H_ot hr rfl m_ot k_ot b_ot .nil pass0 (pa_cons (pv 1) pa_nil)) pe_non (nomark _)) (pe_one (pe_cmpR op_eq (pe_call H_ot hr rfl m_ot k_ot b_ot .nil pass0 (pa_cons (pv 1) pa_nil)) (pv 6) (nomark _))))))))))))), ?_⟩
  refine ⟨_, rfl, (by show 3 ≤ sizeLine; decide), fun p1 hp1 => ?_⟩
  have z1 := same_new hp1 (.lst [.str "ab", .str "abc", .str "a1 "])
  have p1j := hj.ne hp1
  refine ⟨_, rfl, j, 0, 3, rfl, hj.keep z1, by decide, by decide, by decide, fun r H1 r0 r3 j1 k1 => ?_⟩
  obtain ⟨x, hx, px⟩ : ∃ x : Str, atI [V.str "ab", V.str "abc", V.str "a1 "] r = some (.str x) ∧ Plain x := by
    have h : r = 0 ∨ r = 1 ∨ r = 2 := by omega
    rcases h with rfl | rfl | rfl
    · exact ⟨_, rfl, plains.1⟩
    · exact ⟨_, rfl, plains.2.1⟩
    · exact ⟨_, rfl, plains.2.2⟩
  refine ⟨p1, _, _, _, rfl, rfl, SqL.of (k1 _ _ p1j upd_same), hx, ?_⟩
  refine ⟨_, rfl, j, 1, 4, rfl, j1, by decide, by decide, by decide, fun r2 H2 r20 r24 j2 k2 => ⟨_, _, rfl, rfl, ?_⟩⟩
  obtain ⟨k, hk⟩ : ∃ k : Nat, 1 + r2 = (k : Nat) := ⟨(1 + r2).toNat, by omega⟩
  have hk4 : nd k ≤ 186 ∧ ms k ≤ 31 ∧ mm k ≤ 48 ∧ k ≤ 4 := by
    have h : k = 1 ∨ k = 2 ∨ k = 3 ∨ k = 4 := by omega
    rcases h with rfl | rfl | rfl | rfl <;> decide
  refine ⟨j, 2, k, x, ?_, by omega, j2, by omega, px, fun v p H3 rp wf dp zp mp j3 k3 => ?_⟩
  · show [V.ref j, V.str x, V.int (1 + r2)] ++ [] = _
    rw [hk]; rfl
  have kA := (Keep.of_same z1).trans (k1.trans (k2.trans k3))
  refine ⟨_, rfl, j, 2 + nd k, 6, rfl, j3, by omega, by decide, by decide, fun r3 H4 r30 r36 j4 k4 => ⟨rfl, _, rfl, ?_⟩⟩
  have kB := kA.trans k4
  replace rp := rp.tk (Tk.of_keep j3 k4)
  refine ite2 (fun c => ?_) (fun c => ?_)
  · refine ⟨_, rfl, by decide, by decide, for_range (lo := 0) (n := 8) (fun i σ H' => ∃ v p x2, σ = [some (.ref j), some v, x2, none, none, none, none, none] ∧ RP H' p v ∧ Wf p ∧ deepP p ≤ 5 + i ∧ sizeP p ≤ 31 + 2 * i ∧ manyP p ≤ 48 ∧ Jar j H' (300 + 2 * i) ∧ Keep j H H')
      ⟨v, p, _, rfl, rp, wf, (by omega), (by omega), (by omega), j4.mono (by omega), kB⟩ (fun i σ H5 hi h => ?turnA) (fun σ H5 h => ?doneA)⟩
    case turnA =>
      obtain ⟨v, p, x2, rfl, rp, wf, dp, zp, mp, j5, k5⟩ := h
      refine ⟨_, rfl, _, rfl, j, _, v, p, rfl, j5, (by omega), rp, wf, (by omega), fun v' p' H6 rp' wf' dp' zp' mp' j6 k6 => ?_⟩
      exact ⟨v', p', _, rfl, rp', wf', (by omega), (by omega), (by omega), j6.mono (by omega), k5.trans k6⟩
    case doneA =>
      obtain ⟨v, p, x2, rfl, rp, wf, dp, zp, mp, hjM, kM⟩ := h
      have hd : deepP p ≤ 13 := by omega
      have h48 : manyP p ≤ 48 := mp
      have hz : sizeP p ≤ 47 := by omega
      replace hjM := hjM.mono (show 300 + 2 * 8 ≤ 1000 by decide)
      revert rp hjM kM
      generalize H5 = HM
      intro rp kM hjM
      -- the mould stands
      have d4 : 4 ^ deepP p ≤ 67108864 := Nat.pow_le_pow_right (n := 4) (by decide) hd
      refine ⟨_, rfl, (by show 3 ≤ sizeLine; decide), fun t0 ht0 => ⟨(by show 1 ≤ sizeLine; decide), fun rk hrk => ?_⟩⟩
      have z1 := same_new ht0 (.tup [.str "a", v, .bl false])
      have z2 := same_new hrk (.lst [.ref t0])
      have zA := z1.trans z2
      have et0 := z2 _ _ (upd_same (H := HM) (a := t0) (o := .tup [.str "a", v, .bl false]))
      have erk : (upd (upd HM t0 (.tup [.str "a", v, .bl false])) rk (.lst [.ref t0])) rk = some (.lst [.ref t0]) := upd_same
      replace hjM := hjM.keep zA
      replace kM := kM.trans (Keep.of_same zA)
      replace rp := rp.tk (Tk.of_same zA)
      have rkj : rk ≠ j := fun e => by
        obtain ⟨_, _, _, h, _⟩ := hjM
        have h2 := z1
        rw [← e, erk] at h
        cases h
      have t0j : t0 ≠ j := fun e => by
        obtain ⟨_, _, _, h, _⟩ := hjM
        rw [← e, et0] at h
        cases h
      generalize upd (upd HM t0 (.tup [.str "a", v, .bl false])) rk (.lst [.ref t0]) = H0 at hjM kM rp et0 erk
      clear z1 z2 zA hrk ht0
      have hj := hjM
      refine ⟨_, rfl, by decide, by decide, for_range (lo := 0) (n := 6) (fun i σ H' => ∃ x2 x4 x5, σ = [some (.ref j), some v, x2, some (.ref rk), x4, x5, none, none] ∧ Jar j H' (1000 + i * 67108880) ∧ Keep j H0 H' ∧ H' rk = some (.lst [.ref t0]) ∧ H' t0 = some (.tup [.str "a", v, .bl false]))
        ⟨_, _, _, rfl, hj.mono (by omega), Keep.of_same same_refl, erk, et0⟩ (fun i σ H1 hi h => ?turnB) (fun σ H1 h => ?doneB)⟩
      case turnB =>
        obtain ⟨x2, x4, x5, rfl, j1, k1, hrk1, ht01⟩ := h
        have rp1 := rp.tk (Tk.of_keep hj k1)
        refine ⟨_, rfl, _, rfl, j, rk, t0, _, _, _, v, p, rfl, j1, (by omega), hrk1, ht01, rp1, wf, h48, (by omega), fun x1 H2 l1 j2 k2 => ?_⟩
        have k12 := k1.trans k2
        refine ⟨_, rfl, _, _, rfl, rfl, _, rfl, ite2 (fun c => ?_) (fun c => ?_)⟩
        · refine ⟨_, rfl, _, rfl, j, _, v, p, rfl, j2, (by omega), rp.tk (Tk.of_keep hj k12), wf, hd, (by omega), fun xx HX lxx jX k3 => ?_⟩
          have hxx := pow_small (by omega) lxx
          refine ⟨_, rfl, xx, rfl, (by rw [sizeLine_eq]; omega), ?_⟩
          have ly := cutS_le xx
          generalize cutS xx none (some 12) = y at ly
          have kX := k12.trans k3
          have hrkX : HX rk = some (.lst [.ref t0]) := k3 _ _ rkj (k2 _ _ rkj hrk1)
          have ht0X : HX t0 = some (.tup [.str "a", v, .bl false]) := k3 _ _ t0j (k2 _ _ t0j ht01)
          have rpX : RP HX p v := rp.tk (Tk.of_keep hj kX)
          refine ⟨_, rfl, _, rfl, v, y, p, rfl, rpX, (by omega), hd, (by omega), fun b1 H6 hb1 s6 => ?_⟩
          refine ⟨_, rfl, .bl b1, .ty "bool", _, _, _, rfl, .ty _, .base (.bl b1), kit_ty (show kitB "bool" "bool" = some true by decide +kernel), _, rfl, iteF ?_⟩
          refine ⟨_, rfl, _, rfl, _, rfl, v, y, p, rfl, rpX.tk (Tk.of_same s6), wf, (by omega), (by omega), fun b2 H7 hb2 s7 => ⟨rfl, _, rfl, ?_⟩⟩
          obtain rfl : b1 = b2 := Bool.eq_iff_iff.mpr (hb1.trans hb2.symm)
          rw [show decide (V.bl b1 = V.bl b1) = true from decide_eq_true rfl]
          refine iteF ?_
          refine ⟨_, rfl, _, rfl, _, rfl, v, y, p, rfl, rpX.tk (Tk.of_same (s6.trans s7)), (by omega), hd, (by omega), fun b3 H8 hb3 s8 => ⟨rfl, _, rfl, ?_⟩⟩
          obtain rfl : b1 = b3 := Bool.eq_iff_iff.mpr (hb1.trans hb3.symm)
          rw [show decide (V.bl b1 = V.bl b1) = true from decide_eq_true rfl]
          refine iteF ?_
          have sA := s6.trans (s7.trans s8)
          have kA := kX.trans (Keep.of_same sA)
          exact ⟨_, _, _, rfl, (jX.keep sA).mono (by omega), kA, sA _ _ hrkX, sA _ _ ht0X⟩
        · have ly : x1.length ≤ 12 := by omega
          have kX := k12
          have jX := j2
          have hrkX : H2 rk = some (.lst [.ref t0]) := k2 _ _ rkj hrk1
          have ht0X : H2 t0 = some (.tup [.str "a", v, .bl false]) := k2 _ _ t0j ht01
          revert kX jX hrkX ht0X ly
          generalize H2 = HX
          generalize x1 = y
          intro ly kX jX hrkX ht0X
          have rpX : RP HX p v := rp.tk (Tk.of_keep hj kX)
          refine ⟨_, rfl, _, rfl, v, y, p, rfl, rpX, (by omega), hd, (by omega), fun b1 H6 hb1 s6 => ?_⟩
          refine ⟨_, rfl, .bl b1, .ty "bool", _, _, _, rfl, .ty _, .base (.bl b1), kit_ty (show kitB "bool" "bool" = some true by decide +kernel), _, rfl, iteF ?_⟩
          refine ⟨_, rfl, _, rfl, _, rfl, v, y, p, rfl, rpX.tk (Tk.of_same s6), wf, (by omega), (by omega), fun b2 H7 hb2 s7 => ⟨rfl, _, rfl, ?_⟩⟩
          obtain rfl : b1 = b2 := Bool.eq_iff_iff.mpr (hb1.trans hb2.symm)
          rw [show decide (V.bl b1 = V.bl b1) = true from decide_eq_true rfl]
          refine iteF ?_
          refine ⟨_, rfl, _, rfl, _, rfl, v, y, p, rfl, rpX.tk (Tk.of_same (s6.trans s7)), (by omega), hd, (by omega), fun b3 H8 hb3 s8 => ⟨rfl, _, rfl, ?_⟩⟩
          obtain rfl : b1 = b3 := Bool.eq_iff_iff.mpr (hb1.trans hb3.symm)
          rw [show decide (V.bl b1 = V.bl b1) = true from decide_eq_true rfl]
          refine iteF ?_
          have sA := s6.trans (s7.trans s8)
          have kA := kX.trans (Keep.of_same sA)
          exact ⟨_, _, _, rfl, (jX.keep sA).mono (by omega), kA, sA _ _ hrkX, sA _ _ ht0X⟩
      case doneB =>
        obtain ⟨x2, x4, x5, rfl, j1, k1, hrk1, ht01⟩ := h
        have rp1 := rp.tk (Tk.of_keep hj k1)
        have kZ := kM.trans k1
        refine ⟨_, rfl, v, p, rfl, rp1, (by omega), hd, fun b1 H2 hb1 s2 => ?_⟩
        refine ⟨_, rfl, v, p, rfl, rp1.tk (Tk.of_same s2), wf, hd, (by omega), fun u1 H3 hu1 _ s3 => ⟨(by show 2 ≤ sizeLine; decide), fun la hla => ?_⟩⟩
        have za := same_new hla (.lst [.bl b1, oV u1])
        have sB := s2.trans (s3.trans za)
        refine ⟨_, rfl, v, "", p, rfl, rp1.tk (Tk.of_same sB), wf, (by omega), (by omega), fun b2 H4 hb2 s4 => ?_⟩
        refine ⟨_, rfl, v, p, rfl, rp1.tk (Tk.of_same (sB.trans s4)), wf, hd, (by omega), fun u2 H5 hu2 s5 => ⟨(by show 2 ≤ sizeLine; decide), fun lb hlb => ?_⟩⟩
        have zb := same_new hlb (.lst [.bl b2, oV u2])
        have sC := s4.trans (s5.trans zb)
        have ela := sC _ _ (upd_same (H := H3) (a := la) (o := .lst [.bl b1, oV u1]))
        obtain rfl : b1 = b2 := Bool.eq_iff_iff.mpr (hb1.trans hb2.symm)
        obtain rfl : u1 = u2 := o_inj (hu1.trans hu2.symm)
        refine ⟨la, lb, _, rfl, ela, upd_same, (fun z hz => by
          rcases List.mem_cons.mp hz with e | hz
          · rw [e]; exact .bl _
          · rw [List.mem_singleton.mp hz]; exact lf_oV _), (by show 2 ≤ 100; decide), fun H6 s6 => ⟨_, rfl, iteF ?_⟩⟩
        have sD := sB.trans (sC.trans s6)
        refine ⟨_, rfl, v, p, rfl, rp1.tk (Tk.of_same sD), wf, hd, (by omega), fun H7 s7 => ?_⟩
        have sE := sD.trans s7
        refine ⟨_, rfl, rk, t0, _, _, v, p, rfl, sE _ _ hrk1, sE _ _ ht01, rp1.tk (Tk.of_same sE), wf, h48, (by omega), fun ys l8 H8 nl8 el8 ho8 y1 y49 s8 => ?_⟩
        refine ⟨_, rfl, l8, _, rfl, SqL.of el8, fun l9 hl9 => ?_⟩
        have ec : cutV (ys.map V.str) none (some 12) = (ys.take 12).map V.str := by
          rw [show (some (12 : Int)) = some ((12 : Nat) : Int) from rfl, cut_to, List.map_take]
        rw [ec]
        have z9 := same_new hl9 (.lst ((ys.take 12).map V.str))
        have sF := sE.trans (s8.trans z9)
        have e9 : (upd H8 l9 (.lst ((ys.take 12).map V.str))) l9 = some (.lst ((ys.take 12).map V.str)) := upd_same
        generalize upd H8 l9 (.lst ((ys.take 12).map V.str)) = H9 at sF e9
        refine ⟨_, rfl, .str (leastS p), .ty "str", _, _, _, rfl, .ty _, .base (.str (leastS p)), kit_ty (show kitB "str" "str" = some true by decide +kernel), _, rfl, iteF ?_⟩
        refine ⟨_, rfl, _, rfl, v, leastS p, p, rfl, rp1.tk (Tk.of_same sF), wf, (by omega), (by omega), fun b4 H10 hb4 s10 => ⟨_, rfl, ?_⟩⟩
        rw [hb4.mpr (least_ok wf).1]
        refine iteF ?_
        have sG := sF.trans s10
        refine ⟨_, rfl, _, rfl, _, rfl, v, l9, ys.take 12, p, rfl, rp1.tk (Tk.of_same sG), wf, (by omega), (by omega), s10 _ _ e9, (fun y hy => by obtain ⟨c, _, rfl⟩ := ho8 y (List.mem_of_mem_take hy); rfl), (by rw [List.length_take]; omega), fun H11 s11 => ⟨_, rfl, iteF ?_⟩⟩
        have sH := sG.trans s11
        refine ⟨_, rfl, v, p, rfl, rp1.tk (Tk.of_same sH), wf, hd, (by omega), fun u3 H12 hu3 _ s12 => ⟨rfl, ?_⟩⟩
        have kE : ∀ H', Same H12 H' → Keep j H H' := fun H' s => kZ.trans (Keep.of_same ((sH.trans s12).trans s))
        cases u3 with
        | none => exact ⟨_, rfl, iteT (q _ (kE _ same_refl))⟩
        | some x3 =>
          refine ⟨_, rfl, iteF ?_⟩
          refine ⟨_, rfl, v, p, rfl, rp1.tk (Tk.of_same (sH.trans s12)), wf, hd, (by omega), fun u4 H13 hu4 _ s13 => ⟨_, rfl, ?_⟩⟩
          obtain rfl : some x3 = u4 := o_inj (hu3.trans hu4.symm)
          have ex : x3 = leastS p := cd_inj (only_least (o_cd hu3 rfl)).symm
          subst ex
          refine ⟨rfl, ?_⟩
          rw [show decide (oV (some (leastS p)) = V.str (leastS p)) = true from decide_eq_true rfl]
          exact q _ (kE _ s13)
  · have hd : deepP p ≤ 13 := by omega
    have h48 : manyP p ≤ 48 := by omega
    have hz : sizeP p ≤ 47 := by omega
    have hjM := j4.mono (show 2 + nd k + 1 ≤ 1000 by omega)
    have kM := kB
    revert rp hjM kM
    generalize H4 = HM
    intro rp hjM kM
    -- the mould stands
    have d4 : 4 ^ deepP p ≤ 67108864 := Nat.pow_le_pow_right (n := 4) (by decide) hd
    refine ⟨_, rfl, (by show 3 ≤ sizeLine; decide), fun t0 ht0 => ⟨(by show 1 ≤ sizeLine; decide), fun rk hrk => ?_⟩⟩
    have z1 := same_new ht0 (.tup [.str "a", v, .bl false])
    have z2 := same_new hrk (.lst [.ref t0])
    have zA := z1.trans z2
    have et0 := z2 _ _ (upd_same (H := HM) (a := t0) (o := .tup [.str "a", v, .bl false]))
    have erk : (upd (upd HM t0 (.tup [.str "a", v, .bl false])) rk (.lst [.ref t0])) rk = some (.lst [.ref t0]) := upd_same
    replace hjM := hjM.keep zA
    replace kM := kM.trans (Keep.of_same zA)
    replace rp := rp.tk (Tk.of_same zA)
    have rkj : rk ≠ j := fun e => by
      obtain ⟨_, _, _, h, _⟩ := hjM
      have h2 := z1
      rw [← e, erk] at h
      cases h
    have t0j : t0 ≠ j := fun e => by
      obtain ⟨_, _, _, h, _⟩ := hjM
      rw [← e, et0] at h
      cases h
    generalize upd (upd HM t0 (.tup [.str "a", v, .bl false])) rk (.lst [.ref t0]) = H0 at hjM kM rp et0 erk
    clear z1 z2 zA hrk ht0
    have hj := hjM
    refine ⟨_, rfl, by decide, by decide, for_range (lo := 0) (n := 6) (fun i σ H' => ∃ x2 x4 x5, σ = [some (.ref j), some v, x2, some (.ref rk), x4, x5, none, none] ∧ Jar j H' (1000 + i * 67108880) ∧ Keep j H0 H' ∧ H' rk = some (.lst [.ref t0]) ∧ H' t0 = some (.tup [.str "a", v, .bl false]))
      ⟨_, _, _, rfl, hj.mono (by omega), Keep.of_same same_refl, erk, et0⟩ (fun i σ H1 hi h => ?turnC) (fun σ H1 h => ?doneC)⟩
    case turnC =>
      obtain ⟨x2, x4, x5, rfl, j1, k1, hrk1, ht01⟩ := h
      have rp1 := rp.tk (Tk.of_keep hj k1)
      refine ⟨_, rfl, _, rfl, j, rk, t0, _, _, _, v, p, rfl, j1, (by omega), hrk1, ht01, rp1, wf, h48, (by omega), fun x1 H2 l1 j2 k2 => ?_⟩
      have k12 := k1.trans k2
      refine ⟨_, rfl, _, _, rfl, rfl, _, rfl, ite2 (fun c => ?_) (fun c => ?_)⟩
      · refine ⟨_, rfl, _, rfl, j, _, v, p, rfl, j2, (by omega), rp.tk (Tk.of_keep hj k12), wf, hd, (by omega), fun xx HX lxx jX k3 => ?_⟩
        have hxx := pow_small (by omega) lxx
        refine ⟨_, rfl, xx, rfl, (by rw [sizeLine_eq]; omega), ?_⟩
        have ly := cutS_le xx
        generalize cutS xx none (some 12) = y at ly
        have kX := k12.trans k3
        have hrkX : HX rk = some (.lst [.ref t0]) := k3 _ _ rkj (k2 _ _ rkj hrk1)
        have ht0X : HX t0 = some (.tup [.str "a", v, .bl false]) := k3 _ _ t0j (k2 _ _ t0j ht01)
        have rpX : RP HX p v := rp.tk (Tk.of_keep hj kX)
        refine ⟨_, rfl, _, rfl, v, y, p, rfl, rpX, (by omega), hd, (by omega), fun b1 H6 hb1 s6 => ?_⟩
        refine ⟨_, rfl, .bl b1, .ty "bool", _, _, _, rfl, .ty _, .base (.bl b1), kit_ty (show kitB "bool" "bool" = some true by decide +kernel), _, rfl, iteF ?_⟩
        refine ⟨_, rfl, _, rfl, _, rfl, v, y, p, rfl, rpX.tk (Tk.of_same s6), wf, (by omega), (by omega), fun b2 H7 hb2 s7 => ⟨rfl, _, rfl, ?_⟩⟩
        obtain rfl : b1 = b2 := Bool.eq_iff_iff.mpr (hb1.trans hb2.symm)
        rw [show decide (V.bl b1 = V.bl b1) = true from decide_eq_true rfl]
        refine iteF ?_
        refine ⟨_, rfl, _, rfl, _, rfl, v, y, p, rfl, rpX.tk (Tk.of_same (s6.trans s7)), (by omega), hd, (by omega), fun b3 H8 hb3 s8 => ⟨rfl, _, rfl, ?_⟩⟩
        obtain rfl : b1 = b3 := Bool.eq_iff_iff.mpr (hb1.trans hb3.symm)
        rw [show decide (V.bl b1 = V.bl b1) = true from decide_eq_true rfl]
        refine iteF ?_
        have sA := s6.trans (s7.trans s8)
        have kA := kX.trans (Keep.of_same sA)
        exact ⟨_, _, _, rfl, (jX.keep sA).mono (by omega), kA, sA _ _ hrkX, sA _ _ ht0X⟩
      · have ly : x1.length ≤ 12 := by omega
        have kX := k12
        have jX := j2
        have hrkX : H2 rk = some (.lst [.ref t0]) := k2 _ _ rkj hrk1
        have ht0X : H2 t0 = some (.tup [.str "a", v, .bl false]) := k2 _ _ t0j ht01
        revert kX jX hrkX ht0X ly
        generalize H2 = HX
        generalize x1 = y
        intro ly kX jX hrkX ht0X
        have rpX : RP HX p v := rp.tk (Tk.of_keep hj kX)
        refine ⟨_, rfl, _, rfl, v, y, p, rfl, rpX, (by omega), hd, (by omega), fun b1 H6 hb1 s6 => ?_⟩
        refine ⟨_, rfl, .bl b1, .ty "bool", _, _, _, rfl, .ty _, .base (.bl b1), kit_ty (show kitB "bool" "bool" = some true by decide +kernel), _, rfl, iteF ?_⟩
        refine ⟨_, rfl, _, rfl, _, rfl, v, y, p, rfl, rpX.tk (Tk.of_same s6), wf, (by omega), (by omega), fun b2 H7 hb2 s7 => ⟨rfl, _, rfl, ?_⟩⟩
        obtain rfl : b1 = b2 := Bool.eq_iff_iff.mpr (hb1.trans hb2.symm)
        rw [show decide (V.bl b1 = V.bl b1) = true from decide_eq_true rfl]
        refine iteF ?_
        refine ⟨_, rfl, _, rfl, _, rfl, v, y, p, rfl, rpX.tk (Tk.of_same (s6.trans s7)), (by omega), hd, (by omega), fun b3 H8 hb3 s8 => ⟨rfl, _, rfl, ?_⟩⟩
        obtain rfl : b1 = b3 := Bool.eq_iff_iff.mpr (hb1.trans hb3.symm)
        rw [show decide (V.bl b1 = V.bl b1) = true from decide_eq_true rfl]
        refine iteF ?_
        have sA := s6.trans (s7.trans s8)
        have kA := kX.trans (Keep.of_same sA)
        exact ⟨_, _, _, rfl, (jX.keep sA).mono (by omega), kA, sA _ _ hrkX, sA _ _ ht0X⟩
    case doneC =>
      obtain ⟨x2, x4, x5, rfl, j1, k1, hrk1, ht01⟩ := h
      have rp1 := rp.tk (Tk.of_keep hj k1)
      have kZ := kM.trans k1
      refine ⟨_, rfl, v, p, rfl, rp1, (by omega), hd, fun b1 H2 hb1 s2 => ?_⟩
      refine ⟨_, rfl, v, p, rfl, rp1.tk (Tk.of_same s2), wf, hd, (by omega), fun u1 H3 hu1 _ s3 => ⟨(by show 2 ≤ sizeLine; decide), fun la hla => ?_⟩⟩
      have za := same_new hla (.lst [.bl b1, oV u1])
      have sB := s2.trans (s3.trans za)
      refine ⟨_, rfl, v, "", p, rfl, rp1.tk (Tk.of_same sB), wf, (by omega), (by omega), fun b2 H4 hb2 s4 => ?_⟩
      refine ⟨_, rfl, v, p, rfl, rp1.tk (Tk.of_same (sB.trans s4)), wf, hd, (by omega), fun u2 H5 hu2 s5 => ⟨(by show 2 ≤ sizeLine; decide), fun lb hlb => ?_⟩⟩
      have zb := same_new hlb (.lst [.bl b2, oV u2])
      have sC := s4.trans (s5.trans zb)
      have ela := sC _ _ (upd_same (H := H3) (a := la) (o := .lst [.bl b1, oV u1]))
      obtain rfl : b1 = b2 := Bool.eq_iff_iff.mpr (hb1.trans hb2.symm)
      obtain rfl : u1 = u2 := o_inj (hu1.trans hu2.symm)
      refine ⟨la, lb, _, rfl, ela, upd_same, (fun z hz => by
        rcases List.mem_cons.mp hz with e | hz
        · rw [e]; exact .bl _
        · rw [List.mem_singleton.mp hz]; exact lf_oV _), (by show 2 ≤ 100; decide), fun H6 s6 => ⟨_, rfl, iteF ?_⟩⟩
      have sD := sB.trans (sC.trans s6)
      refine ⟨_, rfl, v, p, rfl, rp1.tk (Tk.of_same sD), wf, hd, (by omega), fun H7 s7 => ?_⟩
      have sE := sD.trans s7
      refine ⟨_, rfl, rk, t0, _, _, v, p, rfl, sE _ _ hrk1, sE _ _ ht01, rp1.tk (Tk.of_same sE), wf, h48, (by omega), fun ys l8 H8 nl8 el8 ho8 y1 y49 s8 => ?_⟩
      refine ⟨_, rfl, l8, _, rfl, SqL.of el8, fun l9 hl9 => ?_⟩
      have ec : cutV (ys.map V.str) none (some 12) = (ys.take 12).map V.str := by
        rw [show (some (12 : Int)) = some ((12 : Nat) : Int) from rfl, cut_to, List.map_take]
      rw [ec]
      have z9 := same_new hl9 (.lst ((ys.take 12).map V.str))
      have sF := sE.trans (s8.trans z9)
      have e9 : (upd H8 l9 (.lst ((ys.take 12).map V.str))) l9 = some (.lst ((ys.take 12).map V.str)) := upd_same
      generalize upd H8 l9 (.lst ((ys.take 12).map V.str)) = H9 at sF e9
      refine ⟨_, rfl, .str (leastS p), .ty "str", _, _, _, rfl, .ty _, .base (.str (leastS p)), kit_ty (show kitB "str" "str" = some true by decide +kernel), _, rfl, iteF ?_⟩
      refine ⟨_, rfl, _, rfl, v, leastS p, p, rfl, rp1.tk (Tk.of_same sF), wf, (by omega), (by omega), fun b4 H10 hb4 s10 => ⟨_, rfl, ?_⟩⟩
      rw [hb4.mpr (least_ok wf).1]
      refine iteF ?_
      have sG := sF.trans s10
      refine ⟨_, rfl, _, rfl, _, rfl, v, l9, ys.take 12, p, rfl, rp1.tk (Tk.of_same sG), wf, (by omega), (by omega), s10 _ _ e9, (fun y hy => by obtain ⟨c, _, rfl⟩ := ho8 y (List.mem_of_mem_take hy); rfl), (by rw [List.length_take]; omega), fun H11 s11 => ⟨_, rfl, iteF ?_⟩⟩
      have sH := sG.trans s11
      refine ⟨_, rfl, v, p, rfl, rp1.tk (Tk.of_same sH), wf, hd, (by omega), fun u3 H12 hu3 _ s12 => ⟨rfl, ?_⟩⟩
      have kE : ∀ H', Same H12 H' → Keep j H H' := fun H' s => kZ.trans (Keep.of_same ((sH.trans s12).trans s))
      cases u3 with
      | none => exact ⟨_, rfl, iteT (q _ (kE _ same_refl))⟩
      | some x3 =>
        refine ⟨_, rfl, iteF ?_⟩
        refine ⟨_, rfl, v, p, rfl, rp1.tk (Tk.of_same (sH.trans s12)), wf, hd, (by omega), fun u4 H13 hu4 _ s13 => ⟨_, rfl, ?_⟩⟩
        obtain rfl : some x3 = u4 := o_inj (hu3.trans hu4.symm)
        have ex : x3 = leastS p := cd_inj (only_least (o_cd hu3 rfl)).symm
        subst ex
        refine ⟨rfl, ?_⟩
        rw [show decide (oV (some (leastS p)) = V.str (leastS p)) = true from decide_eq_true rfl]
        exact q _ (kE _ s13)
end
end Pa
set_option maxHeartbeats 4000000
namespace Pa
open PySem PySem.Spec PyProof.Rows L2 Ty Se
def spLaw (K : PySem.W.Frag) : Sp := fun vs H Q _ => ∃ (a : Addr) (ns : List Int), vs = [.ref a] ∧ SqL K H a (ns.map V.int) ∧ ns.length ≤ 63 ∧ ∀ H', Q (.bl true) H'
theorem scLaw : FnScope ["script", "k"] ["script"] (defScope sLaw) := ⟨rfl, rfl, rfl, by decide +kernel, rfl, by decide +kernel, by decide +kernel⟩
section
variable {P : Program} {w : World} {K : PySem.W.Frag} {mg : Str → Option Value} {base : Heap} {f a1 a2 : Addr} {fd d1 d2 : FuncData}
theorem ok_law (F : Fun K "law" "law" sLaw f fd)
    (GJ : FnOk P w K mg base CX0 1 a1 d1 ["script", "k"] (spJar K)) (bJ : Binds K d1 ["script", "k"] []) (kJ : PySem.W.keepIn K (.ref a1) = true) (mJ : mg "_law_jar" = some (.ref a1))
    (GR : FnOk P w K mg base CX0 43 a2 d2 ["jar"] spRight) (bR : Binds K d2 ["jar"] []) (kR : PySem.W.keepIn K (.ref a2) = true) (mR : mg "_law_right" = some (.ref a2))
    (mr : mg "range" = none) (mx : mg "max" = none) (mn : mg "min" = none) (ml : mg "len" = none) : FnOk P w K mg base CX0 44 f fd ["script"] (spLaw K) := by
  refine F.ok scLaw (fun vs H Q E h => ?_) (fun cdv A outer s H vs Q E hr h => ?_)
  · obtain ⟨a, ns, rfl, _⟩ := h
    rfl
  obtain ⟨a, ns, rfl, hS, h63, q⟩ := h
  have GJ' := GJ.mono (show 1 ≤ 43 by decide)
  refine ⟨_, pss_cons (ps_for PassesOwn.never rfl (pi_range1 rfl mr (pa_cons (pe_callB (call_max2 rfl) rfl mx (by decide +kernel) (pa_cons pe_int (pa_cons (pe_callB (call_min2 rfl) rfl mn (by decide +kernel) (pa_cons pe_int (pa_cons (pe_callB call_len_seq rfl ml PySem.boot_len (pa_cons (pv 0) pa_nil)) pa_nil))) pa_nil))) pa_nil)) (pg_name (i := 1) scLaw.nd rfl (Or.inl rfl))
      (pss_one (ps_if (pt_not (pt_val (pe_call GR hr rfl mR kR bR .nil pass0 (pa_cons (pe_call GJ' hr rfl mJ kJ bJ .nil pass0 (pa_cons (pv 0) (pa_cons (pv 1) pa_nil))) pa_nil)))) (pss_one (ps_ret pe_bl)) pss_nil)))
    (pss_one (ps_ret pe_bl)), ?_⟩
  have hm : ∃ m : Int, m = (if (if ((((ns.map V.int).length : Nat) : Int)) < 6 then ((((ns.map V.int).length : Nat) : Int)) else 6) > 1 then (if ((((ns.map V.int).length : Nat) : Int)) < 6 then ((((ns.map V.int).length : Nat) : Int)) else 6) else 1) ∧ 0 ≤ m ∧ m ≤ 30 := by
    refine ⟨_, rfl, ?_, ?_⟩ <;> split <;> (try split) <;> omega
  obtain ⟨m, hm, m0, m30⟩ := hm
  refine ⟨_, rfl, a, _, rfl, .inl hS, _, _, rfl, _, _, rfl, m, congrArg (fun z => [V.int z]) hm.symm, by omega, by omega, ?_⟩
  refine for_range (lo := 0) (n := m.toNat) (fun i σ H' => (∃ x1, σ = [some (.ref a), x1]) ∧ SqL K H' a (ns.map V.int)) ⟨⟨_, rfl⟩, hS⟩ (fun i σ H0 hi p => ?turn) (fun σ H0 p => q _)
  obtain ⟨⟨x1, rfl⟩, hS0⟩ := p
  obtain ⟨kk, hkk⟩ : ∃ kk : Int, kk = 0 + (i : Int) := ⟨_, rfl⟩
  rw [← hkk]
  refine ⟨_, rfl, _, rfl, a, ns, kk, rfl, hS0, by rw [sizeLine_eq]; omega, by omega, by omega, fun j H1 hjn s1 hj1 => ?_⟩
  refine ⟨j, rfl, hj1, fun H' k => ⟨_, rfl, iteF ⟨⟨_, rfl⟩, (show Same H0 H' from fun b o e => k b o (ne_of_none e hjn) (s1 b o e)).seq hS0⟩⟩⟩
end
end Pa
namespace Pa
open PySem PySem.Spec PyProof.Rows L2 Ty
theorem fn_no {P : Program} {w : World} {K : PySem.W.Frag} {mg : Str → Option Value} {base : Heap} {k : Nat} {f : Addr} {fd : FuncData} {ps : List Str} : FnOk P w K mg base CX0 k f fd ps (fun _ _ _ _ => False) := ⟨fun _ _ _ _ h => h.elim, fun _ _ _ _ _ _ _ _ _ _ _ _ _ h => h.elim⟩
theorem all_mk {l : PySem.W.OpenLaw} {w : World} {K : PySem.W.Frag} {h : Heap} {mg : Str → Option Value} {fa f1 f2 f3 f4 f5 f6 f7 f8 f9 f10 f11 f12 f13 f14 f15 f16 f17 f18 f19 f20 f21 f22 f23 f24 f25 f26 C fC___init__ fC_ends fC_ends_anew fC_again_ends : Addr} (X : K.In h) (G : h.Ns mainGlobals mg) (hfa : mg "law" = some (.ref fa))
    {od1 an1 od2 an2 od3 an3 od4 an4 od5 an5 od6 an6 od7 an7 od8 an8 od9 an9 od10 an10 od11 an11 od12 an12 od13 an13 od14 an14 od15 an15 od16 an16 od17 an17 od18 an18 od19 an19 od20 an20 od21 an21 od22 an22 od23 an23 od24 an24 od25 an25 od26 an26 : Option Addr} {sl1 sl2 sl3 sl4 sl5 sl6 sl7 sl8 sl9 sl10 sl11 sl12 sl13 sl14 sl15 sl16 sl17 sl18 sl19 sl20 sl21 sl22 sl23 sl24 sl25 sl26 : Array (Option Value)} {oc1 kV1 dc1 pm1 cd1 ct1 oc2 kV2 dc2 pm2 cd2 ct2 oc3 kV3 dc3 pm3 cd3 ct3 oc4 kV4 dc4 pm4 cd4 ct4 oc5 kV5 dc5 pm5 cd5 ct5 oc6 kV6 dc6 pm6 cd6 ct6 oc7 kV7 dc7 pm7 cd7 ct7 oc8 kV8 dc8 pm8 cd8 ct8 oc9 kV9 dc9 pm9 cd9 ct9 oc10 kV10 dc10 pm10 cd10 ct10 oc11 kV11 dc11 pm11 cd11 ct11 oc12 kV12 dc12 pm12 cd12 ct12 oc13 kV13 dc13 pm13 cd13 ct13 oc14 kV14 dc14 pm14 cd14 ct14 oc15 kV15 dc15 pm15 cd15 ct15 oc16 kV16 dc16 pm16 cd16 ct16 oc17 kV17 dc17 pm17 cd17 ct17 oc18 kV18 dc18 pm18 cd18 ct18 oc19 kV19 dc19 pm19 cd19 ct19 oc20 kV20 dc20 pm20 cd20 ct20 oc21 kV21 dc21 pm21 cd21 ct21 oc22 kV22 dc22 pm22 cd22 ct22 oc23 kV23 dc23 pm23 cd23 ct23 oc24 kV24 dc24 pm24 cd24 ct24 oc25 kV25 dc25 pm25 cd25 ct25 oc26 kV26 dc26 pm26 cd26 ct26 : Value}
    {odC___init__ anC___init__ : Option Addr} {slC___init__ : Array (Option Value)} {ocC___init__ kVC___init__ dcC___init__ pmC___init__ cdC___init__ ctC___init__ : Value}
    {odC_ends anC_ends : Option Addr} {slC_ends : Array (Option Value)} {ocC_ends kVC_ends dcC_ends pmC_ends cdC_ends ctC_ends : Value}
    {odC_ends_anew anC_ends_anew : Option Addr} {slC_ends_anew : Array (Option Value)} {ocC_ends_anew kVC_ends_anew dcC_ends_anew pmC_ends_anew cdC_ends_anew ctC_ends_anew : Value}
    {odC_again_ends anC_again_ends : Option Addr} {slC_again_ends : Array (Option Value)} {ocC_again_ends kVC_again_ends dcC_again_ends pmC_again_ends cdC_again_ends ctC_again_ends : Value}
    (a1 : PySem.W.nsIn K mainGlobals "parts_told" = some (some (.ref f1)))
    (l1 : K.lookup f1 = some ⟨oc1, od1, .func (PySem.W.fnOf "parts_told" "parts_told" (defArgs sTold) (defBody sTold) (defScope sTold) .none kV1 dc1 pm1 an1 cd1 ct1), sl1⟩)
    (c1 : PySem.W.codeIn K cd1 "parts_told" = true)
    (k1 : PySem.W.keepIn K (.ref f1) = true)
    (a2 : PySem.W.nsIn K mainGlobals "spells" = some (some (.ref f2)))
    (l2 : K.lookup f2 = some ⟨oc2, od2, .func (PySem.W.fnOf "spells" "spells" (defArgs sSpells) (defBody sSpells) (defScope sSpells) .none kV2 dc2 pm2 an2 cd2 ct2), sl2⟩)
    (c2 : PySem.W.codeIn K cd2 "spells" = true)
    (k2 : PySem.W.keepIn K (.ref f2) = true)
    (a3 : PySem.W.nsIn K mainGlobals "spells_none" = some (some (.ref f3)))
    (l3 : K.lookup f3 = some ⟨oc3, od3, .func (PySem.W.fnOf "spells_none" "spells_none" (defArgs sNone) (defBody sNone) (defScope sNone) .none kV3 dc3 pm3 an3 cd3 ct3), sl3⟩)
    (c3 : PySem.W.codeIn K cd3 "spells_none" = true)
    (k3 : PySem.W.keepIn K (.ref f3) = true)
    (a4 : PySem.W.nsIn K mainGlobals "lesser_text" = some (some (.ref f4)))
    (l4 : K.lookup f4 = some ⟨oc4, od4, .func (PySem.W.fnOf "lesser_text" "lesser_text" (defArgs sLesser) (defBody sLesser) (defScope sLesser) .none kV4 dc4 pm4 an4 cd4 ct4), sl4⟩)
    (c4 : PySem.W.codeIn K cd4 "lesser_text" = true)
    (k4 : PySem.W.keepIn K (.ref f4) = true)
    (a5 : PySem.W.nsIn K mainGlobals "two_texts" = some (some (.ref f5)))
    (l5 : K.lookup f5 = some ⟨oc5, od5, .func (PySem.W.fnOf "two_texts" "two_texts" (defArgs sTwo) (defBody sTwo) (defScope sTwo) .none kV5 dc5 pm5 an5 cd5 ct5), sl5⟩)
    (c5 : PySem.W.codeIn K cd5 "two_texts" = true)
    (k5 : PySem.W.keepIn K (.ref f5) = true)
    (a6 : PySem.W.nsIn K mainGlobals "only_text" = some (some (.ref f6)))
    (l6 : K.lookup f6 = some ⟨oc6, od6, .func (PySem.W.fnOf "only_text" "only_text" (defArgs sOnly) (defBody sOnly) (defScope sOnly) .none kV6 dc6 pm6 an6 cd6 ct6), sl6⟩)
    (c6 : PySem.W.codeIn K cd6 "only_text" = true)
    (k6 : PySem.W.keepIn K (.ref f6) = true)
    (a7 : PySem.W.nsIn K mainGlobals "least_spelled" = some (some (.ref f7)))
    (l7 : K.lookup f7 = some ⟨oc7, od7, .func (PySem.W.fnOf "least_spelled" "least_spelled" (defArgs sLeast) (defBody sLeast) (defScope sLeast) .none kV7 dc7 pm7 an7 cd7 ct7), sl7⟩)
    (c7 : PySem.W.codeIn K cd7 "least_spelled" = true)
    (k7 : PySem.W.keepIn K (.ref f7) = true)
    (a8 : PySem.W.nsIn K mainGlobals "_law_jar" = some (some (.ref f8)))
    (l8 : K.lookup f8 = some ⟨oc8, od8, .func (PySem.W.fnOf "_law_jar" "_law_jar" (defArgs sJar) (defBody sJar) (defScope sJar) .none kV8 dc8 pm8 an8 cd8 ct8), sl8⟩)
    (c8 : PySem.W.codeIn K cd8 "_law_jar" = true)
    (k8 : PySem.W.keepIn K (.ref f8) = true)
    (a9 : PySem.W.nsIn K mainGlobals "_law_dip" = some (some (.ref f9)))
    (l9 : K.lookup f9 = some ⟨oc9, od9, .func (PySem.W.fnOf "_law_dip" "_law_dip" (defArgs sDip) (defBody sDip) (defScope sDip) .none kV9 dc9 pm9 an9 cd9 ct9), sl9⟩)
    (c9 : PySem.W.codeIn K cd9 "_law_dip" = true)
    (k9 : PySem.W.keepIn K (.ref f9) = true)
    (a10 : PySem.W.nsIn K mainGlobals "_law_all_signs" = some (some (.ref f10)))
    (l10 : K.lookup f10 = some ⟨oc10, od10, .func (PySem.W.fnOf "_law_all_signs" "_law_all_signs" (defArgs sAll) (defBody sAll) (defScope sAll) .none kV10 dc10 pm10 an10 cd10 ct10), sl10⟩)
    (c10 : PySem.W.codeIn K cd10 "_law_all_signs" = true)
    (k10 : PySem.W.keepIn K (.ref f10) = true)
    (a11 : PySem.W.nsIn K mainGlobals "_law_alike" = some (some (.ref f11)))
    (l11 : K.lookup f11 = some ⟨oc11, od11, .func (PySem.W.fnOf "_law_alike" "_law_alike" (defArgs sAlike) (defBody sAlike) (defScope sAlike) .none kV11 dc11 pm11 an11 cd11 ct11), sl11⟩)
    (c11 : PySem.W.codeIn K cd11 "_law_alike" = true)
    (k11 : PySem.W.keepIn K (.ref f11) = true)
    (a12 : PySem.W.nsIn K mainGlobals "_law_signs_of" = some (some (.ref f12)))
    (l12 : K.lookup f12 = some ⟨oc12, od12, .func (PySem.W.fnOf "_law_signs_of" "_law_signs_of" (defArgs sOf) (defBody sOf) (defScope sOf) .none kV12 dc12 pm12 an12 cd12 ct12), sl12⟩)
    (c12 : PySem.W.codeIn K cd12 "_law_signs_of" = true)
    (k12 : PySem.W.keepIn K (.ref f12) = true)
    (a13 : PySem.W.nsIn K mainGlobals "_law_mould" = some (some (.ref f13)))
    (l13 : K.lookup f13 = some ⟨oc13, od13, .func (PySem.W.fnOf "_law_mould" "_law_mould" (defArgs sMould) (defBody sMould) (defScope sMould) .none kV13 dc13 pm13 an13 cd13 ct13), sl13⟩)
    (c13 : PySem.W.codeIn K cd13 "_law_mould" = true)
    (k13 : PySem.W.keepIn K (.ref f13) = true)
    (a14 : PySem.W.nsIn K mainGlobals "_law_opened" = some (some (.ref f14)))
    (l14 : K.lookup f14 = some ⟨oc14, od14, .func (PySem.W.fnOf "_law_opened" "_law_opened" (defArgs sOpened) (defBody sOpened) (defScope sOpened) .none kV14 dc14 pm14 an14 cd14 ct14), sl14⟩)
    (c14 : PySem.W.codeIn K cd14 "_law_opened" = true)
    (k14 : PySem.W.keepIn K (.ref f14) = true)
    (a15 : PySem.W.nsIn K mainGlobals "_law_led" = some (some (.ref f15)))
    (l15 : K.lookup f15 = some ⟨oc15, od15, .func (PySem.W.fnOf "_law_led" "_law_led" (defArgs sLed) (defBody sLed) (defScope sLed) .none kV15 dc15 pm15 an15 cd15 ct15), sl15⟩)
    (c15 : PySem.W.codeIn K cd15 "_law_led" = true)
    (k15 : PySem.W.keepIn K (.ref f15) = true)
    (a16 : PySem.W.nsIn K mainGlobals "_law_takes" = some (some (.ref f16)))
    (l16 : K.lookup f16 = some ⟨oc16, od16, .func (PySem.W.fnOf "_law_takes" "_law_takes" (defArgs sTakes) (defBody sTakes) (defScope sTakes) .none kV16 dc16 pm16 an16 cd16 ct16), sl16⟩)
    (c16 : PySem.W.codeIn K cd16 "_law_takes" = true)
    (k16 : PySem.W.keepIn K (.ref f16) = true)
    (a17 : PySem.W.nsIn K mainGlobals "_law_pool" = some (some (.ref f17)))
    (l17 : K.lookup f17 = some ⟨oc17, od17, .func (PySem.W.fnOf "_law_pool" "_law_pool" (defArgs sPool) (defBody sPool) (defScope sPool) .none kV17 dc17 pm17 an17 cd17 ct17), sl17⟩)
    (c17 : PySem.W.codeIn K cd17 "_law_pool" = true)
    (k17 : PySem.W.keepIn K (.ref f17) = true)
    (a18 : PySem.W.nsIn K mainGlobals "_law_text" = some (some (.ref f18)))
    (l18 : K.lookup f18 = some ⟨oc18, od18, .func (PySem.W.fnOf "_law_text" "_law_text" (defArgs sTextD) (defBody sTextD) (defScope sTextD) .none kV18 dc18 pm18 an18 cd18 ct18), sl18⟩)
    (c18 : PySem.W.codeIn K cd18 "_law_text" = true)
    (k18 : PySem.W.keepIn K (.ref f18) = true)
    (a19 : PySem.W.nsIn K mainGlobals "_law_along" = some (some (.ref f19)))
    (l19 : K.lookup f19 = some ⟨oc19, od19, .func (PySem.W.fnOf "_law_along" "_law_along" (defArgs sAlong) (defBody sAlong) (defScope sAlong) .none kV19 dc19 pm19 an19 cd19 ct19), sl19⟩)
    (c19 : PySem.W.codeIn K cd19 "_law_along" = true)
    (k19 : PySem.W.keepIn K (.ref f19) = true)
    (a20 : PySem.W.nsIn K mainGlobals "_law_longer" = some (some (.ref f20)))
    (l20 : K.lookup f20 = some ⟨oc20, od20, .func (PySem.W.fnOf "_law_longer" "_law_longer" (defArgs sLonger) (defBody sLonger) (defScope sLonger) .none kV20 dc20 pm20 an20 cd20 ct20), sl20⟩)
    (c20 : PySem.W.codeIn K cd20 "_law_longer" = true)
    (k20 : PySem.W.keepIn K (.ref f20) = true)
    (a21 : PySem.W.nsIn K mainGlobals "_law_lesser" = some (some (.ref f21)))
    (l21 : K.lookup f21 = some ⟨oc21, od21, .func (PySem.W.fnOf "_law_lesser" "_law_lesser" (defArgs sLLess) (defBody sLLess) (defScope sLLess) .none kV21 dc21 pm21 an21 cd21 ct21), sl21⟩)
    (c21 : PySem.W.codeIn K cd21 "_law_lesser" = true)
    (k21 : PySem.W.keepIn K (.ref f21) = true)
    (a22 : PySem.W.nsIn K mainGlobals "_law_only" = some (some (.ref f22)))
    (l22 : K.lookup f22 = some ⟨oc22, od22, .func (PySem.W.fnOf "_law_only" "_law_only" (defArgs sLOnly) (defBody sLOnly) (defScope sLOnly) .none kV22 dc22 pm22 an22 cd22 ct22), sl22⟩)
    (c22 : PySem.W.codeIn K cd22 "_law_only" = true)
    (k22 : PySem.W.keepIn K (.ref f22) = true)
    (a23 : PySem.W.nsIn K mainGlobals "_law_agains" = some (some (.ref f23)))
    (l23 : K.lookup f23 = some ⟨oc23, od23, .func (PySem.W.fnOf "_law_agains" "_law_agains" (defArgs sAgains) (defBody sAgains) (defScope sAgains) .none kV23 dc23 pm23 an23 cd23 ct23), sl23⟩)
    (c23 : PySem.W.codeIn K cd23 "_law_agains" = true)
    (k23 : PySem.W.keepIn K (.ref f23) = true)
    (a24 : PySem.W.nsIn K mainGlobals "_law_around" = some (some (.ref f24)))
    (l24 : K.lookup f24 = some ⟨oc24, od24, .func (PySem.W.fnOf "_law_around" "_law_around" (defArgs sAround) (defBody sAround) (defScope sAround) .none kV24 dc24 pm24 an24 cd24 ct24), sl24⟩)
    (c24 : PySem.W.codeIn K cd24 "_law_around" = true)
    (k24 : PySem.W.keepIn K (.ref f24) = true)
    (a25 : PySem.W.nsIn K mainGlobals "_law_right" = some (some (.ref f25)))
    (l25 : K.lookup f25 = some ⟨oc25, od25, .func (PySem.W.fnOf "_law_right" "_law_right" (defArgs sRight) (defBody sRight) (defScope sRight) .none kV25 dc25 pm25 an25 cd25 ct25), sl25⟩)
    (c25 : PySem.W.codeIn K cd25 "_law_right" = true)
    (k25 : PySem.W.keepIn K (.ref f25) = true)
    (a26 : PySem.W.nsIn K mainGlobals "law" = some (some (.ref f26)))
    (l26 : K.lookup f26 = some ⟨oc26, od26, .func (PySem.W.fnOf "law" "law" (defArgs sLaw) (defBody sLaw) (defScope sLaw) .none kV26 dc26 pm26 an26 cd26 ct26), sl26⟩)
    (c26 : PySem.W.codeIn K cd26 "law" = true)
    (k26 : PySem.W.keepIn K (.ref f26) = true)
    (akC : PySem.W.nsIn K mainGlobals "Spelling" = some (some (.ref C)))
    (pgC : PySem.W.plainGet K C Str.empty = true)
    (hdC : PySem.W.hasDictIn K C = true)
    (poC : PySem.W.plainOver K C = true)
    (stC : PySem.W.findIn K (.ref C) "__setattr__" = some (some (.builtin "object.__setattr__")))
    (mkC : PySem.W.makesIn K C = true)
    (kcC : PySem.W.keepIn K (.ref C) = true)
    (naC_parts : PySem.W.findIn K (.ref C) "parts" = some none)
    (naC_text : PySem.W.findIn K (.ref C) "text" = some none)
    (naC_known : PySem.W.findIn K (.ref C) "known" = some none)
    (aC___init__ : PySem.W.findIn K (.ref C) "__init__" = some (some (.ref fC___init__)))
    (iC___init__ : PySem.W.isFn K (.ref fC___init__) = true)
    (lC___init__ : K.lookup fC___init__ = some ⟨ocC___init__, odC___init__, .func (PySem.W.fnOf "__init__" "Spelling.__init__" (defArgs sInit) (defBody sInit) (defScope sInit) .none kVC___init__ dcC___init__ pmC___init__ anC___init__ cdC___init__ ctC___init__), slC___init__⟩)
    (cC___init__ : PySem.W.codeIn K cdC___init__ "Spelling.__init__" = true)
    (kC___init__ : PySem.W.keepIn K (.ref fC___init__) = true)
    (aC_ends : PySem.W.findIn K (.ref C) "ends" = some (some (.ref fC_ends)))
    (iC_ends : PySem.W.isFn K (.ref fC_ends) = true)
    (lC_ends : K.lookup fC_ends = some ⟨ocC_ends, odC_ends, .func (PySem.W.fnOf "ends" "Spelling.ends" (defArgs sEnds) (defBody sEnds) (defScope sEnds) .none kVC_ends dcC_ends pmC_ends anC_ends cdC_ends ctC_ends), slC_ends⟩)
    (cC_ends : PySem.W.codeIn K cdC_ends "Spelling.ends" = true)
    (kC_ends : PySem.W.keepIn K (.ref fC_ends) = true)
    (aC_ends_anew : PySem.W.findIn K (.ref C) "ends_anew" = some (some (.ref fC_ends_anew)))
    (iC_ends_anew : PySem.W.isFn K (.ref fC_ends_anew) = true)
    (lC_ends_anew : K.lookup fC_ends_anew = some ⟨ocC_ends_anew, odC_ends_anew, .func (PySem.W.fnOf "ends_anew" "Spelling.ends_anew" (defArgs sAnew) (defBody sAnew) (defScope sAnew) .none kVC_ends_anew dcC_ends_anew pmC_ends_anew anC_ends_anew cdC_ends_anew ctC_ends_anew), slC_ends_anew⟩)
    (cC_ends_anew : PySem.W.codeIn K cdC_ends_anew "Spelling.ends_anew" = true)
    (kC_ends_anew : PySem.W.keepIn K (.ref fC_ends_anew) = true)
    (aC_again_ends : PySem.W.findIn K (.ref C) "again_ends" = some (some (.ref fC_again_ends)))
    (iC_again_ends : PySem.W.isFn K (.ref fC_again_ends) = true)
    (lC_again_ends : K.lookup fC_again_ends = some ⟨ocC_again_ends, odC_again_ends, .func (PySem.W.fnOf "again_ends" "Spelling.again_ends" (defArgs sAgain) (defBody sAgain) (defScope sAgain) .none kVC_again_ends dcC_again_ends pmC_again_ends anC_again_ends cdC_again_ends ctC_again_ends), slC_again_ends⟩)
    (cC_again_ends : PySem.W.codeIn K cdC_again_ends "Spelling.again_ends" = true)
    (kC_again_ends : PySem.W.keepIn K (.ref fC_again_ends) = true)
    (z_isinstance : PySem.W.nsIn K mainGlobals "isinstance" = some none)
    (z_str : PySem.W.nsIn K mainGlobals "str" = some none)
    (z_all : PySem.W.nsIn K mainGlobals "all" = some none)
    (z_tuple : PySem.W.nsIn K mainGlobals "tuple" = some none)
    (z_len : PySem.W.nsIn K mainGlobals "len" = some none)
    (z_max : PySem.W.nsIn K mainGlobals "max" = some none)
    (z_int : PySem.W.nsIn K mainGlobals "int" = some none)
    (z_range : PySem.W.nsIn K mainGlobals "range" = some none)
    (z_list : PySem.W.nsIn K mainGlobals "list" = some none)
    (z_bool : PySem.W.nsIn K mainGlobals "bool" = some none)
    (z_min : PySem.W.nsIn K mainGlobals "min" = some none)
    (z_sorted : PySem.W.nsIn K mainGlobals "sorted" = some none)
    (z_set : PySem.W.nsIn K mainGlobals "set" = some none)
    (z_sum : PySem.W.nsIn K mainGlobals "sum" = some none)
    : ∃ fd : FuncData, (∀ (s : Shared) (v : Value), BindsTo s fd ⟨[v], []⟩ [("script", v)]) ∧ ∀ base : Heap, K.In base → base.Ns mainGlobals mg → FnOk l.prog w K mg base CX0 44 fa fd ["script"] (spLaw K) := by
  have e := hfa.symm.trans (PySem.W.mg_of X G a26)
  cases e
  have F1 := fun_mk (st := sTold) l1 c1 k1
  have b1 := F1.binds (ps := ["pattern"]) fun _ _ _ _ _ _ us hl => match us, hl with | [_], _ => rfl
  have m1 := PySem.W.mg_of X G a1
  have F2 := fun_mk (st := sSpells) l2 c2 k2
  have b2 := F2.binds (ps := ["pattern", "text"]) fun _ _ _ _ _ _ us hl => match us, hl with | [_, _], _ => rfl
  have m2 := PySem.W.mg_of X G a2
  have F3 := fun_mk (st := sNone) l3 c3 k3
  have b3 := F3.binds (ps := ["pattern"]) fun _ _ _ _ _ _ us hl => match us, hl with | [_], _ => rfl
  have m3 := PySem.W.mg_of X G a3
  have F4 := fun_mk (st := sLesser) l4 c4 k4
  have b4 := F4.binds (ps := ["one", "other"]) fun _ _ _ _ _ _ us hl => match us, hl with | [_, _], _ => rfl
  have m4 := PySem.W.mg_of X G a4
  have F5 := fun_mk (st := sTwo) l5 c5 k5
  have b5 := F5.binds (ps := ["pattern"]) fun _ _ _ _ _ _ us hl => match us, hl with | [_], _ => rfl
  have m5 := PySem.W.mg_of X G a5
  have F6 := fun_mk (st := sOnly) l6 c6 k6
  have b6 := F6.binds (ps := ["pattern"]) fun _ _ _ _ _ _ us hl => match us, hl with | [_], _ => rfl
  have m6 := PySem.W.mg_of X G a6
  have F7 := fun_mk (st := sLeast) l7 c7 k7
  have b7 := F7.binds (ps := ["pattern"]) fun _ _ _ _ _ _ us hl => match us, hl with | [_], _ => rfl
  have m7 := PySem.W.mg_of X G a7
  have F8 := fun_mk (st := sJar) l8 c8 k8
  have b8 := F8.binds (ps := ["script", "k"]) fun _ _ _ _ _ _ us hl => match us, hl with | [_, _], _ => rfl
  have m8 := PySem.W.mg_of X G a8
  have F9 := fun_mk (st := sDip) l9 c9 k9
  have b9 := F9.binds (ps := ["jar", "many"]) fun _ _ _ _ _ _ us hl => match us, hl with | [_, _], _ => rfl
  have m9 := PySem.W.mg_of X G a9
  have F10 := fun_mk (st := sAll) l10 c10 k10
  have b10 := F10.binds (ps := []) fun _ _ _ _ _ _ us hl => match us, hl with | [], _ => rfl
  have m10 := PySem.W.mg_of X G a10
  have F11 := fun_mk (st := sAlike) l11 c11 k11
  have b11 := F11.binds (ps := ["found", "owed"]) fun _ _ _ _ _ _ us hl => match us, hl with | [_, _], _ => rfl
  have m11 := PySem.W.mg_of X G a11
  have F12 := fun_mk (st := sOf) l12 c12 k12
  have b12 := F12.binds (ps := ["jar", "plain"]) fun _ _ _ _ _ _ us hl => match us, hl with | [_, _], _ => rfl
  have m12 := PySem.W.mg_of X G a12
  have F13 := fun_mk (st := sMould) l13 c13 k13
  have b13 := F13.binds (ps := ["jar", "plain", "deep"]) fun _ _ _ _ _ _ us hl => match us, hl with | [_, _, _], _ => rfl
  have m13 := PySem.W.mg_of X G a13
  have F14 := fun_mk (st := sOpened) l14 c14 k14
  have b14 := F14.binds (ps := ["owes"]) fun _ _ _ _ _ _ us hl => match us, hl with | [_], _ => rfl
  have m14 := PySem.W.mg_of X G a14
  have F15 := fun_mk (st := sLed) l15 c15 k15
  have b15 := F15.binds (ps := ["owes", "line"]) fun _ _ _ _ _ _ us hl => match us, hl with | [_, _], _ => rfl
  have m15 := PySem.W.mg_of X G a15
  have F16 := fun_mk (st := sTakes) l16 c16 k16
  have b16 := F16.binds (ps := ["mould", "line"]) fun _ _ _ _ _ _ us hl => match us, hl with | [_, _], _ => rfl
  have m16 := PySem.W.mg_of X G a16
  have F17 := fun_mk (st := sPool) l17 c17 k17
  have b17 := F17.binds (ps := ["rack"]) fun _ _ _ _ _ _ us hl => match us, hl with | [_], _ => rfl
  have m17 := PySem.W.mg_of X G a17
  have F18 := fun_mk (st := sTextD) l18 c18 k18
  have b18 := F18.binds (ps := ["jar", "rack", "most"]) fun _ _ _ _ _ _ us hl => match us, hl with | [_, _, _], _ => rfl
  have m18 := PySem.W.mg_of X G a18
  have F19 := fun_mk (st := sAlong) l19 c19 k19
  have b19 := F19.binds (ps := ["jar", "mould"]) fun _ _ _ _ _ _ us hl => match us, hl with | [_, _], _ => rfl
  have m19 := PySem.W.mg_of X G a19
  have F20 := fun_mk (st := sLonger) l20 c20 k20
  have b20 := F20.binds (ps := ["level", "pool"]) fun _ _ _ _ _ _ us hl => match us, hl with | [_, _], _ => rfl
  have m20 := PySem.W.mg_of X G a20
  have F21 := fun_mk (st := sLLess) l21 c21 k21
  have b21 := F21.binds (ps := ["mould", "pool", "line"]) fun _ _ _ _ _ _ us hl => match us, hl with | [_, _, _], _ => rfl
  have m21 := PySem.W.mg_of X G a21
  have F22 := fun_mk (st := sLOnly) l22 c22 k22
  have b22 := F22.binds (ps := ["mould"]) fun _ _ _ _ _ _ us hl => match us, hl with | [_], _ => rfl
  have m22 := PySem.W.mg_of X G a22
  have F23 := fun_mk (st := sAgains) l23 c23 k23
  have b23 := F23.binds (ps := ["mould"]) fun _ _ _ _ _ _ us hl => match us, hl with | [_], _ => rfl
  have m23 := PySem.W.mg_of X G a23
  have F24 := fun_mk (st := sAround) l24 c24 k24
  have b24 := F24.binds (ps := ["jar", "mould"]) fun _ _ _ _ _ _ us hl => match us, hl with | [_, _], _ => rfl
  have m24 := PySem.W.mg_of X G a24
  have F25 := fun_mk (st := sRight) l25 c25 k25
  have b25 := F25.binds (ps := ["jar"]) fun _ _ _ _ _ _ us hl => match us, hl with | [_], _ => rfl
  have m25 := PySem.W.mg_of X G a25
  have F26 := fun_mk (st := sLaw) l26 c26 k26
  have mC := PySem.W.mg_of X G akC
  have FC___init__ := fun_mk (st := sInit) lC___init__ cC___init__ kC___init__
  have bC___init__ := FC___init__.binds (ps := ["self", "pattern", "text"]) fun _ _ _ _ _ _ us hl => match us, hl with | [_, _, _], _ => rfl
  have FC_ends := fun_mk (st := sEnds) lC_ends cC_ends kC_ends
  have bC_ends := FC_ends.binds (ps := ["self", "part", "begun"]) fun _ _ _ _ _ _ us hl => match us, hl with | [_, _, _], _ => rfl
  have FC_ends_anew := fun_mk (st := sAnew) lC_ends_anew cC_ends_anew kC_ends_anew
  have bC_ends_anew := FC_ends_anew.binds (ps := ["self", "part", "begun"]) fun _ _ _ _ _ _ us hl => match us, hl with | [_, _, _], _ => rfl
  have FC_again_ends := fun_mk (st := sAgain) lC_again_ends cC_again_ends kC_again_ends
  have bC_again_ends := FC_again_ends.binds (ps := ["self", "part", "begun"]) fun _ _ _ _ _ _ us hl => match us, hl with | [_, _, _], _ => rfl
  have y_isinstance := PySem.W.mg_none_of X G z_isinstance
  have y_str := PySem.W.mg_none_of X G z_str
  have y_all := PySem.W.mg_none_of X G z_all
  have y_tuple := PySem.W.mg_none_of X G z_tuple
  have y_len := PySem.W.mg_none_of X G z_len
  have y_max := PySem.W.mg_none_of X G z_max
  have y_int := PySem.W.mg_none_of X G z_int
  have y_range := PySem.W.mg_none_of X G z_range
  have y_list := PySem.W.mg_none_of X G z_list
  have y_bool := PySem.W.mg_none_of X G z_bool
  have y_min := PySem.W.mg_none_of X G z_min
  have y_sorted := PySem.W.mg_none_of X G z_sorted
  have y_set := PySem.W.mg_none_of X G z_set
  have y_sum := PySem.W.mg_none_of X G z_sum
  refine ⟨PySem.W.fnOf "law" "law" (defArgs sLaw) (defBody sLaw) (defScope sLaw) .none kV26 dc26 pm26 an26 cd26 ct26, fun s v => .of_eq rfl, fun base _ _ => ?_⟩
  have T : Txt K C fC_ends fC_ends_anew fC_again_ends := ⟨⟨pgC, hdC, poC, stC⟩, naC_parts, naC_text, naC_known, ⟨aC_ends, iC_ends, kC_ends⟩, ⟨aC_ends_anew, iC_ends_anew, kC_ends_anew⟩, ⟨aC_again_ends, iC_again_ends, kC_again_ends⟩⟩
  have M : Mk K C fC___init__ := ⟨mkC, aC___init__, iC___init__, kcC⟩
  have O1 := ok_told (P := l.prog) (w := w) (mg := mg) (base := base) F1 y_len y_list y_range
  have OI := ok_init FC___init__ T O1 b1 k1 m1
  have OE := ends_all (P := l.prog) (w := w) (base := base) FC_ends FC_ends_anew FC_again_ends T bC_ends bC_ends_anew bC_again_ends y_len y_sorted y_set 13
  have O2 := ok_spells (D := 13) (by decide) F2 T M mC OI bC___init__ OE bC_ends y_len
  have O3 := ok_none F3 O2 b2 k2 m2
  have O4 := ok_lesser (P := l.prog) (w := w) (base := base) F4 y_len
  have two : ∀ d, FnOk l.prog w K mg base CX0 (d + 1) f5 _ ["pattern"] (spTwo d) := fun d => by
    induction d with
    | zero => exact two_left
    | succ d ih => exact ok_two F5 ih b5 m5 y_int y_list y_set y_sorted
  have O6 := ok_only F6 (two 13) b5 k5 m5 y_len
  have least : ∀ d, FnOk l.prog w K mg base CX0 (d + 1) f7 _ ["pattern"] (spLeast d) := fun d => by
    induction d with
    | zero => exact least_left
    | succ d ih => exact ok_least F7 ih b7 m7 O4 b4 k4 m4
  have O8 := ok_jar (P := l.prog) (w := w) (base := base) F8 y_len y_max
  have O9 := ok_dip (P := l.prog) (w := w) (mg := mg) (base := base) F9
  have O10 := ok_all (P := l.prog) (w := w) (mg := mg) (base := base) F10
  have A1 := ok_alike (P := l.prog) (w := w) (mg := mg) (base := base) (sp' := spAlikeL) F11 (fn_no (k := 1)) b11 m11 y_isinstance y_str y_int y_bool y_tuple y_list y_len y_all y_range (.inl rfl)
  have A2 := ok_alike (sp' := spAlike) F11 A1 b11 m11 y_isinstance y_str y_int y_bool y_tuple y_list y_len y_all y_range (.inr ⟨rfl, rfl⟩)
  have O12 := ok_of F12 O9 b9 k9 m9 O10 b10 k10 m10 y_int y_sorted y_set y_range y_len
  have mould : ∀ n, FnOk l.prog w K mg base CX0 (n + 2) f13 _ ["jar", "plain", "deep"] (spMould n) := fun n => by
    induction n with
    | zero => exact mould_left
    | succ n ih => exact ok_mould F13 ih b13 m13 O9 b9 k9 m9 O12 b12 k12 m12
  have O14 := ok_opened (P := l.prog) (w := w) (mg := mg) (base := base) F14
  have O15 := ok_led F15 O14 b14 k14 m14
  have O16 := ok_takes F16 O15 b15 k15 m15 O14 b14 k14 m14
  have O17 := ok_pool F17 O10 b10 k10 m10 y_set y_sorted
  have O18 := ok_text F18 O9 b9 k9 m9 O17 b17 k17 m17 y_len y_range
  have along : ∀ d, FnOk l.prog w K mg base CX0 (d + 1) f19 _ ["jar", "mould"] (spAlong d) := fun d => by
    induction d with
    | zero => exact along_left
    | succ d ih => exact ok_along F19 ih b19 m19 O9 b9 k9 m9 y_len y_range
  have O20 := ok_longer F20 O15 b15 k15 m15
  have O21 := ok_lless F21 O20 b20 k20 m20 O14 b14 k14 m14 y_len y_range
  have lonly : ∀ d, FnOk l.prog w K mg base CX0 (d + 1) f22 _ ["mould"] (spLOnly d) := fun d => by
    induction d with
    | zero => exact lonly_left
    | succ d ih => exact ok_lonly F22 ih b22 m22 y_len
  have agains : ∀ d, FnOk l.prog w K mg base CX0 (d + 1) f23 _ ["mould"] (spAgains d) := fun d => by
    induction d with
    | zero => exact agains_left
    | succ d ih => exact ok_agains F23 ih b23 m23 y_int y_sum
  have O24 := ok_around (d := 13) F24 O9 b9 k9 m9 (agains 13) b23 k23 m23
  have O25 := ok_right F25 (mould 5) b13 k13 m13 O9 b9 k9 m9 O24 b24 k24 m24 O18 b18 k18 m18 (along 13) b19 k19 m19 O2 b2 k2 m2 O16 b16 k16 m16 O3 b3 k3 m3 O6 b6 k6 m6 (lonly 13) b22 k22 m22 A2 b11 k11 m11 (least 13) b7 k7 m7 O17 b17 k17 m17 O21 b21 k21 m21 y_isinstance y_bool y_str y_range
  exact ok_law F26 O8 b8 k8 m8 O25 b25 k25 m25 y_range y_max y_min y_len
theorem walk {l : PySem.W.OpenLaw} {q : Program} {loose : List Str} {XP : (Str → Option Value) → Heap → Prop} {YP : World → Heap → Prop} {d : DefRec} {K : Params → PySem.W.Frag} (hn : l.most = some 63) (hdf : d.params.defaults = [])
    (hY : ∀ (w : World) (h : Heap), YP w h → (K w.params).In h)
    (F : ∀ (w : World) (mg : Str → Option Value) (fa : Addr) (h : Heap), (K w.params).In h → h.Ns mainGlobals mg → mg d.name = some (.ref fa) →
      ∃ fd : FuncData, (∀ (s : Shared) (u : Value), BindsTo s fd ⟨[u], []⟩ [("script", u)]) ∧ ∀ base : Heap, (K w.params).In base → base.Ns mainGlobals mg → FnOk l.prog w (K w.params) mg base CX0 44 fa fd ["script"] (spLaw (K w.params))) :
    PySem.W.WalkO q loose XP YP l.row.toRowW d [] (fun f vs => PySem.call f vs) :=
  L2.walk_of (n := 63) (k := 44) (x := "script") (CX := fun _ => CX0) (sp := fun w => spLaw (K w.params)) hn (by decide) hdf ⟨rfl, by decide, by decide⟩ hY F (fun _ _ a ns hl _ hS => ⟨a, ns, rfl, hS, hl, fun _ => rfl⟩) fun _ _ _ _ _ z => z
end Pa
open PySem PySem.W PyProof.Rows
set_option maxRecDepth 100000 in
set_option maxHeartbeats 0 in
theorem PySem.Challenge.cw_tongueyard_k01_what_patterns_spell_holds : PySem.Challenge.rw_tongueyard_k01_what_patterns_spell.Holds := by
  w_on; o_law; k_head; (case hw => w_witness2)
  k_fill
  refine Pa.walk (l := PySem.Challenge.rw_tongueyard_k01_what_patterns_spell) rfl rfl (fun w h Y => PySem.W.kIn_of Y) ?F
  case F =>
    intro w mg fa h KX G hmg
    refine' Pa.all_mk KX G hmg ?a1 ?l1 ?c1 ?k1 ?a2 ?l2 ?c2 ?k2 ?a3 ?l3 ?c3 ?k3 ?a4 ?l4 ?c4 ?k4 ?a5 ?l5 ?c5 ?k5 ?a6 ?l6 ?c6 ?k6 ?a7 ?l7 ?c7 ?k7 ?a8 ?l8 ?c8 ?k8 ?a9 ?l9 ?c9 ?k9 ?a10 ?l10 ?c10 ?k10 ?a11 ?l11 ?c11 ?k11 ?a12 ?l12 ?c12 ?k12 ?a13 ?l13 ?c13 ?k13 ?a14 ?l14 ?c14 ?k14 ?a15 ?l15 ?c15 ?k15 ?a16 ?l16 ?c16 ?k16 ?a17 ?l17 ?c17 ?k17 ?a18 ?l18 ?c18 ?k18 ?a19 ?l19 ?c19 ?k19 ?a20 ?l20 ?c20 ?k20 ?a21 ?l21 ?c21 ?k21 ?a22 ?l22 ?c22 ?k22 ?a23 ?l23 ?c23 ?k23 ?a24 ?l24 ?c24 ?k24 ?a25 ?l25 ?c25 ?k25 ?a26 ?l26 ?c26 ?k26 ?akC ?pgC ?hdC ?poC ?stC ?mkC ?kcC ?naC_parts ?naC_text ?naC_known ?aC___init__ ?iC___init__ ?lC___init__ ?cC___init__ ?kC___init__ ?aC_ends ?iC_ends ?lC_ends ?cC_ends ?kC_ends ?aC_ends_anew ?iC_ends_anew ?lC_ends_anew ?cC_ends_anew ?kC_ends_anew ?aC_again_ends ?iC_again_ends ?lC_again_ends ?cC_again_ends ?kC_again_ends ?z_isinstance ?z_str ?z_all ?z_tuple ?z_len ?z_max ?z_int ?z_range ?z_list ?z_bool ?z_min ?z_sorted ?z_set ?z_sum
    (case a1 => k_is)
    (case l1 => k_is)
    (case c1 => k_is)
    (case k1 => k_is)
    (case a2 => k_is)
    (case l2 => k_is)
    (case c2 => k_is)
    (case k2 => k_is)
    (case a3 => k_is)
    (case l3 => k_is)
    (case c3 => k_is)
    (case k3 => k_is)
    (case a4 => k_is)
    (case l4 => k_is)
    (case c4 => k_is)
    (case k4 => k_is)
    (case a5 => k_is)
    (case l5 => k_is)
    (case c5 => k_is)
    (case k5 => k_is)
    (case a6 => k_is)
    (case l6 => k_is)
    (case c6 => k_is)
    (case k6 => k_is)
    (case a7 => k_is)
    (case l7 => k_is)
    (case c7 => k_is)
    (case k7 => k_is)
    (case a8 => k_is)
    (case l8 => k_is)
    (case c8 => k_is)
    (case k8 => k_is)
    (case a9 => k_is)
    (case l9 => k_is)
    (case c9 => k_is)
    (case k9 => k_is)
    (case a10 => k_is)
    (case l10 => k_is)
    (case c10 => k_is)
    (case k10 => k_is)
    (case a11 => k_is)
    (case l11 => k_is)
    (case c11 => k_is)
    (case k11 => k_is)
    (case a12 => k_is)
    (case l12 => k_is)
    (case c12 => k_is)
    (case k12 => k_is)
    (case a13 => k_is)
    (case l13 => k_is)
    (case c13 => k_is)
    (case k13 => k_is)
    (case a14 => k_is)
    (case l14 => k_is)
    (case c14 => k_is)
    (case k14 => k_is)
    (case a15 => k_is)
    (case l15 => k_is)
    (case c15 => k_is)
    (case k15 => k_is)
    (case a16 => k_is)
    (case l16 => k_is)
    (case c16 => k_is)
    (case k16 => k_is)
    (case a17 => k_is)
    (case l17 => k_is)
    (case c17 => k_is)
    (case k17 => k_is)
    (case a18 => k_is)
    (case l18 => k_is)
    (case c18 => k_is)
    (case k18 => k_is)
    (case a19 => k_is)
    (case l19 => k_is)
    (case c19 => k_is)
    (case k19 => k_is)
    (case a20 => k_is)
    (case l20 => k_is)
    (case c20 => k_is)
    (case k20 => k_is)
    (case a21 => k_is)
    (case l21 => k_is)
    (case c21 => k_is)
    (case k21 => k_is)
    (case a22 => k_is)
    (case l22 => k_is)
    (case c22 => k_is)
    (case k22 => k_is)
    (case a23 => k_is)
    (case l23 => k_is)
    (case c23 => k_is)
    (case k23 => k_is)
    (case a24 => k_is)
    (case l24 => k_is)
    (case c24 => k_is)
    (case k24 => k_is)
    (case a25 => k_is)
    (case l25 => k_is)
    (case c25 => k_is)
    (case k25 => k_is)
    (case a26 => k_is)
    (case l26 => k_is)
    (case c26 => k_is)
    (case k26 => k_is)
    (case akC => k_is)
    (case pgC => k_is)
    (case hdC => k_is)
    (case poC => k_is)
    (case stC => k_is)
    (case mkC => k_is)
    (case kcC => k_is)
    (case naC_parts => k_is)
    (case naC_text => k_is)
    (case naC_known => k_is)
    (case aC___init__ => k_is)
    (case iC___init__ => k_is)
    (case lC___init__ => k_is)
    (case cC___init__ => k_is)
    (case kC___init__ => k_is)
    (case aC_ends => k_is)
    (case iC_ends => k_is)
    (case lC_ends => k_is)
    (case cC_ends => k_is)
    (case kC_ends => k_is)
    (case aC_ends_anew => k_is)
    (case iC_ends_anew => k_is)
    (case lC_ends_anew => k_is)
    (case cC_ends_anew => k_is)
    (case kC_ends_anew => k_is)
    (case aC_again_ends => k_is)
    (case iC_again_ends => k_is)
    (case lC_again_ends => k_is)
    (case cC_again_ends => k_is)
    (case kC_again_ends => k_is)
    (case z_isinstance => k_is)
    (case z_str => k_is)
    (case z_all => k_is)
    (case z_tuple => k_is)
    (case z_len => k_is)
    (case z_max => k_is)
    (case z_int => k_is)
    (case z_range => k_is)
    (case z_list => k_is)
    (case z_bool => k_is)
    (case z_min => k_is)
    (case z_sorted => k_is)
    (case z_set => k_is)
    (case z_sum => k_is)
#print axioms PySem.Challenge.cw_tongueyard_k01_what_patterns_spell_holds
