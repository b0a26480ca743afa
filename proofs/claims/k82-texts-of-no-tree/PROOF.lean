import PyProof.Rows.All
import Wide.All
import OpenK.AllK
import Wide.FinOn
import HandS.ForMost
import HandS.ForExc
import HandS.Conv
import HandS.TupAny
import HandS.TupMul
import HandS.TupLe
import HandS.IsInst
import HandS.RaiseMore
import HandS.StrMore
import HandS.Replace
import HandS.ReplaceLit
import HandS.Lambda
import HandS.ExcInit
import HandS.ExcField
import HandS.ExcIs
import HandS.EndTab
import HandS.Evl
import HandS.SetFor
import PyProof.ReprRoads
import KE.GoesEnum
import KE.KExcIs
import HandS.ClsMeth
import HandS.ReplaceDef
import PyProof.Rows.RegFStrParts
import HandS.Defaults
import HandS.MakeKwOnly
import HandS.Style
import KE.KUnpackStar
import HandS.FStr
import HandS.Wide
import PyProof.ListMulRoad
import PyProof.FactsAll.tuple_2
import PySem.Challenge.RW_tornentries_k82_texts_of_no_tree
import HandS.HeadHook2
set_option Elab.async false
set_option linter.all false
set_option maxRecDepth 100000
set_option maxHeartbeats 2000000
namespace MB
open PySem PySem.Spec PyProof.Rows L2
section
variable {X : Cx}
/-! ### operators for values of any kind -/
def rAddS : R2 := fun x y H Q => ∃ i j, x = .str i ∧ y = .str j ∧ i.length + j.length ≤ sizeLine ∧ Q (.str (i ++ j)) H
def rAddI : R2 := rI0 fun i j => .int (i + j)
def rAddA (K : PySem.W.Frag) : R2 := fun x y H Q => rAddI x y H Q ∨ (rAddS x y H Q ∨ (rCat x y H Q ∨ rCatA K x y H Q))
theorem op_addA : OpR X (binaryOp .Add) (rAddA X.K) := OpR.or op_add (OpR.or op_add_str (OpR.or op_cat op_catA))
def rMulI : R2 := rI CMul fun i j => .int (i * j)
def rMulA (K : PySem.W.Frag) : R2 := fun x y H Q => rMulI x y H Q ∨ (rRep x y H Q ∨ rRepT K x y H Q)
theorem op_mulA0 : OpR X (binaryOp .Mult) (rMulA X.K) := OpR.or op_mul (OpR.or op_rep op_repT)
def rInS : R2 := fun x y H Q => ∃ (c : Nat) (z : Str), x = .str ⟨#[c]⟩ ∧ y = .str z ∧ Q (.bl (decide (c ∈ z.cps.toList))) H
def rNotInS : R2 := fun x y H Q => ∃ (c : Nat) (z : Str), x = .str ⟨#[c]⟩ ∧ y = .str z ∧ Q (.bl (!decide (c ∈ z.cps.toList))) H
def rInA (K : PySem.W.Frag) : R2 := fun x y H Q => rInS x y H Q ∨ rIn K false x y H Q
def rNotInA (K : PySem.W.Frag) : R2 := fun x y H Q => rNotInS x y H Q ∨ rIn K true x y H Q
theorem op_inA : OpR X (compareOp .In) (rInA X.K) := OpR.or op_in_sign op_in_seq
theorem op_notInA : OpR X (compareOp .NotIn) (rNotInA X.K) := OpR.or op_notIn_sign op_notIn_seq
def rIsN : R2 := fun x y H Q => y = .non ∧ Q (.bl (decide (x = .non))) H
def rNotN : R2 := fun x y H Q => y = .non ∧ Q (.bl (!decide (x = .non))) H
def rIsB : R2 := fun x y H Q => ∃ a b, x = .bl a ∧ y = .bl b ∧ Q (.bl (decide (a = b))) H
def rNotB : R2 := fun x y H Q => ∃ a b, x = .bl a ∧ y = .bl b ∧ Q (.bl (!decide (a = b))) H
def rIsA : R2 := fun x y H Q => rIsN x y H Q ∨ rIsB x y H Q
def rIsNotA : R2 := fun x y H Q => rNotN x y H Q ∨ rNotB x y H Q
theorem op_isA : OpR X (compareOp .Is) rIsA := OpR.or op_isN op_is_bl
theorem op_isNotA : OpR X (compareOp .IsNot) rIsNotA := OpR.or op_notN op_isnot_bl
def rSl (K : PySem.W.Frag) : V → Option Int → Option Int → Hp → VK → Prop := fun x lo hi H Q => rSlL K x lo hi H Q ∨ (rSlA K x lo hi H Q ∨ rSlS x lo hi H Q)
theorem sl_any : SlR X (rSl X.K) := SlR.or sl_list (SlR.or sl_tupA sl_str)
def rLenQ (K : PySem.W.Frag) : List V → Hp → VK → Prop := fun xs H Q => ∃ p ys, xs = [.ref p] ∧ (SqL K H p ys ∨ SqT K H p ys) ∧ Q (.int ys.length) H
def rLenT : List V → Hp → VK → Prop := fun xs H Q => ∃ z : Str, xs = [.str z] ∧ z.length ≤ sizeLine ∧ Q (.int z.length) H
def rLenA (K : PySem.W.Frag) : List V → Hp → VK → Prop := fun xs H Q => rLenQ K xs H Q ∨ rLenT xs H Q
theorem call_lenA : CallR X (.builtin "len") (rLenA X.K) := CallR.or call_len_seq call_len_str
def rInt1 : List V → Hp → VK → Prop := fun xs H Q => (∃ i, xs = [.int i] ∧ Q (.int i) H) ∨ ∃ k, xs = [.bl k] ∧ Q (.int (if k then 1 else 0)) H
def rIntS : List V → Hp → VK → Prop := fun xs H Q => ∃ a n, xs = [.str a] ∧ PySem.intText? a = some n ∧ a.length ≤ 640 ∧ Q (.int n) H
def rIntA : List V → Hp → VK → Prop := fun xs H Q => rInt1 xs H Q ∨ rIntS xs H Q
theorem call_intA : CallR X (.type "int") rIntA := CallR.or call_int1 call_int_str
def rStrI : List V → Hp → VK → Prop := fun xs H Q => ∃ i : Int, xs = [.int i] ∧ i.natAbs.log2 < 1920 ∧ Q (.str (toString i)) H
def rStrS : List V → Hp → VK → Prop := fun xs H Q => ∃ a, xs = [.str a] ∧ Q (.str a) H
def rStrA : List V → Hp → VK → Prop := fun xs H Q => rStrI xs H Q ∨ rStrS xs H Q
theorem call_strA : CallR X (.type "str") rStrA := CallR.or call_str_int SkE.call_str_str
def rIsiA (K : PySem.W.Frag) : List V → Hp → VK → Prop := fun xs H Q => rIsi K xs H Q ∨ rIsiT K xs H Q
theorem call_isiA : CallR X (.builtin "isinstance") (rIsiA X.K) := CallR.or call_isi call_isiT
/-- text * int -/
def rMulS : R2 := fun x y H Q => ∃ (z : Str) (n : Int), x = .str z ∧ y = .int n ∧ 0 ≤ n ∧ n ≤ 1000000 ∧ z.length * n.toNat ≤ sizeLine ∧ Q (.str (Txt.mul z n)) H
theorem mulOk_of {z : Str} {n : Int} (h0 : 0 ≤ n) (h1 : n ≤ 1000000) (hz : z.length * n.toNat ≤ sizeLine) : MulOk z n := by
  refine ⟨?_, fun hn _ => ?_, fun _ _ => ?_⟩
  · have a : decide (n < -(2 ^ 63 : Int)) = false := decide_eq_false (by omega)
    have b : decide (n ≥ (2 ^ 63 : Int)) = false := decide_eq_false (by omega)
    rw [a, b] <;> rfl
  · intro hq
    have e : ((z.length * n.toNat : Nat) : Int) = (z.length : Int) * n := by
      rw [Int.natCast_mul, Int.toNat_of_nonneg h0]
    have h2 : (z.length : Int) * n ≤ 16777216 := by
      rw [← e]
      have := sizeLine_eq
      omega
    have h3 : (2 ^ 63 - 1 : Int) / n < (z.length : Int) := hq
    have h4 : (2 ^ 63 - 1 : Int) < (z.length : Int) * n := Int.lt_mul_of_ediv_lt (by omega) h3
    omega
  · unfold Builtin.Str.tooLong
    have := sizeLine_eq
    exact decide_eq_false (by omega)
theorem op_mulS : OpR X (binaryOp .Mult) rMulS := by
  intro pins s σ H x y v u Q I rx ry h
  obtain ⟨z, n, rfl, rfl, h0, h1, hz, q⟩ := h
  obtain ⟨t, rfl⟩ := rx
  obtain ⟨t', rfl⟩ := ry
  exact SB.mul (mulOk_of h0 h1 hz) fun t2 k => ⟨.str (Txt.mul z n), H, I.tok k, ⟨_, rfl⟩, q⟩
def rMulB (K : PySem.W.Frag) : R2 := fun x y H Q => rMulS x y H Q ∨ rMulA K x y H Q
theorem op_mulA : OpR X (binaryOp .Mult) (rMulB X.K) := OpR.or op_mulS op_mulA0
end
end MB
set_option maxRecDepth 100000
set_option maxHeartbeats 2000000
namespace MB
open PySem PySem.Spec PyProof.Rows L2
/-! ### data -/
mutual
theorem dp_ex {K : PySem.W.Frag} {H H' : Hp} (s : Same H H') : ∀ (d : PyData) (v : V), Dp K H v d → Dp K H' v d
  | .none, _, h => by cases h; exact .non
  | .bool b, _, h => by cases h; exact .bl b
  | .int i, _, h => by cases h; exact .int i
  | .str x, _, h => by cases h; exact .str x
  | .list ds, _, h => by
    cases h with
    | lst q a => exact .lst (Same.seq s q) (dpAll_ex s ds _ a)
  | .tuple ds, _, h => by
    cases h with
    | tup q a => exact .tup (Evl.ex_t s q) (dpAll_ex s ds _ a)
  | .dict _, _, h => by cases h
theorem dpAll_ex {K : PySem.W.Frag} {H H' : Hp} (s : Same H H') : ∀ (ds : List PyData) (vs : List V), DpAll K H vs ds → DpAll K H' vs ds
  | [], _, h => by cases h; exact .nil
  | d :: ds, _, h => by
    cases h with
    | cons a b => exact .cons (dp_ex s d _ a) (dpAll_ex s ds _ b)
end
theorem dpAll_ints {K : PySem.W.Frag} {H : Hp} : ∀ (ns : List Int), DpAll K H (ns.map V.int) (ns.map PyData.int)
  | [] => .nil
  | n :: r => .cons (.int n) (dpAll_ints r)
theorem dpAll_strs {K : PySem.W.Frag} {H : Hp} : ∀ (ns : List Str), DpAll K H (ns.map V.str) (ns.map PyData.str)
  | [] => .nil
  | n :: r => .cons (.str n) (dpAll_strs r)
/-! ### a new object: the heap behind it a letter -/
theorem new_obj {H : Hp} {o : HO} {Q : V → Hp → Prop} (k : ∀ p H', H p = none → Same H H' → H' p = some o → (∀ b, b ≠ p → H' b = H b) → Q (.ref p) H') : ∀ p, H p = none → Q (.ref p) (upd H p o) := fun p hp =>
  k p _ hp (fun b u e => by rw [upd_ne (ne_of_none e hp)]; exact e) upd_same fun b hb => upd_ne hb
/-! ### room with no guards -/
section
variable {X : Cx}
def rReprD (K : PySem.W.Frag) : List V → Hp → VK → Prop := fun xs H Q => ∃ (a : Addr) (d : PyData), xs = [.ref a] ∧ Dp K H (.ref a) d ∧ d.showable = true ∧ d.hasDict = false ∧ d.depth ≤ 60 ∧ d.shown.length ≤ sizeLine ∧ Q (.str d.shown) H
theorem call_reprD (hg : X.A.guards = some []) (hu : X.A.units + 64 < cLine) : CallR X (.builtin "repr") (rReprD X.K) := by
  intro pins s σ H xs us Q I r h
  obtain ⟨a, d, rfl, hd, h1, h2, h3, h4, q⟩ := h
  obtain ⟨u, rfl, ru⟩ := vals1 r
  obtain rfl : u = Value.ref a := ru
  obtain ⟨as, hr⟩ := Dp.reads I d _ _ hd rfl
  exact repr_of_reads' hr h1 (PyData.noDict_hsm h2) hg (by omega) (fun _ _ e => e) (fun h' u tk k => ⟨.str d.shown, H, I.kept (t' := tk) k, ⟨_, rfl⟩, q⟩) h4
end
/-! ### a starred target over a list -/
section
variable {prog : Program} {w : World} {A : Around} {E : Value → Shared → Prop} {s : Shared}
theorem unpack_starL {l : Addr} {its : List Value} {n i : Nat} {Q : List Value → Shared → Prop} (hl : s.heap.IsList l its.toArray) (hh : A.handled = none) (hi : i < n) (hn : n ≤ its.length + 1) (hz : its.length ≤ sizeLine)
    (h : ∀ (h' : Heap) (tk : Nat), (∀ b o, s.heap.get? b = some o → h'.get? b = some o) → Q (its.take i ++ [.ref h'.objs.size] ++ (its.drop i).drop (its.length + 1 - n)) { s with heap := h'.push { cls := .type "list", data := .seq ((its.drop i).take (its.length + 1 - n)).toArray }, toks := tk }) :
    wpAny (model prog w) A (unpackItems (.ref l) n (some i)) Q E s := by
  have ne0 : l ≠ s.heap.objs.size := by obtain ⟨o, ho, _⟩ := hl; exact Nat.ne_of_lt (Heap.lt_size ho)
  unfold unpackItems notIterableAtAll
  refine wpAny_bind (wpAny_bind (wpAny_specialOf hl.typeIs slot_list_iter.lookup (wpAny_pure ?_)))
  simp only [Bool.false_eq_true, if_false]
  refine wpAny_bind (wpAny_holding (wpAny_pyIter_list hl ?_))
  refine wpAny_bind (wpAny_holding (PySem.W.kun_draw ne0 i 0 _ _ ⟨_, Heap.get?_push_size _ rfl, rfl, rfl⟩ (hl.push _) (by rw [List.size_toArray]; omega) fun h1 it1 sb1 => ?_))
  have l1 : h1.IsList l its.toArray := (hl.push _).extBut sb1.extBut ne0
  rw [Nat.zero_add] at it1
  obtain ⟨oi, hoi, hrest⟩ := it1
  obtain ⟨ol, hol, _⟩ := _root_.id l1
  have len1 : (its.take i).length = i := by rw [List.length_take]; omega
  rw [List.drop_zero, if_neg (show ¬ ((List.take i its.toArray.toList).length < i) by show ¬ (its.take i).length < i; omega)]
  refine wpAny_bind (wpAny_holding (PySem.W.kun_collect (s := { s with heap := h1 }) (T := "list_iterator") (.inr (.inr (.inl rfl))) (Walks.list (A := A.in1) hh s.heap.objs.size l ne0 its.toArray) (fun j u st => st.1.typeIs) (k := i) (by rw [List.size_toArray]; omega)
    ⟨⟨oi, hoi, hrest⟩, l1⟩ (Heap.lt_size hoi) (Heap.lt_size hol) (fun h2 tk hk => ?_) (by rw [List.size_toArray]; exact hz)))
  have dl : (List.drop i its.toArray.toList).length = its.length - i := by show (its.drop i).length = _; rw [List.length_drop]
  have md : (List.drop i its.toArray.toList).length - (n - 1 - i) = its.length + 1 - n := by rw [dl]; omega
  show wpAny _ _ (if (List.drop i its.toArray.toList).length < n - 1 - i then _ else _) _ _ _
  rw [if_neg (by rw [dl]; omega)]
  show wpAny _ _ (newList ((List.drop i its.toArray.toList).take ((List.drop i its.toArray.toList).length - (n - 1 - i))) >>= fun d => pure (List.take i its.toArray.toList ++ [d] ++ (List.drop i its.toArray.toList).drop ((List.drop i its.toArray.toList).length - (n - 1 - i)))) _ _ _
  rw [md]
  refine wpAny_bind (wpAny_newList (wpAny_pure ?_) ?_)
  · exact h h2 tk fun b o e => hk b o (Nat.ne_of_lt (Heap.lt_size e)) (sb1.extBut b o (Nat.ne_of_lt (Heap.lt_size e)) (Heap.get?_push_of_some _ e))
  · show ((its.drop i).take (its.length + 1 - n)).length ≤ sizeLine
    rw [List.length_take, List.length_drop]; omega
end
section
variable {X : Cx} {pos : Pos}
theorem pgs_star {e : Expr} {es : List Expr} {p : Pos} {t : TG} {u : TGs} (h1 : PG X e t) (h2 : PGs X es u)
    (hs : (assignEach (.Starred e p :: es) X.env).map (·.2) = assign e X.env :: (assignEach es X.env).map (·.2) := by rfl) : PGs X (.Starred e p :: es) (gCons t u) := by
  refine ⟨fun pins s σ H vs us Q I r h => ?_⟩
  obtain ⟨v, vr, e1, h⟩ := h
  subst e1
  cases r with
  | cons r rr =>
    rw [hs]
    refine assignInOrder_cons (thn (h1.run pins s σ H _ _ _ I r h) fun _ s1 ⟨σ1, H1, I1, q1⟩ => ?_)
    exact h2.run pins s1 σ1 H1 _ _ Q I1 rr q1
/-- .., *name, .. = a list: n targets, the i-th one starred -/
def gStar (K : PySem.W.Frag) (n i : Nat) (t : TGs) : TG := fun v σ H Q => ∃ a xs, v = .ref a ∧ SqL K H a xs ∧ i < n ∧ n ≤ xs.length + 1 ∧
  ∀ p, H p = none → t (xs.take i ++ [.ref p] ++ (xs.drop i).drop (xs.length + 1 - n)) σ (upd H p (.lst ((xs.drop i).take (xs.length + 1 - n)))) Q
theorem pg_star {es : List Expr} {k : Nat} {t : TGs} {n i : Nat} (hc : X.calm = true) (h : PGs X es t)
    (hn : (assignEach es X.env).length = n := by rfl) (hst : (assignEach es X.env).findIdx? (·.1) = some i := by rfl) : PG X (.Tuple es k pos) (gStar X.K n i t) := by
  refine ⟨fun pins s σ H v u Q I r hw => ?_⟩
  obtain ⟨a, xs, e1, hq, hi, hl, hw⟩ := hw
  subst e1
  cases r
  obtain ⟨its, rv, pl, hz⟩ := I.list hq
  have ll := rv.length
  rw [PyProof.Rows.assign_Tuple]
  refine wpAny_bind (wpAny_standAt ?_)
  unfold unpack
  rw [hn, hst]
  refine wpAny_bind (wpAny_holding (unpack_starL (its := its) pl.isList (I.ok.hd hc) hi (by omega) (by omega) fun h' tk hx => ?_))
  have I1 : Inv X pins σ H { s with heap := h', toks := tk } := I.kept (t' := tk) hx
  have r1 : Vals ((xs.drop i).take (xs.length + 1 - n)) ((its.drop i).take (its.length + 1 - n)) := by rw [ll]; exact (rv.drop i).take _
  have I2 := I1.lnew (t' := tk) r1 (by rw [List.length_take, List.length_drop]; omega)
  refine h.run pins _ σ _ _ _ Q I2 ?_ (hw _ (I1.hok.fresh (Nat.le_refl _)))
  rw [ll]
  exact ((rv.take i).append (Vals.append (.cons (show RelV (V.ref _) (Value.ref _) from rfl) .nil) .nil)).append ((rv.drop i).drop _)
end
/-! ### enumerate of a tuple -/
def IteT (K : PySem.W.Frag) (a : Addr) : It :=
  ⟨fun i H => ∃ (xs : List V) (x : V), SqT K H a xs ∧ xs[i]? = some x, fun i H v H' => ∃ T x, v = .ref T ∧ H T = none ∧ H' = upd H T (.tup [.int (i : Nat), x]) ∧ ∀ xs, SqT K H a xs → xs[i]? = some x, fun i H => ∃ xs : List V, SqT K H a xs ∧ xs.length ≤ i⟩
end MB
set_option maxRecDepth 100000
set_option maxHeartbeats 2000000
namespace MB
open PySem PySem.Spec PyProof.Rows L2
open AutoSeq1 (wpAny_loadPart')
theorem enum_newT (l : Addr) (items : Array Value) (n : Nat) (dct : Option Addr) (sl : Array (Option Value)) :
    Meets (Builtin.«enumerate.__new__» ⟨[.type "enumerate", .ref l], []⟩) (fun _ R s => s.heap.get? l = some { cls := .type "tuple", dict := dct, data := .seq items n, slots := sl } ∧
      R (.ok (.ret (.ref (s.heap.push { cls := .type "tuple_iterator", data := .fields #[.ref l, .int 0 0] }).objs.size)))
        { s with heap := (s.heap.push { cls := .type "tuple_iterator", data := .fields #[.ref l, .int 0 0] }).push { cls := .type "enumerate", data := .fields #[.none, .bool false, .ref s.heap.objs.size, rawInt 0, .none, .none] } }) :=
  .of_wp fun prog w A R s h => by
    obtain ⟨hp, g, d, tk, os⟩ := s
    obtain ⟨hl, h⟩ := h
    have hsub := sub_enumerate
    have ht : Heap.IsTuple (Shared.heap ⟨hp, g, d, tk, os⟩) l items := ⟨_, hl, rfl, n, rfl⟩
    wp_walk using wpAny_loadPart' hl
    refine wpAny_stack_any fun st => wpAny_pure ?_
    split
    · rename_i c _ _ _ _ _
      cases (c == Value.type "enumerate")
      · wp_walk using wpAny_loadPart' hl, wpAny_pyIter_tuple ht
        exact ⟨_, rfl, h⟩
      · wp_walk using wpAny_loadPart' hl, wpAny_pyIter_tuple ht
        exact ⟨_, rfl, h⟩
    · wp_walk using wpAny_loadPart' hl, wpAny_pyIter_tuple ht
      exact ⟨_, rfl, h⟩
section
variable {prog : Program} {w : World} {A : Around} {E : Value → Shared → Prop} {s : Shared}
theorem call_enumT {l : Addr} {items : Array Value} {Q : Value → Shared → Prop} (hL : s.heap.IsTuple l items)
    (h : ∀ h', IsEnum h' (s.heap.objs.size + 1) s.heap.objs.size 0 .none → h'.IsTupleIter s.heap.objs.size l 0 → (∀ b o, s.heap.get? b = some o → h'.get? b = some o) → Q (.ref (s.heap.objs.size + 1)) { s with heap := h' }) :
    wpAny (model prog w) A (call (.type "enumerate") [.ref l]) Q E s := by
  obtain ⟨⟨c, dct, dt, sl⟩, hl, hc, n, hd⟩ := hL
  obtain rfl : c = .type "tuple" := hc
  obtain rfl : dt = .seq items n := hd
  refine callType_new F.called_enumerate (by decide) (F.typeCall_enumerate_1 _) (F.newCall_enumerate_1 _) (fun obj => F.args_object_init_2 obj _) F.entry_enumerate_new (enum_newT l items n dct sl) ⟨hl, ?_⟩
  have sz : (s.heap.push { cls := .type "tuple_iterator", data := .fields #[.ref l, .int 0 0] }).objs.size = s.heap.objs.size + 1 := Heap.size_push ..
  show _ ∧ _
  rw [sz]
  have en := Heap.get?_push_size (s.heap.push { cls := .type "tuple_iterator", data := .fields #[.ref l, .int 0 0] }) (o := { cls := .type "enumerate", data := .fields #[.none, .bool false, .ref s.heap.objs.size, rawInt 0, .none, .none] }) rfl
  rw [sz] at en
  exact ⟨⟨_, en, rfl⟩, h _ en ⟨_, Heap.get?_push_of_some _ (Heap.get?_push_size _ rfl), rfl, rfl⟩ fun b o x => Heap.get?_push_of_some _ (Heap.get?_push_of_some _ x)⟩
end
section
variable {prog : Program} {w : World} {A : Around} {E : Value → Shared → Prop} {s : Shared}
theorem enum_endT {e it t : Addr} {i : Nat} {c : Int} {items : Array Value} {old : Value} {Q : Option Value → Shared → Prop} (hh : A.handled = none)
    (he : IsEnum s.heap e it c old) (hit : s.heap.IsTupleIter it t i) (ht : s.heap.IsTuple t items) (hx : items[i]? = none)
    (hQ : ∀ h', Heap.ExtBut it s.heap h' → Q none { s with heap := h' }) : wpAny (model prog w) A (pyNext (.ref e)) Q E s := by
  have hT : s.TypeIs (.ref e) "enumerate" := ⟨_, he, rfl⟩
  unfold pyNext
  refine wpAny_bind (wpAny_attempt (wpAny_callSpecial?_slot (name := Str.ofString "__next__") hT F.slot_enumerate_next
    (wpAny_call_entry F.slot_enumerate_next hT F.entry_enumerate_next ?_ (F.args_enumerate_next_1 _))))
  show wpAny _ _ (field (.ref e) 2 >>= _) _ _ _
  refine wpAny_bind (wpAny_field he rfl (x := .ref it) rfl ?_)
  refine wpAny_bind (wpAny_nextOf_tuple_end hh hit ht hx fun h' x he' hx' => ?_)
  obtain ⟨o, ho, hc⟩ := hx'
  refine wpAny_bind (wpAny_isInstance (T := "StopIteration") (b := true) ⟨o, ho, hc⟩ isSubtype_stop ?_)
  exact wpAny_pure (hQ _ he')
end
theorem isTuple_of {h : Heap} {a : Addr} {its : Array Value} (p : IsTup h a its) : h.IsTuple a its := by
  obtain ⟨o, ho, hc, n, hd⟩ := p
  exact ⟨o, ho, hc, n, hd⟩
theorem turn_enumT {P : Program} {w : World} {K : PySem.W.Frag} {elts : List Expr} {kk : Nat} {tpos : Pos} (a e it : Addr) (hae : a ≠ e) (hat : a ≠ it) :
    Turn P w K (.Tuple elts kk tpos) (IteT K a) [e, it] e (fun i h => (∃ old, IsEnum h e it ((i : Nat) : Int) old) ∧ h.IsTupleIter it a i ∧ e ≠ it) where
  mem := by simp
  obj := fun i h st b hb => by
    obtain ⟨⟨old, he⟩, ⟨o, ho, hc, hd⟩, _⟩ := st
    have e' : b = e ∨ b = it := by simpa using hb
    rcases e' with z | z
    · rw [z]; exact ⟨_, he, fun v q => nomatch q⟩
    · rw [z]; exact ⟨o, ho, fun v q => by rw [hd] at q; cases q⟩
  keep := fun i h h' st k => let ⟨⟨old, he⟩, ⟨o, ho, hr⟩, hne⟩ := st; ⟨⟨old, k e (by simp) _ he⟩, ⟨o, k it (by simp) _ ho, hr⟩, hne⟩
  item := by
    intro X hP hw hK hc i pins s σ H E I hf st hg
    subst hP hw hK
    obtain ⟨⟨old, he⟩, hit, hne⟩ := st
    obtain ⟨xs, x, hq, hx⟩ := hg
    obtain ⟨its, rv, p, hz⟩ := I.tuple hq
    obtain ⟨u, hu, ru⟩ := rv.get hx
    have hlt : i < its.toArray.size := by
      rw [List.size_toArray]
      exact (List.getElem?_eq_some_iff.mp hu).1
    have hel : e < s.heap.objs.size := Heap.lt_size he
    have hil : it < s.heap.objs.size := by obtain ⟨_, q, _⟩ := hit; exact Heap.lt_size q
    refine wpAny_pyNext_enum_itemC (Draws.tuple (A := X.A.in1) (prog := X.prog) (w := X.w) (I.ok.hd hc) it a hat its.toArray) he ⟨hit, isTuple_of p⟩ hlt hne (by simp [hne, Ne.symm hae]) fun u' h' tk hu' ho hst' hT hsz hk => ?_
    obtain ⟨hit', _⟩ := hst'
    have eu : u' = u := by
      have hu2 : its.toArray[i]? = some u' := hu'
      rw [List.getElem?_toArray, hu] at hu2
      exact (Option.some.inj hu2).symm
    subst eu
    refine ⟨_, rfl, wpAny_letOwnedTupleGo_enum (s := { s with heap := h', toks := tk + 1 }) ho fun h'' he' sb => ?_⟩
    have hT2 : h''.get? s.heap.objs.size = some { cls := .type "tuple", data := .seq #[.int i tk, u'] } := (sb.2 _ (Nat.ne_of_gt hel)).trans hT
    have new : ObjOk X.prog X.w (upd H s.heap.objs.size (.tup [.int (i : Nat), x])) h'' s.heap.objs.size (.tup [.int (i : Nat), x]) :=
      ⟨by show 2 ≤ sizeLine; decide, [.int i tk, u'], .cons ⟨_, rfl⟩ (.cons ru .nil), ⟨_, hT2, rfl, _, rfl⟩⟩
    have I1 : Inv X pins σ (upd H s.heap.objs.size (.tup [.int (i : Nat), x])) { s with heap := h'', toks := tk + 1 } :=
      I.turnedNew (ch := [e, it]) (fun b ob hb q => (sb.2 b (fun z => hb (by simp [z]))).trans (hk b ob (fun z => hb (by simp [z])) (fun z => hb (by simp [z])) q)) hf (Nat.le_refl _) new
    refine ⟨.ref s.heap.objs.size, _, I1, rfl, ⟨_, x, rfl, I.hok.fresh (Nat.le_refl _), rfl, fun ys hy => by rw [I.tuple_inj hy hq]; exact hx⟩, ⟨⟨u', ?_⟩, ?_, hne⟩, fun b hb => ?_⟩
    · have e1 : ((i + 1 : Nat) : Int) = (i : Int) + 1 := by omega
      rw [e1]; exact he'
    · obtain ⟨o, q, r⟩ := hit'
      exact ⟨o, (sb.2 it (Ne.symm hne)).trans q, r⟩
    · have hb' : b < s.heap.objs.size := by
        have e' : b = e ∨ b = it := by simpa using hb
        rcases e' with z | z
        · rw [z]; exact hel
        · rw [z]; exact hil
      rw [upd_ne (Nat.ne_of_lt hb')]
      exact (hf b hb).1
  done := by
    intro X hP hw hK hc i pins s σ H E I hf st hg
    subst hP hw hK
    obtain ⟨⟨old, he⟩, hit, hne⟩ := st
    obtain ⟨xs, hq, hx⟩ := hg
    obtain ⟨its, rv, p, hz⟩ := I.tuple hq
    obtain ⟨f0, f1, f2, f3, f4, f5⟩ := hf it (by simp)
    have hl := rv.length
    exact enum_endT (I.ok.hd hc) he hit (isTuple_of p) (by simp; omega) fun h' eb => ⟨rfl, I.turned (t' := s.toks) (fun b o hb q => eb b o hb q) f0 f1 f3 f4 f5⟩
  self := fun A i s Q E st h => let ⟨⟨_, he⟩, _⟩ := st; wpAny_pyIter_enum he h
def iEnumT (K : PySem.W.Frag) (ta : TA) : TI := fun σ H R => ta σ H fun vs H1 => ∃ a xs, vs = [.ref a] ∧ SqT K H1 a xs ∧ R (IteT K a) H1
theorem pi_enumT {X : Cx} {e : Expr} {ta : TA} {p pos tpos : Pos} {elts : List Expr} {kk : Nat} (hg : Gl X "enumerate") (hm : X.mg "enumerate" = none) (ha : PA X [e] ta) (hs : starEach [e] X.env = [(false, eval e X.env)] := by rfl) :
    PI X (.Tuple elts kk tpos) (.Call (.Name "enumerate" p) [e] [] pos) (iEnumT X.K ta) := by
  refine ⟨fun pins s σ H R I h => ?_⟩
  refine Call_ (ld_blt I hg hm boot_enumerate (PyProof.Rows.callWith_type1 (thn (ha.run pos pins s σ H _ I h) fun us s1 ⟨vs, H1, I1, r1, q1⟩ => ?_) hs rfl))
  obtain ⟨a, xs, ex, hq, q⟩ := q1
  subst ex
  cases r1 with
  | cons r rr =>
    cases rr
    cases r
    obtain ⟨its, rv, p', hz⟩ := I1.tuple hq
    have lt : a < s1.heap.objs.size := p'.lt
    refine call_enumT (isTuple_of p') fun h' he hit hk => wpAny_pyIter_enum he ?_
    have I2 : Inv X pins σ H1 { s1 with heap := h' } := I1.kept (t' := s1.toks) hk
    have n1 : a ≠ s1.heap.objs.size + 1 := Nat.ne_of_lt (Nat.lt_succ_of_lt lt)
    have n2 : a ≠ s1.heap.objs.size := Nat.ne_of_lt lt
    refine ⟨s1.heap.objs.size + 1, [s1.heap.objs.size + 1, s1.heap.objs.size], _, _, H1, rfl, I2, turn_enumT a (s1.heap.objs.size + 1) s1.heap.objs.size n1 n2, ⟨⟨.none, he⟩, hit, Nat.succ_ne_self _⟩, fun b hb => ?_, q⟩
    have e' : b = s1.heap.objs.size + 1 ∨ b = s1.heap.objs.size := by simpa using hb
    have hle : s1.heap.objs.size ≤ b := by
      rcases e' with z | z
      · rw [z]; exact Nat.le_add_right _ _
      · rw [z]; exact Nat.le_refl _
    exact I1.fpOk hle (I1.hok.fresh hle)
/-- the reading of a for over enumerate(tuple) -/
theorem for_enumT {K : PySem.W.Frag} {a : Addr} {xs : List V} {g : TG} {tb : TS} {D : Ends} {σ : L2.St} {H : Hp} (Pv : Nat → L2.St → Hp → Prop) (h0 : Pv 0 σ H) (hl : ∀ i σ H, i ≤ xs.length → Pv i σ H → SqT K H a xs)
    (hs : ∀ i x σ H T H', xs[i]? = some x → Pv i σ H → H T = none → Same H H' → H' T = some (.tup [.int (i : Nat), x]) → (∀ b, b ≠ T → H' b = H b) → g (.ref T) σ H' fun σ2 H2 => tb { D with nx := Pv (i + 1), ct := Pv (i + 1), bk := D.nx } σ2 H2)
    (hd : ∀ σ H, Pv xs.length σ H → D.nx σ H) :
    ∃ W : Nat → Nat → L2.St → Hp → Prop, (∃ m, W 0 m σ H) ∧ ∀ i m σ H, W i m σ H →
      ((IteT K a).stop i H ∧ D.nx σ H) ∨ ((IteT K a).go i H ∧ ∃ N : L2.St → Hp → Prop, (∀ σ' H', N σ' H' → ∃ m', m' < m ∧ W (i + 1) m' σ' H') ∧ ∀ x H', (IteT K a).yld i H x H' → g x σ H' fun σ2 H2 => tb { D with nx := N, ct := N, bk := D.nx } σ2 H2) := by
  refine ⟨fun i m σ H => m = xs.length - i ∧ i ≤ xs.length ∧ Pv i σ H, ⟨xs.length, by simp, Nat.zero_le _, h0⟩, ?_⟩
  rintro i m σ H ⟨rfl, hi, p⟩
  have q := hl i σ H hi p
  by_cases hlt : i < xs.length
  · refine .inr ⟨⟨xs, xs[i], q, List.getElem?_eq_getElem hlt⟩, Pv (i + 1), fun σ' H' p' => ⟨xs.length - (i + 1), by omega, rfl, by omega, p'⟩, ?_⟩
    rintro v H' ⟨T, x, rfl, hT, rfl, hy⟩
    exact hs i x σ H T _ (hy xs q) p hT (fun b o e => by rw [upd_ne (ne_of_none e hT)]; exact e) upd_same fun b hb => upd_ne hb
  · have e : i = xs.length := by omega
    subst e
    exact .inl ⟨⟨xs, q, Nat.le_refl _⟩, hd σ H p⟩
end MB
set_option maxRecDepth 100000
set_option maxHeartbeats 2000000
namespace MB
open PySem PySem.Spec PyProof.Rows L2
/-! ### an exception that is kept -/
/-- at a: an exception of the class cls, its dict at d -/
def ExcV (a : Addr) (cls : Value) (d : Option Addr) : HO := .ext fun h => ∃ oe vs, h.get? a = some oe ∧ Zc cls d oe ∧ oe.data = .fields vs
theorem excV_ok {P : Program} {w : World} {H : Hp} {h : Heap} {a : Addr} {cls : Value} {d : Option Addr} {oe : Obj} {vs : Array Value} (he : h.get? a = some oe) (hz : Zc cls d oe) (hd : oe.data = .fields vs) : ObjOk P w H h a (ExcV a cls d) :=
  ⟨⟨oe, vs, he, hz, hd⟩, ⟨oe, he⟩, fun h1 h2 ⟨o, us, q1, q2, q3⟩ k => ⟨o, us, k _ q1, q2, q3⟩⟩
theorem excV_at {P : Program} {w : World} {H : Hp} {h : Heap} {a : Addr} {cls : Value} {d : Option Addr} (ok : HOk P w H h) (e : H a = some (ExcV a cls d)) : ∃ oe vs, h.get? a = some oe ∧ Zc cls d oe ∧ oe.data = .fields vs := by
  have x : ObjOk P w H h a (.ext fun h => ∃ oe vs, h.get? a = some oe ∧ Zc cls d oe ∧ oe.data = .fields vs) := ok a _ e
  exact x.1
section
variable {X : Cx} {pins : List (Addr × Obj)} {σ : L2.St} {H : Hp} {s : Shared}
theorem inv_track {a : Addr} {o : HO} (I : Inv X pins σ H s) (na : H a = none) (nL : a ≠ X.env.locals) (nC : ∀ x c, X.env.cells.lookup x = some c → c ≠ a) (nP : ∀ p ∈ X.pn ++ pins, p.1 ≠ a)
    (n0 : X.s_0.heap.get? a = none) (new : ObjOk X.prog X.w (upd H a o) s.heap a o) : Inv X pins σ (upd H a o) s where
  ok := I.ok
  os := I.os
  bare := I.bare
  base := ⟨I.base.keep, I.base.slot, fun b u q n x => by
      rw [upd_ne (fun z => by rw [z, n0] at q; cases q)]
      exact I.base.free b u q n x, I.base.there,
    fun b xs q => by
      have e := I.base.tups b xs q
      rw [upd_ne (ne_of_none e na)]
      exact e,
    fun b u v q => by
      have e := I.base.frzs b u v q
      rw [upd_ne (ne_of_none e na)]
      exact e,
    fun b ps q => by
      obtain ⟨more, e⟩ := I.base.tbls b ps q
      refine ⟨more, ?_⟩
      rw [upd_ne (ne_of_none e na)]
      exact e⟩
  loc := I.loc
  cell := I.cell
  free := by
    rw [upd_ne (Ne.symm nL)]
    exact I.free
  freeC := fun x c e => by
    rw [upd_ne (nC x c e)]
    exact I.freeC x c e
  pin := fun p hp => by
    obtain ⟨q1, q2, q3⟩ := I.pin p hp
    refine ⟨q1, ?_, q3⟩
    rw [upd_ne (nP p hp)]
    exact q2
  hok := fun b u e => by
    by_cases hb : b = a
    · subst hb
      rw [upd_same] at e
      cases e
      exact new
    · rw [upd_ne hb] at e
      exact (I.hok b u e).stay (fun c v _ q => q) (fun c q => by rw [upd_ne (ne_of_none q na)]; exact q) fun c xs q => by rw [upd_ne (ne_of_none q na)]; exact q
  len := I.len
end
/-- what 'except x as n: y = n' wishes of an exception of the body: slot i is n's, slot j is y's -/
def wKeep (K : PySem.W.Frag) (c : Value) (i j l : Nat) (Wout : WX) (D : Ends) : WX := fun cls d σ H =>
  ∃ b, PySem.W.exmOne K cls c = some b ∧ (b = true → ∀ a, H a = none → σ.length = l → D.nx (((σ.set i (some (.ref a))).set j (some (.ref a))).set i none) (upd H a (ExcV a cls d))) ∧ (b = false → Wout cls d σ H)
section
variable {X : Cx} {x n y : Str} {c : Value} {i j : Nat} {body : List Stmt} {np pos pos' py pn' pa : Pos} {tb : WX → TS} {Wout : WX}
theorem ps_try_keep (hs : X.stack = X.env :: X.outer) (hf : X.env.frame = some X.env.locals) (hex : X.ex = []) (hN : X.N.Nodup) (hi : X.N[i]? = some n) (hln : X.env.kindOf n = some .local)
    (hj : X.N[j]? = some y) (hly : X.env.kindOf y = some .local) (hc : Names X x c) (tk : Takes X Wout) (hnd : (n == ("__debug__" : Str)) = false) (hnc : (n == ("__classdict__" : Str)) = false)
    (hsw : swapsWith (.Name n pn') (some (.Name y py)) pa.line X.env = pure false)
    (hb : ∀ (W : WX) (pn : List (Addr × Obj)) (xe : Value → Shared → Prop), Takes (X.tr pn xe) W → PassesOwn (model X.prog X.w) X.A X.env xe → PSs (X.tr pn xe) body (tb W)) :
    PS X (.Try body [.ExceptHandler (some (.Name x np)) (some n) [.Assign [.Name y py] (.Name n pn') pa] pos'] [] [] pos) (fun D σ H => tb (wKeep X.K c i j X.N.length Wout D) D σ H) := by
  refine ⟨fun pins s σ H D I h => ?_⟩
  have ok := I.ok
  have hfr : X.A.frames = some (X.env :: X.outer) := by rw [ok.frames, hs]
  have hloc : Loc X.env.scope n := .inl hln
  have hlocy : Loc X.env.scope y := .inl hly
  refine wpAny_Try_except ?_
  refine wpAny_mono ((hb (wKeep X.K c i j X.N.length Wout D) (X.pn ++ pins) (fun e s₁ => wpAny (model X.prog X.w) X.A (noteFrame e X.env) (fun _ s₂ => wpAny (model X.prog X.w) X.A (setFlight e none) (fun _ s₃ =>
    wpAny (model X.prog X.w) X.A (handleBy e X.env [.ExceptHandler (some (.Name x np)) (some n) [.Assign [.Name y py] (.Name n pn') pa] pos']) (SP X pins D) X.xe s₃) X.xe s₂) X.xe s₁) (fun u s' xx => ?_) PassesOwn.looking).run [] s σ H D (I.toTry _) h) (fun f s1 hsp => ?_) (fun e s1 he => he)
  · obtain ⟨a, B, sI, pins', σ', H', cls, d, rfl, J', nb, up, sky, na, os, ag, b, hb1, hyes, hno⟩ := xx
    have J : Inv X pins σ' H' sI := J'.ofTry ok
    have sky' : Sky B (X.env :: X.outer) a (Zc cls d) X.env.locals s'.heap := by rw [← hs]; exact sky
    show wpAny (model X.prog X.w) X.A (noteFrame (.ref a) X.env) _ _ _
    refine Sky.land Zc.steady hfr hf sky' fun h3 fl3 up3 => ?_
    have J3 : Inv X pins σ' H' { s' with heap := h3 } := J.landed nb fl3.1 (up.trans up3) os ag
    obtain ⟨oe3, vs3, he3, hz3, hd3⟩ := fl3.there
    have nfr : a ∉ frs (X.env :: X.outer) := fun hm => by
      obtain ⟨_, o', e', hnf⟩ := fl3.2.2.1.mem hm
      rw [he3] at e'; cases e'
      exact hnf _ hd3
    have nL : a ≠ X.env.locals := fun z => nfr (List.mem_filterMap.mpr ⟨X.env, List.mem_cons_self, by rw [hf, z]⟩)
    have nF : a ∉ X.fs := fun hm => by
      obtain ⟨e, he, q⟩ := List.mem_filterMap.mp hm
      exact nfr (List.mem_filterMap.mpr ⟨e, List.mem_cons_of_mem _ he, q⟩)
    -- the exception is new
    have nI : ∀ o, sI.heap.get? a ≠ some o := fun o e => by
      have z := nb a o e (by rw [hs]; exact nfr)
      rw [fl3.2.1] at z
      cases z
    have n0 : X.s_0.heap.get? a = none := by
      cases e : X.s_0.heap.get? a with
      | none => rfl
      | some o =>
        obtain ⟨o', e'⟩ := J.base.there a o e (by rw [hex]; simp)
        exact absurd e' (nI o')
    have nC : ∀ x c, X.env.cells.lookup x = some c → c ≠ a := fun x c e z => by
      obtain ⟨_, o, ho, _⟩ := J.cell x c e
      rw [z] at ho
      exact nI o ho
    have nP : ∀ p ∈ X.pn ++ pins, p.1 ≠ a := fun p hp z => by
      have q := (J.pin p hp).1
      rw [z] at q
      exact nI _ q
    have S3 := J3.suite he3 hd3 na nL nF
    refine wpAny_handleBy_cons (codeAny_handlers_test ?_) (by intro q; cases q)
    have LT : PySem.W.Looks (model X.prog X.w) h3 (typeOf (.ref a)) cls := fun A Q E s k q => wpAny_typeOf_ref (k _ _ he3) (by rw [hz3.1]; exact q)
    have LM := PySem.W.exm_one (M := model X.prog X.w) (J3.kIn) LT hb1
    have test : ∀ {Q : Value → Shared → Prop} {E : Value → Shared → Prop}, Q c { s' with heap := h3 } → wpAny (model X.prog X.w) (X.A.mark (some (.ref a))) (eval (.Name x np) X.env) Q E { s' with heap := h3 } := fun {Q E} q => by
      obtain ⟨hg, hdbg, hm | ⟨hm, hv, hnn⟩⟩ := hc
      · exact ld_glob (X := X.suite a ((a, oe3) :: (X.pn ++ pins))) S3 hg hm q hdbg
      · exact ld_blt (X := X.suite a ((a, oe3) :: (X.pn ++ pins))) S3 hg hm hv q hnn hdbg
    refine test (LM.here ?_)
    cases b with
    | true =>
      refine codeAny_handlers_suite_as ?_
      refine HandSPX.lands_againZ fl3 fun h4 fl4 up4 => ?_
      have J4 : Inv X pins σ' H' { s' with heap := h4 } := J.landed nb fl4.1 ((up.trans up3).trans up4) os ag
      obtain ⟨oe4, vs4, he4, hz4, hd4⟩ := fl4.there
      have S4 := J4.suite he4 hd4 na nL nF
      refine store_ok (X := X.suite a ((a, oe4) :: (X.pn ++ pins))) (v := .ref a) S4 hN hi hloc rfl (fun s5 S5 => ?_) (.inr hln)
      have su : PSs (X.suite a ((a, oe4) :: (X.pn ++ pins))) [.Assign [.Name y py] (.Name n pn') pa] (tAsg (tVar i) (gName j)) :=
        pss_one (ps_set (i := j) hN hj hlocy (pe_var (i := i) hi (.inl hln) hnd hnc) hsw (.inr hly))
      have hiL : i < σ'.length := by
        rw [J.len]
        exact (List.getElem?_eq_some_iff.mp hi).1
      refine wpAny_mono (su.run [] s5 _ H' { nx := fun σ6 H6 => σ6 = (σ'.set i (some (.ref a))).set j (some (.ref a)) ∧ H6 = H', rt := fun _ _ => False } S5 ⟨.ref a, by rw [List.getElem?_set_self hiL], rfl, rfl⟩) (fun f s6 hsp => ?_) (fun _ _ z => False.elim z)
      cases f with
      | next =>
        obtain ⟨σ6, H6, S6, rfl, rfl⟩ := hsp
        refine gone_ok (X := X.suite a ((a, oe4) :: (X.pn ++ pins))) S6 hN hi hln fun s7 S7 => ?_
        obtain ⟨p1, p2, _⟩ := S7.pin (a, oe4) (List.mem_append_left _ List.mem_cons_self)
        exact ⟨_, _, inv_track (S7.unsuite ok) na nL nC nP n0 (excV_ok p1 hz4 hd4), hyes rfl a na J.len⟩
      | brk =>
        obtain ⟨σ6, H6, S6, q⟩ := hsp
        exact q.elim
      | cont =>
        obtain ⟨σ6, H6, S6, q⟩ := hsp
        exact q.elim
      | ret u =>
        obtain ⟨v6, σ6, H6, S6, r6, q⟩ := hsp
        exact q.elim
    | false =>
      show wpAny _ X.A (handleBy (.ref a) X.env []) _ _ _
      refine wpAny_handleBy_nil ?_
      obtain ⟨k1, k2, k3, oe, vs, T, oT, ts', he, hz, hd, h1, hr⟩ := _root_.id fl3
      unfold PySem.passOn
      refine wpAny_bind (wpAny_field he hd h1 ?_)
      rw [if_neg (show ¬ ((Value.ref T == Value.none) = true) from by simp)]
      have fin : wpAny (model X.prog X.w) X.A (setFlight (.ref a) X.env.frame) (fun _ s4 => wpAny (model X.prog X.w) X.A (throw (.ref a) : Sem Flow) (SP X pins D) X.xe s4) X.xe { s' with heap := h3 } := by
        rw [hf]
        refine HandSPX.setFlight_upZ fl3 fun h4 hh4 up4 => wpAny_throw (tk _ _ ?_)
        exact ⟨a, B, sI, pins, σ', H', cls, d, rfl, J, nb, (up.trans up3).trans up4, .inr (.inr (by rw [hs]; exact hh4)), na, os, ag, hno rfl⟩
      first
        | exact wpAny_bind (wpAny_pure (wpAny_bind fin))
        | exact wpAny_bind fin
  · cases f with
    | next =>
      obtain ⟨σ', H', J', q⟩ := hsp
      exact wpAny_execs_nil ⟨σ', H', J'.ofTry ok, q⟩
    | brk =>
      obtain ⟨σ', H', J', q⟩ := hsp
      exact ⟨σ', H', J'.ofTry ok, q⟩
    | cont =>
      obtain ⟨σ', H', J', q⟩ := hsp
      exact ⟨σ', H', J'.ofTry ok, q⟩
    | ret u =>
      obtain ⟨v, σ', H', J', r, q⟩ := hsp
      exact ⟨v, σ', H', J'.ofTry ok, r, q⟩
end
end MB
set_option maxRecDepth 100000
set_option maxHeartbeats 2000000
namespace MB
open PySem PySem.Spec PyProof.Rows L2
/-! ### isinstance of a kept exception; its field -/
/-- what is asked of an exception class of the program -/
structure EC (K : PySem.W.Frag) (C : Addr) : Prop where
  cl : (PySem.W.clsIn K C).isSome = true
  ga : PySem.W.findIn K (.ref C) "__getattribute__" = some (some (.builtin "BaseException.__getattribute__"))
  gg : PySem.W.findIn K (.ref C) "__getattr__" = some none
  sb : PySem.W.subIn K (.ref C) (.type "BaseException") = some true
  hd : PySem.W.hasDictIn K C = true
  ac : PySem.W.findIn K (.ref C) "__class__" = some (some (.builtin "object.__class__"))
  sp : PySem.W.specialIn K (.builtin "object.__class__") "__get__" = some (some (.builtin "getset_descriptor.__get__"))
  tk : PySem.W.takesIn K (.builtin "object.__class__") = some true
  mo : PySem.W.mroIn K C (.type "object") = some true
def ecB (K : PySem.W.Frag) (C : Addr) : Bool :=
  (PySem.W.clsIn K C).isSome && (decide (PySem.W.findIn K (.ref C) "__getattribute__" = some (some (.builtin "BaseException.__getattribute__"))) && (decide (PySem.W.findIn K (.ref C) "__getattr__" = some none) &&
  (decide (PySem.W.subIn K (.ref C) (.type "BaseException") = some true) && (PySem.W.hasDictIn K C && (decide (PySem.W.findIn K (.ref C) "__class__" = some (some (.builtin "object.__class__"))) &&
  (decide (PySem.W.specialIn K (.builtin "object.__class__") "__get__" = some (some (.builtin "getset_descriptor.__get__"))) && (decide (PySem.W.takesIn K (.builtin "object.__class__") = some true) && decide (PySem.W.mroIn K C (.type "object") = some true))))))))
theorem ec_of {K : PySem.W.Frag} {C : Addr} (h : ecB K C = true) : EC K C := by
  unfold ecB at h
  simp only [Bool.and_eq_true, decide_eq_true_eq] at h
  obtain ⟨h1, h2, h3, h4, h5, h6, h7, h8, h9⟩ := h
  exact ⟨h1, h2, h3, h4, h5, h6, h7, h8, h9⟩
/-- a kept exception of the class C: its dict, if it has one, is tracked, too -/
def KeptAt (H : Hp) (a C : Addr) (d : Option Addr) : Prop := H a = some (ExcV a (.ref C) d) ∧ ∀ dd, d = some dd → ∃ fs, H dd = some (.xd fs)
section
variable {X : Cx} {pins : List (Addr × Obj)} {σ : L2.St} {H : Hp} {s : Shared}
theorem kept_inst {a C : Addr} {d : Option Addr} (I : Inv X pins σ H s) (k : KeptAt H a C d) : ∃ oe od, PySem.W.InstAt s.heap a oe C od := by
  obtain ⟨e, hd⟩ := k
  obtain ⟨oe, vs, he, hz, hv⟩ := excV_at I.hok e
  obtain ⟨oc, dd, dat, sl⟩ := oe
  obtain ⟨z1, z2⟩ := hz
  dsimp only at z1 z2 hv
  subst z1 z2 hv
  cases dd with
  | none => exact ⟨_, none, he, rfl, rfl, trivial⟩
  | some dx =>
    obtain ⟨fs, hx⟩ := hd dx rfl
    obtain ⟨mA, hns, _⟩ := (show ObjOk X.prog X.w H s.heap dx (.xd fs) from I.hok dx _ hx)
    obtain ⟨od, es, ep, ho, _⟩ := hns
    exact ⟨_, some od, he, rfl, rfl, ho⟩
/-- isinstance(kept, c) -/
def rIsiE (K : PySem.W.Frag) : List V → Hp → VK → Prop := fun xs H Q => ∃ (a C : Addr) (d : Option Addr) (c : V) (u : Value) (b : Bool), xs = [.ref a, c] ∧ KeptAt H a C d ∧ EC K C ∧ ClsV c u ∧ PySem.W.kitOne K (.ref C) u = some b ∧ Q (.bl b) H
theorem call_isiE : CallR X (.builtin "isinstance") (rIsiE X.K) := by
  intro pins s σ H xs us Q I r h
  obtain ⟨a, C, d, c, u, b, rfl, k, ec, kc, e, q⟩ := h
  obtain ⟨u1, u2, rfl, r1, r2⟩ := vals2 r
  have e2 := kc.eq r2
  subst e2
  obtain rfl : u1 = Value.ref a := r1
  obtain ⟨oe, od, J⟩ := kept_inst I k
  exact PySem.W.kia_one (PySem.W.kitx_exc (ox := oe) (od := od) ec.cl ec.ga ec.gg ec.sb ec.ac ec.sp ec.tk ec.mo) I.kIn J e (fun z => nomatch z) fun tk => ⟨.bl b, H, I.tok tk, rfl, q⟩
/-- isinstance(kept, (c1, c2, ..)) -/
def rIsiET (K : PySem.W.Frag) : List V → Hp → VK → Prop := fun xs H Q => ∃ (a C : Addr) (d : Option Addr) (tp : Addr) (cs : List V) (us : List Value) (b : Bool), xs = [.ref a, .ref tp] ∧ KeptAt H a C d ∧ EC K C ∧ H tp = some (.tup cs) ∧ Paired ClsV cs us ∧ PySem.W.kitAny K (.ref C) us = some b ∧ Q (.bl b) H
theorem call_isiET : CallR X (.builtin "isinstance") (rIsiET X.K) := by
  intro pins s σ H xs us Q I r h
  obtain ⟨a, C, d, tp, cs, ws, b, rfl, k, ec, hT, kc, e, q⟩ := h
  obtain ⟨u1, u2, rfl, r1, r2⟩ := vals2 r
  obtain rfl : u1 = Value.ref a := r1
  obtain rfl : u2 = Value.ref tp := r2
  obtain ⟨oe, od, J⟩ := kept_inst I k
  obtain ⟨_, its, rv, o, h1, h2, n, h3⟩ := (show ObjOk X.prog X.w H s.heap tp (.tup cs) from I.hok tp _ hT)
  have e3 := ClsV.all kc rv
  subst e3
  obtain ⟨oc, od2, dt, sl⟩ := o
  simp only at h2 h3
  subst h2 h3
  exact PySem.W.kia_tup (PySem.W.kitx_exc (ox := oe) (od := od) ec.cl ec.ga ec.gg ec.sb ec.ac ec.sp ec.tk ec.mo) I.kIn J h1 e (fun z => nomatch z) fun tk => ⟨.bl b, H, I.tok tk, rfl, q⟩
def rIsiX (K : PySem.W.Frag) : List V → Hp → VK → Prop := fun xs H Q => rIsiE K xs H Q ∨ rIsiET K xs H Q
theorem call_isiX : CallR X (.builtin "isinstance") (rIsiX X.K) := CallR.or call_isiE call_isiET
/-- kept.f -/
def tXV (K : PySem.W.Frag) (f : Str) (te : TE) : TE := fun σ H Q => te σ H fun x H1 => ∃ (a C dd : Addr) (fs : List (Str × V)) (v : V), x = .ref a ∧ H1 a = some (ExcV a (.ref C) (some dd)) ∧ EC K C ∧ PySem.W.findIn K (.ref C) f = some none ∧
  H1 dd = some (.xd fs) ∧ fs.lookup f = some v ∧ Q v H1
theorem pe_xv {e : Expr} {te : TE} {pos : Pos} {n : Str} (he : PE X e te) (hb : attributeBase e n X.env (eval e X.env) = eval e X.env := by rfl) : PE X (.Attribute e n pos) (tXV X.K n te) := by
  refine ⟨fun pins s σ H Q I h => ?_⟩
  refine attr_of hb (thn (he.run pins s σ H _ I h) fun u s1 hh => ?_)
  obtain ⟨x, H1, I1, rx, a, C, dd, fs, v, ex, ea, ec, hno, ed, l, q⟩ := hh
  subst ex
  obtain rfl : u = Value.ref a := rx
  obtain ⟨oe, vs, ha, hz, hd⟩ := excV_at I1.hok ea
  obtain ⟨mA, hns, hr⟩ := (show ObjOk X.prog X.w H1 s1.heap dd (.xd fs) from I1.hok dd _ ed)
  obtain ⟨od, ho, hl⟩ := lookIn_ns hns
  obtain ⟨u, hu, ru⟩ := RelO.some_of (v := v) (o := mA n) (by rw [← l]; exact hr n)
  have J : PySem.W.InstAt s1.heap a oe C (some od) := ⟨ha, hz.1, by unfold PySem.W.notCls; rw [hd] <;> rfl, by rw [hz.2]; exact ho⟩
  exact HandSPX.exc_get I1.kIn J ec.ga ec.gg ec.sb (PySem.W.findObj_own ec.hd hno rfl (by rw [hl, hu])) (handed_of ru) ⟨v, H1, I1.tok _, ru, q⟩
/-! ### B.__init__(self, ..) where B, an own exception class, leaves __init__ to ValueError -/
theorem pe_oinit {pl : Sem Bool} {x : Str} {B : Addr} {mc : Value} {e : Expr} {es : List Expr} {ta : TA} {p1 p2 pos : Pos} (hg : Gl X x) (gB : X.mg x = some (.ref B)) (rB : ClX.CRead X.K B mc) (vB : PySem.W.findCls X.K (.ref B) mc "__init__" = some (.val (.builtin "ValueError.__init__"))) (ha : PA X (e :: es) ta)
    (hdb : (x == ("__debug__" : Str)) = false := by decide)
    (hc : eval (.Call (.Attribute (.Name x p1) "__init__" p2) (e :: es) [] pos) X.env = (do
      let ov ← eval (.Name x p1) X.env
      standAt p2.atName
      let (f, first) ← holding [ov] (getMethod ov "__init__" pl)
      callWith pos f first (backTo pos (starEach (e :: es) X.env)) (backToKw pos (keywordEach [] X.env))) := by rfl)
    (he : starEach (e :: es) X.env = (false, eval e X.env) :: starEach es X.env := by rfl) (hpl : (backTo pos (starEach es X.env)).any (·.1) = false := by rfl) :
    PE X (.Call (.Attribute (.Name x p1) "__init__" p2) (e :: es) [] pos) (tVeI X.K ta) := by
  refine ⟨fun pins s σ H Q I h => ?_⟩
  refine PySem.W.methodCall_KW (ld_glob I hg gB ?_ hdb) hc
  refine PySem.W.method_cls I.kIn rB.ga (PySem.W.cls_value I.kIn rB.rd vB (by decide +kernel) ?_)
  show wpAny _ _ (callWith pos (Value.builtin "ValueError.__init__") [] (backTo pos (starEach (e :: es) X.env)) []) _ _ _
  refine PyProof.Rows.callWith_method1 (thn (ha.run pos pins _ σ H _ (I.tok _) h) fun us s1 ⟨vs, H1, I1, r1, a, C, ws, ev, hl, T, ea, q⟩ => ?_) he hpl
  subst ev
  cases r1 with
  | @cons _ u0 _ ur ra rw' =>
    obtain rfl : u0 = Value.ref a := ra
    have hlen : ur.length ≤ sizeLine := by
      rw [← Paired.length rw', sizeLine_eq]
      omega
    exact oinit_ok T I1 ea hlen fun s' J => ⟨.non, H1, J, rfl, q⟩
end
end MB
set_option maxRecDepth 100000
set_option maxHeartbeats 2000000
namespace MB
open PySem PySem.Spec PyProof.Rows L2
section
variable {P : Program} {w : World} {K : PySem.W.Frag} {mg : Str → Option Value} {base : Heap}
/-- a def that lets nothing out -/
theorem fn_toX {CX : CXT} {k : Nat} {f : Addr} {fd : FuncData} {ps : List Str} {sp : Sp} (F : FnOk P w K mg base CX0 k f fd ps sp) : FnOk P w K mg base CX k f fd ps sp :=
  ⟨F.len, fun A outer s H args us vs Q E hr e0 hb r h => codeAny_mono (F.run A outer s H args us vs Q E hr e0 hb r h) fun r s' q => by
    cases r with
    | error e => exact (show False from q).elim
    | ok fl => cases fl <;> exact q⟩
/-- a def of the module by its name: its promise -/
structure Cl (P : Program) (w : World) (K : PySem.W.Frag) (mg : Str → Option Value) (base : Heap) (k : Nat) (x : Str) (sp : Sp) : Prop where
  ex : ∃ (f : Addr) (fd : FuncData) (ps : List Str), FnOk P w K mg base (L2.CX P w) k f fd ps sp ∧ mg x = some (.ref f) ∧ PySem.W.keepIn K (.ref f) = true ∧ Binds K fd ps []
theorem cl_of {k : Nat} {x : Str} {f : Addr} {fd : FuncData} {ps : List Str} {sp : Sp} (F : FnOk P w K mg base CX0 k f fd ps sp) (hm : mg x = some (.ref f)) (hk : PySem.W.keepIn K (.ref f) = true) (hb : Binds K fd ps []) : Cl P w K mg base k x sp :=
  ⟨f, fd, ps, fn_toX F, hm, hk, hb⟩
theorem cl_ofX {k : Nat} {x : Str} {f : Addr} {fd : FuncData} {ps : List Str} {sp : Sp} (F : FnOk P w K mg base (L2.CX P w) k f fd ps sp) (hm : mg x = some (.ref f)) (hk : PySem.W.keepIn K (.ref f) = true) (hb : Binds K fd ps []) : Cl P w K mg base k x sp :=
  ⟨f, fd, ps, F, hm, hk, hb⟩
end
section
variable {X : Cx} {x : Str} {k j : Nat} {sp : Sp} {p pos : Pos} {e : Expr} {es : List Expr} {t : TA}
theorem pe_cl (c : Cl X.prog X.w X.K X.mg X.base k x sp) (hr : Room j X.A) (hkj : k ≤ j) (hg : Gl X x) {E : XK} (hx : Passes (L2.CX X.prog X.w) X E) (ha : PA X (e :: es) t)
    (hdb : (x == ("__debug__" : Str)) = false := by decide) (he : starEach (e :: es) X.env = (false, eval e X.env) :: starEach es X.env := by rfl) (hpl : (backTo pos (starEach es X.env)).any (·.1) = false := by rfl) :
    PE X (.Call (.Name x p) (e :: es) [] pos) (tCall sp [] E t) := by
  obtain ⟨f, fd, ps, F, hm, hk, hb⟩ := c.ex
  exact pe_call F (hr.mono hkj) hg hm hk hb .nil hx ha hdb he hpl
/-- .. where an exception's wish hangs on the slots -/
theorem pe_clS (c : Cl X.prog X.w X.K X.mg X.base k x sp) (hr : Room j X.A) (hkj : k ≤ j) (hg : Gl X x) {E : L2.St → XK} (hx : ∀ σ, PassesAt (L2.CX X.prog X.w) X σ (E σ)) (ha : PA X (e :: es) t)
    (hdb : (x == ("__debug__" : Str)) = false := by decide) (he : starEach (e :: es) X.env = (false, eval e X.env) :: starEach es X.env := by rfl) (hpl : (backTo pos (starEach es X.env)).any (·.1) = false := by rfl) :
    PE X (.Call (.Name x p) (e :: es) [] pos) (tCallS sp E t) := by
  obtain ⟨f, fd, ps, F, hm, hk, hb⟩ := c.ex
  exact pe_callS F (hr.mono hkj) hg hm hk hb hx ha hdb he hpl
end
end MB
set_option maxRecDepth 100000
namespace MB
open PySem PySem.Spec PyProof.Rows L2
theorem bo_len : bootBuiltins "len" = some (.builtin "len") := boot_len
theorem bo_isinstance : bootBuiltins "isinstance" = some (.builtin "isinstance") := by decide +kernel
theorem bo_all : bootBuiltins "all" = some (.builtin "all") := by decide +kernel
theorem bo_repr : bootBuiltins "repr" = some (.builtin "repr") := by decide +kernel
theorem bo_abs : bootBuiltins "abs" = some (.builtin "abs") := by decide +kernel
theorem bo_int : bootBuiltins "int" = some (.type "int") := by decide +kernel
theorem bo_str : bootBuiltins "str" = some (.type "str") := by decide +kernel
theorem bo_bool : bootBuiltins "bool" = some (.type "bool") := by decide +kernel
theorem bo_tuple : bootBuiltins "tuple" = some (.type "tuple") := by decide +kernel
theorem bo_list : bootBuiltins "list" = some (.type "list") := by decide +kernel
theorem bo_ValueError : bootBuiltins "ValueError" = some (.type "ValueError") := by decide +kernel
theorem bo_min : bootBuiltins "min" = some (.builtin "min") := by decide +kernel
theorem bo_max : bootBuiltins "max" = some (.builtin "max") := by decide +kernel
end MB
set_option maxRecDepth 100000
set_option maxHeartbeats 1000000
namespace MB
open PySem PySem.Spec PyProof.Rows L2 Evl
section
variable {X : Cx} {K : PySem.W.Frag} {σ : L2.St} {H H' : Hp} {ta tb te tx : TE} {x y z v : V} {xs : List V}
/-- a tuple / list of these parts, new or not -/
def EvTp (K : PySem.W.Frag) (te : TE) (σ : L2.St) (H : Hp) (xs : List V) : Prop := ∀ H1, Ex H H1 → ∀ Q : VK, (∀ p H2, Ex H1 H2 → SqT K H2 p xs → Q (.ref p) H2) → te σ H1 Q
def EvLs (K : PySem.W.Frag) (te : TE) (σ : L2.St) (H : Hp) (xs : List V) : Prop := ∀ H1, Ex H H1 → ∀ Q : VK, (∀ p H2, Ex H1 H2 → SqL K H2 p xs → Q (.ref p) H2) → te σ H1 Q
theorem EvTp.mono (e : Ex H H') (h : EvTp K te σ H xs) : EvTp K te σ H' xs := fun H1 a Q q => h H1 (e.trans a) Q q
theorem EvLs.mono (e : Ex H H') (h : EvLs K te σ H xs) : EvLs K te σ H' xs := fun H1 a Q q => h H1 (e.trans a) Q q
theorem etp_val {p : Addr} (h : Ev te σ H (.ref p)) (hp : SqT K H p xs) : EvTp K te σ H xs := fun H1 e Q q => h H1 e _ fun H2 e2 => q p H2 e2 (ex_t (e.trans e2) hp)
theorem els_val {p : Addr} (h : Ev te σ H (.ref p)) (hp : SqL K H p xs) : EvLs K te σ H xs := fun H1 e Q q => h H1 e _ fun H2 e2 => q p H2 e2 (ex_l (e.trans e2) hp)
theorem els_new (h : EvL te σ H xs) : EvLs K te σ H xs := fun H1 e Q q => h H1 e _ fun p H2 _ e2 hp => q p H2 e2 (sq_of hp)
theorem etp_new (h : EvU te σ H xs) : EvTp K te σ H xs := fun H1 e Q q => h H1 e _ fun p H2 _ e2 hp => q p H2 e2 (st_of hp)
theorem etp_sl {tl th : TO} {lo hi : Option Int} (h : EvTp K te σ H xs) (h1 : EvO tl σ H lo) (h2 : EvO th σ H hi) : EvTp K (tSl (rSl K) te tl th) σ H (cutV xs lo hi) := fun H1 e Q q =>
  h H1 e _ fun p H2 e2 hp => h1 H2 (e.trans e2) _ fun H3 e3 => h2 H3 ((e.trans e2).trans e3) _ fun H4 e4 => by
    have hp4 := ex_t (e3.trans e4) hp
    refine .inr (.inl ⟨p, xs, rfl, hp4, fun w => ?_, fun _ p' hn => q p' _ (((e2.trans e3).trans e4).trans (Ex.new hn)) (st_of upd_same)⟩)
    refine q p H4 ((e2.trans e3).trans e4) ?_
    have : cutV xs lo hi = xs := by
      unfold cutV
      rw [w.1, w.2, List.drop_zero]
      exact List.take_of_length_le (by omega)
    rw [this]
    exact hp4
theorem els_sl {tl th : TO} {lo hi : Option Int} (h : EvLs K te σ H xs) (h1 : EvO tl σ H lo) (h2 : EvO th σ H hi) : EvL (tSl (rSl K) te tl th) σ H (cutV xs lo hi) := fun H1 e Q q =>
  h H1 e _ fun p H2 e2 hp => h1 H2 (e.trans e2) _ fun H3 e3 => h2 H3 ((e.trans e2).trans e3) _ fun H4 e4 =>
    .inl ⟨p, xs, rfl, ex_l (e3.trans e4) hp, fun p' hn => q p' _ (fresh_back ((e2.trans e3).trans e4) hn) (((e2.trans e3).trans e4).trans (Ex.new hn)) upd_same⟩
theorem ev_slS {tl th : TO} {lo hi : Option Int} {w : Str} (h : Ev te σ H (.str w)) (h1 : EvO tl σ H lo) (h2 : EvO th σ H hi) (hw : w.length ≤ 3700000) : Ev (tSl (rSl K) te tl th) σ H (.str (cutS w lo hi)) := fun H1 e Q q =>
  h H1 e _ fun H2 e2 => h1 H2 (e.trans e2) _ fun H3 e3 => h2 H3 ((e.trans e2).trans e3) _ fun H4 e4 => .inr (.inr ⟨w, rfl, Nat.le_trans hw (by decide), q H4 ((e2.trans e3).trans e4)⟩)
/-! ### operators -/
theorem rv_addI {i j : Int} : RV (rAddA K) (.int i) (.int j) H (.int (i + j)) := fun H1 _ _ q => .inl ⟨i, j, rfl, rfl, q H1 (Ex.refl H1)⟩
theorem rv_addS {a b : Str} (h : a.length + b.length ≤ 3700000) : RV (rAddA K) (.str a) (.str b) H (.str (a ++ b)) := fun H1 _ _ q => .inr (.inl ⟨a, b, rfl, rfl, Nat.le_trans h (by decide), q H1 (Ex.refl H1)⟩)
theorem rv_addC {a b : List Nat} (h : a.length + b.length ≤ 3700000) : RV (rAddA K) (.str (SX.S a)) (.str (SX.S b)) H (.str (SX.S (a ++ b))) := by
  rw [← SX.S_cat]
  exact rv_addS (by rw [SX.S_len, SX.S_len]; exact h)
theorem rv_mulI {i j : Int} (h : CMul i j) : RV (rMulB K) (.int i) (.int j) H (.int (i * j)) := fun H1 _ _ q => .inr (.inl ⟨i, j, rfl, rfl, h, q H1 (Ex.refl H1)⟩)
def rEqA (K : PySem.W.Frag) : R2 := fun x y H Q => rEq x y H Q ∨ rEqD K x y H Q
def rNeA (K : PySem.W.Frag) : R2 := fun x y H Q => rNe x y H Q ∨ rNeD K x y H Q
theorem op_eqA (hu : X.A.units + 64 < cLine) : OpR X (compareOp .Eq) (rEqA X.K) := OpR.or op_eq (op_eqD hu)
theorem op_neA (hu : X.A.units + 64 < cLine) : OpR X (compareOp .NotEq) (rNeA X.K) := OpR.or op_ne (op_neD hu)
theorem rv_eqI {i j : Int} : RV (rEqA K) (.int i) (.int j) H (.bl (decide (i = j))) := fun H1 _ _ q => .inl ⟨rfl, by
  have e : decide (V.int i = V.int j) = decide (i = j) := by simp
  rw [e]
  exact q H1 (Ex.refl H1)⟩
theorem rv_neI {i j : Int} : RV (rNeA K) (.int i) (.int j) H (.bl (!decide (i = j))) := fun H1 _ _ q => .inl ⟨rfl, by
  have e : decide (V.int i = V.int j) = decide (i = j) := by simp
  rw [e]
  exact q H1 (Ex.refl H1)⟩
theorem dec_S {a b : List Nat} : decide (V.str (SX.S a) = V.str (SX.S b)) = decide (a = b) := by
  by_cases h : a = b
  · subst h
    simp
  · rw [decide_eq_false h]
    exact decide_eq_false fun z => h (SX.S_inj (by injection z))
theorem rv_eqC {a b : List Nat} : RV (rEqA K) (.str (SX.S a)) (.str (SX.S b)) H (.bl (decide (a = b))) := fun H1 _ _ q => .inl ⟨rfl, by
  rw [dec_S]
  exact q H1 (Ex.refl H1)⟩
theorem rv_neC {a b : List Nat} : RV (rNeA K) (.str (SX.S a)) (.str (SX.S b)) H (.bl (!decide (a = b))) := fun H1 _ _ q => .inl ⟨rfl, by
  rw [dec_S]
  exact q H1 (Ex.refl H1)⟩
/-- data on both sides -/
theorem rv_eqD {d e : PyData} (h1 : Dp K H x d) (h2 : Dp K H y e) (s1 : SeqAt.shaped d = true := by rfl) (s2 : SeqAt.shaped e = true := by rfl) : RV (rEqA K) x y H (.bl (PyData.eqv d e)) := fun H1 e1 _ q => .inr ⟨d, e, dp_ex e1 d x h1, dp_ex e1 e y h2, s1, s2, q H1 (Ex.refl H1)⟩
theorem rv_neD {d e : PyData} (h1 : Dp K H x d) (h2 : Dp K H y e) (s1 : SeqAt.shaped d = true := by rfl) (s2 : SeqAt.shaped e = true := by rfl) : RV (rNeA K) x y H (.bl (!PyData.eqv d e)) := fun H1 e1 _ q => .inr ⟨d, e, dp_ex e1 d x h1, dp_ex e1 e y h2, s1, s2, q H1 (Ex.refl H1)⟩
theorem rv_xS {w : List Nat} {i : Int} {c : Nat} (h : w.length ≤ 3700000) (ha : atI w i = some c) : RV (rIx K) (.str (SX.S w)) (.int i) H (.str (SX.S [c])) := fun H1 e _ q => .inr (.inr ⟨SX.S w, i, c, rfl, rfl, by rw [SX.S_len]; exact Nat.le_trans h (by decide), ha, q H1 (Ex.refl H1)⟩)
theorem rv_xT {p : Addr} {i : Int} (h : SqT K H p xs) (ha : atI xs i = some v) : RV (rIx K) (.ref p) (.int i) H v := fun H1 e _ q => .inr (.inl ⟨p, xs, i, v, rfl, rfl, ex_t e h, ha, q H1 (Ex.refl H1)⟩)
theorem rv_xL {p : Addr} {i : Int} (h : SqL K H p xs) (ha : atI xs i = some v) : RV (rIx K) (.ref p) (.int i) H v := fun H1 e _ q => .inl ⟨p, xs, i, v, rfl, rfl, ex_l e h, ha, q H1 (Ex.refl H1)⟩
theorem ev_opLs (ha : EvLs K ta σ H xs) (hb : Ev tb σ H y) {r : R2} (hr : ∀ p H1, SqL K H1 p xs → Ex H H1 → RV r (.ref p) y H1 z) : Ev (tOp r ta tb) σ H z := fun H1 e Q q =>
  ha H1 e _ fun p H2 e2 hp => hb H2 (e.trans e2) _ fun H3 e3 => hr p H3 (ex_l e3 hp) ((e.trans e2).trans e3) H3 (Ex.refl _) _ fun H4 e4 => q H4 ((e2.trans e3).trans e4)
theorem ev_opTp (ha : EvTp K ta σ H xs) (hb : Ev tb σ H y) {r : R2} (hr : ∀ p H1, SqT K H1 p xs → Ex H H1 → RV r (.ref p) y H1 z) : Ev (tOp r ta tb) σ H z := fun H1 e Q q =>
  ha H1 e _ fun p H2 e2 hp => hb H2 (e.trans e2) _ fun H3 e3 => hr p H3 (ex_t e3 hp) ((e.trans e2).trans e3) H3 (Ex.refl _) _ fun H4 e4 => q H4 ((e2.trans e3).trans e4)
theorem atI_nat {α : Type} {l : List α} {i : Nat} {c : α} (h : l[i]? = some c) : atI l (i : Int) = some c := by
  unfold atI
  rw [ixN_nat (List.getElem?_eq_some_iff.mp h).1]
  exact h
theorem rc_lenL {p : Addr} (h : SqL K H p xs) : RC (rLenA K) [.ref p] H (.int (xs.length : Int)) := fun H1 e _ q => .inl ⟨p, xs, rfl, .inl (ex_l e h), q H1 (Ex.refl H1)⟩
theorem rc_lenT {p : Addr} (h : SqT K H p xs) : RC (rLenA K) [.ref p] H (.int (xs.length : Int)) := fun H1 e _ q => .inl ⟨p, xs, rfl, .inr (ex_t e h), q H1 (Ex.refl H1)⟩
theorem rc_lenS {w : List Nat} (h : w.length ≤ 3700000) : RC (rLenA K) [.str (SX.S w)] H (.int (w.length : Int)) := fun H1 e _ q => .inr ⟨SX.S w, rfl, by rw [SX.S_len]; exact Nat.le_trans h (by decide), by rw [SX.S_len]; exact q H1 (Ex.refl H1)⟩
theorem ev_lenLs (h : EvLs K te σ H xs) : Ev (tCB (rLenA K) (tCons te tNil)) σ H (.int (xs.length : Int)) := fun H1 e Q q => h H1 e _ fun p H2 e2 hp => .inl ⟨p, xs, rfl, .inl hp, q H2 e2⟩
theorem ev_lenTp (h : EvTp K te σ H xs) : Ev (tCB (rLenA K) (tCons te tNil)) σ H (.int (xs.length : Int)) := fun H1 e Q q => h H1 e _ fun p H2 e2 hp => .inl ⟨p, xs, rfl, .inr hp, q H2 e2⟩
theorem rc_isi {a c : String} {b : Bool} (ty : TyX K H x (.type a)) (hk : kitB a c = some b) (hm : ∀ H1, Ex H H1 → TyX K H1 x (.type a)) : RC (rIsiA K) [x, .ty c] H (.bl b) := fun H1 e _ q => .inl ⟨x, .ty c, .type a, .type c, b, rfl, .ty c, hm H1 e, kit_ty hk, q H1 (Ex.refl H1)⟩
theorem rc_isiInt {i : Int} {c : String} {b : Bool} (hk : kitB "int" c = some b) : RC (rIsiA K) [.int i, .ty c] H (.bl b) := rc_isi (.base (.int i)) hk fun _ _ => .base (.int i)
theorem rc_isiStr {w : Str} {c : String} {b : Bool} (hk : kitB "str" c = some b) : RC (rIsiA K) [.str w, .ty c] H (.bl b) := rc_isi (.base (.str w)) hk fun _ _ => .base (.str w)
theorem tup_ty {p : Addr} (h : SqT K H p xs) : TyX K H (.ref p) (.type "tuple") := by
  rcases h with (h | ⟨o, h⟩) | ⟨od, its, n, h, c, _⟩
  · exact .base (.tup h)
  · exact .fTuple h
  · exact .kTuple h c
theorem rc_isiTup {p : Addr} {c : String} {b : Bool} (h : SqT K H p xs) (hk : kitB "tuple" c = some b) : RC (rIsiA K) [.ref p, .ty c] H (.bl b) := rc_isi (tup_ty h) hk fun _ e => tup_ty (ex_t e h)
theorem ev_cb1 {r : List V → Hp → VK → Prop} (h : Ev te σ H x) (hr : RC r [x] H z) : Ev (tCB r (tCons te tNil)) σ H z := ev_cb (ea_cons h ea_nil) hr
theorem ev_cb2 {r : List V → Hp → VK → Prop} (h : Ev te σ H x) (h2 : Ev tb σ H y) (hr : RC r [x, y] H z) : Ev (tCB r (tCons te (tCons tb tNil))) σ H z := ev_cb (ea_cons h (ea_cons h2 ea_nil)) hr
theorem ev_allL {bs : List Bool} (h : EvLs K te σ H (bs.map V.bl)) : Ev (tCB (rAll K) (tCons te tNil)) σ H (.bl (bs.all id)) := fun H1 e Q q => h H1 e _ fun p H2 e2 hp => ⟨p, bs, rfl, hp, q H2 e2⟩
theorem ev_chain {r r' : R2} {tc : TE} {w : V} {a b : Bool} (ha : Ev ta σ H x) (hb : Ev tb σ H y) (hc : Ev tc σ H w) (h1 : RV r x y H (.bl a)) (h2 : a = true → RV r' y w H (.bl b)) : Ev (tChain r r' ta tb tc) σ H (.bl (a && b)) := fun H1 e Q q =>
  ha H1 e _ fun H2 e2 => hb H2 (e.trans e2) _ fun H3 e3 => h1 H3 ((e.trans e2).trans e3) _ fun H4 e4 => ⟨a, rfl, by
    cases a with
    | false => exact q H4 ((e2.trans e3).trans e4)
    | true =>
      show tc σ H4 _
      exact hc H4 (((e.trans e2).trans e3).trans e4) _ fun H5 e5 => h2 rfl H5 ((((e.trans e2).trans e3).trans e4).trans e5) _ fun H6 e6 => q H6 ((((e2.trans e3).trans e4).trans e5).trans e6)⟩
end
end MB
set_option maxRecDepth 100000
set_option maxHeartbeats 1000000
namespace MB
open PySem PySem.Spec PyProof.Rows L2 Evl
section
variable {X : Cx} {K : PySem.W.Frag} {σ : L2.St} {H H' : Hp} {ta tb te tl : TE} {tt : TT} {x y z v : V} {xs : List V} {j : Nat} {vs : List Nat} {α : Type}
theorem ety : EvT tYes σ H true := fun H1 _ _ q => q H1 (Ex.refl H1)
/-- what stands in the new list ahead of turn i -/
def Cd (H1 : Hp) (D : Addr) (ds : List α) (b : α → Bool) (g : α → V) (i : Nat) (H : Hp) : Prop := Ex H1 H ∧ H D = some (.lst (((ds.take i).filter b).map g))
theorem cd_step {H1 H : Hp} {D : Addr} {ds : List α} {f : α → V} {b : α → Bool} {g : α → V} {i : Nat} {d : α} {σ2 : L2.St} (hD : H1 D = none) (hz : ds.length ≤ 3700000) (hi : ds[i]? = some d) (p : Cd H1 D ds b g i H)
    (ht : EvT tt σ2 H1 (b d)) (he : b d = true → Ev te σ2 H1 (g d)) :
    tt σ2 H fun c H3 => if c = true then te σ2 H3 fun y H4 => ∃ acc, H4 D = some (.lst acc) ∧ acc.length < sizeLine ∧ Cd H1 D ds b g (i + 1) (upd H4 D (.lst (acc ++ [y]))) else Cd H1 D ds b g (i + 1) H3 := by
  obtain ⟨e0, h0⟩ := p
  have hlt := (List.getElem?_eq_some_iff.mp hi).1
  have hd : ds[i] = d := (List.getElem?_eq_some_iff.mp hi).2
  have ht1 : ds.take (i + 1) = ds.take i ++ [d] := by rw [List.take_succ, hi]; rfl
  refine ht H e0 _ fun H3 e3 => ?_
  cases hb : b d with
  | true =>
    show te σ2 H3 _
    refine he hb H3 (e0.trans e3) _ fun H4 e4 => ⟨_, e4 D _ (e3 D _ h0), ?_, ?_, ?_⟩
    · rw [List.length_map]
      refine Nat.lt_of_le_of_lt (List.length_filter_le _ _) ?_
      rw [List.length_take]
      have : (3700000 : Nat) < sizeLine := by decide
      omega
    · exact Ex.mut ((e0.trans e3).trans e4) hD
    · rw [ht1, List.filter_append, List.map_append]
      have : ([d].filter b).map g = [g d] := by simp [hb]
      rw [this]
      exact upd_same
  | false =>
    show Cd H1 D ds b g (i + 1) H3
    refine ⟨e0.trans e3, ?_⟩
    rw [ht1, List.filter_append, List.map_append]
    have : ([d].filter b).map g = [] := by simp [hb]
    rw [this, List.append_nil]
    exact e3 D _ h0
theorem el_lcT {ds : List α} (f : α → V) (b : α → Bool) (g : α → V) (h : EvTp K tl σ H (ds.map f)) (hz : ds.length ≤ 3700000) (hw : ∀ x, wipe ((wipe σ vs).set j (some x)) vs = wipe σ vs)
    (ht : ∀ d ∈ ds, EvT tt ((wipe σ vs).set j (some (f d))) H (b d)) (he : ∀ d ∈ ds, b d = true → Ev te ((wipe σ vs).set j (some (f d))) H (g d)) : EvL (tLc (iTup K tl) (gName j) tt te vs) σ H ((ds.filter b).map g) := fun H0 e Q q =>
  h H0 e _ fun a H1 e1 ha => ⟨a, rfl, ⟨_, ha⟩, fun Dl hD =>
    lc_tup (xs := ds.map f) (Cd H1 Dl ds b g) ⟨Ex.new hD, by rw [List.take_zero]; exact upd_same⟩ (fun i H' _ p => ex_t p.1 ha) (fun i x H' hi p => by
      rw [List.getElem?_map, Option.map_eq_some_iff] at hi
      obtain ⟨d, hd, rfl⟩ := hi
      have hm : d ∈ ds := List.mem_of_getElem? hd
      exact ⟨hw _, cd_step (f := f) hD hz hd p ((ht d hm).mono (e.trans e1)) fun hb => (he d hm hb).mono (e.trans e1)⟩) (fun H' p => q Dl H' (fresh_back e1 hD) (e1.trans p.1) (by
        have := p.2
        rw [List.length_map, List.take_length] at this
        exact this))⟩
theorem el_lcLs {ds : List α} (f : α → V) (b : α → Bool) (g : α → V) (h : EvLs K tl σ H (ds.map f)) (hz : ds.length ≤ 3700000) (hw : ∀ x, wipe ((wipe σ vs).set j (some x)) vs = wipe σ vs)
    (ht : ∀ d ∈ ds, EvT tt ((wipe σ vs).set j (some (f d))) H (b d)) (he : ∀ d ∈ ds, b d = true → Ev te ((wipe σ vs).set j (some (f d))) H (g d)) : EvL (tLc (iList K tl) (gName j) tt te vs) σ H ((ds.filter b).map g) := fun H0 e Q q =>
  h H0 e _ fun a H1 e1 ha => ⟨a, rfl, ⟨_, ha⟩, fun Dl hD =>
    lc_list (xs := ds.map f) (Cd H1 Dl ds b g) ⟨Ex.new hD, by rw [List.take_zero]; exact upd_same⟩ (fun i H' _ p => ex_l p.1 ha) (fun i x H' hi p => by
      rw [List.getElem?_map, Option.map_eq_some_iff] at hi
      obtain ⟨d, hd, rfl⟩ := hi
      have hm : d ∈ ds := List.mem_of_getElem? hd
      exact ⟨hw _, cd_step (f := f) hD hz hd p ((ht d hm).mono (e.trans e1)) fun hb => (he d hm hb).mono (e.trans e1)⟩) (fun H' p => q Dl H' (fresh_back e1 hD) (e1.trans p.1) (by
        have := p.2
        rw [List.length_map, List.take_length] at this
        exact this))⟩
/-- an iteration that keeps no state in the heap -/
structure Pure (J : It) (n : Nat) (val : Nat → V) : Prop where
  go : ∀ i H, i < n → J.go i H
  stop : ∀ H, J.stop n H
  yld : ∀ i H x H', i < n → J.yld i H x H' → H' = H ∧ x = val i
theorem pure_str (w : List Nat) : Pure (Its (SX.S w)) w.length (fun i => .str (SX.S [w.getD i 0])) where
  go := fun i H h => by show i < (w.toArray).size; simpa using h
  stop := fun H => by show (w.toArray).size ≤ w.length; simp
  yld := fun i H x H' hi h => by
    obtain ⟨e, c, hc, rfl⟩ := h
    refine ⟨e, ?_⟩
    have : w[i]? = some c := by simpa using hc
    rw [List.getD_eq_getElem?_getD, this]
    rfl
theorem pure_rng (lo : Int) (n : Nat) : Pure (Itr lo n) n (fun i => .int (lo + i)) := ⟨fun _ _ h => h, fun _ => Nat.le_refl _, fun _ _ _ _ _ h => h⟩
theorem pure_rngC (lo c : Int) (n : Nat) : Pure (Itc lo c n) n (fun i => .int (lo + (i : Nat) * c)) := ⟨fun _ _ h => h, fun _ => Nat.le_refl _, fun _ _ _ _ _ h => h⟩
theorem lc_pure {J : It} {n : Nat} {val : Nat → V} {g : TG} {tt : TT} {te : TE} {vs : List Nat} {σ : L2.St} {H1 : Hp} {D : Addr} {Qd : Hp → Prop} (P : Pure J n val) (Pv : Nat → Hp → Prop) (h0 : Pv 0 (upd H1 D (.lst [])))
    (hs : ∀ i H, i < n → Pv i H → g (val i) (wipe σ vs) H fun σ2 H2 => wipe σ2 vs = wipe σ vs ∧ tt σ2 H2 fun b H3 =>
      if b = true then te σ2 H3 fun y H4 => ∃ acc, H4 D = some (.lst acc) ∧ acc.length < sizeLine ∧ Pv (i + 1) (upd H4 D (.lst (acc ++ [y]))) else Pv (i + 1) H3) (hd : ∀ H, Pv n H → Qd H) :
    ∃ W : Nat → Nat → Hp → Prop, (∃ m, W 0 m (upd H1 D (.lst []))) ∧ ∀ i m H, W i m H →
      (J.stop i H ∧ Qd H) ∨ (J.go i H ∧ ∃ Nx : Hp → Prop, (∀ H', Nx H' → ∃ m', m' < m ∧ W (i + 1) m' H') ∧ ∀ x H', J.yld i H x H' → g x (wipe σ vs) H' fun σ2 H2 => wipe σ2 vs = wipe σ vs ∧ tt σ2 H2 fun b H3 =>
        if b = true then te σ2 H3 fun y H4 => ∃ acc, H4 D = some (.lst acc) ∧ acc.length < sizeLine ∧ Nx (upd H4 D (.lst (acc ++ [y]))) else Nx H3) := by
  refine ⟨fun i m H => m = n - i ∧ i ≤ n ∧ Pv i H, ⟨n, by simp, Nat.zero_le _, h0⟩, ?_⟩
  rintro i m H ⟨rfl, hi, p⟩
  by_cases hlt : i < n
  · refine .inr ⟨P.go i H hlt, Pv (i + 1), fun H' p' => ⟨n - (i + 1), by omega, rfl, hlt, p'⟩, fun x H' y => ?_⟩
    obtain ⟨e, e2⟩ := P.yld i H x H' hlt y
    subst e
    subst e2
    exact hs i _ hlt p
  · have e : i = n := by omega
    subst e
    exact .inl ⟨P.stop H, hd H p⟩
theorem el_lcP {J : It} {n : Nat} {val : Nat → V} {ds : List α} (P : Pure J n val) (f : α → V) (b : α → Bool) (g : α → V) (hn : ds.length = n) (hv : ∀ i d, ds[i]? = some d → val i = f d) (hz : ds.length ≤ 3700000)
    (hw : ∀ x, wipe ((wipe σ vs).set j (some x)) vs = wipe σ vs) {H1 : Hp} {Q : VK} {Dl : Addr} (hD : H1 Dl = none)
    (ht : ∀ d ∈ ds, EvT tt ((wipe σ vs).set j (some (f d))) H1 (b d)) (he : ∀ d ∈ ds, b d = true → Ev te ((wipe σ vs).set j (some (f d))) H1 (g d))
    (q : ∀ H2, Ex H1 H2 → H2 Dl = some (.lst ((ds.filter b).map g)) → Q (.ref Dl) H2) :
    ∃ W : Nat → Nat → Hp → Prop, (∃ m, W 0 m (upd H1 Dl (.lst []))) ∧ ∀ i m H, W i m H →
      (J.stop i H ∧ Q (.ref Dl) H) ∨ (J.go i H ∧ ∃ Nx : Hp → Prop, (∀ H', Nx H' → ∃ m', m' < m ∧ W (i + 1) m' H') ∧ ∀ x H', J.yld i H x H' → gName j x (wipe σ vs) H' fun σ2 H2 => wipe σ2 vs = wipe σ vs ∧ tt σ2 H2 fun b H3 =>
        if b = true then te σ2 H3 fun y H4 => ∃ acc, H4 Dl = some (.lst acc) ∧ acc.length < sizeLine ∧ Nx (upd H4 Dl (.lst (acc ++ [y]))) else Nx H3) :=
  lc_pure (Qd := Q (.ref Dl)) P (Cd H1 Dl ds b g) ⟨Ex.new hD, by rw [List.take_zero]; exact upd_same⟩ (fun i H' hi p => by
      have hlt : i < ds.length := by omega
      have hd : ds[i]? = some ds[i] := List.getElem?_eq_getElem hlt
      have hm : ds[i] ∈ ds := List.getElem_mem hlt
      rw [hv i _ hd]
      exact ⟨hw _, cd_step (f := f) hD hz hd p (ht _ hm) fun hb => he _ hm hb⟩) (fun H' p => q H' p.1 (by
        have := p.2
        rw [← hn, List.take_length] at this
        exact this))
theorem el_lcS {w : List Nat} (b : Nat → Bool) (g : Nat → V) (h : Ev tl σ H (.str (SX.S w))) (hz : w.length ≤ 3700000) (hw : ∀ x, wipe ((wipe σ vs).set j (some x)) vs = wipe σ vs)
    (ht : ∀ d ∈ w, EvT tt ((wipe σ vs).set j (some (.str (SX.S [d])))) H (b d)) (he : ∀ d ∈ w, b d = true → Ev te ((wipe σ vs).set j (some (.str (SX.S [d])))) H (g d)) : EvL (tLc (iStr tl) (gName j) tt te vs) σ H ((w.filter b).map g) := fun H0 e Q q =>
  h H0 e _ fun H1 e1 => ⟨SX.S w, rfl, fun Dl hD =>
    el_lcP (ds := w) (pure_str w) (fun c => .str (SX.S [c])) b g rfl (fun i d hd => by rw [List.getD_eq_getElem?_getD, hd]; rfl) hz hw hD (fun d hm => (ht d hm).mono (e.trans e1)) (fun d hm hb => (he d hm hb).mono (e.trans e1))
      fun H2 e2 h2 => q Dl H2 (fresh_back e1 hD) (e1.trans e2) h2⟩
theorem el_lcR {ta : TA} {n : Int} (b : Nat → Bool) (g : Nat → V) (h : EvA ta σ H [.int n]) (hn : 0 ≤ n ∧ n ≤ 3700000) (hw : ∀ x, wipe ((wipe σ vs).set j (some x)) vs = wipe σ vs)
    (ht : ∀ d : Nat, (d : Int) < n → EvT tt ((wipe σ vs).set j (some (.int (d : Int)))) H (b d)) (he : ∀ d : Nat, (d : Int) < n → b d = true → Ev te ((wipe σ vs).set j (some (.int (d : Int)))) H (g d)) : EvL (tLc (iRng1 ta) (gName j) tt te vs) σ H (((List.range n.toNat).filter b).map g) := fun H0 e Q q =>
  h H0 e _ fun H1 e1 => ⟨n, rfl, by omega, by omega, fun Dl hD =>
    el_lcP (ds := List.range n.toNat) (pure_rng 0 n.toNat) (fun c => .int (c : Int)) b g (List.length_range) (fun i d hd => by
        rw [List.getElem?_range] at hd
        · injection hd with hd
          subst hd
          rw [Int.zero_add]
        · have := (List.getElem?_eq_some_iff.mp hd).1
          rw [List.length_range] at this
          exact this) (by rw [List.length_range]; omega) hw hD
      (fun d hm => (ht d (by rw [List.mem_range] at hm; omega)).mono (e.trans e1)) (fun d hm hb => (he d (by rw [List.mem_range] at hm; omega) hb).mono (e.trans e1))
      fun H2 e2 h2 => q Dl H2 (fresh_back e1 hD) (e1.trans e2) h2⟩
/-- range(0, m, c) with n turns -/
theorem el_lcC {ta : TA} {m c : Int} {n : Nat} (b : Nat → Bool) (g : Nat → V) (h : EvA ta σ H [.int 0, .int m, .int c]) (hr : RgC 0 m c n) (hn : n ≤ 3700000) (hw : ∀ x, wipe ((wipe σ vs).set j (some x)) vs = wipe σ vs)
    (ht : ∀ d : Nat, d < n → EvT tt ((wipe σ vs).set j (some (.int ((d : Int) * c)))) H (b d)) (he : ∀ d : Nat, d < n → b d = true → Ev te ((wipe σ vs).set j (some (.int ((d : Int) * c)))) H (g d)) : EvL (tLc (iRng3 ta) (gName j) tt te vs) σ H (((List.range n).filter b).map g) := fun H0 e Q q =>
  h H0 e _ fun H1 e1 => ⟨0, m, c, n, rfl, hr, fun Dl hD =>
    el_lcP (ds := List.range n) (pure_rngC 0 c n) (fun d => .int ((d : Int) * c)) b g (List.length_range) (fun i d hd => by
        rw [List.getElem?_range] at hd
        · injection hd with hd
          subst hd
          rw [Int.zero_add]
        · have := (List.getElem?_eq_some_iff.mp hd).1
          rw [List.length_range] at this
          exact this) (by rw [List.length_range]; omega) hw hD
      (fun d hm => (ht d (by rw [List.mem_range] at hm; omega)).mono (e.trans e1)) (fun d hm hb => (he d (by rw [List.mem_range] at hm; omega) hb).mono (e.trans e1))
      fun H2 e2 h2 => q Dl H2 (fresh_back e1 hD) (e1.trans e2) h2⟩
/-- sep.join(list of texts) -/
theorem ev_join {sep : List Nat} {ys : List (List Nat)} (ho : Ev ta σ H (.str (SX.S sep))) (h : EvLs K te σ H (ys.map fun w => V.str (SX.S w))) (hz : (ys.map (·.length)).sum + ys.length * sep.length ≤ 16777216) :
    Ev (tM1 (fun x xs H Q => ∃ a p, ∃ ys : List Str, x = .str a ∧ xs = [.ref p] ∧ (SqL K H p (ys.map V.str) ∨ SqT K H p (ys.map V.str)) ∧ (ys.map (·.length)).sum + ys.length * a.length ≤ 16777216 ∧ Q (.str (Txt.join a ys)) H) ta te) σ H (.str (SX.S (TL.joinL sep ys))) := fun H1 e Q q =>
  ho H1 e _ fun H2 e2 => ⟨⟨_, rfl⟩, h H2 (e.trans e2) _ fun p H3 e3 hp => ⟨SX.S sep, p, ys.map SX.S, rfl, rfl, .inl (by rw [List.map_map]; exact hp), by rw [SX.lens, List.length_map, SX.S_len]; exact hz, by rw [SX.join_S]; exact q H3 (e2.trans e3)⟩⟩
/-- t.split(sep): a new list -/
theorem el_split {sep w : List Nat} (ho : Ev ta σ H (.str (SX.S w))) (h : Ev te σ H (.str (SX.S sep))) (hs : sep ≠ []) (hk : sep.all (· < 256) = true) (hw : w.length ≤ 3700000) :
    EvL (tM1 (fun x xs H Q => ∃ a b, x = .str a ∧ xs = [.str b] ∧ (b.length == 0) = false ∧ a.length + 2 ≤ sizeLine ∧ rNewStrs (Txt.split a b) H Q) ta te) σ H ((TL.spl sep 0 [] w).map fun w => V.str (SX.S w)) := fun H1 e Q q =>
  ho H1 e _ fun H2 e2 => ⟨⟨_, rfl⟩, h H2 (e.trans e2) _ fun H3 e3 => ⟨SX.S w, SX.S sep, rfl, rfl, by
    rw [SX.S_len]
    cases sep with
    | nil => exact absurd rfl hs
    | cons c r => rfl, by
    rw [SX.S_len]
    have : (3700002 : Nat) ≤ sizeLine := by decide
    omega, fun p hp => by
    rw [SX.split_S hs hk, List.map_map]
    exact q p _ (fresh_back (e2.trans e3) hp) ((e2.trans e3).trans (Ex.new hp)) upd_same⟩⟩
end
end MB
namespace MB
open PySem PySem.Spec PyProof.Rows L2 Evl
theorem pe_gc {X : Cx} {x : Str} {v : V} {pos : Pos} (hg : Gl X x) (h : ∃ u, X.mg x = some u ∧ RelV v u) (hd : (x == ("__debug__" : Str)) = false := by decide) : PE X (.Name x pos) (tC v) := by
  obtain ⟨u, hm, r⟩ := h
  exact pe_glob hg hm r (hd := hd)
end MB
namespace MB
open PySem PySem.Spec PyProof.Rows L2 Evl
theorem el_is {te : TE} {σ : L2.St} {H : Hp} {xs ys : List V} (h : EvL te σ H xs) (e : xs = ys) : EvL te σ H ys := e ▸ h
/-- no test in the comprehension -/
theorem el_all {te : TE} {σ : L2.St} {H : Hp} {α : Type} {ds : List α} {g : α → V} (h : EvL te σ H ((ds.filter fun _ => true).map g)) : EvL te σ H (ds.map g) := el_is h (by congr 1; exact List.filter_eq_self.mpr fun _ _ => rfl)
theorem hu64 {A : Around} {k : Nat} (h : Room k A) : A.units + 64 < cLine := by
  have := h.units
  omega
end MB
namespace MB
open PySem PySem.Spec PyProof.Rows L2 Evl
section
variable {X : Cx} {K : PySem.W.Frag} (h : X.K = K)
include h
theorem op_addK : OpR X (binaryOp .Add) (rAddA K) := h ▸ op_addA
theorem op_mulK : OpR X (binaryOp .Mult) (rMulB K) := h ▸ op_mulA
theorem op_inK : OpR X (compareOp .In) (rInA K) := h ▸ op_inA
theorem op_niK : OpR X (compareOp .NotIn) (rNotInA K) := h ▸ op_notInA
theorem op_eqK (hu : X.A.units + 64 < cLine) : OpR X (compareOp .Eq) (rEqA K) := h ▸ op_eqA hu
theorem op_neK (hu : X.A.units + 64 < cLine) : OpR X (compareOp .NotEq) (rNeA K) := h ▸ op_neA hu
theorem ix_K : IxR X (rIx K) := h ▸ ix_seq
theorem sl_K : SlR X (rSl K) := h ▸ sl_any
theorem call_lenK : CallR X (.builtin "len") (rLenA K) := h ▸ call_lenA
theorem call_isiK : CallR X (.builtin "isinstance") (rIsiA K) := h ▸ call_isiA
theorem cr_allK (hc : X.calm = true) : CallR X (.builtin "all") (rAll K) := h ▸ cr_all hc
theorem pe_joinK {o e : Expr} {to te : TE} {apos pos : Pos} (ho : PE X o to) (he : PE X e te) (hs : starEach [e] X.env = [(false, eval e X.env)] := by rfl) (hbase : attributeBase o "join" X.env (eval o X.env) = eval o X.env := by rfl) (hline : (apos.endLine == pos.line) = true := by rfl) :
    PE X (.Call (.Attribute o "join" apos) [e] [] pos) (tM1 (fun x xs H Q => ∃ a p, ∃ ys : List Str, x = .str a ∧ xs = [.ref p] ∧ (SqL K H p (ys.map V.str) ∨ SqT K H p (ys.map V.str)) ∧
      (ys.map (·.length)).sum + ys.length * a.length ≤ 16777216 ∧ Q (.str (Txt.join a ys)) H) to te) := h ▸ pe_join ho he hs hbase hline
end
end MB
set_option maxRecDepth 100000
namespace MB
open PySem PySem.Spec PyProof.Rows L2 Evl
theorem q_ifN {σ : L2.St} {H : Hp} {D : Ends} {t : TT} {tu tz : TS} {b : Bool} (h : EvT t σ H b) (h1 : b = true → ∀ H1, Ex H H1 → tu { D with nx := tz D } σ H1) (h2 : b = false → ∀ H1, Ex H H1 → tz D σ H1) : tSeq (tIfS t tu tNext) tz D σ H :=
  s_if (D := { D with nx := tz D }) h h1 fun e H1 e1 => h2 e H1 e1
theorem q_if2 {σ : L2.St} {H : Hp} {D : Ends} {t : TT} {tu tw tz : TS} {b : Bool} (h : EvT t σ H b) (h1 : b = true → ∀ H1, Ex H H1 → tu { D with nx := tz D } σ H1) (h2 : b = false → ∀ H1, Ex H H1 → tw { D with nx := tz D } σ H1) : tSeq (tIfS t tu tw) tz D σ H :=
  s_if (D := { D with nx := tz D }) h h1 h2
theorem s_ifN {σ : L2.St} {H : Hp} {D : Ends} {t : TT} {tu : TS} {b : Bool} (h : EvT t σ H b) (h1 : b = true → ∀ H1, Ex H H1 → tu D σ H1) (h2 : b = false → ∀ H1, Ex H H1 → D.nx σ H1) : tIfS t tu tNext D σ H := s_if h h1 h2
theorem cut_nat {α : Type} (f : α → V) (l : List α) (a b : Nat) : cutV (l.map f) (some (a : Int)) (some (b : Int)) = ((l.drop a).take (b - a)).map f := by
  unfold cutV
  rw [HT.sIx_nat, HT.sIx_nat, List.length_map, ← List.map_drop, ← List.map_take]
  congr 1
  by_cases ha : a ≤ l.length
  · rw [Nat.min_eq_left ha]
    by_cases hb : b ≤ l.length
    · rw [Nat.min_eq_left hb]
    · rw [List.take_of_length_le (by rw [List.length_drop]; omega), List.take_of_length_le (by rw [List.length_drop]; omega)]
  · rw [List.drop_eq_nil_of_le (by omega), List.drop_eq_nil_of_le (by omega), List.take_nil, List.take_nil]
theorem joinL_len (sep : List Nat) : ∀ l : List (List Nat), (TL.joinL sep l).length ≤ (l.map (·.length)).sum + l.length * sep.length
  | [] => Nat.zero_le _
  | [p] => by simp [TL.joinL]
  | p :: q :: r => by
    have h := joinL_len sep (q :: r)
    show (p ++ (sep ++ TL.joinL sep (q :: r))).length ≤ _
    rw [List.length_append, List.length_append, List.map_cons, List.sum_cons, List.length_cons, Nat.add_mul]
    omega
theorem sum_le {b : Nat} : ∀ {l : List (List Nat)}, (∀ x ∈ l, x.length ≤ b) → (l.map (·.length)).sum ≤ l.length * b
  | [], _ => Nat.zero_le _
  | x :: l, h => by
    have h1 := sum_le fun y hy => h y (List.mem_cons_of_mem _ hy)
    have h2 := h x (List.mem_cons_self ..)
    rw [List.map_cons, List.sum_cons, List.length_cons, Nat.add_mul]
    omega
theorem joinL_le {sep : List Nat} {l : List (List Nat)} {b c : Nat} (h : ∀ x ∈ l, x.length ≤ b) (hs : sep.length ≤ c) : (TL.joinL sep l).length ≤ l.length * (b + c) := by
  have h1 := joinL_len sep l
  have h2 := sum_le h
  have h3 : l.length * sep.length ≤ l.length * c := Nat.mul_le_mul_left _ hs
  rw [Nat.mul_add]
  omega
theorem spl_length (S : List Nat) : ∀ (l : List Nat) (k : Nat) (acc : List Nat), (TL.spl S k acc l).length ≤ l.length + 1
  | [], k, acc => by rw [TL.spl_nil]; exact Nat.le_refl _
  | c :: r, 0, acc => by
    cases h : TL.pre S (c :: r) with
    | true =>
      rw [TL.spl_hit h, List.length_cons, List.length_cons]
      exact Nat.succ_le_succ (spl_length S r _ _)
    | false =>
      rw [TL.spl_miss h, List.length_cons]
      exact Nat.le_succ_of_le (spl_length S r _ _)
  | c :: r, k + 1, acc => by
    show (TL.spl S k acc r).length ≤ _
    rw [List.length_cons]
    exact Nat.le_succ_of_le (spl_length S r _ _)
theorem spl_ne (S : List Nat) : ∀ (l : List Nat) (k : Nat) (acc : List Nat), TL.spl S k acc l ≠ []
  | [], k, acc => by rw [TL.spl_nil]; exact List.cons_ne_nil _ _
  | c :: r, 0, acc => by
    cases h : TL.pre S (c :: r) with
    | true => rw [TL.spl_hit h]; exact List.cons_ne_nil _ _
    | false => rw [TL.spl_miss h]; exact spl_ne S r _ _
  | c :: r, k + 1, acc => spl_ne S r k acc
theorem spl_mem (S : List Nat) : ∀ (l : List Nat) (k : Nat) (acc p : List Nat), p ∈ TL.spl S k acc l → p.length ≤ acc.length + l.length
  | [], k, acc, p, h => by
    rw [TL.spl_nil, List.mem_singleton] at h
    subst h
    omega
  | c :: r, 0, acc, p, h => by
    cases hp : TL.pre S (c :: r) with
    | true =>
      rw [TL.spl_hit hp, List.mem_cons] at h
      rw [List.length_cons]
      rcases h with rfl | h
      · omega
      · have := spl_mem S r _ _ _ h
        rw [List.length_nil] at this
        omega
    | false =>
      rw [TL.spl_miss hp] at h
      have := spl_mem S r _ _ _ h
      rw [List.length_append] at this
      rw [List.length_cons]
      simp at this
      omega
  | c :: r, k + 1, acc, p, h => by
    have := spl_mem S r k acc p h
    rw [List.length_cons]
    omega
theorem drop_last {α : Type} {L : List α} (h : L ≠ []) : L.drop (L.length - 1) = [L.getLast h] := by
  have hp := List.length_pos_iff.mpr h
  rw [List.drop_eq_getElem_cons (by omega), List.drop_eq_nil_of_le (by omega), List.getLast_eq_getElem]
theorem for_enumL {K : PySem.W.Frag} {a : Addr} {xs : List V} {g : TG} {tb : TS} {D : Ends} {σ : L2.St} {H : Hp} (Pv : Nat → L2.St → Hp → Prop) (h0 : Pv 0 σ H) (hl : ∀ i σ H, i ≤ xs.length → Pv i σ H → SqL K H a xs)
    (hs : ∀ i x σ H T H', xs[i]? = some x → Pv i σ H → H T = none → Ex H H' → H' T = some (.tup [.int (i : Nat), x]) → (∀ b, b ≠ T → H' b = H b) → g (.ref T) σ H' fun σ2 H2 => tb { D with nx := Pv (i + 1), ct := Pv (i + 1), bk := D.nx } σ2 H2)
    (hd : ∀ σ H, Pv xs.length σ H → D.nx σ H) :
    ∃ W : Nat → Nat → L2.St → Hp → Prop, (∃ m, W 0 m σ H) ∧ ∀ i m σ H, W i m σ H →
      ((Ite K a).stop i H ∧ D.nx σ H) ∨ ((Ite K a).go i H ∧ ∃ N : L2.St → Hp → Prop, (∀ σ' H', N σ' H' → ∃ m', m' < m ∧ W (i + 1) m' σ' H') ∧ ∀ x H', (Ite K a).yld i H x H' → g x σ H' fun σ2 H2 => tb { D with nx := N, ct := N, bk := D.nx } σ2 H2) := by
  refine ⟨fun i m σ H => m = xs.length - i ∧ i ≤ xs.length ∧ Pv i σ H, ⟨xs.length, by simp, Nat.zero_le _, h0⟩, ?_⟩
  rintro i m σ H ⟨rfl, hi, p⟩
  have q := hl i σ H hi p
  by_cases hlt : i < xs.length
  · refine .inr ⟨⟨xs, xs[i], q, List.getElem?_eq_getElem hlt⟩, Pv (i + 1), fun σ' H' p' => ⟨xs.length - (i + 1), by omega, rfl, by omega, p'⟩, ?_⟩
    rintro v H' ⟨T, x, rfl, hT, rfl, hy⟩
    exact hs i x σ H T _ (hy xs q) p hT (Ex.new hT) upd_same fun b hb => upd_ne hb
  · have e : i = xs.length := by omega
    subst e
    exact .inl ⟨⟨xs, q, Nat.le_refl _⟩, hd σ H p⟩
end MB
set_option maxRecDepth 100000
set_option maxHeartbeats 1000000
namespace MB
open PySem PySem.Spec PyProof.Rows L2 Evl
theorem t_yes {σ : L2.St} {H : Hp} {F G : Hp → Prop} (h : F H) : tYes σ H fun b H3 => if b = true then F H3 else G H3 := by
  show if true = true then F H else G H
  rw [if_pos rfl]
  exact h
/-! ### the pen of a law: its dict, its script -/
theorem k_la : ¬ ((Sum.inr ("cells" : Str) : Key) = Sum.inr ("at" : Str)) := by decide +kernel
theorem k_ll : ¬ ((Sum.inr ("cells" : Str) : Key) = Sum.inr ("left" : Str)) := by decide +kernel
theorem k_al : ¬ ((Sum.inr ("at" : Str) : Key) = Sum.inr ("left" : Str)) := by decide +kernel
theorem k_lA : ¬ ((Sum.inr ("left" : Str) : Key) = Sum.inr ("at" : Str)) := by decide +kernel
def penL (lc : Addr) (a l : Int) : List (Key × V) := [(.inr "cells", .ref lc), (.inr "at", .int a), (.inr "left", .int l)]
theorem pen_cells (lc : Addr) (a l : Int) : valV (penL lc a l) (.inr "cells") = some (.ref lc) := valV_pos rfl
theorem pen_at (lc : Addr) (a l : Int) : valV (penL lc a l) (.inr "at") = some (.int a) := by
  unfold penL
  rw [valV_neg k_la, valV_pos rfl]
theorem pen_left (lc : Addr) (a l : Int) : valV (penL lc a l) (.inr "left") = some (.int l) := by
  unfold penL
  rw [valV_neg k_ll, valV_neg k_al, valV_pos rfl]
theorem put_at (lc : Addr) (a l a' : Int) : putK (penL lc a l) (.inr "at") (.int a') = penL lc a' l := by
  unfold putK penL
  rw [if_pos (by simp only [List.any_cons, decide_true, Bool.or_true, Bool.true_or])]
  simp only [List.map_cons, List.map_nil, if_neg k_la, if_true, if_neg k_lA]
theorem put_left (lc : Addr) (a l l' : Int) : putK (penL lc a l) (.inr "left") (.int l') = penL lc a l' := by
  unfold putK penL
  rw [if_pos (by simp only [List.any_cons, decide_true, Bool.or_true, Bool.true_or])]
  simp only [List.map_cons, List.map_nil, if_neg k_ll, if_neg k_al, if_true]
/-- the pen at p, behind n drawn cells -/
def PenC (H : Hp) (p lc : Addr) (cs : List Int) (a l : Int) : Prop := H p = some (.dK (penL lc a l)) ∧ H lc = some (.lst (cs.map V.int)) ∧ cs.length ≤ 63 ∧ 0 ≤ a ∧ 0 ≤ l
def Pen (H : Hp) (p lc : Addr) (n : Nat) : Prop := ∃ cs a l, PenC H p lc cs a l ∧ a ≤ n
/-- all but p is as it was -/
def But (p : Addr) (H H' : Hp) : Prop := ∀ b o, b ≠ p → H b = some o → H' b = some o
theorem But.refl (p : Addr) (H : Hp) : But p H H := fun _ _ _ h => h
theorem But.trans {p : Addr} {H H1 H2 : Hp} (a : But p H H1) (b : But p H1 H2) : But p H H2 := fun x o n h => b x o n (a x o n h)
theorem But.of {p : Addr} {H H' : Hp} (e : Ex H H') : But p H H' := fun b o _ h => e b o h
theorem Pen.ex {H H' : Hp} {p lc : Addr} {n : Nat} (e : Ex H H') (h : Pen H p lc n) : Pen H' p lc n := by
  obtain ⟨cs, a, l, ⟨h1, h2, h3⟩, h4⟩ := h
  exact ⟨cs, a, l, ⟨e _ _ h1, e _ _ h2, h3⟩, h4⟩
theorem Pen.le {H : Hp} {p lc : Addr} {n m : Nat} (h : Pen H p lc n) (hm : n ≤ m) : Pen H p lc m := by
  obtain ⟨cs, a, l, h1, h4⟩ := h
  exact ⟨cs, a, l, h1, by omega⟩
theorem Pen.dict {H : Hp} {p lc : Addr} {n : Nat} (h : Pen H p lc n) : ∃ kvs, H p = some (.dK kvs) := by
  obtain ⟨cs, a, l, ⟨h1, _⟩, _⟩ := h
  exact ⟨_, h1⟩
/-- p's dict is another thing than a list -/
theorem Pen.ne {H : Hp} {p lc b : Addr} {n : Nat} {xs : List V} (h : Pen H p lc n) (hb : H b = some (.lst xs)) : b ≠ p := fun z => by
  obtain ⟨kvs, hp⟩ := h.dict
  rw [z, hp] at hb
  cases hb
theorem Pen.neT {H : Hp} {p lc b : Addr} {n : Nat} {xs : List V} (h : Pen H p lc n) (hb : H b = some (.tup xs)) : b ≠ p := fun z => by
  obtain ⟨kvs, hp⟩ := h.dict
  rw [z, hp] at hb
  cases hb
theorem Pen.upd {H : Hp} {p lc b : Addr} {n : Nat} {o : HO} (h : Pen H p lc n) (h1 : b ≠ p) (h2 : b ≠ lc) : Pen (upd H b o) p lc n := by
  obtain ⟨cs, a, l, ⟨g1, g2, g3⟩, g4⟩ := h
  exact ⟨cs, a, l, ⟨by rw [upd_ne (Ne.symm h1)]; exact g1, by rw [upd_ne (Ne.symm h2)]; exact g2, g3⟩, g4⟩
theorem Pen.some {H : Hp} {p lc : Addr} {n : Nat} (h : Pen H p lc n) : H p ≠ none ∧ H lc ≠ none := by
  obtain ⟨cs, a, l, ⟨g1, g2, g3⟩, g4⟩ := h
  exact ⟨by rw [g1]; exact (fun z => nomatch z), by rw [g2]; exact (fun z => nomatch z)⟩
/-- a place that was free when the pen was there is neither of its two -/
theorem Pen.off {H : Hp} {p lc b : Addr} {n : Nat} (h : Pen H p lc n) (hb : H b = none) : b ≠ p ∧ b ≠ lc := ⟨fun z => h.some.1 (z ▸ hb), fun z => h.some.2 (z ▸ hb)⟩
theorem But.fresh {p lc q : Addr} {H H' : Hp} {n : Nat} (e : But p H H') (hp : Pen H' p lc n) (h : H' q = none) : H q = none := by
  cases hq : H q with
  | none => rfl
  | some o =>
    have := e q o (hp.off h).1 hq
    rw [h] at this
    cases this
theorem But.mut {p b : Addr} {H H' : Hp} {o : HO} (e : But p H H') (h : H b = none) : But p H (L2.upd H' b o) := fun x u hx hu => by
  rw [upd_ne (ne_of_none hu h)]
  exact e x u hx hu
theorem But.new {p b : Addr} {H H' : Hp} {o : HO} (e : But p H H') (hb : H b = none) : But p H (upd H' b o) := fun x u hx h => by
  rw [upd_ne (ne_of_none h hb)]
  exact e x u hx h
section
variable {X : Cx} {K : PySem.W.Frag} {σ : L2.St} {H H' : Hp} {ta tb te td tv : TE} {x y z v : V} {xs : List V} {D : Ends} {tz : TS}
theorem ev_dget {p : Addr} {kvs : List (Key × V)} (k : Key) (h : Ev td σ H (.ref p)) (hp : H p = some (.dK kvs)) (hk : valV kvs k = some v) : Ev (tDGet td (tC (kV k))) σ H v := fun H1 e Q q =>
  h H1 e _ fun H2 e2 => ⟨p, v, rfl, .inl ⟨kvs, k, .inl ((e.trans e2) _ _ hp), rfl, hk.symm⟩, q H2 e2⟩
theorem q_dput {p : Addr} {kvs : List (Key × V)} (k : Key) (hv : Ev tv σ H v) (ho : Ev td σ H (.ref p)) (hp : H p = some (.dK kvs)) (hl : kvs.length ≤ 1000) (q : ∀ H1, Ex H H1 → tz D σ (upd H1 p (.dK (putK kvs k v)))) : tSeq (sDPut td (tC (kV k)) tv) tz D σ H :=
  hv H (Ex.refl H) _ fun H1 e1 => ho H1 e1 _ fun H2 e2 => ⟨p, _, rfl, .inl ⟨kvs, k, (e1.trans e2) _ _ hp, rfl, Nat.lt_of_le_of_lt hl (by decide), rfl⟩, q H2 (e1.trans e2)⟩
theorem rc_abs {i : Int} : RC (fun xs H Q => ∃ i, xs = [.int i] ∧ Q (.int (if i < 0 then -i else i)) H) [.int i] H (.int (if i < 0 then -i else i)) := fun H1 _ _ q => ⟨i, rfl, q H1 (Ex.refl H1)⟩
theorem rc_intB {b : Bool} : RC rIntA [.bl b] H (.int (if b then 1 else 0)) := fun H1 _ _ q => .inl (.inr ⟨b, rfl, q H1 (Ex.refl H1)⟩)
/-- a list of ints against the empty list -/
theorem ints_ne_nil (ns : List Int) : PyData.eqv (.list (ns.map PyData.int)) (.list []) = decide (ns = []) := by
  cases ns with
  | nil => rfl
  | cons n r => rfl
end
/-! the promises -/
def spPen (K : PySem.W.Frag) : Sp := fun vs H Q _ => ∃ (a : Addr) (ns : List Int), vs = [.ref a] ∧ SqL K H a (ns.map V.int) ∧ ∀ p lc H', Ex H H' → H p = none → Pen H' p lc 0 → Q (.ref p) H'
def spDraw : Sp := fun vs H Q _ => ∃ (p lc : Addr) (m : Int) (n : Nat), vs = [.ref p, .int m] ∧ 0 < m ∧ m < 1000000 ∧ Pen H p lc n ∧ n ≤ 1000000 ∧ ∀ (r : Int) H', 0 ≤ r → r < m → Pen H' p lc (n + 1) → But p H H' → Q (.int r) H'
def spNumbers : Sp := fun vs H Q _ => ∃ (p lc : Addr) (many : Nat) (lim : Int) (n : Nat), vs = [.ref p, .int (many : Int), .int lim] ∧ many ≤ 10000 ∧ 2 ≤ lim ∧ lim < 1000000 ∧ Pen H p lc n ∧ n + 3 * many ≤ 1000000 ∧
  ∀ (ns : List Nat) q H', ns.length = many → (∀ x ∈ ns, (x : Int) < lim) → H q = none → H' q = some (.tup (ns.map fun (k : Nat) => V.int (k : Int))) → Pen H' p lc (n + 3 * many) → But p H H' → Q (.ref q) H'
theorem ev_draw {ta tb : TE} {σ : L2.St} {H : Hp} {E : XK} {p lc : Addr} {m : Int} {n : Nat} {Q : VK} (h0 : Ev ta σ H (.ref p)) (h1 : Ev tb σ H (.int m)) (hm0 : 0 < m) (hm1 : m < 1000000) (hp : Pen H p lc n) (hn : n ≤ 1000000)
    (q : ∀ (r : Int) H', 0 ≤ r → r < m → Pen H' p lc (n + 1) → But p H H' → Q (.int r) H') : tCall spDraw [] E (tCons ta (tCons tb tNil)) σ H Q :=
  (ea_cons h0 (ea_cons h1 ea_nil) : EvA _ σ H _) H (Ex.refl H) _ fun H1 e1 => ⟨p, lc, m, n, rfl, hm0, hm1, hp.ex e1, hn, fun r H' a b c d => q r H' a b c ((But.of e1).trans d)⟩
theorem q_draw {ta tb : TE} {σ : L2.St} {H : Hp} {E : XK} {D : Ends} {tz : TS} {i : Nat} {p lc : Addr} {m : Int} {n : Nat} (h0 : Ev ta σ H (.ref p)) (h1 : Ev tb σ H (.int m)) (hm0 : 0 < m) (hm1 : m < 1000000) (hp : Pen H p lc n) (hn : n ≤ 1000000)
    (q : ∀ (r : Int) H', 0 ≤ r → r < m → Pen H' p lc (n + 1) → But p H H' → tz D (σ.set i (some (.int r))) H') : tSeq (tAsg (tCall spDraw [] E (tCons ta (tCons tb tNil))) (gName i)) tz D σ H :=
  ev_draw h0 h1 hm0 hm1 hp hn fun r H' a b c d => q r H' a b c d
end MB
set_option maxRecDepth 100000
set_option maxHeartbeats 1000000
namespace MB
open PySem PySem.Spec PyProof.Rows L2 Evl
section
variable {X : Cx} {o e : Expr} {to te : TE}
/-- e.split(sep), the receiver wants a token -/
theorem pet_m1 {id : String} {name : Str} {apos pos : Pos} {r : V → List V → Hp → VK → Prop} (slot : Slot "str" name id) (ty : typeOf (.builtin id) = pure (.type "method_descriptor")) (rule : MtR X id r) (ho : PET X o to) (he : PE X e te)
    (hs : starEach [e] X.env = [(false, eval e X.env)] := by rfl) (hbase : attributeBase o name X.env (eval o X.env) = eval o X.env := by rfl) (hline : (apos.endLine == pos.line) = true := by rfl) :
    PET X (.Call (.Attribute o name apos) [e] [] pos) (tM1 r to te) := by
  intro pins s σ H Q h0 I h
  refine PySem.Call_method1 hbase hs hline (thn (ho pins s σ H _ h0 I h) fun v s1 ⟨x, H1, I1, r1, q1⟩ => ?_)
  obtain ⟨⟨a, rfl⟩, q1⟩ := q1
  obtain ⟨t, rfl⟩ := _root_.id r1
  refine ⟨"str", _, PySem.F.plainAttrs_str, slot, ty, typeIs_str _ _ _, (fun _ e => nomatch e), Calls.callWith_builtin rfl (Calls.evalArgs_plain (Calls.spliced_cons ?_))⟩
  exact thn (he.run pins s1 σ H1 _ I1 q1) fun u s2 ⟨y, H2, I2, r2, q2⟩ => Calls.spliced_nil (rule pins s2 σ H2 _ [y] _ [u] Q I2 r1 (.cons r2 .nil) q2)
theorem pst_asg {tg e : Expr} {te : TE} {g : TG} {pos : Pos} (he : PET X e te) (hg : PG X tg g) (hs : swapsWithSole [tg] e pos.line X.env = pure false := by rfl) (hw : swappedStores [tg] e X.env = pure none := by rfl)
    (h1 : (assignEach [tg] X.env).map (·.2) = [assign tg X.env] := by rfl) : PST X (.Assign [tg] e pos) (tAsg te g) := by
  intro pins s σ H D h0 I h
  refine wpAny_Assign_stores (thn (he pins s σ H _ h0 I h) fun v s1 ⟨x, H1, I1, r1, q1⟩ => ?_) hs hw
  rw [h1]
  exact thn (hg.run pins s1 σ H1 x v _ I1 r1 q1) fun _ s2 q => q
theorem pst_set {i : Nat} {x : Str} {pos' pos : Pos} (hN : X.N.Nodup) (hi : X.N[i]? = some x) (hx : Loc X.env.scope x) (he : PET X e te) (hs : swapsWith e (some (.Name x pos')) pos.line X.env = pure false := by rfl) (hf : X.fn x = true ∨ X.env.scope.names.lookup x = some .local := by first | exact .inl rfl | exact .inr rfl | assumption) :
    PST X (.Assign [.Name x pos'] e pos) (tAsg te (gName i)) := by
  intro pins s σ H D h0 I h
  refine wpAny_Assign_Name (thn (he pins s σ H _ h0 I h) fun v s1 ⟨y, H1, I1, r1, q1⟩ => ?_) hs
  exact store_ok I1 hN hi hx r1 (fun s2 I2 => ⟨_, H1, I2, q1⟩) hf
end
/-- a def with at least one parameter and no cell: a token is out when its body begins -/
theorem fun_okT {P : Program} {w : World} {K : PySem.W.Frag} {mg : Str → Option Value} {base : Heap} {x qual : Str} {st : Stmt} {f : Addr} {fd : FuncData} {N ps : List Str} {k : Nat} {sp : Sp} (F : Fun K x qual st f fd) (S : FnScope N ps (defScope st))
    (hnc : ∀ y ∈ (defScope st).names, y.2 ≠ .cell) (hps : 1 ≤ ps.length) (len : ∀ vs H Q E, sp vs H Q E → vs.length = ps.length)
    (hbody : ∀ (cdv : Value) (A : Around) (outer : List Env) (s : Shared) (H : Hp) (vs : List V) (Q : VK) (E : XK), Room k (A.deeper (envOfC qual (defScope st) s.heap.objs.size f cdv)) → sp vs H Q E →
      ∃ t, PSsT (cxOf CX0 P w K mg base N qual (defScope st) f cdv A outer s H E) (defBody st) t ∧ t { nx := fun _ H' => Q .non H', rt := Q } (start N vs) H) : FnOk P w K mg base CX0 (k + 1) f fd ps sp := by
  obtain ⟨oc, od, kV, doc, pm, an, cdv, ct, osl, rfl, lk, hcd⟩ := F.ex
  exact fn_ofT lk hcd S hnc hps len fun A outer s H vs Q E hr hsp => hbody cdv A outer s H vs Q E hr hsp
/-! ### texts that only their length is known of -/
theorem replace_le {x y z : Str} (h : z.length ≤ y.length) : (Txt.replace x y z).length ≤ x.length := by
  unfold Txt.replace
  split
  · exact Nat.le_refl _
  · have hy : (Builtin.Str.glued y (Builtin.Str.partsBetween x (Builtin.Str.occurrences x y 0 x.length (x.length + 1)) y.length)).length = x.length := by rw [StrLaws.glued_between_self]
    rw [size_glued, length_partsBetween, Nat.add_sub_cancel] at hy
    rw [size_glued, length_partsBetween, Nat.add_sub_cancel]
    have h2 : (Builtin.Str.occurrences x y 0 x.length (x.length + 1)).length * z.length ≤ (Builtin.Str.occurrences x y 0 x.length (x.length + 1)).length * y.length := Nat.mul_le_mul_left _ h
    omega
/-- the signs of the words and one more for each -/
def mu (ws : List (List Nat)) : Nat := (ws.map fun w => w.length + 1).sum
theorem mu_nil : mu [] = 0 := rfl
theorem mu_cons (w : List Nat) (ws : List (List Nat)) : mu (w :: ws) = w.length + 1 + mu ws := rfl
theorem mu_append : ∀ a b : List (List Nat), mu (a ++ b) = mu a + mu b
  | [], b => by rw [List.nil_append, mu_nil, Nat.zero_add]
  | w :: a, b => by rw [List.cons_append, mu_cons, mu_cons, mu_append a b]; omega
theorem mu_take_drop (l : List (List Nat)) (i : Nat) : mu (l.take i) + mu (l.drop i) = mu l := by rw [← mu_append, List.take_append_drop]
theorem mu_mem : ∀ {ws : List (List Nat)} {w : List Nat}, w ∈ ws → w.length + 1 ≤ mu ws
  | x :: ws, w, h => by
    rw [mu_cons]
    rcases List.mem_cons.mp h with rfl | h
    · omega
    · have := mu_mem h
      omega
theorem mu_len : ∀ ws : List (List Nat), ws.length ≤ mu ws
  | [] => Nat.le_refl _
  | w :: ws => by rw [mu_cons, List.length_cons]; have := mu_len ws; omega
theorem mu_drop1 {l : List (List Nat)} {i : Nat} (h : i < l.length) : mu (l.drop (i + 1)) ≤ mu (l.drop i) := by
  rw [List.drop_eq_getElem_cons h, mu_cons]
  omega
theorem mu_take1 {l : List (List Nat)} {i : Nat} (h : i < l.length) : mu (l.take (i + 1)) = mu (l.take i) + (l[i].length + 1) := by
  rw [List.take_succ, List.getElem?_eq_getElem h, mu_append]
  rfl
theorem mu_join {c : Nat} (ws : List (List Nat)) : (TL.joinL [c] ws).length ≤ mu ws := by
  have := joinL_len [c] ws
  have e : ∀ l : List (List Nat), (l.map (·.length)).sum + l.length * 1 = mu l := by
    intro l
    induction l with
    | nil => rfl
    | cons w l ih => rw [mu_cons, List.map_cons, List.sum_cons, List.length_cons]; omega
  rw [← e]
  exact this
theorem mu_sum (ws : List (List Nat)) : (ws.map (·.length)).sum + ws.length * 1 = mu ws := by
  induction ws with
  | nil => rfl
  | cons w l ih => rw [mu_cons, List.map_cons, List.sum_cons, List.length_cons]; omega
theorem mu_spl (c : Nat) : ∀ (l acc : List Nat), mu (TL.spl [c] 0 acc l) = acc.length + l.length + 1
  | [], acc => by rw [TL.spl_nil]; show acc.length + 1 + 0 = _; rw [List.length_nil]
  | d :: r, acc => by
    cases h : TL.pre [c] (d :: r) with
    | true =>
      rw [TL.spl_hit h, mu_cons, show ([c] : List Nat).length - 1 = 0 from rfl, mu_spl c r [], List.length_cons, List.length_nil]
      omega
    | false =>
      rw [TL.spl_miss h, mu_spl c r, List.length_append, List.length_singleton, List.length_cons]
      omega
section
variable {X : Cx} {K : PySem.W.Frag} {σ : L2.St} {H H' : Hp} {ta tb te : TE} {xs ys : List V}
/-- a list that may be written to -/
def EvP (te : TE) (σ : L2.St) (H : Hp) (xs : List V) : Prop := ∀ H1, Ex H H1 → ∀ Q : VK, (∀ p H2, Ex H1 H2 → H2 p = some (.lst xs) → Q (.ref p) H2) → te σ H1 Q
theorem ep_new (h : EvL te σ H xs) : EvP te σ H xs := fun H1 e Q q => h H1 e _ fun p H2 _ e2 hp => q p H2 e2 hp
theorem ep_val {p : Addr} (h : Ev te σ H (.ref p)) (hp : H p = some (.lst xs)) : EvP te σ H xs := fun H1 e Q q => h H1 e _ fun H2 e2 => q p H2 e2 ((e.trans e2) _ _ hp)
theorem els_p (h : EvP te σ H xs) : EvLs K te σ H xs := fun H1 e Q q => h H1 e _ fun p H2 e2 hp => q p H2 e2 (sq_of hp)
theorem el_cat (ha : EvP ta σ H xs) (hb : EvP tb σ H ys) (hz : xs.length + ys.length ≤ 8000000) : EvL (tOp (rAddA K) ta tb) σ H (xs ++ ys) := fun H1 e Q q =>
  ha H1 e _ fun p H2 e2 hp => hb H2 (e.trans e2) _ fun p' H3 e3 hp' => .inr (.inr (.inl ⟨p, p', xs, ys, rfl, rfl, e3 _ _ hp, hp', Nat.le_trans hz (by decide), fun r hr => q r _ (fresh_back (e2.trans e3) hr) ((e2.trans e3).trans (Ex.new hr)) upd_same⟩))
theorem cut_to {α : Type} (f : α → V) (l : List α) (b : Nat) : cutV (l.map f) none (some (b : Int)) = (l.take b).map f := by
  have := cut_nat f l 0 b
  rw [List.drop_zero] at this
  exact this
theorem cut_from {α : Type} (f : α → V) (l : List α) (a : Nat) : cutV (l.map f) (some (a : Int)) none = (l.drop a).map f := by
  have := cut_nat f l a l.length
  unfold cutV at this ⊢
  rw [HT.sIx_nat, HT.sIx_nat, List.length_map, Nat.min_self] at this
  rw [HT.sIx_nat, HT.sIx_none, List.length_map, this]
  rw [List.take_of_length_le (by rw [List.length_drop]; omega)]
theorem cutS_le (z : Str) (lo hi : Option Int) : (cutS z lo hi).length ≤ z.length := by
  unfold cutS
  show (Array.size _) ≤ _
  rw [List.size_toArray, List.length_take, List.length_drop]
  have : z.cps.toList.length = z.length := by simp [Str.length]
  omega
end
theorem s_retC {sp : Sp} {dvs vs : List V} {E : XK} {ta : TA} {D : Ends} {σ : L2.St} {H : Hp} (h : EvA ta σ H vs) (k : ∀ H1, Ex H H1 → sp (vs ++ dvs) H1 D.rt E) : tRet (tCall sp dvs E ta) D σ H := h H (Ex.refl H) _ k
theorem rc_lenStr {K : PySem.W.Frag} {H : Hp} {z : Str} (h : z.length ≤ 8000000) : RC (rLenA K) [.str z] H (.int (z.length : Int)) := fun H1 e _ q => .inr ⟨z, rfl, Nat.le_trans h (by decide), q H1 (Ex.refl H1)⟩
theorem atI_in {α : Type} {l : List α} {i : Int} (h0 : -(l.length : Int) ≤ i) (h1 : i < l.length) : ∃ x ∈ l, atI l i = some x := by
  unfold atI ixN
  by_cases hn : 0 ≤ i
  · rw [if_pos hn, if_pos (by first | omega | exact h1)]
    have hlt : i.toNat < l.length := by omega
    exact ⟨l[i.toNat], List.getElem_mem hlt, List.getElem?_eq_getElem hlt⟩
  · rw [if_neg hn, if_pos (by first | omega | exact h0)]
    have hlt : (i + (l.length : Int)).toNat < l.length := by omega
    exact ⟨l[(i + (l.length : Int)).toNat], List.getElem_mem hlt, List.getElem?_eq_getElem hlt⟩
theorem ev_slStr {K : PySem.W.Frag} {σ : L2.St} {H : Hp} {te : TE} {tl th : TO} {lo hi : Option Int} {w : Str} (h : Ev te σ H (.str w)) (h1 : EvO tl σ H lo) (h2 : EvO th σ H hi) (hw : w.length ≤ 8000000) : Ev (tSl (rSl K) te tl th) σ H (.str (cutS w lo hi)) := fun H1 e Q q =>
  h H1 e _ fun H2 e2 => h1 H2 (e.trans e2) _ fun H3 e3 => h2 H3 ((e.trans e2).trans e3) _ fun H4 e4 => .inr (.inr ⟨w, rfl, Nat.le_trans hw (by decide), q H4 ((e2.trans e3).trans e4)⟩)
theorem rv_addStr {K : PySem.W.Frag} {H : Hp} {a b : Str} (h : a.length + b.length ≤ 8000000) : RV (rAddA K) (.str a) (.str b) H (.str (a ++ b)) := fun H1 _ _ q => .inr (.inl ⟨a, b, rfl, rfl, Nat.le_trans h (by decide), q H1 (Ex.refl H1)⟩)
theorem rv_mulStr {K : PySem.W.Frag} {H : Hp} {a : Str} {n : Int} (h0 : 0 ≤ n) (h1 : n ≤ 1000) (h : a.length * n.toNat ≤ 8000000) : RV (rMulB K) (.str a) (.int n) H (.str (Txt.mul a n)) := fun H1 _ _ q => .inl ⟨a, n, rfl, rfl, h0, by omega, Nat.le_trans h (by decide), q H1 (Ex.refl H1)⟩
/-- one of four lists of words is drawn and joined -/
theorem join_pick {K : PySem.W.Frag} {σ : L2.St} {H : Hp} {E : XK} {j : Nat} {c : Nat} {p lc q : Addr} {n M : Nat} {as : List Addr} {Q : VK} (h0 : σ[0]? = some (some (.ref p))) (hj : σ[j]? = some (some (.ref q))) (hq : H q = some (.lst (as.map V.ref)))
    (hl : as.length = 4) (hw : ∀ a ∈ as, ∃ ws : List (List Nat), H a = some (.lst (ws.map fun w => V.str (SX.S w))) ∧ mu ws ≤ M) (hM : M ≤ 8000000) (hp : Pen H p lc n) (hn : n ≤ 1000000)
    (k : ∀ (ws : List (List Nat)) H', mu ws ≤ M → Pen H' p lc (n + 1) → But p H H' → Q (.str (SX.S (TL.joinL [c] ws))) H') :
    tM1 (fun x xs H Q => ∃ a p, ∃ ys : List Str, x = .str a ∧ xs = [.ref p] ∧ (SqL K H p (ys.map V.str) ∨ SqT K H p (ys.map V.str)) ∧ (ys.map (·.length)).sum + ys.length * a.length ≤ 16777216 ∧ Q (.str (Txt.join a ys)) H) (tC (.str (SX.S [c])))
      (tOp (rIx K) (tVar j) (tCall spDraw [] E (tCons (tVar 0) (tCons (tC (.int 4)) tNil)))) σ H Q := by
  refine ⟨⟨_, rfl⟩, _, hj, ev_draw (m := 4) (ev_var h0) ev_c (by decide) (by decide) hp hn fun r H1 r0 r1 hp1 hb1 => ?_⟩
  have hlen : (as.map V.ref).length = 4 := by rw [List.length_map, hl]
  obtain ⟨v, hv, hat⟩ := atI_in (l := as.map V.ref) (i := r) (by omega) (by omega)
  obtain ⟨a, ha, rfl⟩ := List.mem_map.mp hv
  obtain ⟨ws, hws, hm⟩ := hw a ha
  refine .inl ⟨q, _, r, _, rfl, rfl, sq_of (hb1 _ _ (hp.ne hq) hq), hat, ?_⟩
  refine ⟨SX.S [c], a, ws.map SX.S, rfl, rfl, .inl (sq_of (by rw [List.map_map]; exact hb1 _ _ (hp.ne hws) hws)), ?_, ?_⟩
  · rw [SX.lens, List.length_map, SX.S_len, List.length_singleton, mu_sum]
    omega
  · rw [SX.join_S]
    exact k ws H1 hm hp1 hb1
theorem mu_set (l : List (List Nat)) (i : Nat) (x : List Nat) : mu (l.set i x) ≤ mu l + (x.length + 1) := by
  by_cases h : i < l.length
  · rw [List.set_eq_take_append_cons_drop, if_pos h, mu_append, mu_cons]
    have h1 := mu_take_drop l i
    have h2 := mu_drop1 h
    omega
  · rw [List.set_eq_of_length_le (by omega)]
    omega
/-- a list against the empty list: its items do not matter -/
def rNeNil (K : PySem.W.Frag) : R2 := fun x y H Q => ∃ a b xs, x = .ref a ∧ y = .ref b ∧ SqL K H a xs ∧ SqL K H b [] ∧ Q (.bl (!xs.isEmpty)) H
theorem op_neNil {X : Cx} {K : PySem.W.Frag} (hK : X.K = K) (hu : X.A.units < cLine) : OpR X (compareOp .NotEq) (rNeNil K) := by
  intro pins s σ H x y v u Q I rx ry h
  subst hK
  obtain ⟨a, b, xs, rfl, rfl, ha, hb, q⟩ := h
  obtain rfl : v = Value.ref a := rx
  obtain rfl : u = Value.ref b := ry
  obtain ⟨i1, r1, p1, _⟩ := I.list ha
  obtain ⟨i2, r2, p2, _⟩ := I.list hb
  have z2 : i2 = [] := by cases r2; rfl
  subst z2
  show wpAny _ _ (richCompare .NotEq (.ref a) (.ref b)) _ _ _
  cases i1 with
  | nil =>
    have : xs = [] := by cases r1; rfl
    subst this
    have k := SeqAt.RcNeAt.lists (A := X.A) (e := fun _ => true) p1.isList p2.isList rfl hu (fun j h1 _ => absurd h1 (Nat.not_lt_zero _))
    exact k _ _ _ _ ⟨.bl _, H, I, rfl, q⟩
  | cons c r =>
    have : xs.isEmpty = false := by cases r1; rfl
    rw [this] at q
    have k := SeqAt.RcNeAt.lists_lengths (A := X.A) p1.isList p2.isList (by simp) hu
    exact k _ _ _ _ ⟨.bl _, H, I, rfl, q⟩
theorem ev_neNil {K : PySem.W.Frag} {σ : L2.St} {H : Hp} {ta tb : TE} {xs : List V} (ha : EvL ta σ H xs) (hb : EvL tb σ H []) : Ev (tOp (rNeNil K) ta tb) σ H (.bl (!xs.isEmpty)) := fun H1 e Q q =>
  ha H1 e _ fun a H2 _ e2 h2 => hb H2 (e.trans e2) _ fun b H3 _ e3 h3 => ⟨a, b, xs, rfl, rfl, sq_of (e3 _ _ h2), sq_of h3, q H3 (e2.trans e3)⟩
/-- a text bent: nothing but its length is told -/
def spBent (m : Nat) (f : Nat → Nat) : Sp := fun vs H Q _ => ∃ (p lc : Addr) (t : Str) (n : Nat) (more : List V), vs = .ref p :: .str t :: more ∧ more.length = m ∧ Pen H p lc n ∧ n + 10 ≤ 1000000 ∧ t.length ≤ 100000 ∧
  (∀ v ∈ more, ∃ (l : Addr) (ws : List (List Nat)), v = .ref l ∧ H l = some (.lst (ws.map fun w => V.str (SX.S w))) ∧ ws.length ≤ 20 ∧ ∀ w ∈ ws, w.length ≤ 20) ∧
  ∀ (t' : Str) H', t'.length ≤ f t.length → Pen H' p lc (n + 10) → But p H H' → Q (.str t') H'
end MB
set_option maxRecDepth 100000
set_option maxHeartbeats 1000000
namespace MB
open PySem PySem.Spec PyProof.Rows L2 Evl
/-! ### repr of a tuple of small numbers -/
def dT (ns : List Nat) : PyData := .tuple (ns.map fun (n : Nat) => PyData.int (n : Int))
theorem small_int : ∀ n : Nat, n < 256 → (PyData.shown (.int (n : Int))).length ≤ 13 ∧ PyData.weight (.int (n : Int)) ≤ 8 ∧ PyData.showable (.int (n : Int)) = true := by decide +kernel
theorem dT_all : ∀ {ns : List Nat}, (∀ n ∈ ns, n < 256) → PyData.showableAll (ns.map fun (n : Nat) => PyData.int (n : Int)) = true ∧ PyData.hasDictAll (ns.map fun (n : Nat) => PyData.int (n : Int)) = false ∧ PyData.depthAll (ns.map fun (n : Nat) => PyData.int (n : Int)) = 0 ∧
    PyData.weightAll (ns.map fun (n : Nat) => PyData.int (n : Int)) ≤ 9 * ns.length ∧ PyData.intsShortAll 13 (ns.map fun (n : Nat) => PyData.int (n : Int)) = true ∧ PyData.canLayAll0 (ns.map fun (n : Nat) => PyData.int (n : Int)) = true
  | [], _ => ⟨rfl, rfl, rfl, Nat.zero_le _, rfl, rfl⟩
  | n :: r, h => by
    obtain ⟨h1, h2, h3, h4, h5, h6⟩ := dT_all fun x hx => h x (List.mem_cons_of_mem _ hx)
    obtain ⟨s1, s2, s3⟩ := small_int n (h n (List.mem_cons_self ..))
    rw [List.map_cons]
    refine ⟨?_, ?_, ?_, ?_, ?_, ?_⟩
    · rw [PyData.showableAll, s3, h1]
      rfl
    · rw [PyData.hasDictAll, h2, PyData.hasDict]
      rfl
    · rw [PyData.depthAll, h3, PyData.depth]
      rfl
    · rw [PyData.weightAll, List.length_cons]
      omega
    · rw [PyData.intsShortAll, h5, PyData.intsShort, decide_eq_true s1]
      rfl
    · rw [PyData.canLayAll0, h6, PyData.canLay0]
      rfl
theorem rc_reprT {K : PySem.W.Frag} {H : Hp} {p : Addr} {ns : List Nat} (hp : SqT K H p (ns.map fun (n : Nat) => V.int (n : Int))) (hz : ns.length ≤ 4000) (hn : ∀ n ∈ ns, n < 256) : RC (rReprD K) [.ref p] H (.str (dT ns).shown) := fun H1 e Q q => by
  obtain ⟨h1, h2, h3, h4, h5, h6⟩ := dT_all hn
  refine ⟨p, dT ns, rfl, .tup (ex_t e hp) ?_, ?_, ?_, ?_, ?_, q H1 (Ex.refl _)⟩
  · have := dpAll_ints (K := K) (H := H1) (ns.map fun (n : Nat) => (n : Int))
    rw [List.map_map, List.map_map] at this
    exact this
  · rw [dT, PyData.showable, h1]
  · rw [dT, PyData.hasDict, h2]
  · rw [dT, PyData.depth, h3]
    decide
  · refine Nat.le_trans (shown_le13 (d := dT ns) ?_ ?_) (by decide)
    · rw [dT, PyData.layable0, PyData.canLay0, h6, PyData.depth, h3, PyData.weight]
      simp only [Bool.true_and, Bool.and_eq_true, decide_eq_true_eq]
      omega
    · rw [dT, PyData.intsShort, h5]
/-! ### texts of bounded length -/
section
variable {K : PySem.W.Frag} {σ : L2.St} {H : Hp} {ta tb te : TE} {a b : Nat}
def EvZ (te : TE) (σ : L2.St) (H : Hp) (b : Nat) : Prop := ∃ z : Str, z.length ≤ b ∧ Ev te σ H (.str z)
theorem evz_c {z : Str} (h : z.length ≤ b) : EvZ (tC (.str z)) σ H b := ⟨z, h, ev_c⟩
theorem evz_var {z : Str} {i : Nat} (hs : σ[i]? = some (some (.str z))) (h : z.length ≤ b) : EvZ (tVar i) σ H b := ⟨z, h, ev_var hs⟩
theorem evz_add (h1 : EvZ ta σ H a) (h2 : EvZ tb σ H b) (hz : a + b ≤ 8000000) : EvZ (tOp (rAddA K) ta tb) σ H (a + b) := by
  obtain ⟨x, l1, e1⟩ := h1
  obtain ⟨y, l2, e2⟩ := h2
  exact ⟨x ++ y, by rw [PySem.Str.length_append]; omega, ev_op e1 e2 (rv_addStr (by omega))⟩
theorem evz_sl {tl th : TO} {lo hi : Option Int} (h : EvZ te σ H b) (h1 : EvO tl σ H lo) (h2 : EvO th σ H hi) (hz : b ≤ 8000000) : EvZ (tSl (rSl K) te tl th) σ H b := by
  obtain ⟨x, l, e⟩ := h
  exact ⟨cutS x lo hi, Nat.le_trans (cutS_le x lo hi) l, ev_slStr e h1 h2 (by omega)⟩
theorem evz_mul {n : Nat} (h : EvZ te σ H b) (hn : n ≤ 1000) (hz : b * n ≤ 8000000) : EvZ (tOp (rMulB K) te (tC (.int (n : Int)))) σ H (b * n) := by
  obtain ⟨x, l, e⟩ := h
  have h2 : x.length * n ≤ b * n := Nat.mul_le_mul_right _ l
  exact ⟨Txt.mul x n, len_mul_leN l (Int.le_refl _), ev_op e ev_c (rv_mulStr (by omega) (by omega) (by rw [Int.toNat_natCast]; omega))⟩
def EvAZ (ta : TA) (σ : L2.St) (H : Hp) (n b : Nat) : Prop := ∃ zs : List Str, zs.length = n ∧ (∀ z ∈ zs, z.length ≤ b) ∧ EvA ta σ H (zs.map V.str)
theorem eaz_nil : EvAZ tNil σ H 0 b := ⟨[], rfl, fun z hz => absurd hz (List.not_mem_nil), ea_nil⟩
theorem eaz_cons {tr : TA} {n : Nat} (h : EvZ te σ H a) (hr : EvAZ tr σ H n b) (hab : a ≤ b := by decide) : EvAZ (tCons te tr) σ H (n + 1) b := by
  obtain ⟨z, l, e⟩ := h
  obtain ⟨zs, l1, l2, e2⟩ := hr
  refine ⟨z :: zs, by rw [List.length_cons, l1], fun x hx => ?_, ea_cons e e2⟩
  rcases List.mem_cons.mp hx with rfl | hx
  · omega
  · exact l2 x hx
theorem el_rep {xs : List V} {k : Nat} (h : EvP ta σ H xs) (hk : k ≤ 100000) (hz : xs.length * k ≤ 8000000) : EvL (tOp (rMulB K) ta (tC (.int (k : Int)))) σ H (List.replicate k xs).flatten := fun H1 e Q q =>
  h H1 e _ fun p H2 e2 hp => .inr (.inr (.inl ⟨p, (k : Int), xs, rfl, rfl, hp, by omega, by omega, by rw [Int.toNat_natCast]; exact Nat.le_trans hz (by decide), fun r hr => q r _ (fresh_back e2 hr) (e2.trans (Ex.new hr)) (by rw [upd_same, Int.toNat_natCast])⟩))
theorem q_asgC {sp : Sp} {dvs vs : List V} {E : XK} {ta : TA} {tz : TS} {D : Ends} {i : Nat} (h : EvA ta σ H vs) (k : ∀ H1, Ex H H1 → sp (vs ++ dvs) H1 (fun v H2 => tz D (σ.set i (some v)) H2) E) : tSeq (tAsg (tCall sp dvs E ta) (gName i)) tz D σ H := h H (Ex.refl H) _ k
theorem s_asgC {sp : Sp} {dvs vs : List V} {E : XK} {ta : TA} {D : Ends} {i : Nat} (h : EvA ta σ H vs) (k : ∀ H1, Ex H H1 → sp (vs ++ dvs) H1 (fun v H2 => D.nx (σ.set i (some v)) H2) E) : tAsg (tCall sp dvs E ta) (gName i) D σ H := h H (Ex.refl H) _ k
end
/-- the tables of code stay where the pen is written to -/
theorem tabs_but {TL : List (Addr × Str)} {H H' : Hp} {p lc : Addr} {n : Nat} (hp : Pen H p lc n) (e : But p H H') (t : LamX.Tabs TL H) : LamX.Tabs TL H' := fun x hx => by
  obtain ⟨kvs, hd⟩ := hp.dict
  obtain ⟨ps, h1, h2, h3⟩ := t x hx
  refine ⟨ps, e _ _ (fun z => ?_) h1, h2, fun pos cv hc => ?_⟩
  · rw [z, hd] at h1
    cases h1
  · obtain ⟨c, hc1, hc2⟩ := h3 pos cv hc
    refine ⟨c, hc1, e _ _ (fun z => ?_) hc2⟩
    rw [z, hd] at hc2
    cases hc2
end MB
set_option maxRecDepth 100000
set_option maxHeartbeats 2000000
namespace MB
open PySem PySem.Spec PyProof.Rows L2 Evl
/-! ### the end of a law whose def asks for repr: it is run at the claim's own caller, of whom it is known that he guards nothing -/
section
variable {P : Program} {w : World} {K : PySem.W.Frag} {mg mb : Str → Option Value} {fa a : Addr} {cs : List (Addr × Addr)} {s : Shared} {vs : List Value} {ns : List Int}
/-- what is tracked at the beginning: the code tables, and the script's list, if the written part does not know it -/
def startH (K : PySem.W.Frag) (cs : List (Addr × Addr)) (a : Addr) (vs : List Value) (ns : List Int) : Hp := fun b =>
  if b ∈ cs.map (·.2) then some (.tbl #[]) else if b = a ∧ (K.lookup a).isNone = true then some (.frz { cls := .type "list", data := .seq vs.toArray } (.lst (ns.map V.int))) else none
theorem start_tab {b : Addr} (h : b ∈ cs.map (·.2)) : startH K cs a vs ns b = some (.tbl #[]) := by unfold startH; rw [if_pos h]
theorem start_cases (b : Addr) : (b ∈ cs.map (·.2) ∧ startH K cs a vs ns b = some (.tbl #[])) ∨ (b ∉ cs.map (·.2) ∧ b = a ∧ K.lookup a = none ∧ startH K cs a vs ns b = some (.frz { cls := .type "list", data := .seq vs.toArray } (.lst (ns.map V.int)))) ∨
    (b ∉ cs.map (·.2) ∧ (b = a → K.lookup a ≠ none) ∧ startH K cs a vs ns b = none) := by
  by_cases h : b ∈ cs.map (·.2)
  · exact .inl ⟨h, start_tab h⟩
  · by_cases h2 : b = a ∧ (K.lookup a).isNone = true
    · exact .inr (.inl ⟨h, h2.1, Option.isNone_iff_eq_none.mp h2.2, by unfold startH; rw [if_neg h, if_pos h2]⟩)
    · exact .inr (.inr ⟨h, fun e z => h2 ⟨e, by rw [z]; rfl⟩, by unfold startH; rw [if_neg h, if_neg h2]⟩)
/-- what the head has laid -/
structure Laid (K : PySem.W.Frag) (mg mb : Str → Option Value) (cs : List (Addr × Addr)) (s : Shared) (a : Addr) (vs : List Value) (ns : List Int) : Prop where
  kin : K.In s.heap
  glo : s.heap.Ns mainGlobals mg
  blt : s.heap.Ns builtinsNs mb
  boo : ∀ x : Str, x ≠ "__name__" → mb x = bootBuiltins x
  lim : s.heap.NoLimit
  gen : s.gens = #[]
  tab : ∀ b ∈ cs.map (·.2), s.heap.get? b = some { cls := .none, data := .fields #[] }
  ntk : ∀ b ∈ cs.map (·.2), K.lookup b = none
  cod : ∀ p ∈ cs, PySem.W.CodeHd s.heap p.1 p.2
  mod : ∃ (bm : Addr) (ob : Obj), mg "__builtins__" = some (.ref bm) ∧ bm ≠ builtinsNs ∧ s.heap.get? bm = some ob ∧ ob.cls = .type "module" ∧ ob.dict = some builtinsNs ∧ ob.data = .plain
  obj : s.heap.get? a = some { cls := .type "list", data := .seq vs.toArray }
  int : IntsAre vs ns
  len : ns.length ≤ sizeLine
/-- an object that is neither a list nor an empty field record is not tracked -/
theorem Laid.off (L : Laid K mg mb cs s a vs ns) {b : Addr} {o : Obj} (e : s.heap.get? b = some o) (h1 : ∀ us n, o.data ≠ .seq us n) (h2 : o.data ≠ .fields #[]) : startH K cs a vs ns b = none := by
  rcases start_cases (K := K) (cs := cs) (a := a) (vs := vs) (ns := ns) b with ⟨h, _⟩ | ⟨_, rfl, _, _⟩ | ⟨_, _, h⟩
  · have := (L.tab b h).symm.trans e
    injection this with this
    exact absurd (congrArg Obj.data this).symm h2
  · have := L.obj.symm.trans e
    injection this with this
    exact absurd (congrArg Obj.data this).symm (h1 _ _)
  · exact h
theorem Laid.stays (L : Laid K mg mb cs s a vs ns) {b : Addr} {o : Obj} (e : s.heap.get? b = some o) (h1 : ∀ us n, o.data ≠ .seq us n) (h2 : o.data ≠ .fields #[]) : (hidT s.heap (startH K cs a vs ns)).get? b = some o := hidT_get e (L.off e h1 h2)
theorem Laid.named (L : Laid K mg mb cs s a vs ns) {b : Addr} {m : Str → Option Value} (h : s.heap.Ns b m) : (hidT s.heap (startH K cs a vs ns)).Ns b m := by
  obtain ⟨o, es, ep, e, d, r⟩ := h
  exact ⟨o, es, ep, L.stays e (fun us n z => by rw [d] at z; cases z) (fun z => by rw [d] at z; cases z), d, r⟩
theorem Laid.written (L : Laid K mg mb cs s a vs ns) : K.In (hidT s.heap (startH K cs a vs ns)) := fun b o e => hidT_get (L.kin b o e) (by
  rcases start_cases (K := K) (cs := cs) (a := a) (vs := vs) (ns := ns) b with ⟨h, _⟩ | ⟨_, rfl, h, _⟩ | ⟨_, _, h⟩
  · rw [L.ntk b h] at e
    cases e
  · rw [h] at e
    cases e
  · exact h)
theorem Laid.hok (L : Laid K mg mb cs s a vs ns) : HOk P w (startH K cs a vs ns) s.heap := fun b u e => by
  rcases start_cases (K := K) (cs := cs) (a := a) (vs := vs) (ns := ns) b with ⟨h, g⟩ | ⟨_, rfl, _, g⟩ | ⟨_, _, g⟩
  · rw [g] at e
    cases e
    exact L.tab b h
  · rw [g] at e
    cases e
    exact ⟨L.obj, by rw [List.length_map]; exact L.len, vs, _, vals_ints L.int, L.obj⟩
  · rw [g] at e
    cases e
theorem Laid.env (L : Laid K mg mb cs s a vs ns) : Env0 P w K mg (hidT s.heap (startH K cs a vs ns)) callerA [] s (startH K cs a vs ns) where
  frames := rfl
  mod := ⟨L.written, L.named L.glo, ⟨mb, L.named L.blt, L.boo⟩, by
    obtain ⟨mc, q1, q2⟩ := L.lim
    exact ⟨mc, L.named q1, q2⟩⟩
  bs := fun b o e => of_hidT e
  bsz := by rw [hidT_size]; exact Nat.le_refl _
  funs := trivial
  frf := by simp [frs]
  hok := L.hok
  bare := .of_eq L.gen
theorem Laid.tabs (L : Laid K mg mb cs s a vs ns) : ∀ p ∈ cs, LamX.TabB (hidT s.heap (startH K cs a vs ns)) mg p.1 p.2 := fun p hp => by
  have hm : p.2 ∈ cs.map (·.2) := List.mem_map_of_mem hp
  refine ⟨?_, ?_, ?_⟩
  · obtain ⟨o, us, file, tf, flags, tg, inF, text, tt, g1, g2, g3, g4, g5, g6, g7, g8, g9, g10⟩ := L.cod p hp
    exact ⟨o, us, file, tf, flags, tg, inF, text, tt, L.stays g1 (fun _ _ z => by rw [g3] at z; cases z) (fun z => by
      rw [g3] at z
      cases z
      simp at g4), g2, g3, g4, g5, g6, g7, g8, g9, g10⟩
  · obtain ⟨bm, ob, q1, q2, q3, q4, q5, q6⟩ := L.mod
    refine ⟨bm, ob, q1, q2, ?_, ?_, L.stays q3 (fun _ _ z => by rw [q6] at z; cases z) (fun z => by rw [q6] at z; cases z), q4, q5, q6⟩
    · rintro rfl
      obtain ⟨o, es, ep, e, d, _⟩ := L.glo
      rw [e] at q3
      cases q3
      rw [d] at q6
      cases q6
    · rintro rfl
      rw [L.tab _ hm] at q3
      cases q3
      cases q6
  · intro z
    obtain ⟨o, es, ep, e, d, _⟩ := L.glo
    rw [z, L.tab _ hm] at e
    cases e
    cases d
theorem Laid.script (L : Laid K mg mb cs s a vs ns) : SqL K (startH K cs a vs ns) a (ns.map V.int) := by
  rcases start_cases (K := K) (cs := cs) (a := a) (vs := vs) (ns := ns) a with ⟨h, _⟩ | ⟨_, _, _, g⟩ | ⟨_, h, _⟩
  · have := (L.tab a h).symm.trans L.obj
    cases this
  · exact .inl (.inr ⟨_, g⟩)
  · cases hk : K.lookup a with
    | none => exact absurd hk (h rfl)
    | some o =>
      have e := L.kin a o hk
      rw [L.obj] at e
      cases e
      exact .inr ⟨_, vs.toArray, _, hk, rfl, rfl, rfl, by rw [List.size_toArray, L.int.length]; exact L.len, by simpa using vals_ints L.int⟩
theorem law_callG (L : Laid K mg mb cs s a vs ns) (F : ∀ (base : Heap) (H : Hp), K.In base → base.Ns mainGlobals mg → (∀ p ∈ cs, LamX.TabB base mg p.1 p.2) → Env0 P w K mg base callerA [] s H → (∀ p ∈ cs, H p.2 = some (.tbl #[])) → SqL K H a (ns.map V.int) →
      codeAny (model P w) callerA (.call (.ref fa) ⟨[.ref a], []⟩) (CR C8.CX0 [] P w H s (fun v _ => v = .bl true) fun _ _ _ => False) s) :
    codeAny (model P w) callerA (.call (.ref fa) ⟨[.ref a], []⟩) (fun r s' => r = .ok (.ret (.bool true)) ∧ OldK s.heap s'.heap ∧ s'.os = s.os ∧ AllBare s'.gens) s := by
  refine codeAny_mono (F _ _ L.written (L.named L.glo) L.tabs L.env (fun p hp => start_tab (List.mem_map_of_mem hp)) L.script) fun r s' h => ?_
  match r, h with
  | .ok (.ret u), ⟨v, H', g1, g2, un, g3, g4, g5⟩ =>
    subst g5
    obtain rfl : u = Value.bool true := g4
    have grow : ∀ b ∈ cs.map (·.2), ∃ more : Array Value, s'.heap.get? b = some { cls := .none, data := .fields more } := fun b hb => by
      obtain ⟨more, z⟩ := un.tbls b #[] (start_tab hb)
      exact ⟨_, g3 b _ z⟩
    have rest : ∀ b o, b ∉ cs.map (·.2) → s.heap.get? b = some o → s'.heap.get? b = some o := fun b o nb e => by
      rcases start_cases (K := K) (cs := cs) (a := a) (vs := vs) (ns := ns) b with ⟨h, _⟩ | ⟨_, rfl, _, g⟩ | ⟨_, _, g⟩
      · exact absurd h nb
      · have z1 := g3 _ _ (un.frzs _ _ _ g)
        have z2 := L.obj.symm.trans e
        injection z2 with z2
        rw [← z2]
        exact z1.1
      · exact un.keep b o e g (by simp [frs]) (by simp)
    refine ⟨rfl, ⟨fun b o e => ?_, fun b o e => ?_⟩, g1, g2⟩
    · by_cases hb : b ∈ cs.map (·.2)
      · obtain ⟨p, hp, rfl⟩ := List.mem_map.mp hb
        obtain ⟨more, hm⟩ := grow _ hb
        have ht := L.tab _ hb
        have he := ht.symm.trans e
        injection he with he
        subst he
        exact .inr (.inl ⟨((L.cod p hp).tab ht).isCodeTable, rfl, #[], more, rfl, by rw [Array.empty_append]; exact hm⟩)
      · exact .inl (rest b o hb e)
    · by_cases hb : b ∈ cs.map (·.2)
      · obtain ⟨more, hm⟩ := grow _ hb
        exact ⟨_, hm⟩
      · exact ⟨o, rest b o hb e⟩
end
end MB
set_option maxRecDepth 100000
set_option maxHeartbeats 2000000
namespace MB
open PySem PySem.Spec PyProof.Rows L2 Evl
/-! ### calls that leave keyword-only defaults out, calls with keywords, methods -/
/-- a def by its name, called by position alone; dvs: what stands in for the parameters left out -/
structure ClD (P : Program) (w : World) (K : PySem.W.Frag) (mg : Str → Option Value) (base : Heap) (k : Nat) (x : Str) (sp : Sp) (dvs : List V) : Prop where
  ex : ∃ (f : Addr) (fd : FuncData) (ps : List Str) (ds : List Value), FnOk P w K mg base (L2.CX P w) k f fd ps sp ∧ mg x = some (.ref f) ∧ PySem.W.keepIn K (.ref f) = true ∧ Binds K fd ps ds ∧ Vals dvs ds
/-- a def by its name, called with n values by position and the keywords ks -/
structure ClN (P : Program) (w : World) (K : PySem.W.Frag) (mg : Str → Option Value) (base : Heap) (k : Nat) (x : Str) (sp : Sp) (n : Nat) (ks : List Str) (gV : List V → List V → List V) : Prop where
  ex : ∃ (f : Addr) (fd : FuncData) (ps : List Str) (g : List Value → List Value → List Value), FnOk P w K mg base (L2.CX P w) k f fd ps sp ∧ mg x = some (.ref f) ∧ PySem.W.keepIn K (.ref f) = true ∧ KBn K fd ps n ks g gV
/-- a method of the class at C -/
structure Mt (P : Program) (w : World) (K : PySem.W.Frag) (mg : Str → Option Value) (base : Heap) (k : Nat) (C : Addr) (m : Str) (sp : Sp) : Prop where
  ex : ∃ (f : Addr) (fd : FuncData) (ps : List Str), FnOk P w K mg base (L2.CX P w) k f fd ps sp ∧ Cls K C ∧ Meth K C m f ∧ Binds K fd ps []
structure MtN (P : Program) (w : World) (K : PySem.W.Frag) (mg : Str → Option Value) (base : Heap) (k : Nat) (C : Addr) (m : Str) (sp : Sp) (n : Nat) (ks : List Str) (gV : List V → List V → List V) : Prop where
  ex : ∃ (f : Addr) (fd : FuncData) (ps : List Str) (g : List Value → List Value → List Value), FnOk P w K mg base (L2.CX P w) k f fd ps sp ∧ Cls K C ∧ Meth K C m f ∧ KBn K fd ps (n + 1) ks g gV
/-- a class by its name, made by values by position; dvs as above -/
structure MkD (P : Program) (w : World) (K : PySem.W.Frag) (mg : Str → Option Value) (base : Heap) (k : Nat) (x : Str) (C : Addr) (sp : Sp) (dvs : List V) : Prop where
  ex : ∃ (f : Addr) (fd : FuncData) (ps : List Str) (ds : List Value), FnOk P w K mg base (L2.CX P w) k f fd ps sp ∧ mg x = some (.ref C) ∧ L2.Mk K C f ∧ Binds K fd ps ds ∧ Vals dvs ds
def tMethN (C : Addr) (m : Str) (n nk : Nat) (sp : Sp) (gV : List V → List V → List V) (E : XK) (ta : TE) (t tk : TA) : TE := fun σ H Q => ta σ H fun x H1 => ∃ a dx fs, x = .ref a ∧ H1 a = some (.ins C dx fs) ∧ fs.lookup m = none ∧
  t σ H1 fun vs H2 => tk σ H2 fun zs H3 => vs.length = n ∧ zs.length = nk ∧ sp (gV (x :: vs) zs) H3 Q E
section
variable {X : Cx} {x m : Str} {k j n : Nat} {sp : Sp} {dvs : List V} {p pos apos : Pos} {o e : Expr} {es : List Expr} {kws : List Keyword} {ks : List Str} {gV : List V → List V → List V} {t tk : TA} {to : TE} {C : Addr}
theorem pe_clD (c : ClD X.prog X.w X.K X.mg X.base k x sp dvs) (hr : Room j X.A) (hkj : k ≤ j) (hg : Gl X x) {E : XK} (hx : Passes (L2.CX X.prog X.w) X E) (ha : PA X (e :: es) t)
    (hdb : (x == ("__debug__" : Str)) = false := by decide) (he : starEach (e :: es) X.env = (false, eval e X.env) :: starEach es X.env := by rfl) (hpl : (backTo pos (starEach es X.env)).any (·.1) = false := by rfl) :
    PE X (.Call (.Name x p) (e :: es) [] pos) (tCall sp dvs E t) := by
  obtain ⟨f, fd, ps, ds, F, hm, hk, hb, hd⟩ := c.ex
  exact pe_call F (hr.mono hkj) hg hm hk hb hd hx ha hdb he hpl
theorem pe_clN (c : ClN X.prog X.w X.K X.mg X.base k x sp n ks gV) (hr : Room j X.A) (hkj : k ≤ j) (hg : Gl X x) {E : XK} (hx : Passes (L2.CX X.prog X.w) X E) (ha : PA X (e :: es) t) (hkw : PK X kws tk)
    (hall : (backToKw pos (keywordEach kws X.env)).all (·.1.isSome) = true := by rfl) (hks : (backToKw pos (keywordEach kws X.env)).filterMap (·.1) = ks := by rfl)
    (hdb : (x == ("__debug__" : Str)) = false := by decide) (he : starEach (e :: es) X.env = (false, eval e X.env) :: starEach es X.env := by rfl)
    (hpl : ((backTo pos (starEach (e :: es) X.env)).any (·.1) || (backToKw pos (keywordEach kws X.env)).any (·.1.isNone)) = false := by rfl) :
    PE X (.Call (.Name x p) (e :: es) kws pos) (tCallN n ks.length sp gV E t tk) := by
  obtain ⟨f, fd, ps, g, F, hm, hk, hb⟩ := c.ex
  exact pe_callN F (hr.mono hkj) hg hm hk hb hx ha hkw hall hks hdb he hpl
/-- f(k = v, ..) -/
theorem pe_clN0 (c : ClN X.prog X.w X.K X.mg X.base k x sp 0 ks gV) (hr : Room j X.A) (hkj : k ≤ j) (hg : Gl X x) {E : XK} (hx : Passes (L2.CX X.prog X.w) X E) (hkw : PK X kws tk)
    (hall : (backToKw pos (keywordEach kws X.env)).all (·.1.isSome) = true := by rfl) (hks : (backToKw pos (keywordEach kws X.env)).filterMap (·.1) = ks := by rfl)
    (hdb : (x == ("__debug__" : Str)) = false := by decide)
    (hpl : ((backTo pos (starEach [] X.env)).any (·.1) || (backToKw pos (keywordEach kws X.env)).any (·.1.isNone)) = false := by rfl) :
    PE X (.Call (.Name x p) [] kws pos) (tCallN 0 ks.length sp gV E tNil tk) := by
  obtain ⟨f, fd, ps, g, F, hm, hk, hb⟩ := c.ex
  refine ⟨fun pins s σ H Q I h => ?_⟩
  refine wpAny_Call_Name_kw (ld_glob I hg hm ?_ hdb)
  refine PySem.W.callWith_KW0 (h₀ := X.base) I.ok.mod.kin hk hall ?_ hpl
  refine thn (hkw.run pos pins s σ H _ I h) fun us s2 ⟨zs, H2, I2, rz, l1, l2, q2⟩ => ⟨I2.kIn, ?_⟩
  rw [hks]
  exact run_fnN (us := []) (vs := []) F (hr.mono hkj) hb hx I2 .nil rz l1 l2 q2
theorem pe_mt (c : Mt X.prog X.w X.K X.mg X.base k C m sp) (hr : Room j X.A) (hkj : k ≤ j) {E : XK} (hx : Passes (L2.CX X.prog X.w) X E) (ho : PE X o to) (ha : PA X (e :: es) t) {pl : Sem Bool}
    (hst : starEach (e :: es) X.env = (false, eval e X.env) :: starEach es X.env := by rfl) (hpl : (backTo pos (starEach es X.env)).any (·.1) = false := by rfl)
    (ht : eval (.Call (.Attribute o m apos) (e :: es) [] pos) X.env = (do
      let ov ← eval o X.env
      standAt apos.atName
      let (f, first) ← holding [ov] (getMethod ov m pl)
      callWith pos f first (backTo pos (starEach (e :: es) X.env)) (backToKw pos (keywordEach [] X.env))) := by rfl) :
    PE X (.Call (.Attribute o m apos) (e :: es) [] pos) (tMeth C m sp [] E to t) := by
  obtain ⟨f, fd, ps, F, hc, hm, hb⟩ := c.ex
  exact pe_meth ho hc hm F (hr.mono hkj) hb .nil hx ha hst hpl ht
theorem pe_mt0 (c : Mt X.prog X.w X.K X.mg X.base k C m sp) (hr : Room j X.A) (hkj : k ≤ j) {E : XK} (hx : Passes (L2.CX X.prog X.w) X E) (ho : PE X o to) {pl : Sem Bool}
    (ht : eval (.Call (.Attribute o m apos) [] [] pos) X.env = (do
      let ov ← eval o X.env
      standAt apos.atName
      let (f, first) ← holding [ov] (getMethod ov m pl)
      callWith pos f first (backTo pos (starEach [] X.env)) (backToKw pos (keywordEach [] X.env))) := by rfl) :
    PE X (.Call (.Attribute o m apos) [] [] pos) (tMeth C m sp [] E to tNil) := by
  obtain ⟨f, fd, ps, F, hc, hm, hb⟩ := c.ex
  exact pe_meth0 ho hc hm F (hr.mono hkj) hb .nil hx ht
/-- o.m(e, .., k = v, ..) -/
theorem pe_mtN (c : MtN X.prog X.w X.K X.mg X.base k C m sp n ks gV) (hr : Room j X.A) (hkj : k ≤ j) {E : XK} (hx : Passes (L2.CX X.prog X.w) X E) (ho : PE X o to) (ha : PA X (e :: es) t) (hkw : PK X kws tk) {pl : Sem Bool}
    (hall : (backToKw pos (keywordEach kws X.env)).all (·.1.isSome) = true := by rfl) (hks : (backToKw pos (keywordEach kws X.env)).filterMap (·.1) = ks := by rfl)
    (he : starEach (e :: es) X.env = (false, eval e X.env) :: starEach es X.env := by rfl) (hpl : ((backTo pos (starEach (e :: es) X.env)).any (·.1) || (backToKw pos (keywordEach kws X.env)).any (·.1.isNone)) = false := by rfl)
    (ht : eval (.Call (.Attribute o m apos) (e :: es) kws pos) X.env = (do
      let ov ← eval o X.env
      standAt apos.atName
      let (f, first) ← holding [ov] (getMethod ov m pl)
      callWith pos f first (backTo pos (starEach (e :: es) X.env)) (backToKw pos (keywordEach kws X.env))) := by rfl) :
    PE X (.Call (.Attribute o m apos) (e :: es) kws pos) (tMethN C m n ks.length sp gV E to t tk) := by
  obtain ⟨f, fd, ps, g, F, hc, hm, hb⟩ := c.ex
  refine ⟨fun pins s σ H Q I h => ?_⟩
  refine PySem.W.methodCall_KW (pl := pl) (thn (ho.run pins s σ H _ I h) fun u s1 ⟨x, H1, I1, rx, a, dx, fs, ex, ea, l, q⟩ => ?_) ht
  subst ex
  obtain rfl : u = Value.ref a := rx
  refine getmeth_ok I1 ea hc hm l ?_
  refine PySem.W.callWith_KW (first := [.ref a]) (h₀ := X.base) I.ok.mod.kin hm.kp hall (thn (ha.run pos pins s1 σ H1 _ I1 q) fun us s2 ⟨vs, H2, I2, r, q2⟩ => ?_) hpl he
  refine thn (hkw.run pos pins s2 σ H2 _ I2 q2) fun ws s3 ⟨zs, H3, I3, rz, l1, l2, q3⟩ => ⟨I3.kIn, ?_⟩
  rw [hks]
  exact run_fnN (us := .ref a :: us) (vs := .ref a :: vs) F (hr.mono hkj) hb hx I3 (.cons rfl r) rz (by rw [List.length_cons, l1]) l2 q3
theorem pe_mk (c : MkD X.prog X.w X.K X.mg X.base k x C sp dvs) (hr : Room j X.A) (hkj : k + 1 ≤ j) (hg : Gl X x) {E : XK} (hx : Passes (L2.CX X.prog X.w) X E) (ha : PA X (e :: es) t)
    (hdb : (x == ("__debug__" : Str)) = false := by decide) (he : starEach (e :: es) X.env = (false, eval e X.env) :: starEach es X.env := by rfl) (hpl : (backTo pos (starEach es X.env)).any (·.1) = false := by rfl) :
    PE X (.Call (.Name x p) (e :: es) [] pos) (tMake C sp dvs E t) := by
  obtain ⟨f, fd, ps, ds, F, hm, hk, hb, hd⟩ := c.ex
  exact pe_make hk F (hr.mono hkj) hg hm hb hd hx ha hdb he hpl
end
/-! ### further K-rules -/
section
variable {X : Cx} {K : PySem.W.Frag} (h : X.K = K)
include h
theorem pi_listK {tg l : Expr} {tl : TE} (hl : PE X l tl) : PI X tg l (iList K tl) := h ▸ pi_list hl
theorem pi_tupK {tg l : Expr} {tl : TE} (hl : PE X l tl) : PI X tg l (iTup K tl) := h ▸ pi_tup hl
def rTupleK (K : PySem.W.Frag) : List V → Hp → VK → Prop := fun xs H Q => ∃ p ys, xs = [.ref p] ∧ ((SqL K H p ys ∧ ∀ l, H l = none → Q (.ref l) (upd H l (.tup ys))) ∨ (SqT K H p ys ∧ Q (.ref p) H))
theorem call_tupleK : CallR X (.type "tuple") (rTupleK K) := h ▸ call_tuple_of
def rListK (K : PySem.W.Frag) : List V → Hp → VK → Prop := fun xs H Q => ∃ p ys, xs = [.ref p] ∧ (SqL K H p ys ∨ SqT K H p ys) ∧ ∀ l, H l = none → Q (.ref l) (upd H l (.lst ys))
theorem call_listK : CallR X (.type "list") (rListK K) := h ▸ call_list_of
end
end MB
set_option maxRecDepth 100000
set_option maxHeartbeats 2000000
namespace MB
open PySem PySem.Spec PyProof.Rows L2 Evl
/-! ### a starred target over a tuple -/
section
variable {prog : Program} {w : World} {A : Around} {E : Value → Shared → Prop} {s : Shared}
theorem unpack_starT {l : Addr} {its : List Value} {n i : Nat} {Q : List Value → Shared → Prop} (ht : s.heap.IsTuple l its.toArray) (hq : A.handled = none) (hi : i < n) (hn : n ≤ its.length + 1) (hz : its.length ≤ sizeLine)
    (k : ∀ (g : Heap) (tk : Nat), (∀ b o, s.heap.get? b = some o → g.get? b = some o) → Q (its.take i ++ [.ref g.objs.size] ++ (its.drop i).drop (its.length + 1 - n)) { s with heap := g.push { cls := .type "list", data := .seq ((its.drop i).take (its.length + 1 - n)).toArray }, toks := tk }) :
    wpAny (model prog w) A (unpackItems (.ref l) n (some i)) Q E s := by
  have lt : l < s.heap.objs.size := by
    obtain ⟨o, ho, _⟩ := ht
    exact Heap.lt_size ho
  have ne : l ≠ s.heap.objs.size := Nat.ne_of_lt lt
  unfold unpackItems notIterableAtAll
  refine wpAny_bind (wpAny_bind (wpAny_specialOf ht.typeIs slot_tuple_iter.lookup (wpAny_pure ?_)))
  simp only [Bool.false_eq_true, if_false]
  refine wpAny_bind (wpAny_holding (wpAny_pyIter_tuple ht ?_))
  refine wpAny_bind (wpAny_holding (draw_tuple ne i 0 _ _ ⟨_, Heap.get?_push_size _ rfl, rfl, rfl⟩ (ht.push _) (by rw [List.size_toArray]; omega) fun g1 it1 sb => ?_))
  have ht1 : g1.IsTuple l its.toArray := (ht.push _).extBut sb.extBut ne
  rw [Nat.zero_add] at it1
  obtain ⟨oi, hoi, rest⟩ := it1
  obtain ⟨ol, hol, _⟩ := _root_.id ht1
  have tl : (its.take i).length = i := by rw [List.length_take]; omega
  have dl : (its.drop i).length = its.length - i := by rw [List.length_drop]
  have md : (its.drop i).length - (n - 1 - i) = its.length + 1 - n := by rw [dl]; omega
  rw [List.drop_zero, if_neg (show ¬ ((List.take i its.toArray.toList).length < i) by show ¬ (its.take i).length < i; omega)]
  refine wpAny_bind (wpAny_holding (PySem.W.kun_collect (s := { s with heap := g1 }) (T := "tuple_iterator") (.inr (.inr (.inr rfl))) (Walks.tuple (A := A.in1) hq s.heap.objs.size l ne its.toArray) (fun j u st => st.1.typeIs) (k := i) (by rw [List.size_toArray]; omega)
    ⟨⟨oi, hoi, rest⟩, ht1⟩ (Heap.lt_size hoi) (Heap.lt_size hol) (fun g2 tk hk => ?_) (by rw [List.size_toArray]; exact hz)))
  show wpAny _ _ (if (its.drop i).length < n - 1 - i then _ else _) _ _ _
  rw [if_neg (by rw [dl]; omega)]
  show wpAny _ _ (newList ((its.drop i).take ((its.drop i).length - (n - 1 - i))) >>= fun d => pure (its.take i ++ [d] ++ (its.drop i).drop ((its.drop i).length - (n - 1 - i)))) _ _ _
  rw [md]
  refine wpAny_bind (wpAny_newList (wpAny_pure ?_) ?_)
  · exact k g2 tk fun b o e => hk b o (Nat.ne_of_lt (Heap.lt_size e)) (sb.extBut b o (Nat.ne_of_lt (Heap.lt_size e)) (Heap.get?_push_of_some _ e))
  · show ((its.drop i).take (its.length + 1 - n)).length ≤ sizeLine
    rw [List.length_take, dl]; omega
end
section
variable {X : Cx} {pos : Pos}
def gStarT (K : PySem.W.Frag) (n i : Nat) (t : TGs) : TG := fun v σ H Q => ∃ a xs, v = .ref a ∧ SqT K H a xs ∧ i < n ∧ n ≤ xs.length + 1 ∧
  ∀ p, H p = none → t (xs.take i ++ [.ref p] ++ (xs.drop i).drop (xs.length + 1 - n)) σ (upd H p (.lst ((xs.drop i).take (xs.length + 1 - n)))) Q
theorem pg_starT {es : List Expr} {k : Nat} {t : TGs} {n i : Nat} (hc : X.calm = true) (h : PGs X es t)
    (hn : (assignEach es X.env).length = n := by rfl) (hst : (assignEach es X.env).findIdx? (·.1) = some i := by rfl) : PG X (.Tuple es k pos) (gStarT X.K n i t) := by
  refine ⟨fun pins s σ H v u Q I r hw => ?_⟩
  obtain ⟨a, xs, e1, hq, hi, hl, hw⟩ := hw
  subst e1
  cases r
  obtain ⟨its, rv, pl, hz⟩ := I.tuple hq
  have ll := rv.length
  rw [PyProof.Rows.assign_Tuple]
  refine wpAny_bind (wpAny_standAt ?_)
  unfold unpack
  rw [hn, hst]
  refine wpAny_bind (wpAny_holding (unpack_starT (its := its) pl (I.ok.hd hc) hi (by omega) (by omega) fun g tk hx => ?_))
  have I1 : Inv X pins σ H { s with heap := g, toks := tk } := I.kept (t' := tk) hx
  have r1 : Vals ((xs.drop i).take (xs.length + 1 - n)) ((its.drop i).take (its.length + 1 - n)) := by rw [ll]; exact (rv.drop i).take _
  have I2 := I1.lnew (t' := tk) r1 (by rw [List.length_take, List.length_drop]; omega)
  refine h.run pins _ σ _ _ _ Q I2 ?_ (hw _ (I1.hok.fresh (Nat.le_refl _)))
  rw [ll]
  exact ((rv.take i).append (Vals.append (.cons (show RelV (V.ref _) (Value.ref _) from rfl) .nil) .nil)).append ((rv.drop i).drop _)
end
end MB
set_option maxRecDepth 100000
set_option maxHeartbeats 1000000
namespace MB
open PySem PySem.Spec PyProof.Rows L2 Evl
section
variable {K : PySem.W.Frag} {σ : L2.St} {H : Hp} {tl ti : TE} {α : Type}
/-- [y for x in a tuple for y in a new list]: the items one behind the other -/
theorem el_lc2T {a b : Nat} {vs : List Nat} {ds : List α} (f : α → V) (g : α → List V) (h : EvTp K tl σ H (ds.map f)) (hz : (ds.flatMap g).length ≤ 3700000) (hw : ∀ x, wipe ((wipe σ vs).set a (some x)) vs = wipe σ vs)
    (hw1 : ∀ x y, wipe ((wipe ((wipe σ vs).set a (some x)) [b]).set b (some y)) [b] = wipe ((wipe σ vs).set a (some x)) [b]) (hb : ∀ x y, ((wipe ((wipe σ vs).set a (some x)) [b]).set b (some y))[b]? = some (some y))
    (hi : ∀ d ∈ ds, EvL ti ((wipe σ vs).set a (some (f d))) H (g d)) : EvL (tLc2 (iTup K tl) (gName a) tYes (iList K ti) (gName b) tYes (tVar b) vs [b]) σ H (ds.flatMap g) := fun H0 e Q q =>
  h H0 e _ fun p H1 e1 hp => ⟨p, rfl, ⟨_, hp⟩, fun Dl hD => by
    have sz : (3700000 : Nat) < sizeLine := by decide
    refine ⟨fun i m H' => m = ds.length - i ∧ i ≤ ds.length ∧ Ex H1 H' ∧ H' Dl = some (.lst ((ds.take i).flatMap g)), ⟨ds.length, by simp, Nat.zero_le _, Ex.new hD, upd_same⟩, ?_⟩
    rintro i m H' ⟨rfl, hin, eH, hL⟩
    by_cases hlt : i < ds.length
    · have hd : ds[i]? = some ds[i] := List.getElem?_eq_getElem hlt
      have hm : ds[i] ∈ ds := List.getElem_mem hlt
      have hx0 : (ds.map f)[i]? = some (f ds[i]) := by rw [List.getElem?_map, hd]; rfl
      have hnext : (ds.take (i + 1)).flatMap g = (ds.take i).flatMap g ++ g ds[i] := by
        rw [List.take_succ, hd, List.flatMap_append]
        simp
      have hpre : ((ds.take i).flatMap g).length + (g ds[i]).length ≤ 3700000 := by
        have e2 : ds.flatMap g = (ds.take (i + 1)).flatMap g ++ (ds.drop (i + 1)).flatMap g := by rw [← List.flatMap_append, List.take_append_drop]
        rw [e2, List.length_append, hnext, List.length_append] at hz
        omega
      refine .inr ⟨⟨_, _, ex_t eH hp, hx0⟩, fun H'' => Ex H1 H'' ∧ H'' Dl = some (.lst ((ds.take (i + 1)).flatMap g)), fun H'' p' => ⟨ds.length - (i + 1), by omega, rfl, hlt, p'.1, p'.2⟩, fun x H'' y => ?_⟩
      obtain ⟨rfl, y⟩ := y
      have hx := y _ (ex_t eH hp)
      rw [hx0] at hx
      injection hx with hx
      subst hx
      refine ⟨hw _, t_yes ?_⟩
      refine (hi _ hm) _ (e.trans (e1.trans eH)) _ fun pi H3 hn e3 h3 => ⟨pi, rfl, ⟨_, sq_of h3⟩, ?_⟩
      have hDp : pi ≠ Dl := Ne.symm (ne_of_none hL hn)
      refine ⟨fun j k H4 => k = (g ds[i]).length - j ∧ j ≤ (g ds[i]).length ∧ Ex H1 H4 ∧ H4 pi = some (.lst (g ds[i])) ∧ H4 Dl = some (.lst ((ds.take i).flatMap g ++ (g ds[i]).take j)), ⟨(g ds[i]).length, by simp, Nat.zero_le _, eH.trans e3, h3, by rw [List.take_zero, List.append_nil]; exact e3 _ _ hL⟩, ?_⟩
      rintro j k H4 ⟨rfl, hjn, e4, hp4, hL4⟩
      by_cases hj : j < (g ds[i]).length
      · have hgj : (g ds[i])[j]? = some (g ds[i])[j] := List.getElem?_eq_getElem hj
        refine .inr ⟨⟨_, _, sq_of hp4, hgj⟩, fun H5 => Ex H1 H5 ∧ H5 pi = some (.lst (g ds[i])) ∧ H5 Dl = some (.lst ((ds.take i).flatMap g ++ (g ds[i]).take (j + 1))), fun H5 p' => ⟨(g ds[i]).length - (j + 1), by omega, rfl, hj, p'.1, p'.2⟩, fun z H5 y2 => ?_⟩
        obtain ⟨rfl, y2⟩ := y2
        have hzj := y2 _ (sq_of hp4)
        rw [hgj] at hzj
        injection hzj with hzj
        subst hzj
        refine ⟨hw1 _ _, t_yes ⟨_, hb _ _, _, hL4, ?_, Ex.mut e4 hD, ?_, ?_⟩⟩
        · rw [List.length_append, List.length_take]
          omega
        · rw [upd_ne hDp]
          exact hp4
        · rw [upd_same, List.take_succ, hgj, ← List.append_assoc]
          rfl
      · have hj' : j = (g ds[i]).length := by omega
        subst hj'
        rw [List.take_length, ← hnext] at hL4
        exact .inl ⟨⟨_, sq_of hp4, Nat.le_refl _⟩, e4, hL4⟩
    · have hi' : i = ds.length := by omega
      subst hi'
      rw [List.take_length] at hL
      refine .inl ⟨⟨_, ex_t eH hp, by rw [List.length_map]; exact Nat.le_refl _⟩, q Dl H' (fresh_back e1 hD) (e1.trans eH) hL⟩⟩
end
end MB
set_option maxRecDepth 100000
set_option maxHeartbeats 1000000
namespace MB
open PySem PySem.Spec PyProof.Rows L2 Evl
section
variable {X : Cx} {K : PySem.W.Frag}
/-- a tuple target, the written part's name free of the block -/
theorem pg_tupK {es : List Expr} {k : Nat} {t : TGs} {n : Nat} {pos : Pos} (hK : X.K = K) (hc : X.calm = true) (h : PGs X es t)
    (hn : (assignEach es X.env).length = n := by rfl) (hst : (assignEach es X.env).findIdx? (·.1) = none := by rfl) : PG X (.Tuple es k pos) (gTup K n t) := hK ▸ pg_tup hc h hn hst
end
end MB
set_option maxRecDepth 100000
set_option maxHeartbeats 1000000
namespace MB
open PySem PySem.Spec PyProof.Rows L2 Evl
/-! ### a dict of the module with int keys -/
/-- the keys are ints, with their hashes; kvs: keys and values -/
def limE : List DictEntry → List (Int × Int) → Bool
  | [], [] => true
  | e :: es, p :: ps => (match e.key, e.val with | .int i _, .int j _ => decide (i = p.1) && decide (j = p.2) | _, _ => false) && decide (e.hash = hashInt p.1) && limE es ps
  | _, _ => false
def limB (K : PySem.W.Frag) (a : Addr) (kvs : List (Int × Int)) : Bool := match K.lookup a with
  | some ⟨.type "dict", none, .dict es _, sl⟩ => sl.isEmpty && limE es.toList kvs
  | _ => false
structure KLim (K : PySem.W.Frag) (a : Addr) (kvs : List (Int × Int)) : Prop where
  ex : ∃ es n, K.lookup a = some ⟨.type "dict", none, .dict es n, #[]⟩ ∧ limE es.toList kvs = true
theorem limB_ok {K : PySem.W.Frag} {a : Addr} {kvs : List (Int × Int)} (h : limB K a kvs = true) : KLim K a kvs := by
  unfold limB at h
  split at h
  · rename_i es n sl e
    rw [Bool.and_eq_true] at h
    have : sl = #[] := by
      have := h.1
      simpa using this
    subst this
    exact ⟨_, _, e, h.2⟩
  · cases h
theorem limE_keys : ∀ {es : List DictEntry} {kvs : List (Int × Int)}, limE es kvs = true → ∀ e ∈ es, ∃ k : Int, Value.isInt k e.key = true ∧ e.hash = hashInt k
  | [], _, _, e, he => absurd he List.not_mem_nil
  | e :: es, [], h, _, _ => by cases h
  | e :: es, p :: ps, h, x, hx => by
    unfold limE at h
    rw [Bool.and_eq_true, Bool.and_eq_true] at h
    obtain ⟨⟨h1, h2⟩, h3⟩ := h
    rcases List.mem_cons.mp hx with rfl | hx
    · split at h1
      · rename_i e1 e2
        rw [Bool.and_eq_true] at h1
        refine ⟨p.1, ?_, of_decide_eq_true h2⟩
        rw [e1]
        simpa [Value.isInt] using of_decide_eq_true h1.1
      · cases h1
    · exact limE_keys h3 x hx
theorem limE_find {i j : Int} : ∀ {es : List DictEntry} {kvs : List (Int × Int)}, limE es kvs = true → kvs.lookup i = some j → ∃ t e, es.find? (fun d => Value.isInt i d.key) = some e ∧ e.val = .int j t
  | [], [], _, h => by cases h
  | [], _ :: _, h, _ => by cases h
  | e :: es, [], h, _ => by cases h
  | e :: es, (a, b) :: ps, h, hl => by
    unfold limE at h
    rw [Bool.and_eq_true, Bool.and_eq_true] at h
    obtain ⟨⟨h1, h2⟩, h3⟩ := h
    split at h1
    · rename_i e1 e2
      rw [Bool.and_eq_true] at h1
      have ea := of_decide_eq_true h1.1
      have eb := of_decide_eq_true h1.2
      rw [List.lookup_cons] at hl
      by_cases hi : i = a
      · subst hi
        rw [beq_self_eq_true] at hl
        injection hl with hl
        have eb' := eb.trans hl
        refine ⟨_, e, ?_, e2.trans (by rw [eb'])⟩
        rw [List.find?_cons_of_pos]
        rw [e1, ea]
        simp [Value.isInt]
      · rw [beq_eq_false_iff_ne.mpr hi] at hl
        obtain ⟨t, e', h4, h5⟩ := limE_find h3 hl
        refine ⟨t, e', ?_, h5⟩
        rw [List.find?_cons_of_neg]
        · exact h4
        · rw [e1, ea]
          simpa [Value.isInt] using fun z => hi (by omega)
    · cases h1
def rIxI (K : PySem.W.Frag) : R2 := fun x y H Q => ∃ p kvs i j, x = .ref p ∧ y = .int i ∧ KLim K p kvs ∧ kvs.lookup i = some j ∧ Q (.int j) H
section
variable {X : Cx} {K : PySem.W.Frag}
theorem ix_kdI (hK : X.K = K) : IxR X (rIxI K) := by
  subst hK
  intro value slice pins s σ H x y v u Q I rx ry h hs
  obtain ⟨p, kvs, i, j, rfl, rfl, ⟨es, n, hl, hk⟩, hj, q⟩ := h
  obtain rfl : v = Value.ref p := rx
  obtain ⟨t, rfl⟩ := ry
  obtain ⟨t', e, hf, hv⟩ := limE_find hk hj
  have hm : s.heap.MapOf (intKind X.prog X.w) p (fun k => findBy Value.isInt es k) := ⟨_, es, n, I.kIn _ _ hl, ⟨rfl, rfl, rfl⟩, rfl, fun e he => limE_keys hk e (Array.mem_toList_iff.mpr he), fun _ => rfl⟩
  refine tail_any hm.typeIs slot_dict_getitem.lookup (wpAny_getItem_of (intKind_is X.prog X.w i t) hm (v := .int j t') ?_ ⟨.int j, H, I.tok _, ⟨t', rfl⟩, q⟩) hs
  obtain ⟨l⟩ := es
  unfold findBy
  rw [List.find?_toArray]
  have hf' : l.find? (fun d => Value.isInt i d.key) = some e := hf
  rw [hf']
  exact congrArg some hv
theorem rv_xI {x : Addr} {H : Hp} {kvs : List (Int × Int)} {i j : Int} (h : KLim K x kvs) (hj : kvs.lookup i = some j) : RV (rIxI K) (.ref x) (.int i) H (.int j) := fun H1 _ _ q => ⟨x, kvs, i, j, rfl, rfl, h, hj, q H1 (Ex.refl H1)⟩
end
end MB
set_option maxRecDepth 100000
set_option maxHeartbeats 1000000
namespace MB
open PySem PySem.Spec PyProof.Rows L2 Evl
/-! ### the pen with a further key, 'tables' -/
theorem k_lT : ¬ ((Sum.inr ("cells" : Str) : Key) = Sum.inr ("tables" : Str)) := by decide +kernel
theorem k_aT : ¬ ((Sum.inr ("at" : Str) : Key) = Sum.inr ("tables" : Str)) := by decide +kernel
theorem k_leT : ¬ ((Sum.inr ("left" : Str) : Key) = Sum.inr ("tables" : Str)) := by decide +kernel
theorem k_Ta : ¬ ((Sum.inr ("tables" : Str) : Key) = Sum.inr ("at" : Str)) := by decide +kernel
theorem k_Tl : ¬ ((Sum.inr ("tables" : Str) : Key) = Sum.inr ("left" : Str)) := by decide +kernel
def tbl : Option Int → List (Key × V)
  | none => []
  | some t => [(.inr "tables", .int t)]
def penX (lc : Addr) (a l : Int) (tb : Option Int) : List (Key × V) := penL lc a l ++ tbl tb
theorem penX_cells (lc : Addr) (a l : Int) (tb : Option Int) : valV (penX lc a l tb) (.inr "cells") = some (.ref lc) := valV_pos rfl
theorem penX_at (lc : Addr) (a l : Int) (tb : Option Int) : valV (penX lc a l tb) (.inr "at") = some (.int a) := by
  unfold penX penL
  rw [List.cons_append, List.cons_append, valV_neg k_la, valV_pos rfl]
theorem penX_left (lc : Addr) (a l : Int) (tb : Option Int) : valV (penX lc a l tb) (.inr "left") = some (.int l) := by
  unfold penX penL
  rw [List.cons_append, List.cons_append, List.cons_append, valV_neg k_ll, valV_neg k_al, valV_pos rfl]
theorem penX_tab (lc : Addr) (a l t : Int) : valV (penX lc a l (some t)) (.inr "tables") = some (.int t) := by
  unfold penX penL tbl
  rw [List.cons_append, List.cons_append, List.cons_append, valV_neg k_lT, valV_neg k_aT, valV_neg k_leT, List.nil_append, valV_pos rfl]
theorem penX_len (lc : Addr) (a l : Int) (tb : Option Int) : (penX lc a l tb).length ≤ 1000 := by
  unfold penX penL
  cases tb <;> simp [tbl]
theorem tbl_map (f : Key × V → Key × V) (tb : Option Int) (h : ∀ t : Int, f (.inr "tables", .int t) = (.inr "tables", .int t)) : (tbl tb).map f = tbl tb := by
  cases tb with
  | none => rfl
  | some t => show [f _] = _; rw [h]; rfl
theorem putX_at (lc : Addr) (a l a' : Int) (tb : Option Int) : putK (penX lc a l tb) (.inr "at") (.int a') = penX lc a' l tb := by
  unfold putK penX penL
  rw [if_pos (by simp only [List.cons_append, List.any_cons, decide_true, Bool.or_true, Bool.true_or])]
  rw [List.map_append, tbl_map (fun kv => if kv.1 = (Sum.inr "at" : Key) then (kv.1, V.int a') else kv) tb fun t => if_neg k_Ta]
  simp only [List.map_cons, List.map_nil, if_neg k_la, if_true, if_neg k_lA]
theorem putX_left (lc : Addr) (a l l' : Int) (tb : Option Int) : putK (penX lc a l tb) (.inr "left") (.int l') = penX lc a l' tb := by
  unfold putK penX penL
  rw [if_pos (by simp only [List.cons_append, List.any_cons, decide_true, Bool.or_true, Bool.true_or])]
  rw [List.map_append, tbl_map (fun kv => if kv.1 = (Sum.inr "left" : Key) then (kv.1, V.int l') else kv) tb fun t => if_neg k_Tl]
  simp only [List.map_cons, List.map_nil, if_neg k_ll, if_neg k_al, if_true]
theorem putX_tab (lc : Addr) (a l t : Int) (tb : Option Int) : putK (penX lc a l tb) (.inr "tables") (.int t) = penX lc a l (some t) := by
  cases tb with
  | none =>
    unfold putK penX penL tbl
    rw [if_neg (by simp only [List.append_nil, List.any_cons, List.any_nil, decide_eq_false k_lT, decide_eq_false k_aT, decide_eq_false k_leT]; decide)]
    rfl
  | some t0 =>
    unfold putK penX penL tbl
    rw [if_pos (by simp only [List.cons_append, List.nil_append, List.any_cons, decide_true, Bool.or_true, Bool.true_or])]
    simp only [List.cons_append, List.nil_append, List.map_cons, List.map_nil, if_neg k_lT, if_neg k_aT, if_neg k_leT, if_true]
/-- the pen at p, behind n drawn cells -/
def PenXC (H : Hp) (p lc : Addr) (cs : List Int) (a l : Int) (tb : Option Int) : Prop := H p = some (.dK (penX lc a l tb)) ∧ H lc = some (.lst (cs.map V.int)) ∧ cs.length ≤ 63 ∧ 0 ≤ a ∧ 0 ≤ l
def PenX (H : Hp) (p lc : Addr) (n : Nat) (tb : Option Int) : Prop := ∃ cs a l, PenXC H p lc cs a l tb ∧ a ≤ n
section
variable {H H' : Hp} {p lc b : Addr} {n : Nat} {tb : Option Int}
theorem PenX.ex (e : Ex H H') (h : PenX H p lc n tb) : PenX H' p lc n tb := by
  obtain ⟨cs, a, l, ⟨h1, h2, h3⟩, h4⟩ := h
  exact ⟨cs, a, l, ⟨e _ _ h1, e _ _ h2, h3⟩, h4⟩
theorem PenX.le {m : Nat} (h : PenX H p lc n tb) (hm : n ≤ m) : PenX H p lc m tb := by
  obtain ⟨cs, a, l, h1, h4⟩ := h
  exact ⟨cs, a, l, h1, by omega⟩
theorem PenX.dict (h : PenX H p lc n tb) : ∃ kvs, H p = some (.dK kvs) := by
  obtain ⟨cs, a, l, ⟨h1, _⟩, _⟩ := h
  exact ⟨_, h1⟩
theorem PenX.ne {xs : List V} (h : PenX H p lc n tb) (hb : H b = some (.lst xs)) : b ≠ p := fun z => by
  obtain ⟨kvs, hp⟩ := h.dict
  rw [z, hp] at hb
  cases hb
theorem PenX.neT {xs : List V} (h : PenX H p lc n tb) (hb : H b = some (.tup xs)) : b ≠ p := fun z => by
  obtain ⟨kvs, hp⟩ := h.dict
  rw [z, hp] at hb
  cases hb
theorem PenX.upd {o : HO} (h : PenX H p lc n tb) (h1 : b ≠ p) (h2 : b ≠ lc) : PenX (upd H b o) p lc n tb := by
  obtain ⟨cs, a, l, ⟨g1, g2, g3⟩, g4⟩ := h
  exact ⟨cs, a, l, ⟨by rw [upd_ne (Ne.symm h1)]; exact g1, by rw [upd_ne (Ne.symm h2)]; exact g2, g3⟩, g4⟩
theorem PenX.isS (h : PenX H p lc n tb) : H p ≠ none ∧ H lc ≠ none := by
  obtain ⟨cs, a, l, ⟨g1, g2, g3⟩, g4⟩ := h
  exact ⟨by rw [g1]; exact (fun z => nomatch z), by rw [g2]; exact (fun z => nomatch z)⟩
theorem PenX.off (h : PenX H p lc n tb) (hb : H b = none) : b ≠ p ∧ b ≠ lc := ⟨fun z => h.isS.1 (z ▸ hb), fun z => h.isS.2 (z ▸ hb)⟩
theorem But.freshX {q : Addr} (e : But p H H') (hp : PenX H' p lc n tb) (h : H' q = none) : H q = none := by
  cases hq : H q with
  | none => rfl
  | some o =>
    have := e q o (hp.off h).1 hq
    rw [h] at this
    cases this
end
/-! the promises -/
def spPenX (K : PySem.W.Frag) : Sp := fun vs H Q _ => ∃ (a : Addr) (ns : List Int), vs = [.ref a] ∧ SqL K H a (ns.map V.int) ∧ ∀ p lc H', Ex H H' → H p = none → PenX H' p lc 0 none → Q (.ref p) H'
def spDrawX : Sp := fun vs H Q _ => ∃ (p lc : Addr) (m : Int) (n : Nat) (tb : Option Int), vs = [.ref p, .int m] ∧ 0 < m ∧ m ≤ 4294967296 ∧ PenX H p lc n tb ∧ n ≤ 1000000 ∧ ∀ (r : Int) H', 0 ≤ r → r < m → PenX H' p lc (n + 1) tb → But p H H' → Q (.int r) H'
def spNumbersX : Sp := fun vs H Q _ => ∃ (p lc : Addr) (many : Nat) (lim : Int) (n : Nat) (tb : Option Int), vs = [.ref p, .int (many : Int), .int lim] ∧ many ≤ 10000 ∧ 2 ≤ lim ∧ lim ≤ 4294967296 ∧ PenX H p lc n tb ∧ n + 3 * many ≤ 1000000 ∧
  ∀ (ns : List Nat) q H', ns.length = many → (∀ x ∈ ns, (x : Int) < lim) → H q = none → H' q = some (.tup (ns.map fun (k : Nat) => V.int (k : Int))) → PenX H' p lc (n + 3 * many) tb → But p H H' → Q (.ref q) H'
theorem ev_drawX {ta tb : TE} {σ : L2.St} {H : Hp} {E : XK} {p lc : Addr} {m : Int} {n : Nat} {tt : Option Int} {Q : VK} (h0 : Ev ta σ H (.ref p)) (h1 : Ev tb σ H (.int m)) (hm0 : 0 < m) (hm1 : m ≤ 4294967296) (hp : PenX H p lc n tt) (hn : n ≤ 1000000)
    (q : ∀ (r : Int) H', 0 ≤ r → r < m → PenX H' p lc (n + 1) tt → But p H H' → Q (.int r) H') : tCall spDrawX [] E (tCons ta (tCons tb tNil)) σ H Q :=
  (ea_cons h0 (ea_cons h1 ea_nil) : EvA _ σ H _) H (Ex.refl H) _ fun H1 e1 => ⟨p, lc, m, n, tt, rfl, hm0, hm1, hp.ex e1, hn, fun r H' a b c d => q r H' a b c ((But.of e1).trans d)⟩
theorem q_drawX {ta tb : TE} {σ : L2.St} {H : Hp} {E : XK} {D : Ends} {tz : TS} {i : Nat} {p lc : Addr} {m : Int} {n : Nat} {tt : Option Int} (h0 : Ev ta σ H (.ref p)) (h1 : Ev tb σ H (.int m)) (hm0 : 0 < m) (hm1 : m ≤ 4294967296) (hp : PenX H p lc n tt) (hn : n ≤ 1000000)
    (q : ∀ (r : Int) H', 0 ≤ r → r < m → PenX H' p lc (n + 1) tt → But p H H' → tz D (σ.set i (some (.int r))) H') : tSeq (tAsg (tCall spDrawX [] E (tCons ta (tCons tb tNil))) (gName i)) tz D σ H :=
  ev_drawX h0 h1 hm0 hm1 hp hn fun r H' a b c d => q r H' a b c d
end MB
set_option maxRecDepth 100000
set_option maxHeartbeats 1000000
namespace MB
open PySem PySem.Spec PyProof.Rows L2 Evl
/-! ### a def that asks for repr: it is called where nothing is guarded -/
section
variable {P : Program} {w : World} {K : PySem.W.Frag} {mg : Str → Option Value} {base : Heap}
/-- the def at f keeps its promise at every caller that guards nothing -/
structure RunG (P : Program) (w : World) (K : PySem.W.Frag) (mg : Str → Option Value) (base : Heap) (k : Nat) (f : Addr) (fd : FuncData) (ps : List Str) (sp : Sp) : Prop where
  ln : ∀ vs H Q E, sp vs H Q E → vs.length = ps.length
  go : ∀ (A : Around) (outer : List Env) (s : Shared) (H : Hp) (as : Args) (us : List Value) (vs : List V) (Q : VK) (E : XK), A.guards = some [] → Room k A → Env0 P w K mg base A outer s H → BindsTo s fd as (ps.zip us) → Vals vs us → sp vs H Q E →
    codeAny (model P w) A (.call (.ref f) as) (CR C8.CX0 outer P w H s Q E) s
structure ClG (P : Program) (w : World) (K : PySem.W.Frag) (mg : Str → Option Value) (base : Heap) (k : Nat) (x : Str) (sp : Sp) : Prop where
  ex : ∃ (f : Addr) (fd : FuncData) (ps : List Str), RunG P w K mg base k f fd ps sp ∧ mg x = some (.ref f) ∧ PySem.W.keepIn K (.ref f) = true ∧ Binds K fd ps []
theorem runG_of {x qual : Str} {st : Stmt} {f : Addr} {fd : FuncData} {N ps : List Str} {k : Nat} {sp : Sp} (F : Fun K x qual st f fd) (S : FnScope N ps (defScope st)) (ln : ∀ vs H Q E, sp vs H Q E → vs.length = ps.length)
    (hb : ∀ (cv : Value) (A : Around) (outer : List Env) (s : Shared) (H : Hp) (vs : List V) (Q : VK) (E : XK), (A.deeper (envOfC qual (defScope st) s.heap.objs.size f cv)).guards = some [] → Room k (A.deeper (envOfC qual (defScope st) s.heap.objs.size f cv)) → sp vs H Q E →
      ∃ t, PSs (cxOf C8.CX0 P w K mg base N qual (defScope st) f cv A outer s H E).nox (defBody st) t ∧ t { nx := fun _ H' => Q .non H', rt := Q } (start N vs) H) : RunG P w K mg base (k + 1) f fd ps sp := by
  obtain ⟨oc, od, kV, doc, pm, an, cv, ct, osl, rfl, lk, hcd⟩ := F.ex
  exact ⟨ln, fun A outer s H as us vs Q E hg hr e0 bd rv q => LamX.run_ofS lk hcd S hr e0 bd rv (ln _ _ _ _ q) fun hr2 => by
    obtain ⟨t, t1, t2⟩ := hb cv A outer s H vs Q E hg hr2 q
    exact ⟨t, t1.nox, t2⟩⟩
theorem clG_of {k : Nat} {x : Str} {f : Addr} {fd : FuncData} {ps : List Str} {sp : Sp} (F : RunG P w K mg base k f fd ps sp) (hm : mg x = some (.ref f)) (hk : PySem.W.keepIn K (.ref f) = true) (hb : Binds K fd ps []) : ClG P w K mg base k x sp := ⟨f, fd, ps, F, hm, hk, hb⟩
end
section
variable {X : Cx} {x : Str} {k j : Nat} {sp : Sp} {p pos : Pos} {e : Expr} {es : List Expr} {t : TA}
theorem pe_clG (c : ClG X.prog X.w X.K X.mg X.base k x sp) (hgd : X.A.guards = some []) (hr : Room j X.A) (hkj : k ≤ j) (hg : Gl X x) {E : XK} (ha : PA X (e :: es) t)
    (hdb : (x == ("__debug__" : Str)) = false := by decide) (he : starEach (e :: es) X.env = (false, eval e X.env) :: starEach es X.env := by rfl) (hpl : (backTo pos (starEach es X.env)).any (·.1) = false := by rfl) :
    PE X (.Call (.Name x p) (e :: es) [] pos) (tCall sp [] E t) := by
  obtain ⟨f, fd, ps, F, hm, hk, hb⟩ := c.ex
  constructor
  intro pins s σ H Q I0 h0
  have step : ∀ (us : List Value) (s1 : Shared) (vs : List V) (H1 : Hp), Inv X pins σ H1 s1 → Vals vs us → sp (vs ++ []) H1 Q E → wpAny (model X.prog X.w) X.A (call (.ref f) us) (EP X pins σ Q) X.xe s1 := fun us s1 vs H1 I1 rv hsp => by
    rw [List.append_nil] at hsp
    have lz : us.length = ps.length := by rw [← rv.length]; exact F.ln _ _ _ _ hsp
    have bd := hb s1 us I1.kIn (by rw [List.append_nil]; exact lz)
    rw [List.append_nil] at bd
    refine wpAny_call (codeAny_mono (F.go X.A X.stack s1 H1 ⟨us, []⟩ us vs Q E hgd (hr.mono hkj) I1.env0 bd rv hsp) fun r s2 q2 => ?_)
    match r, q2 with
    | .error _, q2 => exact (show False from q2).elim
    | .ok (.ret _), q2 => exact I1.after q2
    | .ok .next, q2 => exact (show False from q2).elim
    | .ok .brk, q2 => exact (show False from q2).elim
    | .ok .cont, q2 => exact (show False from q2).elim
  exact wpAny_Call_Name_kw (ld_glob I0 hg hm (PySem.W.callWith_K (h₀ := X.base) I0.ok.mod.kin hk (thn (ha.run pos pins s σ H _ I0 h0) fun us s1 ⟨vs, H1, I1, r1, q1⟩ => ⟨I1.kIn, step us s1 vs H1 I1 r1 q1⟩) he hpl) hdb)
end
end MB
set_option maxRecDepth 100000
set_option maxHeartbeats 1000000
namespace MB
open PySem PySem.Spec PyProof.Rows L2 Evl
/-- a class by its name, made with n values by position and the keywords ks -/
structure MkN (P : Program) (w : World) (K : PySem.W.Frag) (mg : Str → Option Value) (base : Heap) (k : Nat) (x : Str) (C : Addr) (sp : Sp) (n : Nat) (ks : List Str) (gV : List V → List V → List V) : Prop where
  ex : ∃ (f : Addr) (fd : FuncData) (ps : List Str) (g : List Value → List Value → List Value), FnOk P w K mg base (L2.CX P w) k f fd ps sp ∧ mg x = some (.ref C) ∧ L2.Mk K C f ∧ KBn K fd ps (n + 1) ks g gV
section
variable {X : Cx} {x : Str} {k j n : Nat} {sp : Sp} {p pos : Pos} {e : Expr} {es : List Expr} {kws : List Keyword} {ks : List Str} {gV : List V → List V → List V} {t tk : TA} {C : Addr}
theorem pe_mkN (c : MkN X.prog X.w X.K X.mg X.base k x C sp n ks gV) (hr : Room j X.A) (hkj : k + 1 ≤ j) (hg : Gl X x) {E : XK} (hx : Passes (L2.CX X.prog X.w) X E) (ha : PA X (e :: es) t) (hkw : PK X kws tk)
    (hall : (backToKw pos (keywordEach kws X.env)).all (·.1.isSome) = true := by rfl) (hks : (backToKw pos (keywordEach kws X.env)).filterMap (·.1) = ks := by rfl) (hdb : (x == ("__debug__" : Str)) = false := by decide)
    (he : starEach (e :: es) X.env = (false, eval e X.env) :: starEach es X.env := by rfl) (hpl : ((backTo pos (starEach (e :: es) X.env)).any (·.1) || (backToKw pos (keywordEach kws X.env)).any (·.1.isNone)) = false := by rfl) :
    PE X (.Call (.Name x p) (e :: es) kws pos) (tMakeK C n ks.length sp gV E t tk) := by
  obtain ⟨f, fd, ps, g, F, hm, hk, hb⟩ := c.ex
  exact pe_makeK hk F (hr.mono hkj) hg hm hb hx ha hkw hall hks hdb he hpl
end
end MB
set_option maxRecDepth 100000
set_option maxHeartbeats 4000000
namespace MB
open PySem PySem.Spec PyProof.Rows L2
/-! ### tuple * 1, () * n: the tuple itself -/
theorem tuple_mul1 (l : Addr) (items : Array Value) (n : Nat) (dd : Option Addr) (sl : Array (Option Value)) (x : Int) (u : Tok) (c0 : (decide (x < -(2 ^ 63)) || decide (x ≥ 2 ^ 63)) = false) (c1 : (items.isEmpty || x == 1) = true) :
    Meets (Builtin.«tuple.__mul__» ⟨[.ref l, .int x u], []⟩) (fun _ R s => s.heap.get? l = some { cls := .type "tuple", dict := dd, data := .seq items n, slots := sl } ∧ R (.ok (.ret (Value.ref l))) s) :=
  .of_wp fun prog w A R s h => by
    obtain ⟨hp, g, d, tk, os⟩ := s
    obtain ⟨hl, h⟩ := h
    have f1 := AutoSeq1.idx_int
    wp_walk using wpAny_loadPart' hl
    repeat (first
      | (refine wpAny_ite_false (decide_eq_false (by rw [c0]; exact Bool.false_ne_true)) ?_; wp_walk using wpAny_loadPart' hl)
      | (refine wpAny_ite_true (decide_eq_true c1) ?_; wp_walk using wpAny_loadPart' hl))
    exact ⟨_, rfl, h⟩
def rRepT1 (K : PySem.W.Frag) : R2 := fun x y H Q => ∃ l k xs, x = .ref l ∧ y = .int k ∧ SqT K H l xs ∧ (xs = [] ∨ k = 1) ∧ -1000000 ≤ k ∧ k ≤ 1000000 ∧ Q (.ref l) H
section
variable {X : Cx} {K : PySem.W.Frag}
theorem op_repT1 : OpR X (binaryOp .Mult) (rRepT1 X.K) := by
  intro pins s σ H x y v u Q I rx ry h
  obtain ⟨l, k, xs, rfl, rfl, hT, hne, h1, h2, q⟩ := h
  cases rx
  obtain ⟨t, rfl⟩ := ry
  obtain ⟨its, r, ⟨⟨cls, dd, data, sl⟩, ho, hc, n, hd⟩, hs⟩ := I.tuple hT
  simp only at hc hd
  subst hc hd
  have c0 : (decide (k < -(2 ^ 63)) || decide (k ≥ 2 ^ 63)) = false := by
    rw [decide_eq_false (by omega), decide_eq_false (by omega)] <;> rfl
  have c1 : (its.toArray.isEmpty || k == 1) = true := by
    rcases hne with h | h
    · subst h
      cases r
      rfl
    · subst h
      simp
  refine wpAny_binaryOp_repeat_ref (T := "tuple") (U := "int") (by decide) ⟨_, ho, rfl⟩ (fun s' => typeIs_int s' k t) noFill_tuple_mul F.fills_int_mul F.slot_int_rmul repeat_tuple F.slot_int_index.lookup
    (call_meets F.slot_int_rmul (typeIs_int s k t) F.entry_int_rmul (F.args_int_rmul_2 _ _) (int_rmul_tuple k t l its.toArray n dd sl)
      ⟨ho, rfl, ⟨_, ho, rfl⟩, call_meets F.slot_tuple_mul ⟨_, ho, rfl⟩ F.entry_tuple_mul (F.args_tuple_mul_2 _ _) (tuple_mul1 l its.toArray n dd sl k t c0 c1) ⟨ho, ?_⟩⟩)
  exact ⟨.ref l, H, I, rfl, q⟩
def rMulC (K : PySem.W.Frag) : R2 := fun x y H Q => rRepT1 K x y H Q ∨ rMulB K x y H Q
theorem op_mulC (h : X.K = K) : OpR X (binaryOp .Mult) (rMulC K) := h ▸ OpR.or op_repT1 op_mulA
end
end MB
set_option maxRecDepth 100000
set_option maxHeartbeats 1000000
namespace MB
open PySem PySem.Spec PyProof.Rows L2 Evl
/-! ### bends with the pen that has a further key -/
/-- one of four lists of words is drawn and joined -/
theorem join_pickX {K : PySem.W.Frag} {σ : L2.St} {H : Hp} {E : XK} {j : Nat} {c : Nat} {p lc q : Addr} {n M : Nat} {tt : Option Int} {as : List Addr} {Q : VK} (h0 : σ[0]? = some (some (.ref p))) (hj : σ[j]? = some (some (.ref q))) (hq : H q = some (.lst (as.map V.ref)))
    (hl : as.length = 4) (hw : ∀ a ∈ as, ∃ ws : List (List Nat), H a = some (.lst (ws.map fun w => V.str (SX.S w))) ∧ mu ws ≤ M) (hM : M ≤ 8000000) (hp : PenX H p lc n tt) (hn : n ≤ 1000000)
    (k : ∀ (ws : List (List Nat)) H', mu ws ≤ M → PenX H' p lc (n + 1) tt → But p H H' → Q (.str (SX.S (TL.joinL [c] ws))) H') :
    tM1 (fun x xs H Q => ∃ a p, ∃ ys : List Str, x = .str a ∧ xs = [.ref p] ∧ (SqL K H p (ys.map V.str) ∨ SqT K H p (ys.map V.str)) ∧ (ys.map (·.length)).sum + ys.length * a.length ≤ 16777216 ∧ Q (.str (Txt.join a ys)) H) (tC (.str (SX.S [c])))
      (tOp (rIx K) (tVar j) (tCall spDrawX [] E (tCons (tVar 0) (tCons (tC (.int 4)) tNil)))) σ H Q := by
  refine ⟨⟨_, rfl⟩, _, hj, ev_drawX (m := 4) (ev_var h0) ev_c (by decide) (by decide) hp hn fun r H1 r0 r1 hp1 hb1 => ?_⟩
  have hlen : (as.map V.ref).length = 4 := by rw [List.length_map, hl]
  obtain ⟨v, hv, hat⟩ := atI_in (l := as.map V.ref) (i := r) (by omega) (by omega)
  obtain ⟨a, ha, rfl⟩ := List.mem_map.mp hv
  obtain ⟨ws, hws, hm⟩ := hw a ha
  refine .inl ⟨q, _, r, _, rfl, rfl, sq_of (hb1 _ _ (hp.ne hq) hq), hat, ?_⟩
  refine ⟨SX.S [c], a, ws.map SX.S, rfl, rfl, .inl (sq_of (by rw [List.map_map]; exact hb1 _ _ (hp.ne hws) hws)), ?_, ?_⟩
  · rw [SX.lens, List.length_map, SX.S_len, List.length_singleton, mu_sum]
    omega
  · rw [SX.join_S]
    exact k ws H1 hm hp1 hb1
/-- a text bent: nothing but its length is told -/
def spBentX (m : Nat) (f : Nat → Nat) : Sp := fun vs H Q _ => ∃ (p lc : Addr) (t : Str) (n : Nat) (tt : Option Int) (more : List V), vs = .ref p :: .str t :: more ∧ more.length = m ∧ PenX H p lc n tt ∧ n + 10 ≤ 1000000 ∧ t.length ≤ 500000 ∧
  (∀ v ∈ more, ∃ (l : Addr) (ws : List (List Nat)), v = .ref l ∧ H l = some (.lst (ws.map fun w => V.str (SX.S w))) ∧ ws.length ≤ 20 ∧ ∀ w ∈ ws, w.length ≤ 20) ∧
  ∀ (t' : Str) H', t'.length ≤ f t.length → PenX H' p lc (n + 10) tt → But p H H' → Q (.str t') H'
def spBentLX (f : Nat → Nat) : Sp := fun vs H Q _ => ∃ (p lc : Addr) (t : Str) (n : Nat) (tt : Option Int), vs = [.ref p, .str t] ∧ PenX H p lc n tt ∧ n + 11 ≤ 1000000 ∧ t.length ≤ 500000 ∧
  ∀ (t' : Str) H', t'.length ≤ f t.length → PenX H' p lc (n + 11) tt → But p H H' → Q (.str t') H'
/-! ### == [], min and max of a list -/
def rEqNil (K : PySem.W.Frag) : R2 := fun x y H Q => ∃ a b xs, x = .ref a ∧ y = .ref b ∧ SqL K H a xs ∧ SqL K H b [] ∧ Q (.bl xs.isEmpty) H
theorem op_eqNil {X : Cx} {K : PySem.W.Frag} (hK : X.K = K) (hu : X.A.units < cLine) : OpR X (compareOp .Eq) (rEqNil K) := by
  intro pins s σ H x y v u Q I rx ry h
  subst hK
  obtain ⟨a, b, xs, rfl, rfl, ha, hb, q⟩ := h
  obtain rfl : v = Value.ref a := rx
  obtain rfl : u = Value.ref b := ry
  obtain ⟨i1, r1, p1, _⟩ := I.list ha
  obtain ⟨i2, r2, p2, _⟩ := I.list hb
  have z2 : i2 = [] := by cases r2; rfl
  subst z2
  show wpAny _ _ (richCompare .Eq (.ref a) (.ref b)) _ _ _
  cases i1 with
  | nil =>
    have : xs = [] := by cases r1; rfl
    subst this
    have k := SeqAt.RcAt.lists (A := X.A) (e := fun _ => true) p1.isList p2.isList rfl hu (fun j h1 _ => absurd h1 (Nat.not_lt_zero _))
    exact k _ _ _ _ ⟨.bl _, H, I, rfl, q⟩
  | cons c r =>
    have : xs.isEmpty = false := by cases r1; rfl
    rw [this] at q
    have k := SeqAt.RcAt.lists_lengths (A := X.A) p1.isList p2.isList (by simp) hu
    exact k _ _ _ _ ⟨.bl _, H, I, rfl, q⟩
theorem ev_eqNilL {K : PySem.W.Frag} {σ : L2.St} {H : Hp} {ta tb : TE} {xs : List V} (ha : EvLs K ta σ H xs) (hb : EvL tb σ H []) : Ev (tOp (rEqNil K) ta tb) σ H (.bl xs.isEmpty) := fun H1 e Q q =>
  ha H1 e _ fun a H2 e2 h2 => hb H2 (e.trans e2) _ fun b H3 _ e3 h3 => ⟨a, b, xs, rfl, rfl, ex_l e3 h2, sq_of h3, q H3 (e2.trans e3)⟩
section
variable {X : Cx} {K : PySem.W.Frag} (h : X.K = K)
include h
theorem cr_minQ (hc : X.calm = true) : CallR X (.builtin "min") (rMin K) := h ▸ cr_min hc
theorem cr_maxQ (hc : X.calm = true) : CallR X (.builtin "max") (rMax K) := h ▸ cr_max hc
end
section
variable {K : PySem.W.Frag} {σ : L2.St} {H : Hp} {te tb : TE} {ns : List Int} {b : Int}
theorem ev_minLt (h : EvLs K te σ H (ns.map V.int)) (hn : 0 < ns.length) (hb : Ev tb σ H (.int b)) : Ev (tOp (rI0 fun i j => .bl (decide (i < j))) (tCB (rMin K) (tCons te tNil)) tb) σ H (.bl (ns.any fun x => decide (x < b))) := fun H1 e Q q =>
  h H1 e _ fun p H2 e2 h2 => ⟨p, ns, rfl, h2, hn, fun m h3 h4 => hb H2 (e.trans e2) _ fun H3 e3 => ⟨m, b, rfl, rfl, by
    have : decide (m < b) = ns.any fun x => decide (x < b) := by
      cases hd : decide (m < b) with
      | true => exact (List.any_eq_true.mpr ⟨m, h3, hd⟩).symm
      | false =>
        symm
        rw [List.any_eq_false]
        intro x hx
        have := of_decide_eq_false hd
        have := h4 x hx
        exact fun z => absurd (of_decide_eq_true z) (by omega)
    dsimp only
    rw [this]
    exact q H3 (e2.trans e3)⟩⟩
theorem ev_minGe (h : EvLs K te σ H (ns.map V.int)) (hn : 0 < ns.length) (hb : Ev tb σ H (.int b)) : Ev (tOp (rI0 fun i j => .bl (decide (j ≤ i))) (tCB (rMin K) (tCons te tNil)) tb) σ H (.bl (ns.all fun x => decide (b ≤ x))) := fun H1 e Q q =>
  h H1 e _ fun p H2 e2 h2 => ⟨p, ns, rfl, h2, hn, fun m h3 h4 => hb H2 (e.trans e2) _ fun H3 e3 => ⟨m, b, rfl, rfl, by
    have : decide (b ≤ m) = ns.all fun x => decide (b ≤ x) := by
      cases hd : decide (b ≤ m) with
      | true =>
        symm
        rw [List.all_eq_true]
        intro x hx
        have := of_decide_eq_true hd
        have := h4 x hx
        exact decide_eq_true (by omega)
      | false =>
        symm
        rw [List.all_eq_false]
        exact ⟨m, h3, by rw [hd]; decide⟩
    dsimp only
    rw [this]
    exact q H3 (e2.trans e3)⟩⟩
theorem ev_maxLt (h : EvLs K te σ H (ns.map V.int)) (hn : 0 < ns.length) (hb : Ev tb σ H (.int b)) : Ev (tOp (rI0 fun i j => .bl (decide (i < j))) (tCB (rMax K) (tCons te tNil)) tb) σ H (.bl (ns.all fun x => decide (x < b))) := fun H1 e Q q =>
  h H1 e _ fun p H2 e2 h2 => ⟨p, ns, rfl, h2, hn, fun m h3 h4 => hb H2 (e.trans e2) _ fun H3 e3 => ⟨m, b, rfl, rfl, by
    have : decide (m < b) = ns.all fun x => decide (x < b) := by
      cases hd : decide (m < b) with
      | true =>
        symm
        rw [List.all_eq_true]
        intro x hx
        have := of_decide_eq_true hd
        have := h4 x hx
        exact decide_eq_true (by omega)
      | false =>
        symm
        rw [List.all_eq_false]
        exact ⟨m, h3, by rw [hd]; decide⟩
    dsimp only
    rw [this]
    exact q H3 (e2.trans e3)⟩⟩
end
end MB
set_option maxRecDepth 100000
set_option maxHeartbeats 1000000
namespace MB
open PySem PySem.Spec PyProof.Rows L2 Evl
/-! ### lists of texts of which only the lengths are known -/
section
variable {K : PySem.W.Frag} {σ : L2.St} {H : Hp} {ta tb te tl tm : TE} {a b n m : Nat}
theorem EvZ.le (h : EvZ te σ H a) (hab : a ≤ b := by decide) : EvZ te σ H b := by
  obtain ⟨z, l, e⟩ := h
  exact ⟨z, Nat.le_trans l hab, e⟩
theorem evz_mulV {k : Int} (h : EvZ te σ H b) (hm : Ev tm σ H (.int k)) (h0 : 0 ≤ k) (hk : k ≤ (n : Int)) (hn : n ≤ 1000) (hz : b * n ≤ 8000000) : EvZ (tOp (rMulB K) te tm) σ H (b * n) := by
  obtain ⟨x, l, e⟩ := h
  obtain ⟨j, rfl⟩ : ∃ j : Nat, k = (j : Int) := ⟨k.toNat, by omega⟩
  have h2 : x.length * j ≤ b * n := Nat.mul_le_mul l (by omega)
  exact ⟨Txt.mul x j, Nat.le_trans (len_mul_leN l (Int.le_refl _)) (Nat.mul_le_mul_left _ (by omega)), ev_op e hm (rv_mulStr (by omega) (by omega) (by rw [Int.toNat_natCast]; omega))⟩
theorem evz_str {j : Nat} (h : Ev te σ H (.int (j : Int))) (hj : j < 1000000000000) : EvZ (tCB rStrA (tCons te tNil)) σ H 12 := by
  refine ⟨SX.S (TL.numL j), ?_, ev_cb1 h fun H1 _ _ q => .inl ⟨(j : Int), rfl, ?_, ?_⟩⟩
  · rw [SX.S_len]
    exact TL.numL_len (by decide) hj
  · rw [Int.natAbs_natCast]
    by_cases h0 : j = 0
    · subst h0; decide
    · exact (Nat.log2_lt h0).mpr (Nat.lt_of_lt_of_le hj (by decide))
  · have e : (toString (j : Int) : Str) = SX.S (TL.numL j) := SX.num_S j
    rw [e]
    exact q H1 (Ex.refl H1)
/-- ''.join([te for j in range(n)]) -/
theorem evz_joinR {tr : TA} {j : Nat} {vs : List Nat} {k : Int} (h : EvA tr σ H [.int k]) (h0 : 0 ≤ k) (hk : k ≤ (n : Int)) (hn : n ≤ 1000) (hz : n * b ≤ 8000000) (hw : ∀ x, wipe ((wipe σ vs).set j (some x)) vs = wipe σ vs)
    (he : ∀ d : Nat, (d : Int) < k → EvZ te ((wipe σ vs).set j (some (.int (d : Int)))) H b) :
    EvZ (tM1 (fun x xs H Q => ∃ a p, ∃ ys : List Str, x = .str a ∧ xs = [.ref p] ∧ (SqL K H p (ys.map V.str) ∨ SqT K H p (ys.map V.str)) ∧ (ys.map (·.length)).sum + ys.length * a.length ≤ 16777216 ∧ Q (.str (Txt.join a ys)) H) (tC (.str (Str.ofString ""))) (tLc (iRng1 tr) (gName j) tYes te vs)) σ H (n * b) := by
  obtain ⟨g, hg⟩ : ∃ g : Nat → List Nat, ∀ d : Nat, (d : Int) < k → (g d).length ≤ b ∧ Ev te ((wipe σ vs).set j (some (.int (d : Int)))) H (.str (SX.S (g d))) :=
    ⟨fun d => if hd : (d : Int) < k then (he d hd).choose.cps.toList else [], fun d hd => by
      obtain ⟨l, e⟩ := (he d hd).choose_spec
      simp only [dif_pos hd, SX.S_tl]
      exact ⟨by simpa [Str.length] using l, e⟩⟩
  have hL := el_lcR (te := te) (tt := tYes) (j := j) (vs := vs) (fun _ => true) (fun d => V.str (SX.S (g d))) h ⟨h0, by omega⟩ hw (fun _ _ => ety) (fun d hd _ => (hg d hd).2)
  have e1 : (((List.range k.toNat).filter fun _ => true).map fun d => V.str (SX.S (g d))) = ((List.range k.toNat).map g).map fun w => V.str (SX.S w) := by
    rw [List.map_map, List.filter_eq_self.mpr fun _ _ => rfl]
    rfl
  rw [e1] at hL
  have hs : (((List.range k.toNat).map g).map (·.length)).sum ≤ n * b := by
    have : ∀ l : List Nat, (∀ d ∈ l, (d : Int) < k) → ((l.map g).map (·.length)).sum ≤ l.length * b := by
      intro l
      induction l with
      | nil => intro _; exact Nat.zero_le _
      | cons x l ih =>
        intro hx
        have h1 := (hg x (hx x (List.mem_cons_self ..))).1
        have h2 := ih fun d hd => hx d (List.mem_cons_of_mem _ hd)
        rw [List.map_cons, List.map_cons, List.sum_cons, List.length_cons, Nat.add_mul]
        omega
    refine Nat.le_trans (this _ fun d hd => ?_) ?_
    · have := List.mem_range.mp hd
      omega
    · rw [List.length_range]
      exact Nat.mul_le_mul_right _ (by omega)
  refine ⟨_, ?_, ev_join (sep := []) (ev_is ev_c (congrArg V.str (by decide +kernel))) (els_new hL) (by rw [List.length_nil, Nat.mul_zero]; omega)⟩
  rw [SX.S_len]
  have := joinL_len [] ((List.range k.toNat).map g)
  rw [List.length_nil, Nat.mul_zero] at this
  omega
def EvLZ (te : TE) (σ : L2.St) (H : Hp) (n b : Nat) : Prop := ∃ zs : List Str, zs.length ≤ n ∧ (∀ z ∈ zs, z.length ≤ b) ∧ EvL te σ H (zs.map V.str)
/-- a list that stands at p -/
structure LZ (H : Hp) (p : Addr) (n b : Nat) : Prop where
  ex : ∃ zs : List Str, H p = some (.lst (zs.map V.str)) ∧ zs.length ≤ n ∧ ∀ z ∈ zs, z.length ≤ b
theorem LZ.mono {H' : Hp} {p : Addr} (h : LZ H p n b) (e : Ex H H') : LZ H' p n b := by
  obtain ⟨zs, h1, h2, h3⟩ := h.ex
  exact ⟨zs, e _ _ h1, h2, h3⟩
theorem LZ.but {H' : Hp} {p q : Addr} (h : LZ H p n b) (e : But q H H') (hq : p ≠ q) : LZ H' p n b := by
  obtain ⟨zs, h1, h2, h3⟩ := h.ex
  exact ⟨zs, e _ _ hq h1, h2, h3⟩
theorem LZ.le {p : Addr} {n' b' : Nat} (h : LZ H p n b) (hn : n ≤ n') (hb : b ≤ b') : LZ H p n' b' := by
  obtain ⟨zs, h1, h2, h3⟩ := h.ex
  exact ⟨zs, h1, Nat.le_trans h2 hn, fun z hz => Nat.le_trans (h3 z hz) hb⟩
theorem LZ.ne {p q : Addr} {kvs : List (Key × V)} (h : LZ H p n b) (hq : H q = some (.dK kvs)) : p ≠ q := fun z => by
  obtain ⟨zs, h1, _⟩ := h.ex
  rw [z, hq] at h1
  cases h1
theorem LZ.not_none {p : Addr} (h : LZ H p n b) : H p ≠ none := by
  obtain ⟨zs, h1, _⟩ := h.ex
  rw [h1]
  exact fun z => nomatch z
theorem elz_lst {tr : TA} (h : EvAZ tr σ H n b) (hn : n ≤ 1000 := by decide) : EvLZ (tLst tr) σ H n b := by
  obtain ⟨zs, h1, h2, h3⟩ := h
  exact ⟨zs, Nat.le_of_eq h1, h2, el_lst h3 (by rw [List.length_map, h1]; omega)⟩
theorem elz_cat (ha : EvLZ ta σ H n b) (hb : EvLZ tb σ H m b) (hz : n + m ≤ 10000 := by decide) : EvLZ (tOp (rAddA K) ta tb) σ H (n + m) b := by
  obtain ⟨xs, h1, h2, h3⟩ := ha
  obtain ⟨ys, g1, g2, g3⟩ := hb
  refine ⟨xs ++ ys, by rw [List.length_append]; omega, fun z hz => ?_, ?_⟩
  · rcases List.mem_append.mp hz with hz | hz
    · exact h2 z hz
    · exact g2 z hz
  · rw [List.map_append]
    exact el_cat (ep_new h3) (ep_new g3) (by rw [List.length_map, List.length_map]; omega)
/-- x + [..], x a list that stands -/
theorem elz_catV {p : Addr} (ha : Ev ta σ H (.ref p)) (hp : LZ H p n b) (hb : EvLZ tb σ H m b) (hz : n + m ≤ 10000 := by decide) : EvLZ (tOp (rAddA K) ta tb) σ H (n + m) b := by
  obtain ⟨xs, h1, h2, h3⟩ := hp.ex
  obtain ⟨ys, g1, g2, g3⟩ := hb
  refine ⟨xs ++ ys, by rw [List.length_append]; omega, fun z hz => ?_, ?_⟩
  · rcases List.mem_append.mp hz with hz | hz
    · exact h3 z hz
    · exact g2 z hz
  · rw [List.map_append]
    exact el_cat (ep_val ha h1) (ep_new g3) (by rw [List.length_map, List.length_map]; omega)
/-- [te for j in tl] -/
theorem elz_lcS {zs : List Str} {j : Nat} {vs : List Nat} (h : EvLs K tl σ H (zs.map V.str)) (hn : zs.length ≤ n) (hz : ∀ z ∈ zs, z.length ≤ a) (hn2 : n ≤ 10000) (hw : ∀ x, wipe ((wipe σ vs).set j (some x)) vs = wipe σ vs) (he : ∀ z : Str, z.length ≤ a → EvZ te ((wipe σ vs).set j (some (.str z))) H b) :
    EvLZ (tLc (iList K tl) (gName j) tYes te vs) σ H n b := by
  obtain ⟨g, hg⟩ : ∃ g : Str → Str, ∀ z : Str, z.length ≤ a → (g z).length ≤ b ∧ Ev te ((wipe σ vs).set j (some (.str z))) H (.str (g z)) :=
    ⟨fun z => if hd : z.length ≤ a then (he z hd).choose else z, fun z hd => by
      obtain ⟨l, e⟩ := (he z hd).choose_spec
      simp only [dif_pos hd]
      exact ⟨l, e⟩⟩
  refine ⟨zs.map g, by rw [List.length_map]; exact hn, fun x hx => ?_, ?_⟩
  · obtain ⟨z, hz2, rfl⟩ := List.mem_map.mp hx
    exact (hg z (hz z hz2)).1
  · have := el_lcLs (ds := zs) (tt := tYes) (te := te) (j := j) (vs := vs) V.str (fun _ => true) (fun z => V.str (g z)) h (by omega) hw (fun _ _ => ety) fun z hm _ => (hg z (hz z hm)).2
    rw [List.filter_eq_self.mpr fun _ _ => rfl] at this
    rw [List.map_map]
    exact this
theorem elz_lc {j : Nat} {vs : List Nat} (h : EvLZ tl σ H n a) (hn2 : n ≤ 10000) (hw : ∀ x, wipe ((wipe σ vs).set j (some x)) vs = wipe σ vs) (he : ∀ z : Str, z.length ≤ a → EvZ te ((wipe σ vs).set j (some (.str z))) H b) :
    EvLZ (tLc (iList K tl) (gName j) tYes te vs) σ H n b := by
  obtain ⟨zs, h1, h2, h3⟩ := h
  exact elz_lcS (els_new h3) h1 h2 hn2 hw he
theorem elz_lcV {p : Addr} {j : Nat} {vs : List Nat} (h : Ev tl σ H (.ref p)) (hp : LZ H p n a) (hn2 : n ≤ 10000) (hw : ∀ x, wipe ((wipe σ vs).set j (some x)) vs = wipe σ vs) (he : ∀ z : Str, z.length ≤ a → EvZ te ((wipe σ vs).set j (some (.str z))) H b) :
    EvLZ (tLc (iList K tl) (gName j) tYes te vs) σ H n b := by
  obtain ⟨zs, h1, h2, h3⟩ := hp.ex
  exact elz_lcS (els_val h (sq_of h1)) h2 h3 hn2 hw he
theorem q_asgLZ {i : Nat} {D : Ends} {tz : TS} (h : EvLZ te σ H n b) (k : ∀ p H1, H p = none → Ex H H1 → LZ H1 p n b → tz D (σ.set i (some (.ref p))) H1) : tSeq (tAsg te (gName i)) tz D σ H := by
  obtain ⟨zs, h1, h2, h3⟩ := h
  exact q_asgL h3 fun p H1 hp e hl => k p H1 hp e ⟨zs, hl, h1, h2⟩
theorem s_retLZ {D : Ends} (h : EvLZ te σ H n b) (k : ∀ p H1, H p = none → Ex H H1 → LZ H1 p n b → D.rt (.ref p) H1) : tRet te D σ H := by
  obtain ⟨zs, h1, h2, h3⟩ := h
  exact s_retL h3 fun p H1 hp e hl => k p H1 hp e ⟨zs, hl, h1, h2⟩
theorem q_asgZ' {i : Nat} {D : Ends} {tz : TS} (h : EvZ te σ H b) (k : ∀ (z : Str) H1, z.length ≤ b → Ex H H1 → tz D (σ.set i (some (.str z))) H1) : tSeq (tAsg te (gName i)) tz D σ H := by
  obtain ⟨z, l, e⟩ := h
  exact q_asg e fun H1 e1 => k z H1 l e1
theorem s_asgZ' {i : Nat} {D : Ends} (h : EvZ te σ H b) (k : ∀ (z : Str) H1, z.length ≤ b → Ex H H1 → D.nx (σ.set i (some (.str z))) H1) : tAsg te (gName i) D σ H := by
  obtain ⟨z, l, e⟩ := h
  exact s_asg e fun H1 e1 => k z H1 l e1
/-- x.append(te) -/
theorem q_appZ {i : Nat} {D : Ends} {tz : TS} {p : Addr} (h0 : σ[i]? = some (some (.ref p))) (hp : LZ H p n b) (h : EvZ te σ H b) (hn : n ≤ 10000) (k : ∀ H1, LZ H1 p (n + 1) b → But p H H1 → tz D σ H1) : tSeq (tDrop (tBM K "list" rAppend (tVar i) (tCons te tNil))) tz D σ H := by
  obtain ⟨zs, h1, h2, h3⟩ := hp.ex
  obtain ⟨z, l, e⟩ := h
  refine (show tBM K "list" rAppend (tVar i) (tCons te tNil) σ H fun _ H1 => tz D σ H1 from ⟨_, h0, Or.inl ⟨rfl, _, sq_of h1⟩, (e H (Ex.refl H) _ fun H2 e2 => ⟨p, _, _, rfl, rfl, e2 _ _ h1, ?_, ?_⟩)⟩)
  · rw [List.length_map]
    have : (20000 : Nat) < sizeLine := by decide
    omega
  · refine k _ ⟨zs ++ [z], by rw [upd_same, List.map_append]; rfl, by rw [List.length_append, List.length_singleton]; omega, fun x hx => ?_⟩ fun x o hx hs => by
      rw [upd_ne hx]
      exact e2 _ _ hs
    rcases List.mem_append.mp hx with hx | hx
    · exact h3 x hx
    · obtain rfl := List.mem_singleton.mp hx
      exact l
end
end MB
set_option maxRecDepth 100000
namespace K82
open PySem PySem.Spec PyProof.Rows L2
def top (i : Nat) : Stmt := PySem.Challenge.pw_tornentries_k82_texts_of_no_tree.main.body.getD i (.Pass ⟨0, 0, 0, 0⟩)
-- _wall: top 0; slots [(0, 'k')]; cells []
-- _wall: top 0; slots [(0, 'k')]; cells []
abbrev s_wall : Stmt := top 0
abbrev n_wall : List Str := ["k"]
abbrev p_wall : List Str := ["k"]
theorem sc_wall : FnScope n_wall p_wall (defScope s_wall) := ⟨rfl, rfl, rfl, by decide +kernel, rfl, by decide +kernel, by decide +kernel⟩

-- top 1: __name__ = 'tornentries.errors'
-- top 2: class TornError(ValueError):
-- top 3: class Spoilt(TornError):
-- Spoilt.__init__: inClass (top 3) 0; slots [(0, 'self'), (1, 'why'), (2, 'path'), (3, 'number')]; cells []
abbrev s_Spoilt_init__ : Stmt := inClass (top 3) 0
abbrev n_Spoilt_init__ : List Str := ["self", "why", "path", "number"]
abbrev p_Spoilt_init__ : List Str := ["self", "why", "path", "number"]
theorem sc_Spoilt_init__ : FnScope n_Spoilt_init__ p_Spoilt_init__ (defScope s_Spoilt_init__) := ⟨rfl, rfl, rfl, by decide +kernel, rfl, by decide +kernel, by decide +kernel⟩

-- top 4: class NoTable(TornError):
-- NoTable.__init__: inClass (top 4) 0; slots [(0, 'self'), (1, 'path')]; cells []
abbrev s_NoTable_init__ : Stmt := inClass (top 4) 0
abbrev n_NoTable_init__ : List Str := ["self", "path"]
abbrev p_NoTable_init__ : List Str := ["self", "path"]
theorem sc_NoTable_init__ : FnScope n_NoTable_init__ p_NoTable_init__ (defScope s_NoTable_init__) := ⟨rfl, rfl, rfl, by decide +kernel, rfl, by decide +kernel, by decide +kernel⟩

-- top 5: class NoTag(TornError):
-- NoTag.__init__: inClass (top 5) 0; slots [(0, 'self'), (1, 'tag')]; cells []
abbrev s_NoTag_init__ : Stmt := inClass (top 5) 0
abbrev n_NoTag_init__ : List Str := ["self", "tag"]
abbrev p_NoTag_init__ : List Str := ["self", "tag"]
theorem sc_NoTag_init__ : FnScope n_NoTag_init__ p_NoTag_init__ (defScope s_NoTag_init__) := ⟨rfl, rfl, rfl, by decide +kernel, rfl, by decide +kernel, by decide +kernel⟩

-- top 6: class NoShare(TornError):
-- top 7: class Taken(TornError):
-- Taken.__init__: inClass (top 7) 0; slots [(0, 'self'), (1, 'tag')]; cells []
abbrev s_Taken_init__ : Stmt := inClass (top 7) 0
abbrev n_Taken_init__ : List Str := ["self", "tag"]
abbrev p_Taken_init__ : List Str := ["self", "tag"]
theorem sc_Taken_init__ : FnScope n_Taken_init__ p_Taken_init__ (defScope s_Taken_init__) := ⟨rfl, rfl, rfl, by decide +kernel, rfl, by decide +kernel, by decide +kernel⟩

-- top 8: class NoPiece(TornError):
-- NoPiece.__init__: inClass (top 8) 0; slots [(0, 'self'), (1, 'k')]; cells []
abbrev s_NoPiece_init__ : Stmt := inClass (top 8) 0
abbrev n_NoPiece_init__ : List Str := ["self", "k"]
abbrev p_NoPiece_init__ : List Str := ["self", "k"]
theorem sc_NoPiece_init__ : FnScope n_NoPiece_init__ p_NoPiece_init__ (defScope s_NoPiece_init__) := ⟨rfl, rfl, rfl, by decide +kernel, rfl, by decide +kernel, by decide +kernel⟩

-- top 9: class TooMany(TornError):
-- top 10: class TooDeep(TornError):
-- top 11: class TooGreat(TornError):
-- top 12: class NoDeed(TornError):
-- top 13: class Raw(TornError):
-- Raw.__init__: inClass (top 13) 0; slots [(0, 'self'), (1, 'path'), (2, 'tag')]; cells []
abbrev s_Raw_init__ : Stmt := inClass (top 13) 0
abbrev n_Raw_init__ : List Str := ["self", "path", "tag"]
abbrev p_Raw_init__ : List Str := ["self", "path", "tag"]
theorem sc_Raw_init__ : FnScope n_Raw_init__ p_Raw_init__ (defScope s_Raw_init__) := ⟨rfl, rfl, rfl, by decide +kernel, rfl, by decide +kernel, by decide +kernel⟩

-- top 14: class NoWay(TornError):
-- top 15: class NoGrid(TornError):
-- top 16: class Busy(TornError):
-- top 17: class NoText(TornError):
-- NoText.__init__: inClass (top 17) 0; slots [(0, 'self'), (1, 'line')]; cells []
abbrev s_NoText_init__ : Stmt := inClass (top 17) 0
abbrev n_NoText_init__ : List Str := ["self", "line"]
abbrev p_NoText_init__ : List Str := ["self", "line"]
theorem sc_NoText_init__ : FnScope n_NoText_init__ p_NoText_init__ (defScope s_NoText_init__) := ⟨rfl, rfl, rfl, by decide +kernel, rfl, by decide +kernel, by decide +kernel⟩

-- top 18: class NoLine(TornError):
-- top 19: __name__ = 'tornentries.kinds'
-- top 20: KNOWN = (1, 2, 3, 4, 5, 6)
-- top 21: WIDTHS = (1, 2, 4, 1, 4, 4)
-- top 22: OTHER_WIDTHS = (1, 2, 4)
-- is_whole: top 23; slots [(0, 'thing'), (1, 'most')]; cells []
abbrev s_is_whole : Stmt := top 23
abbrev n_is_whole : List Str := ["thing", "most"]
abbrev p_is_whole : List Str := ["thing", "most"]
theorem sc_is_whole : FnScope n_is_whole p_is_whole (defScope s_is_whole) := ⟨rfl, rfl, rfl, by decide +kernel, rfl, by decide +kernel, by decide +kernel⟩

-- width: top 24; slots [(0, 'kind')]; cells []
abbrev s_width : Stmt := top 24
abbrev n_width : List Str := ["kind"]
abbrev p_width : List Str := ["kind"]
theorem sc_width : FnScope n_width p_width (defScope s_width) := ⟨rfl, rfl, rfl, by decide +kernel, rfl, by decide +kernel, by decide +kernel⟩

-- top 25: ORDERS = ('small', 'great')
-- top 26: __name__ = 'tornentries.worths'
-- top 27: MOST_COUNT = 300
-- top 28: BYTE = 256
-- top 29: TEXT = 4
-- top 30: LIMITS = {1: 256, 2: 65536, 3: 4294967296}
-- top 31: SIGNS = ' -.0123456789ABCDEFGHIJKLMNOPQRSTUVWXYZabcdefghijklmnopqrstuvwxyz'
-- are_numbers: top 32; slots [(0, 'thing'), (1, 'limit'), (2, 'most'), (3, 'one')]; cells ['limit']
abbrev s_are_numbers : Stmt := top 32
abbrev n_are_numbers : List Str := ["thing", "limit", "most", "one"]
abbrev p_are_numbers : List Str := ["thing", "limit", "most"]
theorem sc_are_numbers : FnScope n_are_numbers p_are_numbers (defScope s_are_numbers) := ⟨rfl, rfl, rfl, by decide +kernel, rfl, by decide +kernel, by decide +kernel⟩

-- is_piece: top 33; slots [(0, 'thing')]; cells []
abbrev s_is_piece : Stmt := top 33
abbrev n_is_piece : List Str := ["thing"]
abbrev p_is_piece : List Str := ["thing"]
theorem sc_is_piece : FnScope n_is_piece p_is_piece (defScope s_is_piece) := ⟨rfl, rfl, rfl, by decide +kernel, rfl, by decide +kernel, by decide +kernel⟩

-- is_worths: top 34; slots [(0, 'kind'), (1, 'thing'), (2, 'known'), (3, 'wide'), (4, 'sign')]; cells []
abbrev s_is_worths : Stmt := top 34
abbrev n_is_worths : List Str := ["kind", "thing", "known", "wide", "sign"]
abbrev p_is_worths : List Str := ["kind", "thing", "known"]
theorem sc_is_worths : FnScope n_is_worths p_is_worths (defScope s_is_worths) := ⟨rfl, rfl, rfl, by decide +kernel, rfl, by decide +kernel, by decide +kernel⟩

-- top 35: __name__ = 'tornentries.reader'
-- top 36: FIGURES = '0123456789'
-- top 37: MOST_FIGURES = 10
-- top 38: MOST_NUMBER = 65535
-- top 39: MOST_WORTHS = 300
-- top 40: MOST_ENTRIES = 40
-- top 41: MOST_TABLES = 10
-- top 42: MOST_DEEP = 4
-- number_by: top 43; slots [(0, 'word'), (1, 'sign')]; cells []
abbrev s_number_by : Stmt := top 43
abbrev n_number_by : List Str := ["word", "sign"]
abbrev p_number_by : List Str := ["word"]
theorem sc_number_by : FnScope n_number_by p_number_by (defScope s_number_by) := ⟨rfl, rfl, rfl, by decide +kernel, rfl, by decide +kernel, by decide +kernel⟩

-- numbers_by: top 44; slots [(0, 'words'), (1, 'found'), (2, 'word')]; cells []
abbrev s_numbers_by : Stmt := top 44
abbrev n_numbers_by : List Str := ["words", "found", "word"]
abbrev p_numbers_by : List Str := ["words"]
theorem sc_numbers_by : FnScope n_numbers_by p_numbers_by (defScope s_numbers_by) := ⟨rfl, rfl, rfl, by decide +kernel, rfl, by decide +kernel, by decide +kernel⟩

-- top 45: class Lines:
-- Lines.__init__: inClass (top 45) 0; slots [(0, 'self'), (1, 'text'), (2, 'known'), (3, 'raw'), (4, 'rows'), (5, 'rest')]; cells []
abbrev s_Lines_init__ : Stmt := inClass (top 45) 0
abbrev n_Lines_init__ : List Str := ["self", "text", "known", "raw", "rows", "rest"]
abbrev p_Lines_init__ : List Str := ["self", "text", "known", "raw"]
theorem sc_Lines_init__ : FnScope n_Lines_init__ p_Lines_init__ (defScope s_Lines_init__) := ⟨rfl, rfl, rfl, by decide +kernel, rfl, by decide +kernel, by decide +kernel⟩

-- Lines.needs: inClass (top 45) 1; slots [(0, 'self'), (1, 'is_right')]; cells []
abbrev s_Lines_needs : Stmt := inClass (top 45) 1
abbrev n_Lines_needs : List Str := ["self", "is_right"]
abbrev p_Lines_needs : List Str := ["self", "is_right"]
theorem sc_Lines_needs : FnScope n_Lines_needs p_Lines_needs (defScope s_Lines_needs) := ⟨rfl, rfl, rfl, by decide +kernel, rfl, by decide +kernel, by decide +kernel⟩

-- Lines.take_line: inClass (top 45) 2; slots [(0, 'self')]; cells []
abbrev s_Lines_take_line : Stmt := inClass (top 45) 2
abbrev n_Lines_take_line : List Str := ["self"]
abbrev p_Lines_take_line : List Str := ["self"]
theorem sc_Lines_take_line : FnScope n_Lines_take_line p_Lines_take_line (defScope s_Lines_take_line) := ⟨rfl, rfl, rfl, by decide +kernel, rfl, by decide +kernel, by decide +kernel⟩

-- Lines.is_over: inClass (top 45) 3; slots [(0, 'self')]; cells []
abbrev s_Lines_is_over : Stmt := inClass (top 45) 3
abbrev n_Lines_is_over : List Str := ["self"]
abbrev p_Lines_is_over : List Str := ["self"]
theorem sc_Lines_is_over : FnScope n_Lines_is_over p_Lines_is_over (defScope s_Lines_is_over) := ⟨rfl, rfl, rfl, by decide +kernel, rfl, by decide +kernel, by decide +kernel⟩

-- Lines.finish: inClass (top 45) 4; slots [(0, 'self')]; cells []
abbrev s_Lines_finish : Stmt := inClass (top 45) 4
abbrev n_Lines_finish : List Str := ["self"]
abbrev p_Lines_finish : List Str := ["self"]
theorem sc_Lines_finish : FnScope n_Lines_finish p_Lines_finish (defScope s_Lines_finish) := ⟨rfl, rfl, rfl, by decide +kernel, rfl, by decide +kernel, by decide +kernel⟩

-- Lines.take_tables: inClass (top 45) 5; slots [(0, 'self'), (1, 'deep'), (2, 'last'), (3, 'found'), (4, 'line')]; cells []
abbrev s_Lines_take_tables : Stmt := inClass (top 45) 5
abbrev n_Lines_take_tables : List Str := ["self", "deep", "last", "found", "line"]
abbrev p_Lines_take_tables : List Str := ["self", "deep", "last"]
theorem sc_Lines_take_tables : FnScope n_Lines_take_tables p_Lines_take_tables (defScope s_Lines_take_tables) := ⟨rfl, rfl, rfl, by decide +kernel, rfl, by decide +kernel, by decide +kernel⟩

-- Lines.take_table: inClass (top 45) 6; slots [(0, 'self'), (1, 'deep'), (2, 'found'), (3, 'line'), (4, 'entry')]; cells []
abbrev s_Lines_take_table : Stmt := inClass (top 45) 6
abbrev n_Lines_take_table : List Str := ["self", "deep", "found", "line", "entry"]
abbrev p_Lines_take_table : List Str := ["self", "deep"]
theorem sc_Lines_take_table : FnScope n_Lines_take_table p_Lines_take_table (defScope s_Lines_take_table) := ⟨rfl, rfl, rfl, by decide +kernel, rfl, by decide +kernel, by decide +kernel⟩

-- Lines.tag_of: inClass (top 45) 7; slots [(0, 'self'), (1, 'line'), (2, 'word'), (3, 'rest'), (4, 'tag')]; cells []
abbrev s_Lines_tag_of : Stmt := inClass (top 45) 7
abbrev n_Lines_tag_of : List Str := ["self", "line", "word", "rest", "tag"]
abbrev p_Lines_tag_of : List Str := ["self", "line"]
theorem sc_Lines_tag_of : FnScope n_Lines_tag_of p_Lines_tag_of (defScope s_Lines_tag_of) := ⟨rfl, rfl, rfl, by decide +kernel, rfl, by decide +kernel, by decide +kernel⟩

-- Lines.take_entry: inClass (top 45) 8; slots [(0, 'self'), (1, 'line'), (2, 'deep'), (3, 'word'), (4, 'rest'), (5, 'tag'), (6, 'signs')]; cells []
abbrev s_Lines_take_entry : Stmt := inClass (top 45) 8
abbrev n_Lines_take_entry : List Str := ["self", "line", "deep", "word", "rest", "tag", "signs"]
abbrev p_Lines_take_entry : List Str := ["self", "line", "deep"]
theorem sc_Lines_take_entry : FnScope n_Lines_take_entry p_Lines_take_entry (defScope s_Lines_take_entry) := ⟨rfl, rfl, rfl, by decide +kernel, rfl, by decide +kernel, by decide +kernel⟩

-- Lines.plain_in: inClass (top 45) 9; slots [(0, 'self'), (1, 'words'), (2, 'numbers'), (3, 'kind'), (4, 'worths')]; cells []
abbrev s_Lines_plain_in : Stmt := inClass (top 45) 9
abbrev n_Lines_plain_in : List Str := ["self", "words", "numbers", "kind", "worths"]
abbrev p_Lines_plain_in : List Str := ["self", "words"]
theorem sc_Lines_plain_in : FnScope n_Lines_plain_in p_Lines_plain_in (defScope s_Lines_plain_in) := ⟨rfl, rfl, rfl, by decide +kernel, rfl, by decide +kernel, by decide +kernel⟩

-- Lines.take_chains: inClass (top 45) 10; slots [(0, 'self'), (1, 'deep'), (2, 'found'), (3, 'line')]; cells []
abbrev s_Lines_take_chains : Stmt := inClass (top 45) 10
abbrev n_Lines_take_chains : List Str := ["self", "deep", "found", "line"]
abbrev p_Lines_take_chains : List Str := ["self", "deep"]
theorem sc_Lines_take_chains : FnScope n_Lines_take_chains p_Lines_take_chains (defScope s_Lines_take_chains) := ⟨rfl, rfl, rfl, by decide +kernel, rfl, by decide +kernel, by decide +kernel⟩

-- Lines.take_pieces: inClass (top 45) 11; slots [(0, 'self'), (1, 'found'), (2, 'line'), (3, 'word'), (4, 'rest'), (5, 'piece')]; cells []
abbrev s_Lines_take_pieces : Stmt := inClass (top 45) 11
abbrev n_Lines_take_pieces : List Str := ["self", "found", "line", "word", "rest", "piece"]
abbrev p_Lines_take_pieces : List Str := ["self"]
theorem sc_Lines_take_pieces : FnScope n_Lines_take_pieces p_Lines_take_pieces (defScope s_Lines_take_pieces) := ⟨rfl, rfl, rfl, by decide +kernel, rfl, by decide +kernel, by decide +kernel⟩

-- read_tree: top 46; slots [(0, 'text'), (1, 'known'), (2, 'lines'), (3, 'word'), (4, 'rest')]; cells []
abbrev s_read_tree : Stmt := top 46
abbrev n_read_tree : List Str := ["text", "known", "lines", "word", "rest"]
abbrev p_read_tree : List Str := ["text", "known"]
theorem sc_read_tree : FnScope n_read_tree p_read_tree (defScope s_read_tree) := ⟨rfl, rfl, rfl, by decide +kernel, rfl, by decide +kernel, by decide +kernel⟩

-- top 47: __name__ = 'tornentries.texts'
-- line_of: top 48; slots [(0, 'word'), (1, 'parts'), (2, 'numbers'), (3, 'part'), (4, 'number')]; cells []
abbrev s_line_of : Stmt := top 48
abbrev n_line_of : List Str := ["word", "parts", "numbers", "part", "number"]
abbrev p_line_of : List Str := ["word", "parts", "numbers"]
theorem sc_line_of : FnScope n_line_of p_line_of (defScope s_line_of) := ⟨rfl, rfl, rfl, by decide +kernel, rfl, by decide +kernel, by decide +kernel⟩

-- entry_lines: top 49; slots [(0, 'entry'), (1, 'known'), (2, 'tag'), (3, 'kind'), (4, 'worths'), (5, 'pieces'), (6, 'piece'), (7, 'lines'), (8, 'chain')]; cells []
abbrev s_entry_lines : Stmt := top 49
abbrev n_entry_lines : List Str := ["entry", "known", "tag", "kind", "worths", "pieces", "piece", "lines", "chain"]
abbrev p_entry_lines : List Str := ["entry", "known"]
theorem sc_entry_lines : FnScope n_entry_lines p_entry_lines (defScope s_entry_lines) := ⟨rfl, rfl, rfl, by decide +kernel, rfl, by decide +kernel, by decide +kernel⟩

-- table_lines: top 50; slots [(0, 'table'), (1, 'known'), (2, 'entry'), (3, 'line')]; cells ['known']
abbrev s_table_lines : Stmt := top 50
abbrev n_table_lines : List Str := ["table", "known", "entry", "line"]
abbrev p_table_lines : List Str := ["table", "known"]
theorem sc_table_lines : FnScope n_table_lines p_table_lines (defScope s_table_lines) := ⟨rfl, rfl, rfl, by decide +kernel, rfl, by decide +kernel, by decide +kernel⟩

-- chain_lines: top 51; slots [(0, 'chain'), (1, 'known'), (2, 'table'), (3, 'line')]; cells ['known']
abbrev s_chain_lines : Stmt := top 51
abbrev n_chain_lines : List Str := ["chain", "known", "table", "line"]
abbrev p_chain_lines : List Str := ["chain", "known"]
theorem sc_chain_lines : FnScope n_chain_lines p_chain_lines (defScope s_chain_lines) := ⟨rfl, rfl, rfl, by decide +kernel, rfl, by decide +kernel, by decide +kernel⟩

-- ended: top 52; slots [(0, 'lines'), (1, 'line')]; cells []
abbrev s_ended : Stmt := top 52
abbrev n_ended : List Str := ["lines", "line"]
abbrev p_ended : List Str := ["lines"]
theorem sc_ended : FnScope n_ended p_ended (defScope s_ended) := ⟨rfl, rfl, rfl, by decide +kernel, rfl, by decide +kernel, by decide +kernel⟩

-- show_tree: top 53; slots [(0, 'tree'), (1, 'known'), (2, 'order'), (3, 'chain')]; cells []
abbrev s_show_tree : Stmt := top 53
abbrev n_show_tree : List Str := ["tree", "known", "order", "chain"]
abbrev p_show_tree : List Str := ["tree", "known"]
theorem sc_show_tree : FnScope n_show_tree p_show_tree (defScope s_show_tree) := ⟨rfl, rfl, rfl, by decide +kernel, rfl, by decide +kernel, by decide +kernel⟩

-- top 54: __name__ = 'law_tornentries_k82_texts_of_no_tree'
-- _law_pen: top 55; slots [(0, '_law_script')]; cells []
abbrev s_law_pen : Stmt := top 55
abbrev n_law_pen : List Str := ["_law_script"]
abbrev p_law_pen : List Str := ["_law_script"]
theorem sc_law_pen : FnScope n_law_pen p_law_pen (defScope s_law_pen) := ⟨rfl, rfl, rfl, by decide +kernel, rfl, by decide +kernel, by decide +kernel⟩

-- _law_draw: top 56; slots [(0, '_law_pen_here'), (1, '_law_many'), (2, '_law_found'), (3, '_law_at'), (4, '_law_cell'), (5, '_law_whole'), (6, '_law_one'), (7, '_law_two')]; cells []
abbrev s_law_draw : Stmt := top 56
abbrev n_law_draw : List Str := ["_law_pen_here", "_law_many", "_law_found", "_law_at", "_law_cell", "_law_whole", "_law_one", "_law_two"]
abbrev p_law_draw : List Str := ["_law_pen_here", "_law_many"]
theorem sc_law_draw : FnScope n_law_draw p_law_draw (defScope s_law_draw) := ⟨rfl, rfl, rfl, by decide +kernel, rfl, by decide +kernel, by decide +kernel⟩

-- _law_numbers: top 57; slots [(0, '_law_pen_here'), (1, '_law_many'), (2, '_law_limit'), (3, '_law_ends'), (4, '_law_k')]; cells ['_law_ends', '_law_limit', '_law_pen_here']
abbrev s_law_numbers : Stmt := top 57
abbrev n_law_numbers : List Str := ["_law_pen_here", "_law_many", "_law_limit", "_law_ends", "_law_k"]
abbrev p_law_numbers : List Str := ["_law_pen_here", "_law_many", "_law_limit"]
theorem sc_law_numbers : FnScope n_law_numbers p_law_numbers (defScope s_law_numbers) := ⟨rfl, rfl, rfl, by decide +kernel, rfl, by decide +kernel, by decide +kernel⟩

-- _law_text: top 58; slots [(0, '_law_pen_here'), (1, '_law_many'), (2, '_law_signs'), (3, '_law_k')]; cells ['_law_pen_here', '_law_signs']
abbrev s_law_text : Stmt := top 58
abbrev n_law_text : List Str := ["_law_pen_here", "_law_many", "_law_signs", "_law_k"]
abbrev p_law_text : List Str := ["_law_pen_here", "_law_many"]
theorem sc_law_text : FnScope n_law_text p_law_text (defScope s_law_text) := ⟨rfl, rfl, rfl, by decide +kernel, rfl, by decide +kernel, by decide +kernel⟩

-- _law_plain: top 59; slots [(0, '_law_pen_here'), (1, '_law_kind'), (2, '_law_many'), (3, '_law_sizes'), (4, '_law_k'), (5, '_law_size')]; cells ['_law_pen_here']
abbrev s_law_plain : Stmt := top 59
abbrev n_law_plain : List Str := ["_law_pen_here", "_law_kind", "_law_many", "_law_sizes", "_law_k", "_law_size"]
abbrev p_law_plain : List Str := ["_law_pen_here", "_law_kind"]
theorem sc_law_plain : FnScope n_law_plain p_law_plain (defScope s_law_plain) := ⟨rfl, rfl, rfl, by decide +kernel, rfl, by decide +kernel, by decide +kernel⟩

-- _law_entry: top 60; slots [(0, '_law_pen_here'), (1, '_law_tag'), (2, '_law_deep'), (3, '_law_kinds_here'), (4, '_law_kind'), (5, '_law_many'), (6, '_law_k')]; cells ['_law_deep', '_law_kinds_here', '_law_pen_here']
abbrev s_law_entry : Stmt := top 60
abbrev n_law_entry : List Str := ["_law_pen_here", "_law_tag", "_law_deep", "_law_kinds_here", "_law_kind", "_law_many", "_law_k"]
abbrev p_law_entry : List Str := ["_law_pen_here", "_law_tag", "_law_deep", "_law_kinds_here"]
theorem sc_law_entry : FnScope n_law_entry p_law_entry (defScope s_law_entry) := ⟨rfl, rfl, rfl, by decide +kernel, rfl, by decide +kernel, by decide +kernel⟩

-- _law_tags: top 61; slots [(0, '_law_pen_here'), (1, '_law_many'), (2, '_law_found'), (3, '_law_tag'), (4, '_law_k')]; cells []
abbrev s_law_tags : Stmt := top 61
abbrev n_law_tags : List Str := ["_law_pen_here", "_law_many", "_law_found", "_law_tag", "_law_k"]
abbrev p_law_tags : List Str := ["_law_pen_here", "_law_many"]
theorem sc_law_tags : FnScope n_law_tags p_law_tags (defScope s_law_tags) := ⟨rfl, rfl, rfl, by decide +kernel, rfl, by decide +kernel, by decide +kernel⟩

-- _law_table: top 62; slots [(0, '_law_pen_here'), (1, '_law_deep'), (2, '_law_kinds_here'), (3, '_law_tags_here'), (4, '_law_tag')]; cells ['_law_deep', '_law_kinds_here', '_law_pen_here']
abbrev s_law_table : Stmt := top 62
abbrev n_law_table : List Str := ["_law_pen_here", "_law_deep", "_law_kinds_here", "_law_tags_here", "_law_tag"]
abbrev p_law_table : List Str := ["_law_pen_here", "_law_deep", "_law_kinds_here"]
theorem sc_law_table : FnScope n_law_table p_law_table (defScope s_law_table) := ⟨rfl, rfl, rfl, by decide +kernel, rfl, by decide +kernel, by decide +kernel⟩

-- _law_chain: top 63; slots [(0, '_law_pen_here'), (1, '_law_deep'), (2, '_law_most'), (3, '_law_kinds_here'), (4, '_law_found'), (5, '_law_k')]; cells []
abbrev s_law_chain : Stmt := top 63
abbrev n_law_chain : List Str := ["_law_pen_here", "_law_deep", "_law_most", "_law_kinds_here", "_law_found", "_law_k"]
abbrev p_law_chain : List Str := ["_law_pen_here", "_law_deep", "_law_most", "_law_kinds_here"]
theorem sc_law_chain : FnScope n_law_chain p_law_chain (defScope s_law_chain) := ⟨rfl, rfl, rfl, by decide +kernel, rfl, by decide +kernel, by decide +kernel⟩

-- _law_tree: top 64; slots [(0, '_law_pen_here'), (1, '_law_kinds_here'), (2, '_law_order')]; cells []
abbrev s_law_tree : Stmt := top 64
abbrev n_law_tree : List Str := ["_law_pen_here", "_law_kinds_here", "_law_order"]
abbrev p_law_tree : List Str := ["_law_pen_here", "_law_kinds_here"]
theorem sc_law_tree : FnScope n_law_tree p_law_tree (defScope s_law_tree) := ⟨rfl, rfl, rfl, by decide +kernel, rfl, by decide +kernel, by decide +kernel⟩

-- _law_some_kinds: top 65; slots [(0, '_law_pen_here'), (1, '_law_raws'), (2, '_law_known_ones')]; cells []
abbrev s_law_some_kinds : Stmt := top 65
abbrev n_law_some_kinds : List Str := ["_law_pen_here", "_law_raws", "_law_known_ones"]
abbrev p_law_some_kinds : List Str := ["_law_pen_here"]
theorem sc_law_some_kinds : FnScope n_law_some_kinds p_law_some_kinds (defScope s_law_some_kinds) := ⟨rfl, rfl, rfl, by decide +kernel, rfl, by decide +kernel, by decide +kernel⟩

-- _law_rawed: top 66; slots [(0, '_law_chain_here'), (1, '_law_kinds_known_here'), (2, '_law_found'), (3, '_law_table_here'), (4, '_law_rows'), (5, '_law_tag'), (6, '_law_kind'), (7, '_law_worths'), (8, '_law_wide'), (9, '_law_k'), (10, '_law_inner')]; cells ['_law_kinds_known_here', '_law_tag']
abbrev s_law_rawed : Stmt := top 66
abbrev n_law_rawed : List Str := ["_law_chain_here", "_law_kinds_known_here", "_law_found", "_law_table_here", "_law_rows", "_law_tag", "_law_kind", "_law_worths", "_law_wide", "_law_k", "_law_inner"]
abbrev p_law_rawed : List Str := ["_law_chain_here", "_law_kinds_known_here"]
theorem sc_law_rawed : FnScope n_law_rawed p_law_rawed (defScope s_law_rawed) := ⟨rfl, rfl, rfl, by decide +kernel, rfl, by decide +kernel, by decide +kernel⟩

-- _law_kinds_known: top 67; slots [(0, '_law_pen_here'), (1, '_law_some')]; cells []
abbrev s_law_kinds_known : Stmt := top 67
abbrev n_law_kinds_known : List Str := ["_law_pen_here", "_law_some"]
abbrev p_law_kinds_known : List Str := ["_law_pen_here"]
theorem sc_law_kinds_known : FnScope n_law_kinds_known p_law_kinds_known (defScope s_law_kinds_known) := ⟨rfl, rfl, rfl, by decide +kernel, rfl, by decide +kernel, by decide +kernel⟩

-- _law_refusal: top 68; slots [(0, '_law_ask'), (1, '_law_caught'), (2, '_law_found'), (3, 'e')]; cells []
abbrev s_law_refusal : Stmt := top 68
abbrev n_law_refusal : List Str := ["_law_ask", "_law_caught", "_law_found", "e"]
abbrev p_law_refusal : List Str := ["_law_ask"]
theorem sc_law_refusal : FnScope n_law_refusal p_law_refusal (defScope s_law_refusal) := ⟨rfl, rfl, rfl, by decide +kernel, rfl, by decide +kernel, by decide +kernel⟩

-- _law_sign_bent: top 69; slots [(0, '_law_pen_here'), (1, '_law_text_here'), (2, '_law_signs'), (3, '_law_sign'), (4, '_law_at'), (5, '_law_way')]; cells []
abbrev s_law_sign_bent : Stmt := top 69
abbrev n_law_sign_bent : List Str := ["_law_pen_here", "_law_text_here", "_law_signs", "_law_sign", "_law_at", "_law_way"]
abbrev p_law_sign_bent : List Str := ["_law_pen_here", "_law_text_here"]
theorem sc_law_sign_bent : FnScope n_law_sign_bent p_law_sign_bent (defScope s_law_sign_bent) := ⟨rfl, rfl, rfl, by decide +kernel, rfl, by decide +kernel, by decide +kernel⟩

-- _law_word_bent: top 70; slots [(0, '_law_pen_here'), (1, '_law_text_here'), (2, '_law_others'), (3, '_law_words'), (4, '_law_at'), (5, '_law_new'), (6, '_law_some')]; cells []
abbrev s_law_word_bent : Stmt := top 70
abbrev n_law_word_bent : List Str := ["_law_pen_here", "_law_text_here", "_law_others", "_law_words", "_law_at", "_law_new", "_law_some"]
abbrev p_law_word_bent : List Str := ["_law_pen_here", "_law_text_here", "_law_others"]
theorem sc_law_word_bent : FnScope n_law_word_bent p_law_word_bent (defScope s_law_word_bent) := ⟨rfl, rfl, rfl, by decide +kernel, rfl, by decide +kernel, by decide +kernel⟩

-- _law_line_bent: top 71; slots [(0, '_law_pen_here'), (1, '_law_text_here'), (2, '_law_others'), (3, '_law_lines'), (4, '_law_at'), (5, '_law_spot'), (6, '_law_new'), (7, '_law_turn'), (8, '_law_some')]; cells []
abbrev s_law_line_bent : Stmt := top 71
abbrev n_law_line_bent : List Str := ["_law_pen_here", "_law_text_here", "_law_others", "_law_lines", "_law_at", "_law_spot", "_law_new", "_law_turn", "_law_some"]
abbrev p_law_line_bent : List Str := ["_law_pen_here", "_law_text_here", "_law_others"]
theorem sc_law_line_bent : FnScope n_law_line_bent p_law_line_bent (defScope s_law_line_bent) := ⟨rfl, rfl, rfl, by decide +kernel, rfl, by decide +kernel, by decide +kernel⟩

-- _law_number_by: top 72; slots [(0, '_law_word'), (1, '_law_sign')]; cells []
abbrev s_law_number_by : Stmt := top 72
abbrev n_law_number_by : List Str := ["_law_word", "_law_sign"]
abbrev p_law_number_by : List Str := ["_law_word"]
theorem sc_law_number_by : FnScope n_law_number_by p_law_number_by (defScope s_law_number_by) := ⟨rfl, rfl, rfl, by decide +kernel, rfl, by decide +kernel, by decide +kernel⟩

-- _law_plain_stands: top 73; slots [(0, '_law_words'), (1, '_law_kinds_known_here'), (2, '_law_numbers_here'), (3, '_law_word'), (4, '_law_kind'), (5, '_law_wide')]; cells []
abbrev s_law_plain_stands : Stmt := top 73
abbrev n_law_plain_stands : List Str := ["_law_words", "_law_kinds_known_here", "_law_numbers_here", "_law_word", "_law_kind", "_law_wide"]
abbrev p_law_plain_stands : List Str := ["_law_words", "_law_kinds_known_here"]
theorem sc_law_plain_stands : FnScope n_law_plain_stands p_law_plain_stands (defScope s_law_plain_stands) := ⟨rfl, rfl, rfl, by decide +kernel, rfl, by decide +kernel, by decide +kernel⟩

-- _law_entry_stands: top 74; slots [(0, '_law_stack'), (1, '_law_line'), (2, '_law_kinds_known_here'), (3, '_law_top'), (4, '_law_words'), (5, '_law_tag'), (6, '_law_signs'), (7, '_law_far'), (8, '_law_one')]; cells ['_law_signs']
abbrev s_law_entry_stands : Stmt := top 74
abbrev n_law_entry_stands : List Str := ["_law_stack", "_law_line", "_law_kinds_known_here", "_law_top", "_law_words", "_law_tag", "_law_signs", "_law_far", "_law_one"]
abbrev p_law_entry_stands : List Str := ["_law_stack", "_law_line", "_law_kinds_known_here"]
theorem sc_law_entry_stands : FnScope n_law_entry_stands p_law_entry_stands (defScope s_law_entry_stands) := ⟨rfl, rfl, rfl, by decide +kernel, rfl, by decide +kernel, by decide +kernel⟩

-- _law_piece_stands: top 75; slots [(0, '_law_words'), (1, '_law_numbers_here'), (2, '_law_word')]; cells []
abbrev s_law_piece_stands : Stmt := top 75
abbrev n_law_piece_stands : List Str := ["_law_words", "_law_numbers_here", "_law_word"]
abbrev p_law_piece_stands : List Str := ["_law_words"]
theorem sc_law_piece_stands : FnScope n_law_piece_stands p_law_piece_stands (defScope s_law_piece_stands) := ⟨rfl, rfl, rfl, by decide +kernel, rfl, by decide +kernel, by decide +kernel⟩

-- _law_stands: top 76; slots [(0, '_law_stack'), (1, '_law_line'), (2, '_law_kinds_known_here'), (3, '_law_top'), (4, '_law_last')]; cells []
abbrev s_law_stands : Stmt := top 76
abbrev n_law_stands : List Str := ["_law_stack", "_law_line", "_law_kinds_known_here", "_law_top", "_law_last"]
abbrev p_law_stands : List Str := ["_law_stack", "_law_line", "_law_kinds_known_here"]
theorem sc_law_stands : FnScope n_law_stands p_law_stands (defScope s_law_stands) := ⟨rfl, rfl, rfl, by decide +kernel, rfl, by decide +kernel, by decide +kernel⟩

-- _law_bad_line: top 77; slots [(0, '_law_text_here'), (1, '_law_kinds_known_here'), (2, '_law_lines'), (3, '_law_stack'), (4, '_law_number')]; cells []
abbrev s_law_bad_line : Stmt := top 77
abbrev n_law_bad_line : List Str := ["_law_text_here", "_law_kinds_known_here", "_law_lines", "_law_stack", "_law_number"]
abbrev p_law_bad_line : List Str := ["_law_text_here", "_law_kinds_known_here"]
theorem sc_law_bad_line : FnScope n_law_bad_line p_law_bad_line (defScope s_law_bad_line) := ⟨rfl, rfl, rfl, by decide +kernel, rfl, by decide +kernel, by decide +kernel⟩

-- _law_right: top 78; slots [(0, '_law_text_here'), (1, '_law_kinds_known_here'), (2, '_law_due'), (3, '_law_found')]; cells ['_law_kinds_known_here', '_law_text_here']
abbrev s_law_right : Stmt := top 78
abbrev n_law_right : List Str := ["_law_text_here", "_law_kinds_known_here", "_law_due", "_law_found"]
abbrev p_law_right : List Str := ["_law_text_here", "_law_kinds_known_here"]
theorem sc_law_right : FnScope n_law_right p_law_right (defScope s_law_right) := ⟨rfl, rfl, rfl, by decide +kernel, rfl, by decide +kernel, by decide +kernel⟩

-- _law_bent: top 79; slots [(0, '_law_pen_here'), (1, '_law_text_here'), (2, '_law_words'), (3, '_law_lines'), (4, '_law_way')]; cells []
abbrev s_law_bent : Stmt := top 79
abbrev n_law_bent : List Str := ["_law_pen_here", "_law_text_here", "_law_words", "_law_lines", "_law_way"]
abbrev p_law_bent : List Str := ["_law_pen_here", "_law_text_here"]
theorem sc_law_bent : FnScope n_law_bent p_law_bent (defScope s_law_bent) := ⟨rfl, rfl, rfl, by decide +kernel, rfl, by decide +kernel, by decide +kernel⟩

-- _law_bounds: top 80; slots [(0, '_law_way'), (1, '_law_more'), (2, '_law_found'), (3, '_law_k'), (4, '_law_deep'), (5, '_law_some'), (6, '_law_row'), (7, '_law_one')]; cells []
abbrev s_law_bounds : Stmt := top 80
abbrev n_law_bounds : List Str := ["_law_way", "_law_more", "_law_found", "_law_k", "_law_deep", "_law_some", "_law_row", "_law_one"]
abbrev p_law_bounds : List Str := ["_law_way"]
theorem sc_law_bounds : FnScope n_law_bounds p_law_bounds (defScope s_law_bounds) := ⟨rfl, rfl, rfl, by decide +kernel, rfl, by decide +kernel, by decide +kernel⟩

-- law: top 81; slots [(0, '_law_script'), (1, '_law_pen_here'), (2, '_law_kinds_known_here'), (3, '_law_tree_here'), (4, '_law_text_here'), (5, '_law_texts'), (6, '_law_k'), (7, '_law_bent_here'), (8, '_law_one'), (9, '_law_thing')]; cells ['_law_kinds_known_here', '_law_thing']
abbrev s_law : Stmt := top 81
abbrev n_law : List Str := ["_law_script", "_law_pen_here", "_law_kinds_known_here", "_law_tree_here", "_law_text_here", "_law_texts", "_law_k", "_law_bent_here", "_law_one", "_law_thing"]
abbrev p_law : List Str := ["_law_script"]
theorem sc_law : FnScope n_law p_law (defScope s_law) := ⟨rfl, rfl, rfl, by decide +kernel, rfl, by decide +kernel, by decide +kernel⟩

end K82
set_option maxRecDepth 100000
set_option maxHeartbeats 1000000
/-! the trees as plain data: what they are, their lines, which of them are right for some known kinds -/
namespace K82
open PySem PySem.Spec MB
inductive Wo (α : Type) where
  | nums (l : List Nat) | text (l : List Nat) | pieces (l : List (List Nat)) | chains (l : List α)
structure Ent (α : Type) where
  tag : Nat
  kind : Nat
  w : Wo α
/-- chains with at most d tables one in the other -/
def Ch : Nat → Type
  | 0 => Unit
  | d + 1 => List (List (Ent (Ch d)))
abbrev Tab (d : Nat) := List (Ent (Ch d))
section
variable {α : Type}
def dWo (f : α → PyData) : Wo α → PyData
  | .nums l => dT l
  | .text t => .str (SX.S t)
  | .pieces ps => .tuple (ps.map dT)
  | .chains cs => .tuple (cs.map f)
def dEnt (f : α → PyData) (e : Ent α) : PyData := .tuple [.int (e.tag : Int), .int (e.kind : Int), dWo f e.w]
def dTab (f : α → PyData) (t : List (Ent α)) : PyData := .tuple (t.map (dEnt f))
end
section
variable {α β : Type}
def dCha (f : α → PyData) (c : List (List (Ent α))) : PyData := .tuple (c.map (dTab f))
def mWo (h : α → β) : Wo α → Wo β
  | .nums l => .nums l
  | .text l => .text l
  | .pieces l => .pieces l
  | .chains l => .chains (l.map h)
def mEnt (h : α → β) (e : Ent α) : Ent β := ⟨e.tag, e.kind, mWo h e.w⟩
def mCha (h : α → β) (c : List (List (Ent α))) : List (List (Ent β)) := c.map (List.map (mEnt h))
theorem dEnt_m {h : α → β} {fa : α → PyData} {fb : β → PyData} (k : ∀ a, fb (h a) = fa a) (e : Ent α) : dEnt fb (mEnt h e) = dEnt fa e := by
  obtain ⟨tag, kind, w⟩ := e
  cases w with
  | nums l => rfl
  | text l => rfl
  | pieces l => rfl
  | chains l =>
    show PyData.tuple [.int (tag : Int), .int (kind : Int), .tuple ((l.map h).map fb)] = PyData.tuple [.int (tag : Int), .int (kind : Int), .tuple (l.map fa)]
    rw [List.map_map, show fb ∘ h = fa from funext k]
theorem dCha_m {h : α → β} {fa : α → PyData} {fb : β → PyData} (k : ∀ a, fb (h a) = fa a) (c : List (List (Ent α))) : dCha fb (mCha h c) = dCha fa c := by
  unfold dCha mCha
  rw [List.map_map]
  congr 1
  refine List.map_congr_left fun t _ => ?_
  show PyData.tuple ((t.map (mEnt h)).map (dEnt fb)) = PyData.tuple (t.map (dEnt fa))
  rw [List.map_map]
  congr 1
  exact List.map_congr_left fun e _ => dEnt_m k e
end
def dCh : (d : Nat) → Ch d → PyData
  | 0, _ => .tuple []
  | d + 1, c => dCha (dCh d) c
/-- a chain as one that may be deeper -/
def lift : (d : Nat) → Ch d → Ch (d + 1)
  | 0, _ => show List (List (Ent Unit)) from []
  | d + 1, c => mCha (lift d) c
theorem dCh_lift : ∀ (d : Nat) (c : Ch d), dCh (d + 1) (lift d c) = dCh d c
  | 0, _ => rfl
  | d + 1, c => dCha_m (dCh_lift d) c
/-! ### the lines -/
def co (s : String) : List Nat := s.toList.map Char.toNat
/-- a word and numbers, blanks between -/
def ln (w : List Nat) (ns : List Nat) : List Nat := TL.joinL [32] (w :: ns.map TL.numL)
section
variable {α : Type}
def lEnt (f : α → List (List Nat)) (e : Ent α) : List (List Nat) := match e.w with
  | .nums ns => [ln (co "entry") (e.tag :: e.kind :: ns)]
  | .text t => [co "text " ++ TL.numL e.tag ++ 32 :: t]
  | .pieces ps => (co "pieces " ++ TL.numL e.tag) :: (ps.map (ln (co "piece")) ++ [co "end"])
  | .chains cs => (co "chains " ++ TL.numL e.tag) :: ((cs.flatMap fun c => co "chain" :: (f c ++ [co "done"])) ++ [co "end"])
def lTab (f : α → List (List Nat)) (t : List (Ent α)) : List (List Nat) := co "table" :: (t.flatMap (lEnt f) ++ [co "end"])
end
section
variable {α β : Type}
def lCha (f : α → List (List Nat)) (c : List (List (Ent α))) : List (List Nat) := c.flatMap (lTab f)
theorem lEnt_m {h : α → β} {fa : α → List (List Nat)} {fb : β → List (List Nat)} (k : ∀ a, fb (h a) = fa a) (e : Ent α) : lEnt fb (mEnt h e) = lEnt fa e := by
  obtain ⟨tag, kind, w⟩ := e
  cases w with
  | nums l => rfl
  | text l => rfl
  | pieces l => rfl
  | chains l =>
    show (co "chains " ++ TL.numL tag) :: (((l.map h).flatMap fun c => co "chain" :: (fb c ++ [co "done"])) ++ [co "end"]) = (co "chains " ++ TL.numL tag) :: ((l.flatMap fun c => co "chain" :: (fa c ++ [co "done"])) ++ [co "end"])
    rw [List.flatMap_map]
    simp only [k]
theorem lCha_m {h : α → β} {fa : α → List (List Nat)} {fb : β → List (List Nat)} (k : ∀ a, fb (h a) = fa a) (c : List (List (Ent α))) : lCha fb (mCha h c) = lCha fa c := by
  unfold lCha mCha
  rw [List.flatMap_map]
  congr 1
  funext t
  show co "table" :: ((t.map (mEnt h)).flatMap (lEnt fb) ++ [co "end"]) = co "table" :: (t.flatMap (lEnt fa) ++ [co "end"])
  rw [List.flatMap_map]
  simp only [lEnt_m k]
end
def lCh : (d : Nat) → Ch d → List (List Nat)
  | 0, _ => []
  | d + 1, c => lCha (lCh d) c
theorem lCh_lift : ∀ (d : Nat) (c : Ch d), lCh (d + 1) (lift d c) = lCh d c
  | 0, _ => rfl
  | d + 1, c => lCha_m (lCh_lift d) c
/-! ### which are right -/
def SIGNS : List Nat := co " -.0123456789ABCDEFGHIJKLMNOPQRSTUVWXYZabcdefghijklmnopqrstuvwxyz"
def lim (k : Nat) : Nat := if k = 1 then 256 else if k = 2 then 65536 else 4294967296
def wid (k : Nat) : Nat := if k = 1 then 1 else if k = 2 then 2 else if k = 3 then 4 else if k = 4 then 1 else if k = 5 then 4 else if k = 6 then 4 else if k % 3 = 0 then 1 else if k % 3 = 1 then 2 else 4
structure Kn (kn : List Nat) : Prop where
  six : ∀ k ∈ kn, 1 ≤ k ∧ k ≤ 6
  few : kn.length ≤ 6
section
variable {α : Type}
def gWo (kn : List Nat) (g : α → Prop) (kind : Nat) : Wo α → Prop
  | .nums ns => (kind ∈ kn ∧ kind < 4 ∧ ns.length ≤ 300 ∧ ∀ n ∈ ns, n < lim kind) ∨ (kind ∉ kn ∧ ns.length ≤ 300 * wid kind ∧ ns.length % wid kind = 0 ∧ ∀ n ∈ ns, n < 256)
  | .text t => kind = 4 ∧ 4 ∈ kn ∧ t.length ≤ 300 ∧ ∀ c ∈ t, c ∈ SIGNS
  | .pieces ps => kind = 6 ∧ 6 ∈ kn ∧ ps.length ≤ 300 ∧ ∀ p ∈ ps, p.length ≤ 300 ∧ ∀ n ∈ p, n < 256
  | .chains cs => kind = 5 ∧ 5 ∈ kn ∧ cs.length ≤ 300 ∧ ∀ c ∈ cs, g c
structure GEnt (kn : List Nat) (g : α → Prop) (e : Ent α) : Prop where
  tag : e.tag ≤ 65535
  kind : e.kind ≤ 65535
  w : gWo kn g e.kind e.w
structure GTab (kn : List Nat) (g : α → Prop) (t : List (Ent α)) : Prop where
  few : t.length ≤ 40
  all : ∀ e ∈ t, GEnt kn g e
  up : t.Pairwise fun e e' => e.tag < e'.tag
structure GCha (kn : List Nat) (g : α → Prop) (c : List (List (Ent α))) : Prop where
  few : c.length ≤ 10
  all : ∀ t ∈ c, GTab kn g t
end
def gCh (kn : List Nat) : (d : Nat) → Ch d → Prop
  | 0, _ => True
  | d + 1, c => GCha kn (gCh kn d) c
section
variable {α β : Type} {kn : List Nat} {h : α → β} {ga : α → Prop} {gb : β → Prop}
theorem gEnt_m (k : ∀ a, ga a → gb (h a)) {e : Ent α} (q : GEnt kn ga e) : GEnt kn gb (mEnt h e) := by
  obtain ⟨tag, kind, w⟩ := e
  refine ⟨q.tag, q.kind, ?_⟩
  have w := q.w
  cases w' : ‹Wo α› with
  | nums l => subst w'; exact w
  | text l => subst w'; exact w
  | pieces l => subst w'; exact w
  | chains l =>
    subst w'
    obtain ⟨a, b, c, d⟩ := w
    refine ⟨a, b, by rw [List.length_map]; exact c, fun c hc => ?_⟩
    obtain ⟨x, hx, rfl⟩ := List.mem_map.mp hc
    exact k x (d x hx)
theorem gCha_m (k : ∀ a, ga a → gb (h a)) {c : List (List (Ent α))} (q : GCha kn ga c) : GCha kn gb (mCha h c) := by
  refine ⟨by unfold mCha; rw [List.length_map]; exact q.few, fun t ht => ?_⟩
  obtain ⟨u, hu, rfl⟩ := List.mem_map.mp ht
  have g := q.all u hu
  refine ⟨by rw [List.length_map]; exact g.few, fun e he => ?_, List.pairwise_map.mpr g.up⟩
  obtain ⟨x, hx, rfl⟩ := List.mem_map.mp he
  exact gEnt_m k (g.all x hx)
end
theorem gCh_lift (kn : List Nat) : ∀ (d : Nat) (c : Ch d), gCh kn d c → gCh kn (d + 1) (lift d c)
  | 0, _, _ => ⟨Nat.zero_le _, fun t ht => absurd ht List.not_mem_nil⟩
  | d + 1, c, q => gCha_m (gCh_lift kn d) q
end K82
set_option maxRecDepth 100000
set_option maxHeartbeats 1000000
namespace K82
open PySem PySem.Spec PyProof.Rows L2 Evl MB
def iv (n : Nat) : V := .int (n : Int)
def tv (w : List Nat) : V := .str (SX.S w)
theorem of_S (s : String) : Str.ofString s = SX.S (co s) := TL.ext_tl (TL.tl_ofString s)
/-- a name of the module that holds a tuple -/
def GTup (K : PySem.W.Frag) (mg : Str → Option Value) (x : Str) (xs : List V) : Prop := ∃ a : Addr, mg x = some (.ref a) ∧ ∀ H, SqT K H a xs
structure T0 (K : PySem.W.Frag) (mg : Str → Option Value) (aKn aWi aOw aLi aOn aOt : Addr) : Prop where
  n_abs : mg "abs" = none
  n_all : mg "all" = none
  n_bool : mg "bool" = none
  n_int : mg "int" = none
  n_isinstance : mg "isinstance" = none
  n_len : mg "len" = none
  n_list : mg "list" = none
  n_max : mg "max" = none
  n_min : mg "min" = none
  n_ValueError : mg "ValueError" = none
  n_range : mg "range" = none
  n_repr : mg "repr" = none
  n_str : mg "str" = none
  n_tuple : mg "tuple" = none
  g_BYTE : ∃ u, mg "BYTE" = some u ∧ RelV (.int 256) u
  g_FIGURES : ∃ u, mg "FIGURES" = some u ∧ RelV (.str "0123456789") u
  g_KNOWN : ∃ u, mg "KNOWN" = some u ∧ RelV (.ref aKn) u
  g_LIMITS : ∃ u, mg "LIMITS" = some u ∧ RelV (.ref aLi) u
  g_MOST_COUNT : ∃ u, mg "MOST_COUNT" = some u ∧ RelV (.int 300) u
  g_MOST_DEEP : ∃ u, mg "MOST_DEEP" = some u ∧ RelV (.int 4) u
  g_MOST_ENTRIES : ∃ u, mg "MOST_ENTRIES" = some u ∧ RelV (.int 40) u
  g_MOST_FIGURES : ∃ u, mg "MOST_FIGURES" = some u ∧ RelV (.int 10) u
  g_MOST_NUMBER : ∃ u, mg "MOST_NUMBER" = some u ∧ RelV (.int 65535) u
  g_MOST_TABLES : ∃ u, mg "MOST_TABLES" = some u ∧ RelV (.int 10) u
  g_MOST_WORTHS : ∃ u, mg "MOST_WORTHS" = some u ∧ RelV (.int 300) u
  g_ORDERS : ∃ u, mg "ORDERS" = some u ∧ RelV (.ref aOn) u
  g_OTHER_WIDTHS : ∃ u, mg "OTHER_WIDTHS" = some u ∧ RelV (.ref aOw) u
  g_SIGNS : ∃ u, mg "SIGNS" = some u ∧ RelV (.str " -.0123456789ABCDEFGHIJKLMNOPQRSTUVWXYZabcdefghijklmnopqrstuvwxyz") u
  g_TEXT : ∃ u, mg "TEXT" = some u ∧ RelV (.int 4) u
  g_WIDTHS : ∃ u, mg "WIDTHS" = some u ∧ RelV (.ref aWi) u
  k_KNOWN : ∀ H, SqT K H aKn ([1, 2, 3, 4, 5, 6].map iv)
  k_WIDTHS : ∀ H, SqT K H aWi ([1, 2, 4, 1, 4, 4].map iv)
  k_OTHER : ∀ H, SqT K H aOw ([1, 2, 4].map iv)
  k_LIMITS : KLim K aLi [(1, 256), (2, 65536), (3, 4294967296)]
  k_ORDERSn : ∀ H, SqT K H aOn [tv (co "small"), tv (co "great")]
theorem log_small {n : Nat} (h : n < 1000000000000) : (n : Int).natAbs.log2 < 1920 := by
  rw [Int.natAbs_natCast]
  by_cases h0 : n = 0
  · subst h0; decide
  · exact (Nat.log2_lt h0).mpr (Nat.lt_of_lt_of_le h (by decide))
/-- str(n) -/
theorem rc_str {H : Hp} {n : Nat} (h : n < 1000000000000) : RC rStrA [iv n] H (tv (TL.numL n)) := fun H1 _ _ q => .inl ⟨(n : Int), rfl, log_small h, by
  have e : (toString (n : Int) : Str) = SX.S (TL.numL n) := SX.num_S n
  rw [e]
  exact q H1 (Ex.refl H1)⟩
end K82
set_option maxRecDepth 100000
set_option maxHeartbeats 1000000
namespace K82
open PySem PySem.Spec PyProof.Rows L2 Evl MB
section
variable {P : Program} {w : World} {K : PySem.W.Frag} {mg : Str → Option Value} {base : Heap} {aKn aWi aOw aLi aOn aOt : Addr}
/-! ### is_whole -/
def sp_is_whole : Sp := fun vs H Q _ => ∃ i m : Int, vs = [.int i, .int m] ∧ ∀ H', Ex H H' → Q (.bl (decide (0 ≤ i) && decide (i ≤ m))) H'
theorem ok_is_whole {f : Addr} {fd : FuncData} (F : Fun K "is_whole" "is_whole" s_is_whole f fd) (T : T0 K mg aKn aWi aOw aLi aOn aOt) : FnOk P w K mg base CX0 1 f fd p_is_whole sp_is_whole := by
  refine F.ok sc_is_whole (fun vs H Q E h => ?_) (fun cdv A outer s H vs Q E hr h => ?_)
  · obtain ⟨i, m, rfl, _⟩ := h
    rfl
  · obtain ⟨i, m, rfl, k⟩ := h
    refine ⟨_, (pss_one (ps_ret (pe_and (pe_callB (MB.call_isiK (K := K) rfl) (by rfl) T.n_isinstance MB.bo_isinstance (pa_cons (pv 0) (pa_cons (pe_bltn (v := .ty "int") (by rfl) T.n_int MB.bo_int rfl) pa_nil))) (pe_and (pe_not (pe_callB (MB.call_isiK (K := K) rfl) (by rfl) T.n_isinstance MB.bo_isinstance (pa_cons (pv 0) (pa_cons (pe_bltn (v := .ty "bool") (by rfl) T.n_bool MB.bo_bool rfl) pa_nil)))) (pe_one (pe_chain op_le op_le pe_int (pv 0) (pv 1))))))), ?_⟩
    refine s_ret (ev_is (ev_andV (a := true) (ev_cb2 (ev_var rfl) ev_c (MB.rc_isiInt (by decide +kernel))) fun _ => ev_andV (a := true) (ev_notV (a := false) (ev_cb2 (ev_var rfl) ev_c (MB.rc_isiInt (by decide +kernel)))) fun _ => MB.ev_chain ev_c (ev_var rfl) (ev_var rfl) rv_I0 fun _ => rv_I0) (by simp)) k
/-! ### x in a tuple of numbers -/
theorem inV_nat (k : Nat) : ∀ ns : List Nat, inV (iv k) (ns.map iv) = decide (k ∈ ns)
  | [] => rfl
  | n :: ns => by
    have e : inV (iv k) ((n :: ns).map iv) = (eqV (iv n) (iv k) || inV (iv k) (ns.map iv)) := rfl
    have e2 : eqV (iv n) (iv k) = decide (k = n) := by
      show decide ((n : Int) = (k : Int)) = decide (k = n)
      rw [decide_eq_decide]
      omega
    rw [e, e2, inV_nat k ns, ← Bool.decide_or, decide_eq_decide, List.mem_cons]
theorem flat_nat (ns : List Nat) : (ns.map iv).all flatV = true := by
  rw [List.all_eq_true]
  intro x hx
  obtain ⟨n, _, rfl⟩ := List.mem_map.mp hx
  rfl
theorem rv_inK {H : Hp} {a : Addr} {k : Nat} {ns : List Nat} (h : SqT K H a (ns.map iv)) : RV (rInA K) (iv k) (.ref a) H (.bl (decide (k ∈ ns))) := fun H1 e Q q => .inr (rv_isT h rfl (flat_nat ns) H1 e Q (by rw [inV_nat]; exact q))
theorem rv_niK {H : Hp} {a : Addr} {k : Nat} {ns : List Nat} (h : SqT K H a (ns.map iv)) : RV (rNotInA K) (iv k) (.ref a) H (.bl (!decide (k ∈ ns))) := fun H1 e Q q => .inr (rv_niT h rfl (flat_nat ns) H1 e Q (by rw [inV_nat]; exact q))
/-! ### width -/
def sp_width : Sp := fun vs H Q _ => ∃ k : Nat, vs = [iv k] ∧ ∀ H', Ex H H' → Q (iv (wid k)) H'
theorem wid_in : ∀ k : Nat, k ∈ [1, 2, 3, 4, 5, 6] → ([1, 2, 4, 1, 4, 4] : List Nat)[k - 1]? = some (wid k) := by decide
theorem wid_out {k : Nat} (h : k ∉ [1, 2, 3, 4, 5, 6]) : ([1, 2, 4] : List Nat)[k % 3]? = some (wid k) := by
  have h1 : k ≠ 1 ∧ k ≠ 2 ∧ k ≠ 3 ∧ k ≠ 4 ∧ k ≠ 5 ∧ k ≠ 6 := by simpa using h
  unfold wid
  rw [if_neg h1.1, if_neg h1.2.1, if_neg h1.2.2.1, if_neg h1.2.2.2.1, if_neg h1.2.2.2.2.1, if_neg h1.2.2.2.2.2]
  have : k % 3 = 0 ∨ k % 3 = 1 ∨ k % 3 = 2 := by omega
  rcases this with e | e | e <;> rw [e] <;> rfl
theorem ok_width {f : Addr} {fd : FuncData} (F : Fun K "width" "width" s_width f fd) (T : T0 K mg aKn aWi aOw aLi aOn aOt) : FnOk P w K mg base CX0 1 f fd p_width sp_width := by
  refine F.ok sc_width (fun vs H Q E h => ?_) (fun cdv A outer s H vs Q E hr h => ?_)
  · obtain ⟨k, rfl, _⟩ := h
    rfl
  · obtain ⟨n, rfl, k⟩ := h
    refine ⟨_, (pss_cons (ps_if (pt_cmpR (MB.op_inK (K := K) rfl) (pv 0) (pe_gc (by rfl) T.g_KNOWN) rfl) (pss_one (ps_ret (pe_ix (MB.ix_K (K := K) rfl) (pe_gc (by rfl) T.g_WIDTHS) (pe_op op_sub (pv 0) pe_int) (fun _ _ => rfl)))) pss_nil)
      (pss_one (ps_ret (pe_ix (MB.ix_K (K := K) rfl) (pe_gc (by rfl) T.g_OTHER_WIDTHS) (pe_op op_mod (pv 0) (pe_callB (MB.call_lenK (K := K) rfl) (by rfl) T.n_len MB.bo_len (pa_cons (pe_gc (by rfl) T.g_OTHER_WIDTHS) pa_nil))) (fun _ _ => rfl))))), ?_⟩
    refine q_ifN (b := decide (n ∈ [1, 2, 3, 4, 5, 6])) (et_B (ev_op (ev_var rfl) ev_c (rv_inK (T.k_KNOWN H)))) (fun hb H1 e => ?_) fun hb H1 e => ?_
    · have hm := of_decide_eq_true hb
      have h0 : 1 ≤ n := by
        have : ∀ k : Nat, k ∈ [1, 2, 3, 4, 5, 6] → 1 ≤ k := by decide
        exact this n hm
      refine s_ret (ev_op (y := .int ((n - 1 : Nat) : Int)) ev_c (ev_is (ev_op (ev_var rfl) ev_c rv_I0) (congrArg V.int (by omega))) (rv_xT (T.k_WIDTHS H1) (MB.atI_nat (by rw [List.getElem?_map, wid_in n hm]; rfl)))) fun H2 e2 => k H2 (e.trans e2)
    · have hm := of_decide_eq_false hb
      refine s_ret (ev_op (y := .int ((n % 3 : Nat) : Int)) ev_c (ev_is (ev_op (ev_var rfl) (ev_cb1 ev_c (rc_lenT (T.k_OTHER H1))) (rv_I (by show (0 : Int) < 3; decide))) (congrArg V.int (by show (n : Int) % 3 = _; omega))) (rv_xT (T.k_OTHER H1) (MB.atI_nat (by rw [List.getElem?_map, wid_out hm]; rfl)))) fun H2 e2 => k H2 (e.trans e2)
/-! ### line_of -/
def sp_line_of (K : PySem.W.Frag) : Sp := fun vs H Q _ => ∃ (wd : List Nat) (p q : Addr) (ps ns : List Nat), vs = [tv wd, .ref p, .ref q] ∧ SqT K H p (ps.map iv) ∧ SqT K H q (ns.map iv) ∧ wd.length ≤ 100 ∧ ps.length ≤ 10 ∧ ns.length ≤ 1200 ∧
  (∀ n ∈ ps ++ ns, n < 1000000000000) ∧ ∀ H', Ex H H' → Q (tv (ln wd (ps ++ ns))) H'
theorem el_strs {tl : TE} {σ : L2.St} {H : Hp} {j : Nat} {vs : List Nat} {ns : List Nat} {K : PySem.W.Frag} (h : EvTp K tl σ H (ns.map iv)) (hz : ns.length ≤ 3700000) (hn : ∀ n ∈ ns, n < 1000000000000) (hw : ∀ x, wipe ((wipe σ vs).set j (some x)) vs = wipe σ vs)
    (hj : ∀ x, ((wipe σ vs).set j (some x))[j]? = some (some x)) : EvL (tLc (iTup K tl) (gName j) tYes (tCB rStrA (tCons (tVar j) tNil)) vs) σ H ((ns.map TL.numL).map tv) := by
  refine el_is (el_all (el_lcT (ds := ns) iv (fun _ => true) (fun n => tv (TL.numL n)) h (Nat.le_trans hz (by decide)) hw (fun _ _ => ety) fun n hm _ => ?_)) (by rw [List.map_map]; rfl)
  exact ev_cb1 (ev_var (hj _)) (rc_str (hn n hm))
theorem ok_line_of {f : Addr} {fd : FuncData} {ke : V} (F : FunD K "line_of" "line_of" (defArgs s_line_of) (defBody s_line_of) (defScope s_line_of) [] [("numbers", ke)] f fd) (T : T0 K mg aKn aWi aOw aLi aOn aOt) : FnOk P w K mg base CX0 1 f fd p_line_of (sp_line_of K) := by
  refine F.ok sc_line_of (fun vs H Q E h => ?_) (fun cdv A outer s H vs Q E hr h => ?_)
  · obtain ⟨wd, p, q, ps, ns, rfl, _⟩ := h
    rfl
  · obtain ⟨wd, p, q, ps, ns, rfl, hp, hq, h1, h2, h3, hn, k⟩ := h
    refine ⟨_, (pss_one (ps_ret (MB.pe_joinK (K := K) rfl pe_str (pe_op (MB.op_addK (K := K) rfl) (pe_op (MB.op_addK (K := K) rfl) (pe_lst (pa_cons (pv 0) pa_nil)) (pe_lc (own := [("part", 3)]) (by rfl) sc_line_of.nd (MB.pi_tupK (K := K) rfl (pv 1)) (blkOk_by (own := [("part", 3)]) (N := n_line_of) (sc := defScope s_line_of) (by decide +kernel)) (fun _ _ _ _ _ => (pg_name (i := 3) sc_line_of.nd rfl (.inl rfl))) (fun _ _ _ _ _ => pts_nil) (fun _ _ _ _ _ => (pe_callTy MB.call_strA (by rfl) T.n_str MB.bo_str (pa_cons (pv 3) pa_nil))))) (pe_lc (own := [("number", 4)]) (by rfl) sc_line_of.nd (MB.pi_tupK (K := K) rfl (pv 2)) (blkOk_by (own := [("number", 4)]) (N := n_line_of) (sc := defScope s_line_of) (by decide +kernel)) (fun _ _ _ _ _ => (pg_name (i := 4) sc_line_of.nd rfl (.inl rfl))) (fun _ _ _ _ _ => pts_nil) (fun _ _ _ _ _ => (pe_callTy MB.call_strA (by rfl) T.n_str MB.bo_str (pa_cons (pv 4) pa_nil)))))))), ?_⟩
    refine s_ret (ev_is (ev_join (sep := [32]) (ys := wd :: (ps.map TL.numL ++ ns.map TL.numL)) (ev_is ev_c (congrArg V.str (of_S " "))) (els_new (el_is (el_cat (ep_new (el_cat (ep_new (el_lst (vs := [tv wd]) (ea_cons (ev_var rfl) ea_nil) (by show 1 ≤ 100000; decide))) (ep_new (el_strs (ns := ps) (etp_val (ev_var rfl) hp) (by omega) (fun n hm => hn n (List.mem_append_left _ hm)) (fun _ => rfl) (fun _ => rfl))) (by simp; omega))) (ep_new (el_strs (ns := ns) (etp_val (ev_var rfl) hq) (by omega) (fun n hm => hn n (List.mem_append_right _ hm)) (fun _ => rfl) (fun _ => rfl))) (by simp; omega)) (by simp only [List.map_cons, List.map_append, List.cons_append, List.nil_append]; rfl))) ?_) ?_) k
    · have hs := sum_le (b := 12) (l := ps.map TL.numL ++ ns.map TL.numL) fun x hx => by
        rw [← List.map_append] at hx
        obtain ⟨n, hm, rfl⟩ := List.mem_map.mp hx
        exact TL.numL_len (by decide) (hn n hm)
      simp only [List.length_append, List.length_map] at hs
      simp only [List.map_cons, List.sum_cons, List.length_cons, List.length_append, List.length_map, List.length_nil]
      omega
    · unfold ln
      rw [List.map_append]
      rfl
end
end K82
set_option maxRecDepth 100000
set_option maxHeartbeats 1000000
namespace K82
open PySem PySem.Spec PyProof.Rows L2 Evl MB
section
variable {P : Program} {w : World} {K : PySem.W.Frag} {mg : Str → Option Value} {base : Heap} {aKn aWi aOw aLi aOn aOt : Addr}
/-! ### data that stand in the heap -/
theorem dp_tup {H : Hp} {v : V} {ds : List PyData} (h : Dp K H v (.tuple ds)) : ∃ a xs, v = .ref a ∧ SqT K H a xs ∧ DpAll K H xs ds := by
  cases h
  exact ⟨_, _, rfl, by assumption, by assumption⟩
theorem dpAll_zip {α : Type} {f : α → PyData} {H : Hp} : ∀ {ts : List α} {xs : List V}, DpAll K H xs (ts.map f) → ∃ zs : List (V × α), zs.map (·.1) = xs ∧ zs.map (·.2) = ts ∧ ∀ z ∈ zs, Dp K H z.1 (f z.2)
  | [], _, h => by
    cases h
    exact ⟨[], rfl, rfl, fun z hz => absurd hz List.not_mem_nil⟩
  | t :: ts, _, h => by
    cases h with
    | cons h1 h2 =>
      obtain ⟨zs, e1, e2, e3⟩ := dpAll_zip h2
      refine ⟨(_, t) :: zs, by rw [List.map_cons, e1], by rw [List.map_cons, e2], fun z hz => ?_⟩
      rcases List.mem_cons.mp hz with rfl | hz
      · exact h1
      · exact e3 z hz
/-- a tuple of such data: values and data side by side -/
theorem dp_zip {α : Type} {f : α → PyData} {H : Hp} {v : V} {ts : List α} (h : Dp K H v (.tuple (ts.map f))) : ∃ (a : Addr) (zs : List (V × α)), v = .ref a ∧ SqT K H a (zs.map (·.1)) ∧ zs.map (·.2) = ts ∧ ∀ z ∈ zs, Dp K H z.1 (f z.2) := by
  obtain ⟨a, xs, rfl, hs, hd⟩ := dp_tup h
  obtain ⟨zs, rfl, e2, e3⟩ := dpAll_zip hd
  exact ⟨a, zs, rfl, hs, e2, e3⟩
/-- the known kinds at ka -/
def KnAt (K : PySem.W.Frag) (H : Hp) (v : V) (kn : List Nat) : Prop := ∃ a, v = .ref a ∧ SqT K H a (kn.map iv) ∧ Kn kn
theorem KnAt.ex {H H' : Hp} {v : V} {kn : List Nat} (e : Ex H H') (h : KnAt K H v kn) : KnAt K H' v kn := by
  obtain ⟨a, rfl, h1, h2⟩ := h
  exact ⟨a, rfl, ex_t e h1, h2⟩
def sp_entry_lines (K : PySem.W.Frag) (d : Nat) : Sp := fun vs H Q _ => ∃ (x y : V) (e : Ent (Ch d)) (kn : List Nat), vs = [x, y] ∧ Dp K H x (dEnt (dCh d) e) ∧ KnAt K H y kn ∧ GEnt kn (gCh kn d) e ∧ mu (lEnt (lCh d) e) ≤ 3700000 ∧ RetL ((lEnt (lCh d) e).map tv) H Q
def sp_table_lines (K : PySem.W.Frag) (d : Nat) : Sp := fun vs H Q _ => ∃ (x y : V) (t : Tab d) (kn : List Nat), vs = [x, y] ∧ Dp K H x (dTab (dCh d) t) ∧ KnAt K H y kn ∧ GTab kn (gCh kn d) t ∧ mu (lTab (lCh d) t) ≤ 3700000 ∧ RetL ((lTab (lCh d) t).map tv) H Q
def sp_chain_lines (K : PySem.W.Frag) (d : Nat) : Sp := fun vs H Q _ => ∃ (x y : V) (c : Ch d) (kn : List Nat), vs = [x, y] ∧ Dp K H x (dCh d c) ∧ KnAt K H y kn ∧ gCh kn d c ∧ mu (lCh d c) ≤ 3700000 ∧ RetL ((lCh d c).map tv) H Q
theorem mu_flat {α : Type} {g : α → List (List Nat)} : ∀ {l : List α} {x : α}, x ∈ l → mu (g x) ≤ mu (l.flatMap g)
  | y :: l, x, h => by
    rw [List.flatMap_cons, mu_append]
    rcases List.mem_cons.mp h with rfl | h
    · omega
    · have := mu_flat (g := g) h
      omega
theorem ok_table_lines {d : Nat} {f : Addr} {fd : FuncData} (F : Fun K "table_lines" "table_lines" s_table_lines f fd) (T : T0 K mg aKn aWi aOw aLi aOn aOt) (c_entry_lines : MB.Cl P w K mg base (3 * d + 3) "entry_lines" (sp_entry_lines K d)) : FnOk P w K mg base CX0 (3 * d + 4) f fd p_table_lines (sp_table_lines K d) := by
  refine F.ok sc_table_lines (fun vs H Q E h => ?_) (fun cdv A outer s H vs Q E hr h => ?_)
  · obtain ⟨x, y, t, kn, rfl, _⟩ := h
    rfl
  · obtain ⟨x, y, t, kn, rfl, hx, hy, g, hm, k⟩ := h
    obtain ⟨a, zs, rfl, hs, rfl, hz⟩ := dp_zip hx
    refine ⟨_, (pss_one (ps_ret (pe_op (MB.op_addK (K := K) rfl) (pe_op (MB.op_addK (K := K) rfl) (pe_lst (pa_cons pe_str pa_nil)) (pe_lc2 (own := [("entry", 2), ("line", 3)]) (by rfl) sc_table_lines.nd (vs1 := [3]) (MB.pi_tupK (K := K) rfl (pv 0)) (blkOk_by (own := [("entry", 2), ("line", 3)]) (N := n_table_lines) (sc := defScope s_table_lines) (by decide +kernel)) (by decide) (fun _ _ _ _ _ => (pg_name (i := 2) sc_table_lines.nd rfl (.inl rfl))) (fun _ _ _ _ _ => pts_nil) (fun _ _ _ _ _ => (MB.pi_listK (K := K) rfl (MB.pe_cl c_entry_lines hr (by omega) (by rfl) passL (pa_cons (pv 2) (pa_cons (pv 1) pa_nil))))) (fun _ _ _ _ _ => (pg_name (i := 3) sc_table_lines.nd rfl (.inl rfl))) (fun _ _ _ _ _ => pts_nil) (fun _ _ _ _ _ => (pv 3)))) (pe_lst (pa_cons pe_str pa_nil))))), ?_⟩
    have hm' : mu ((zs.map (·.2)).flatMap (lEnt (lCh d))) ≤ 3700000 := by
      have : mu (lTab (lCh d) (zs.map (·.2))) = 6 + (mu ((zs.map (·.2)).flatMap (lEnt (lCh d))) + 4) := by
        unfold lTab
        rw [mu_cons, mu_append]
        rfl
      omega
    have hl := mu_len ((zs.map (·.2)).flatMap (lEnt (lCh d)))
    rw [List.flatMap_map] at hm' hl
    have hfl : (zs.flatMap fun z => (lEnt (lCh d) z.2).map tv) = (zs.flatMap fun z => lEnt (lCh d) z.2).map tv := by rw [List.map_flatMap]
    have hl2 : (zs.flatMap fun z => (lEnt (lCh d) z.2).map tv).length ≤ 3700000 := by
      rw [hfl, List.length_map]
      omega
    refine s_retL (el_is (el_cat (ep_new (el_cat (ep_new (el_lst (ea_cons ev_c ea_nil) (by show 1 ≤ 100000; decide))) (ep_new (el_lc2T (ds := zs) (fun z => z.1) (fun z => (lEnt (lCh d) z.2).map tv) (etp_val (ev_var rfl) hs) hl2 (fun _ => rfl) (fun _ _ => rfl) (fun _ _ => rfl) fun z hmz => ?_)) ?_)) (ep_new (el_lst (ea_cons ev_c ea_nil) (by show 1 ≤ 100000; decide))) ?_) ?_) k
    · refine el_call (ea_cons (ev_var rfl) (ea_cons (ev_var rfl) ea_nil)) fun H1 e Q1 q E1 => ⟨_, _, z.2, kn, rfl, dp_ex e _ _ (hz z hmz), hy.ex e, g.all _ (List.mem_map_of_mem hmz), ?_, q⟩
      have := mu_flat (g := fun z : V × Ent (Ch d) => lEnt (lCh d) z.2) hmz
      omega
    · rw [List.length_singleton]
      omega
    · rw [List.length_append, List.length_singleton, List.length_singleton]
      omega
    · rw [hfl]
      unfold lTab
      rw [List.map_cons, List.map_append, List.flatMap_map]
      rw [of_S, of_S]
      rfl
theorem ok_chain_lines0 {f : Addr} {fd : FuncData} (F : Fun K "chain_lines" "chain_lines" s_chain_lines f fd) (T : T0 K mg aKn aWi aOw aLi aOn aOt) {sp : Sp} (c_table_lines : MB.Cl P w K mg base 1 "table_lines" sp) : FnOk P w K mg base CX0 2 f fd p_chain_lines (sp_chain_lines K 0) := by
  refine F.ok sc_chain_lines (fun vs H Q E h => ?_) (fun cdv A outer s H vs Q E hr h => ?_)
  · obtain ⟨x, y, t, kn, rfl, _⟩ := h
    rfl
  · obtain ⟨x, y, c, kn, rfl, hx, hy, g, hm, k⟩ := h
    obtain ⟨a, xs, rfl, hs, hd⟩ := dp_tup hx
    cases hd
    refine ⟨_, (pss_one (ps_ret (pe_lc2 (own := [("table", 2), ("line", 3)]) (by rfl) sc_chain_lines.nd (vs1 := [3]) (MB.pi_tupK (K := K) rfl (pv 0)) (blkOk_by (own := [("table", 2), ("line", 3)]) (N := n_chain_lines) (sc := defScope s_chain_lines) (by decide +kernel)) (by decide) (fun _ _ _ _ _ => (pg_name (i := 2) sc_chain_lines.nd rfl (.inl rfl))) (fun _ _ _ _ _ => pts_nil) (fun _ _ _ _ _ => (MB.pi_listK (K := K) rfl (MB.pe_cl c_table_lines hr (by omega) (by rfl) passL (pa_cons (pv 2) (pa_cons (pv 1) pa_nil))))) (fun _ _ _ _ _ => (pg_name (i := 3) sc_chain_lines.nd rfl (.inl rfl))) (fun _ _ _ _ _ => pts_nil) (fun _ _ _ _ _ => (pv 3))))), ?_⟩
    exact s_retL (el_lc2T (ds := ([] : List V)) (fun z => z) (fun z => []) (etp_val (ev_var rfl) hs) (by decide) (fun _ => rfl) (fun _ _ => rfl) (fun _ _ => rfl) fun z hmz => absurd hmz List.not_mem_nil) k
theorem ok_chain_linesS {d : Nat} {f : Addr} {fd : FuncData} (F : Fun K "chain_lines" "chain_lines" s_chain_lines f fd) (T : T0 K mg aKn aWi aOw aLi aOn aOt) (c_table_lines : MB.Cl P w K mg base (3 * d + 4) "table_lines" (sp_table_lines K d)) : FnOk P w K mg base CX0 (3 * d + 5) f fd p_chain_lines (sp_chain_lines K (d + 1)) := by
  refine F.ok sc_chain_lines (fun vs H Q E h => ?_) (fun cdv A outer s H vs Q E hr h => ?_)
  · obtain ⟨x, y, t, kn, rfl, _⟩ := h
    rfl
  · obtain ⟨x, y, (c : List (Tab d)), kn, rfl, hx, hy, (g : GCha kn (gCh kn d) c), (hm : mu (lCha (lCh d) c) ≤ 3700000), (k : RetL ((lCha (lCh d) c).map tv) H Q)⟩ := h
    obtain ⟨a, zs, rfl, hs, rfl, hz⟩ := dp_zip (show Dp K H x (.tuple (c.map (dTab (dCh d)))) from hx)
    refine ⟨_, (pss_one (ps_ret (pe_lc2 (own := [("table", 2), ("line", 3)]) (by rfl) sc_chain_lines.nd (vs1 := [3]) (MB.pi_tupK (K := K) rfl (pv 0)) (blkOk_by (own := [("table", 2), ("line", 3)]) (N := n_chain_lines) (sc := defScope s_chain_lines) (by decide +kernel)) (by decide) (fun _ _ _ _ _ => (pg_name (i := 2) sc_chain_lines.nd rfl (.inl rfl))) (fun _ _ _ _ _ => pts_nil) (fun _ _ _ _ _ => (MB.pi_listK (K := K) rfl (MB.pe_cl c_table_lines hr (by omega) (by rfl) passL (pa_cons (pv 2) (pa_cons (pv 1) pa_nil))))) (fun _ _ _ _ _ => (pg_name (i := 3) sc_chain_lines.nd rfl (.inl rfl))) (fun _ _ _ _ _ => pts_nil) (fun _ _ _ _ _ => (pv 3))))), ?_⟩
    unfold lCha at hm k
    have hl := mu_len ((zs.map (·.2)).flatMap (lTab (lCh d)))
    rw [List.flatMap_map] at hm hl k
    have hfl : (zs.flatMap fun z => (lTab (lCh d) z.2).map tv) = (zs.flatMap fun z => lTab (lCh d) z.2).map tv := by rw [List.map_flatMap]
    rw [← hfl] at k
    refine s_retL (el_lc2T (ds := zs) (fun z => z.1) (fun z => (lTab (lCh d) z.2).map tv) (etp_val (ev_var rfl) hs) (by rw [hfl, List.length_map]; omega) (fun _ => rfl) (fun _ _ => rfl) (fun _ _ => rfl) fun z hmz => ?_) k
    refine el_call (ea_cons (ev_var rfl) (ea_cons (ev_var rfl) ea_nil)) fun H1 e Q1 q E1 => ⟨_, _, z.2, kn, rfl, dp_ex e _ _ (hz z hmz), hy.ex e, g.all _ (List.mem_map_of_mem hmz), ?_, q⟩
    exact Nat.le_trans (mu_flat (g := fun z : V × Tab d => lTab (lCh d) z.2) hmz) hm
/-! ### ended -/
def sp_ended (K : PySem.W.Frag) : Sp := fun vs H Q _ => ∃ (a : Addr) (ls : List (List Nat)), vs = [.ref a] ∧ SqL K H a (ls.map tv) ∧ mu ls ≤ 3700000 ∧ ∀ H', Ex H H' → Q (tv (ls.flatMap fun l => l ++ [10])) H'
theorem joinL_nil : ∀ ls : List (List Nat), TL.joinL [] (ls.map fun l => l ++ [10]) = ls.flatMap fun l => l ++ [10]
  | [] => rfl
  | [l] => by simp [TL.joinL]
  | l :: l2 :: ls => by
    have := joinL_nil (l2 :: ls)
    simp only [List.map_cons, List.flatMap_cons] at this ⊢
    simp only [TL.joinL, this, List.append_nil, List.nil_append]
theorem ok_ended {f : Addr} {fd : FuncData} (F : Fun K "ended" "ended" s_ended f fd) (T : T0 K mg aKn aWi aOw aLi aOn aOt) : FnOk P w K mg base CX0 1 f fd p_ended (sp_ended K) := by
  refine F.ok sc_ended (fun vs H Q E h => ?_) (fun cdv A outer s H vs Q E hr h => ?_)
  · obtain ⟨a, ls, rfl, _⟩ := h
    rfl
  · obtain ⟨a, ls, rfl, hs, hm, k⟩ := h
    refine ⟨_, (pss_one (ps_ret (MB.pe_joinK (K := K) rfl pe_str (pe_lc (own := [("line", 1)]) (by rfl) sc_ended.nd (MB.pi_listK (K := K) rfl (pv 0)) (blkOk_by (own := [("line", 1)]) (N := n_ended) (sc := defScope s_ended) (by decide +kernel)) (fun _ _ _ _ _ => (pg_name (i := 1) sc_ended.nd rfl (.inl rfl))) (fun _ _ _ _ _ => pts_nil) (fun _ _ _ _ _ => (pe_op (MB.op_addK (K := K) rfl) (pv 1) pe_str)))))), ?_⟩
    rw [← joinL_nil] at k
    have hl := mu_len ls
    refine s_ret (ev_is (ev_join (sep := []) (ys := ls.map fun l => l ++ [10]) (ev_is ev_c (congrArg V.str (of_S ""))) (els_new (el_is (el_all (el_lcLs (ds := ls) tv (fun _ => true) (fun l => tv (l ++ [10])) (els_val (ev_var rfl) hs) (by omega) (fun _ => rfl) (fun _ _ => ety) fun l hml _ => ?_)) (by rw [List.map_map]; rfl))) ?_) rfl) k
    · have := mu_mem hml
      rw [of_S]
      exact ev_op (ev_var rfl) ev_c (rv_addC (by show l.length + 1 ≤ 3700000; omega))
    · have : ((ls.map fun l => l ++ [10]).map (·.length)).sum = mu ls := by
        unfold mu
        rw [List.map_map]
        congr 1
        refine List.map_congr_left fun l _ => ?_
        show (l ++ [10]).length = _
        rw [List.length_append]
        rfl
      rw [this]
      simp only [List.length_nil]
      omega
end
end K82
set_option maxRecDepth 100000
set_option maxHeartbeats 1000000
namespace K82
open PySem PySem.Spec PyProof.Rows L2 Evl MB
section
variable {P : Program} {w : World} {K : PySem.W.Frag} {mg : Str → Option Value} {base : Heap} {aKn aWi aOw aLi aOn aOt : Addr}
theorem dpAll_ints : ∀ {ns : List Nat} {H : Hp} {xs : List V}, DpAll K H xs (ns.map fun (n : Nat) => PyData.int (n : Int)) → xs = ns.map iv
  | [], _, _, h => by cases h; rfl
  | n :: ns, _, _, h => by
    cases h with
    | cons h1 h2 =>
      cases h1
      rw [dpAll_ints h2]
      rfl
theorem dp_dT {H : Hp} {v : V} {ns : List Nat} (h : Dp K H v (dT ns)) : ∃ a, v = .ref a ∧ SqT K H a (ns.map iv) := by
  obtain ⟨a, xs, rfl, hs, hd⟩ := dp_tup h
  rw [dpAll_ints hd] at hs
  exact ⟨a, rfl, hs⟩
/-- an entry's three parts -/
theorem dp_ent {α : Type} {f : α → PyData} {H : Hp} {v : V} {e : Ent α} (h : Dp K H v (dEnt f e)) : ∃ a x, v = .ref a ∧ SqT K H a [iv e.tag, iv e.kind, x] ∧ Dp K H x (dWo f e.w) := by
  obtain ⟨a, xs, rfl, hs, hd⟩ := dp_tup h
  cases hd with
  | cons h1 h2 =>
    cases h1
    cases h2 with
    | cons h1 h2 =>
      cases h1
      cases h2 with
      | cons h1 h2 =>
        cases h2
        exact ⟨a, _, rfl, hs, h1⟩
theorem q_tup3 {te : TE} {σ : L2.St} {H : Hp} {a : Addr} {x y z : V} {i j k : Nat} {tz : TS} {D : Ends} (h : Ev te σ H (.ref a)) (hs : SqT K H a [x, y, z]) (kont : ∀ H1, Ex H H1 → tz D (((σ.set i (some x)).set j (some y)).set k (some z)) H1) :
    tSeq (tAsg te (gTup K 3 (gCons (gName i) (gCons (gName j) (gCons (gName k) gNil))))) tz D σ H :=
  h H (Ex.refl H) _ fun H1 e => ⟨a, _, rfl, ex_t e hs, rfl, _, _, rfl, _, _, rfl, _, _, rfl, rfl, kont H1 e⟩
theorem q_tup2 {te : TE} {σ : L2.St} {H : Hp} {a : Addr} {x y : V} {i j : Nat} {tz : TS} {D : Ends} (h : Ev te σ H (.ref a)) (hs : SqT K H a [x, y]) (kont : ∀ H1, Ex H H1 → tz D ((σ.set i (some x)).set j (some y)) H1) :
    tSeq (tAsg te (gTup K 2 (gCons (gName i) (gCons (gName j) gNil)))) tz D σ H :=
  h H (Ex.refl H) _ fun H1 e => ⟨a, _, rfl, ex_t e hs, rfl, _, _, rfl, _, _, rfl, rfl, kont H1 e⟩
/-- line_of(word=.., parts=.., numbers=..) -/
theorem ev_line {E : XK} {t1 t2 t3 : TE} {σ : L2.St} {H : Hp} {wd ps ns : List Nat} (h1 : Ev t1 σ H (tv wd)) (h2 : EvTp K t2 σ H (ps.map iv)) (h3 : EvTp K t3 σ H (ns.map iv)) (l1 : wd.length ≤ 100) (l2 : ps.length ≤ 10) (l3 : ns.length ≤ 1200) (hn : ∀ n ∈ ps ++ ns, n < 1000000000000) :
    Ev (tCallN 0 3 (sp_line_of K) (fun _ zs => zs) E tNil (tCons t1 (tCons t2 (tCons t3 tNil)))) σ H (tv (ln wd (ps ++ ns))) := fun H1 e Q q =>
  h1 H1 e _ fun H2 e2 => h2 H2 (e.trans e2) _ fun p H3 e3 hp => h3 H3 ((e.trans e2).trans e3) _ fun r H4 e4 hr => ⟨rfl, rfl, wd, p, r, ps, ns, rfl, ex_t e4 hp, hr, l1, l2, l3, hn, fun H5 e5 => q H5 (((e2.trans e3).trans e4).trans e5)⟩
/-! ### f-strings -/
def EvJ (ts : List TE) (σ : L2.St) (H : Hp) (acc out : List Nat) : Prop := ∀ H1, Ex H H1 → ∀ Q : Str → Hp → Prop, (∀ H2, Ex H1 H2 → Q (SX.S out) H2) → tJs ts (SX.S acc) σ H1 Q
theorem ej_nil {σ : L2.St} {H : Hp} {acc : List Nat} : EvJ [] σ H acc acc := fun H1 _ Q q => q H1 (Ex.refl H1)
theorem ej_cons {t : TE} {ts : List TE} {σ : L2.St} {H : Hp} {acc u out : List Nat} (h : Ev t σ H (tv u)) (hz : acc.length + u.length ≤ 3700000) (r : EvJ ts σ H (acc ++ u) out) : EvJ (t :: ts) σ H acc out := fun H1 e Q q =>
  h H1 e _ fun H2 e2 => ⟨SX.S u, rfl, by rw [SX.S_cat, SX.S_len, List.length_append]; exact Nat.le_trans hz (by decide), by
    rw [SX.S_cat]
    exact r H2 (e.trans e2) Q fun H3 e3 => q H3 (e2.trans e3)⟩
theorem ev_js {ts : List TE} {σ : L2.St} {H : Hp} {out : List Nat} (h : EvJ ts σ H [] out) : Ev (fun σ H Q => tJs ts Str.empty σ H fun out H1 => Q (.str out) H1) σ H (tv out) := fun H1 e Q q => h H1 e _ q
theorem ev_fmtI {te : TE} {σ : L2.St} {H : Hp} {n : Nat} (h : Ev te σ H (iv n)) (hn : n < 1000000000000) : Ev (tFmt te) σ H (tv (TL.numL n)) := fun H1 e Q q =>
  h H1 e _ fun H2 e2 => .inr ⟨(n : Int), rfl, log_small hn, by
    have e : (toString (n : Int) : Str) = SX.S (TL.numL n) := SX.num_S n
    rw [e]
    exact q H2 e2⟩
theorem ev_fmtS {te : TE} {σ : L2.St} {H : Hp} {u : List Nat} (h : Ev te σ H (tv u)) (hz : u.length ≤ 3700000) : Ev (tFmt te) σ H (tv u) := fun H1 e Q q =>
  h H1 e _ fun H2 e2 => .inl ⟨SX.S u, rfl, by rw [SX.S_len]; exact Nat.le_trans hz (by decide), q H2 e2⟩
/-! ### entry_lines -/
theorem lt_big {n m : Nat} (h : n ≤ m) (hm : m < 1000000000000 := by decide) : n < 1000000000000 := Nat.lt_of_le_of_lt h hm
theorem lim_le (k : Nat) : lim k ≤ 4294967296 := by
  unfold lim
  split
  · decide
  · split <;> decide
theorem wid_le (k : Nat) : wid k ≤ 4 := by
  unfold wid
  repeat' split
  all_goals decide
theorem wid_pos (k : Nat) : 1 ≤ wid k := by
  unfold wid
  repeat' split
  all_goals decide
theorem gNums {α : Type} {kn : List Nat} {g : α → Prop} {k : Nat} {ns : List Nat} (h : gWo kn g k (.nums ns)) : ns.length ≤ 1200 ∧ (∀ n ∈ ns, n < 1000000000000) ∧ (k ∉ kn ∨ k < 4) := by
  rcases h with ⟨h1, h2, h3, h4⟩ | ⟨h1, h2, h3, h4⟩
  · exact ⟨by omega, fun n hn => lt_big (Nat.le_trans (Nat.le_of_lt (h4 n hn)) (lim_le k)), .inr h2⟩
  · have := wid_le k
    exact ⟨by omega, fun n hn => lt_big (Nat.le_of_lt (h4 n hn)), .inl h1⟩
theorem s_extL {ta te : TE} {σ : L2.St} {H : Hp} {D : Ends} {l : Addr} {xs ys : List V} (hl : H l = some (.lst xs)) (ha : Ev ta σ H (.ref l)) (h : EvL te σ H ys) (hz : xs.length + ys.length ≤ 8000000) (k : ∀ H1, Ex H H1 → D.nx σ (upd H1 l (.lst (xs ++ ys)))) :
    tDrop (tBM K "list" rExtend ta (tCons te tNil)) D σ H :=
  ha H (Ex.refl H) _ fun H1 e1 => ⟨.inl ⟨rfl, xs, sq_of (e1 _ _ hl)⟩, h H1 e1 _ fun p H2 hp e2 h2 => ⟨l, p, xs, ys, rfl, rfl, (e1.trans e2) _ _ hl, h2, Nat.le_trans hz (by decide), k H2 (e1.trans e2)⟩⟩
theorem ok_entry_lines {d : Nat} {f : Addr} {fd : FuncData} (F : Fun K "entry_lines" "entry_lines" s_entry_lines f fd) (T : T0 K mg aKn aWi aOw aLi aOn aOt) (c_chain_lines : MB.Cl P w K mg base (3 * d + 2) "chain_lines" (sp_chain_lines K d))
    (k_line_of : MB.ClN P w K mg base 1 "line_of" (sp_line_of K) 0 ["word", "parts", "numbers"] (fun _ zs => zs)) : FnOk P w K mg base CX0 (3 * d + 3) f fd p_entry_lines (sp_entry_lines K d) := by
  refine F.ok sc_entry_lines (fun vs H Q E h => ?_) (fun cdv A outer s H vs Q E hr h => ?_)
  · obtain ⟨x, y, t, kn, rfl, _⟩ := h
    rfl
  · obtain ⟨x, y, e, kn, rfl, hx, hy, g, hm, k⟩ := h
    obtain ⟨a, v, rfl, hs, hv⟩ := dp_ent hx
    obtain ⟨ka, rfl, hk, hkn⟩ := hy
    have hu64 := hu64 hr
    refine ⟨_, (pss_cons (ps_asg (pv 0) (MB.pg_tupK (K := K) (n := 3) rfl rfl (pgs_cons (pg_name (i := 2) sc_entry_lines.nd rfl (.inl rfl)) (pgs_cons (pg_name (i := 3) sc_entry_lines.nd rfl (.inl rfl)) (pgs_cons (pg_name (i := 4) sc_entry_lines.nd rfl (.inl rfl)) pgs_nil)))))
      (pss_cons (ps_if (PW.pt (pw_or (pt_cmpR (MB.op_niK (K := K) rfl) (pv 3) (pv 1) rfl) (pw_or1 (pt_cmpR op_lt (pv 3) pe_int (nomark _))))) (pss_one (ps_ret (pe_lst (pa_cons (MB.pe_clN0 k_line_of hr (by omega) (by rfl) passL (pk_cons pe_str (pk_cons (pe_tup (pa_cons (pv 2) (pa_cons (pv 3) pa_nil))) (pk_cons (pv 4) pk_nil)))) pa_nil)))) pss_nil)
      (pss_cons (ps_if (pt_cmpR (MB.op_eqK (K := K) rfl hu64) (pv 3) pe_int (nomark _)) (pss_one (ps_ret (pe_lst (pa_cons (pe_joined (PJ.cons pe_str (PJ.cons (pe_fmt (pv 2)) (PJ.cons pe_str (PJ.cons (pe_fmt (pv 4)) PJ.nil))))) pa_nil)))) pss_nil)
      (pss_cons (ps_if (pt_cmpR (MB.op_eqK (K := K) rfl hu64) (pv 3) pe_int (nomark _)) (pss_cons (ps_setLc (i := 5) (own := [("piece", 6)]) (by rfl) sc_entry_lines.nd rfl rfl (sw_true rfl rfl rfl (by decide +kernel)) (MB.pi_tupK (K := K) rfl (pv 4)) (blkOk_by (own := [("piece", 6)]) (N := n_entry_lines) (sc := defScope s_entry_lines) (by decide +kernel)) (fun _ _ _ _ _ => (pg_name (i := 6) sc_entry_lines.nd rfl (.inl rfl))) (fun _ _ _ _ _ => pts_nil) (fun _ _ _ _ _ => (MB.pe_clN0 k_line_of hr (by omega) (by rfl) passL (pk_cons pe_str (pk_cons (pe_tup pa_nil) (pk_cons (pv 6) pk_nil))))))
      (pss_one (ps_ret (pe_op (MB.op_addK (K := K) rfl) (pe_op (MB.op_addK (K := K) rfl) (pe_lst (pa_cons (pe_joined (PJ.cons pe_str (PJ.cons (pe_fmt (pv 2)) PJ.nil))) pa_nil)) (pv 5)) (pe_lst (pa_cons pe_str pa_nil)))))) pss_nil)
      (pss_cons (ps_set (i := 7) sc_entry_lines.nd rfl (Or.inl rfl) (pe_lst (pa_cons (pe_joined (PJ.cons pe_str (PJ.cons (pe_fmt (pv 2)) PJ.nil))) pa_nil)))
      (pss_cons (ps_for PassesOwn.never rfl (MB.pi_tupK (K := K) rfl (pv 4)) (pg_name (i := 8) sc_entry_lines.nd rfl (.inl rfl))
      (pss_one (ps_expr (pe_bm PySem.F.plainAttrs_list PySem.F.slot_list_extend PySem.F.type_list_extend mt_extend (pv 7) (pa_cons (pe_op (MB.op_addK (K := K) rfl) (pe_op (MB.op_addK (K := K) rfl) (pe_lst (pa_cons pe_str pa_nil)) (MB.pe_cl c_chain_lines hr (by omega) (by rfl) passL (pa_cons (pv 8) (pa_cons (pv 1) pa_nil)))) (pe_lst (pa_cons pe_str pa_nil))) pa_nil)))))
      (pss_one (ps_ret (pe_op (MB.op_addK (K := K) rfl) (pv 7) (pe_lst (pa_cons pe_str pa_nil))))))))))), ?_⟩
    refine q_tup3 (ev_var rfl) hs fun H1 e1 => ?_
    obtain ⟨tag, kind, wo⟩ := e
    have gt : tag < 1000000000000 := lt_big g.tag
    have gk : kind < 1000000000000 := lt_big g.kind
    have hif : ∀ {b : Bool}, b = (!decide (kind ∈ kn) || decide (kind < 4)) → EvT (tOr (tB (tOp (rNotInA K) (tVar 3) (tVar 1))) (tB (tOp (rI0 fun i j => .bl (decide (i < j))) (tVar 3) (tC (.int 4))))) ((((start n_entry_lines [.ref a, .ref ka]).set 2 (some (iv tag))).set 3 (some (iv kind))).set 4 (some v)) H1 b := by
      intro b hb
      refine et_is (et_or (et_B (ev_op (ev_var rfl) (ev_var rfl) (rv_niK (ex_t e1 hk)))) fun _ => et_B (ev_is (ev_op (ev_var rfl) ev_c rv_I0) (congrArg V.bl (decide_eq_decide.mpr (by omega))))) hb.symm
    cases wo with
    | nums ns =>
      obtain ⟨h1, h2, h3⟩ := gNums g.w
      obtain ⟨q, rfl, hq⟩ := dp_dT hv
      refine q_ifN (b := true) (hif ?_) (fun _ H2 e2 => ?_) fun h => by cases h
      · rcases h3 with h | h
        · simp [h]
        · simp [h]
      refine s_retL (el_is (el_lst (ea_cons (ev_line (ps := [tag, kind]) (ns := ns) (ev_is ev_c (congrArg V.str (of_S "entry"))) (etp_new (eu_tup (ea_cons (ev_var rfl) (ea_cons (ev_var rfl) ea_nil)) (by show 2 ≤ 100000; decide))) (etp_val (ev_var rfl) (ex_t (e1.trans e2) hq)) (by decide) (by show 2 ≤ 10; decide) h1 ?_) ea_nil) (by show 1 ≤ 100000; decide)) rfl) fun p H3 hp e3 h3 => k p H3 (fresh_back (e1.trans e2) hp) ((e1.trans e2).trans e3) h3
      intro n hn
      simp only [List.cons_append, List.nil_append, List.mem_cons] at hn
      rcases hn with rfl | rfl | hn
      · exact gt
      · exact gk
      · exact h2 n hn
    | text t =>
      obtain ⟨rfl, h4, hl, hsg⟩ := g.w
      cases hv
      have hnl := TL.numL_len (k := 12) (by decide) gt
      refine q_ifN (b := false) (hif (by simp [h4])) (fun h => by cases h) fun _ H2 e2 => ?_
      refine q_ifN (b := true) (et_B (ev_is (ev_op (ev_var rfl) ev_c rv_eqI) (congrArg V.bl (decide_eq_true rfl)))) (fun _ H3 e3 => ?_) fun h => by cases h
      refine s_retL (el_is (el_lst (ea_cons (ev_js (ej_cons (u := co "text ") (ev_is ev_c (congrArg V.str (of_S "text "))) (by decide) (ej_cons (ev_fmtI (n := tag) (ev_var rfl) gt) (by rw [List.nil_append]; show 5 + _ ≤ _; omega) (ej_cons (u := [32]) (ev_is ev_c (congrArg V.str (of_S " "))) ?_ (ej_cons (ev_fmtS (ev_var rfl) (by omega)) ?_ ej_nil))))) ea_nil) (by show 1 ≤ 100000; decide)) ?_) fun p H4 hp e4 h4 => k p H4 (fresh_back ((e1.trans e2).trans e3) hp) (((e1.trans e2).trans e3).trans e4) h4
      · simp only [List.nil_append, List.length_append, List.length_singleton]
        show 5 + _ + 1 ≤ _
        omega
      · simp only [List.nil_append, List.length_append, List.length_singleton]
        show 5 + _ + 1 + _ ≤ _
        omega
      · simp only [List.nil_append, List.append_assoc]
        rfl
    | pieces ps =>
      obtain ⟨rfl, h6, hl, hp⟩ := g.w
      obtain ⟨q, zs, rfl, hq, rfl, hz⟩ := dp_zip (show Dp K H v (.tuple (ps.map dT)) from hv)
      have hnl := TL.numL_len (k := 12) (by decide) gt
      refine q_ifN (b := false) (hif (by simp [h6])) (fun h => by cases h) fun _ H2 e2 => ?_
      refine q_ifN (b := false) (et_B (ev_is (ev_op (ev_var rfl) ev_c rv_eqI) (congrArg V.bl (decide_eq_false (by show ¬ ((6 : Nat) : Int) = 4; decide))))) (fun h => by cases h) fun _ H3 e3 => ?_
      refine q_ifN (b := true) (et_B (ev_is (ev_op (ev_var rfl) ev_c rv_eqI) (congrArg V.bl (decide_eq_true rfl)))) (fun _ H4 e4 => ?_) fun h => by cases h
      have e14 := ((e1.trans e2).trans e3).trans e4
      have hzl : zs.length ≤ 300 := by
        rw [List.length_map] at hl
        exact hl
      refine q_asgL (el_is (el_all (el_lcT (ds := zs) (fun z => z.1) (fun _ => true) (fun z => tv (ln (co "piece") z.2)) (etp_val (ev_var rfl) (ex_t e14 hq)) (by omega) (fun _ => rfl) (fun _ _ => ety) fun z hmz _ => ?_)) rfl) fun p5 H5 hp5 e5 h5 => ?_
      · obtain ⟨b, eb, hb⟩ := dp_dT (hz z hmz)
        have hpz := hp z.2 (List.mem_map_of_mem hmz)
        exact ev_line (wd := co "piece") (ps := []) (ns := z.2) (ev_is ev_c (congrArg V.str (of_S "piece"))) (etp_new (eu_tup ea_nil (by show 0 ≤ 100000; decide))) (etp_val (ev_is (ev_var rfl) eb) (ex_t e14 hb)) (by decide) (by show 0 ≤ 10; decide) (by omega) fun n hn => lt_big (Nat.le_of_lt (hpz.2 n hn))
      · refine s_retL (el_is (el_cat (ep_new (el_cat (ep_new (el_lst (ea_cons (ev_js (ej_cons (u := co "pieces ") (ev_is ev_c (congrArg V.str (of_S "pieces "))) (by decide) (ej_cons (ev_fmtI (n := tag) (ev_var rfl) gt) (by rw [List.nil_append]; show 7 + _ ≤ _; omega) ej_nil))) ea_nil) (by show 1 ≤ 100000; decide))) (ep_val (ev_var rfl) h5) ?_)) (ep_new (el_lst (ea_cons ev_c ea_nil) (by show 1 ≤ 100000; decide))) ?_) ?_) fun p H6 hp6 e6 h6 => k p H6 (fresh_back (e14.trans e5) hp6) ((e14.trans e5).trans e6) h6
        · rw [List.length_singleton, List.length_map]
          omega
        · rw [List.length_append, List.length_singleton, List.length_singleton, List.length_map]
          omega
        · rw [of_S "end"]
          show _ = List.map tv ((co "pieces " ++ TL.numL tag) :: ((zs.map (·.2)).map (ln (co "piece")) ++ [co "end"]))
          rw [List.map_cons, List.map_append, List.map_map, List.map_map]
          rfl
    | chains cs =>
      obtain ⟨rfl, h5, hl, hg⟩ := g.w
      obtain ⟨q, zs, rfl, hq, rfl, hz⟩ := dp_zip (show Dp K H v (.tuple (cs.map (dCh d))) from hv)
      have hnl := TL.numL_len (k := 12) (by decide) gt
      refine q_ifN (b := false) (hif (by simp [h5])) (fun h => by cases h) fun _ H2 e2 => ?_
      refine q_ifN (b := false) (et_B (ev_is (ev_op (ev_var rfl) ev_c rv_eqI) (congrArg V.bl (decide_eq_false (by show ¬ ((5 : Nat) : Int) = 4; decide))))) (fun h => by cases h) fun _ H3 e3 => ?_
      refine q_ifN (b := false) (et_B (ev_is (ev_op (ev_var rfl) ev_c rv_eqI) (congrArg V.bl (decide_eq_false (by show ¬ ((5 : Nat) : Int) = 6; decide))))) (fun h => by cases h) fun _ H4 e4 => ?_
      have e14 := ((e1.trans e2).trans e3).trans e4
      let hd : List Nat := co "chains " ++ TL.numL tag
      let part : V × Ch d → List (List Nat) := fun z => co "chain" :: (lCh d z.2 ++ [co "done"])
      have hm2 : mu (zs.flatMap part) ≤ 3700000 := by
        have : mu (lEnt (lCh d) ⟨tag, 5, .chains (zs.map (·.2))⟩) = hd.length + 1 + (mu (zs.flatMap part) + 4) := by
          show mu (hd :: (((zs.map (·.2)).flatMap fun c => co "chain" :: (lCh d c ++ [co "done"])) ++ [co "end"])) = _
          rw [mu_cons, mu_append, List.flatMap_map]
          rfl
        omega
      refine q_asgL (el_lst (ea_cons (ev_js (ej_cons (u := co "chains ") (ev_is ev_c (congrArg V.str (of_S "chains "))) (by decide) (ej_cons (ev_fmtI (n := tag) (ev_var rfl) gt) (by rw [List.nil_append]; show 7 + _ ≤ _; omega) ej_nil))) ea_nil) (by show 1 ≤ 100000; decide)) fun p7 H5 hp7 e5 h5' => ?_
      have hpre : ∀ i, ((zs.take i).flatMap part).length ≤ 3700000 := fun i => by
        have h1 := mu_len ((zs.take i).flatMap part)
        have h2 : mu ((zs.take i).flatMap part) ≤ mu (zs.flatMap part) := by
          conv => rhs; rw [← List.take_append_drop i zs, List.flatMap_append, mu_append]
          omega
        omega
      refine q_forT (ev_var rfl) (ex_t (e14.trans e5) hq) (fun i σ' H' => (∃ z, σ' = ((((((start n_entry_lines [.ref a, .ref ka]).set 2 (some (iv tag))).set 3 (some (iv 5))).set 4 (some (.ref q))).set 7 (some (.ref p7))).set 8 z)) ∧ Ex H4 H' ∧ H' p7 = some (.lst ((hd :: (zs.take i).flatMap part).map tv)))
        (fun H6 e6 => ⟨⟨none, rfl⟩, e5.trans e6, (e6 _ _ h5')⟩) (fun i σ' H' _ h => ex_t (e14.trans h.2.1) hq) (fun i x σ' H' hi h => ?_) fun σ' H' h => ?_
      · obtain ⟨⟨z8, rfl⟩, e6, h6⟩ := h
        rw [List.getElem?_map] at hi
        cases hzi : zs[i]? with
        | none => rw [hzi] at hi; cases hi
        | some z =>
          rw [hzi] at hi
          cases hi
          have hmz : z ∈ zs := List.mem_of_getElem? hzi
          have hpart := mu_flat (g := part) hmz
          have hmp : mu (part z) = 6 + (mu (lCh d z.2) + 5) := by
            show mu (co "chain" :: (lCh d z.2 ++ [co "done"])) = _
            rw [mu_cons, mu_append]
            rfl
          have hll := mu_len (lCh d z.2)
          refine s_extL h6 (ev_var rfl) (el_cat (ep_new (el_cat (ep_new (el_lst (ea_cons ev_c ea_nil) (by show 1 ≤ 100000; decide))) (ep_new (el_call (ea_cons (ev_var rfl) (ea_cons (ev_var rfl) ea_nil)) fun H7 e7 Q1 q1 E1 => ⟨_, _, z.2, kn, rfl, dp_ex ((e14.trans e6).trans e7) _ _ (hz z hmz), ⟨ka, rfl, ex_t ((e14.trans e6).trans e7) hk, hkn⟩, hg _ (List.mem_map_of_mem hmz), by omega, q1⟩)) ?_)) (ep_new (el_lst (ea_cons ev_c ea_nil) (by show 1 ≤ 100000; decide))) ?_) ?_ fun H7 e7 => ?_
          · rw [List.length_singleton, List.length_map]
            omega
          · rw [List.length_append, List.length_singleton, List.length_singleton, List.length_map]
            omega
          · have := hpre i
            simp only [List.length_map, List.length_cons, List.length_append, List.length_nil]
            omega
          · refine ⟨⟨_, by rfl⟩, (e6.trans e7).mut hp7, ?_⟩
            rw [upd_same]
            have ht : (zs.take (i + 1)).flatMap part = (zs.take i).flatMap part ++ part z := by
              rw [List.take_succ, hzi, List.flatMap_append]
              simp
            rw [ht, of_S "chain", of_S "done"]
            congr 2
            have hp2 : List.map tv (part z) = V.str (SX.S (co "chain")) :: (List.map tv (lCh d z.2) ++ [V.str (SX.S (co "done"))]) := by
              show List.map tv (co "chain" :: (lCh d z.2 ++ [co "done"])) = _
              rw [List.map_cons, List.map_append]
              rfl
            simp only [List.map_cons, List.map_append, List.cons_append, List.nil_append, List.append_assoc, hp2]
      · obtain ⟨⟨z8, rfl⟩, e6, h6⟩ := h
        rw [List.length_map, List.take_length] at h6
        have hfin := hpre zs.length
        rw [List.take_length] at hfin
        refine s_retL (el_is (el_cat (ep_val (ev_var rfl) h6) (ep_new (el_lst (ea_cons ev_c ea_nil) (by show 1 ≤ 100000; decide))) ?_) ?_) fun p H7 hp8 e7 h7 => k p H7 (fresh_back (e14.trans e6) hp8) ((e14.trans e6).trans e7) h7
        · simp only [List.length_map, List.length_cons, List.length_nil]
          omega
        · rw [of_S "end"]
          show _ = List.map tv (hd :: (((zs.map (·.2)).flatMap fun c => co "chain" :: (lCh d c ++ [co "done"])) ++ [co "end"]))
          rw [List.flatMap_map, List.map_cons, List.map_cons, List.map_append]
          rfl
end
end K82
set_option maxRecDepth 100000
set_option maxHeartbeats 1000000
namespace K82
open PySem PySem.Spec PyProof.Rows L2 Evl MB
section
variable {P : Program} {w : World} {K : PySem.W.Frag} {mg : Str → Option Value} {base : Heap} {aKn aWi aOw aLi aOn aOt : Addr}
/-! ### show_tree -/
def dTree (o : List Nat) (c : Ch 4) : PyData := .tuple [.str (SX.S o), dCh 4 c]
def lTree (o : List Nat) (c : Ch 4) : List (List Nat) := (co "order " ++ o) :: lCh 4 c
def txt (ls : List (List Nat)) : List Nat := ls.flatMap fun l => l ++ [10]
theorem dp_tree {H : Hp} {v : V} {o : List Nat} {c : Ch 4} (h : Dp K H v (dTree o c)) : ∃ a x, v = .ref a ∧ SqT K H a [tv o, x] ∧ Dp K H x (dCh 4 c) := by
  obtain ⟨a, xs, rfl, hs, hd⟩ := dp_tup h
  cases hd with
  | cons h1 h2 =>
    cases h1
    cases h2 with
    | cons h1 h2 =>
      cases h2
      exact ⟨a, _, rfl, hs, h1⟩
def sp_show_tree (K : PySem.W.Frag) : Sp := fun vs H Q _ => ∃ (x y : V) (o : List Nat) (c : Ch 4) (kn : List Nat), vs = [x, y] ∧ Dp K H x (dTree o c) ∧ KnAt K H y kn ∧ gCh kn 4 c ∧ o.length ≤ 10 ∧ mu (lCh 4 c) ≤ 3600000 ∧ ∀ H', Ex H H' → Q (tv (txt (lTree o c))) H'
theorem ev_callP {sp : Sp} {E : XK} {te : TE} {σ : L2.St} {H : Hp} {xs : List V} {z : V} (h : EvL te σ H xs) (hs : ∀ p H1, Ex H H1 → H1 p = some (.lst xs) → SpV sp [.ref p] H1 z) : Ev (tCall sp [] E (tCons te tNil)) σ H z := fun H1 e Q q =>
  h H1 e _ fun p H2 _ e2 hp => hs p H2 (e.trans e2) hp H2 (Ex.refl _) Q (fun H3 e3 => q H3 (e2.trans e3)) E
theorem ok_show_tree {f : Addr} {fd : FuncData} {ke : V} (F : FunD K "show_tree" "show_tree" (defArgs s_show_tree) (defBody s_show_tree) (defScope s_show_tree) [] [("known", ke)] f fd) (T : T0 K mg aKn aWi aOw aLi aOn aOt)
    (c_chain_lines : MB.Cl P w K mg base 14 "chain_lines" (sp_chain_lines K 4)) (c_ended : MB.Cl P w K mg base 1 "ended" (sp_ended K)) : FnOk P w K mg base CX0 15 f fd p_show_tree (sp_show_tree K) := by
  refine F.ok sc_show_tree (fun vs H Q E h => ?_) (fun cdv A outer s H vs Q E hr h => ?_)
  · obtain ⟨x, y, o, c, kn, rfl, _⟩ := h
    rfl
  · obtain ⟨x, y, o, c, kn, rfl, hx, hy, g, ho, hm, k⟩ := h
    obtain ⟨a, v, rfl, hs, hv⟩ := dp_tree hx
    refine ⟨_, (pss_cons (ps_asg (pv 0) (MB.pg_tupK (K := K) (n := 2) rfl rfl (pgs_cons (pg_name (i := 2) sc_show_tree.nd rfl (.inl rfl)) (pgs_cons (pg_name (i := 3) sc_show_tree.nd rfl (.inl rfl)) pgs_nil))))
      (pss_one (ps_ret (MB.pe_cl c_ended hr (by decide) (by rfl) passL (pa_cons (pe_op (MB.op_addK (K := K) rfl) (pe_lst (pa_cons (pe_op (MB.op_addK (K := K) rfl) pe_str (pv 2)) pa_nil)) (MB.pe_cl c_chain_lines hr (by decide) (by rfl) passL (pa_cons (pv 3) (pa_cons (pv 1) pa_nil)))) pa_nil))))), ?_⟩
    refine q_tup2 (ev_var rfl) hs fun H1 e1 => ?_
    have hml := mu_len (lCh 4 c)
    refine s_ret (ev_callP (el_cat (ep_new (el_lst (ea_cons (ev_op (ev_is ev_c (congrArg V.str (of_S "order "))) (ev_var rfl) (rv_addC (by show 6 + _ ≤ _; omega))) ea_nil) (by show 1 ≤ 100000; decide))) (ep_new (el_call (ea_cons (ev_var rfl) (ea_cons (ev_var rfl) ea_nil)) fun H7 e7 Q1 q1 E1 => ⟨_, _, c, kn, rfl, dp_ex (e1.trans e7) _ _ hv, hy.ex (e1.trans e7), g, by omega, q1⟩)) (by rw [List.length_singleton, List.length_map]; omega)) fun p H2 e2 hp => fun H3 e3 Q3 q3 E3 => ⟨p, lTree o c, rfl, sq_of (e3 _ _ hp), ?_, q3⟩) fun H4 e4 => k H4 (e1.trans e4)
    unfold lTree
    rw [mu_cons, List.length_append]
    show 6 + _ + 1 + _ ≤ _
    omega
end
end K82
set_option maxRecDepth 100000
set_option maxHeartbeats 1000000
/-! the reader as a plain function of the lines, and what it makes of the lines of a tree -/
namespace K82
open PySem PySem.Spec MB
abbrev Ls := List (List Nat)
abbrev Rt (α : Type) := Except Nat (α × Ls)
def fig (c : Nat) : Bool := decide (48 ≤ c) && decide (c ≤ 57)
def numOk (w : List Nat) : Bool := (decide (1 ≤ w.length) && decide (w.length ≤ 10)) && w.all fig && !(decide (w.head? = some 48) && !decide (w = [48]))
def numBy (w : List Nat) : Option Nat := if numOk w = true then some (NumText.digitsVal w) else none
def numsBy : Ls → Option (List Nat)
  | [] => some []
  | w :: ws => match numBy w, numsBy ws with
    | some n, some ns => some (n :: ns)
    | _, _ => none
def wordsL (l : List Nat) : Ls := TL.spl [32] 0 [] l
def tagBy (w : List Nat) : Option Nat := match numBy w with
  | some n => if n ≤ 65535 then some n else none
  | none => none
def tagL (l : List Nat) : Option Nat := match wordsL l with
  | _ :: r :: _ => tagBy r
  | _ => none
def worthsB (kn : List Nat) (kind : Nat) (ns : List Nat) : Bool :=
  if kind ∈ kn then decide (ns.length ≤ 300) && ns.all (fun n => decide (n < lim kind))
  else (decide (ns.length ≤ 300 * wid kind) && ns.all (fun n => decide (n < 256))) && decide (ns.length % wid kind = 0)
def textB (t : List Nat) : Bool := decide (t.length ≤ 300) && t.all (fun c => decide (c ∈ SIGNS))
def pieceB (p : List Nat) : Bool := decide (p.length ≤ 300) && p.all (fun n => decide (n < 256))
def plainK (kn : List Nat) (raw : Bool) (k : Nat) : Bool := decide (k ≤ 65535) && ((decide (k ∉ kn) && raw) || (decide (k ∈ kn) && decide (k < 4)))
def plainIn (kn : List Nat) (raw : Bool) (ws : Ls) : Option (Nat × List Nat) := match numsBy ws with
  | some (k :: ns) => if (plainK kn raw k && worthsB kn k ns) = true then some (k, ns) else none
  | _ => none
def pieceBy (ws : Ls) : Option (List Nat) := match numsBy ws with
  | some p => if pieceB p = true then some p else none
  | none => none
def pieceL (l : List Nat) : Option (List Nat) := match wordsL l with
  | w :: rest => if w = co "piece" then pieceBy rest else none
  | [] => none
def rdPieces : Nat → Ls → Ls → Rt Ls
  | 0, _, _ => .error 0
  | _ + 1, [], _ => .error 0
  | n + 1, l :: ls, acc => if l = co "end" then .ok (acc, ls) else match pieceL l with
    | some p => if acc.length < 300 then rdPieces n ls (acc ++ [p]) else .error (ls.length + 1)
    | none => .error (ls.length + 1)
section
variable {α : Type}
def rdChains (f : Ls → Rt α) : Nat → Ls → List α → Rt (List α)
  | 0, _, _ => .error 0
  | _ + 1, [], _ => .error 0
  | n + 1, l :: ls, acc => if l = co "end" then .ok (acc, ls) else if l = co "chain" ∧ acc.length < 300 then match f ls with
      | .ok (c, ls') => rdChains f n ls' (acc ++ [c])
      | .error c => .error c
    else .error (ls.length + 1)
def mapR {β : Type} (g : α → β) : Rt α → Rt β
  | .ok (x, ls) => .ok (g x, ls)
  | .error c => .error c
def rdEnt (f : Ls → Rt α) (kn : List Nat) (raw : Bool) (l : List Nat) (ls : Ls) : Rt (Ent α) :=
  match wordsL l with
  | w :: r :: rest => match tagBy r with
    | none => .error (ls.length + 1)
    | some tag =>
      if w = co "entry" then match plainIn kn raw rest with
        | some (k, ns) => .ok (⟨tag, k, .nums ns⟩, ls)
        | none => .error (ls.length + 1)
      else if w = co "text" then
        if 4 ∈ kn ∧ rest ≠ [] ∧ textB (l.drop (w.length + r.length + 2)) = true then .ok (⟨tag, 4, .text (l.drop (w.length + r.length + 2))⟩, ls) else .error (ls.length + 1)
      else if rest = [] ∧ w = co "chains" ∧ 5 ∈ kn then mapR (fun cs => ⟨tag, 5, .chains cs⟩) (rdChains f (ls.length + 1) ls [])
      else if rest = [] ∧ w = co "pieces" ∧ 6 ∈ kn then mapR (fun ps => ⟨tag, 6, .pieces ps⟩) (rdPieces (ls.length + 1) ls [])
      else .error (ls.length + 1)
  | _ => .error (ls.length + 1)
/-- may this line stand behind an entry of the tag -/
def nextOk (tag : Nat) (l : List Nat) : Bool := decide (l = co "end") || match tagL l with
  | some n => decide (tag < n)
  | none => false
def rdTab (e : List Nat → Ls → Rt (Ent α)) : Nat → Ls → List (Ent α) → Rt (List (Ent α))
  | 0, _, _ => .error 0
  | _ + 1, [], _ => .error 0
  | n + 1, l :: ls, acc => if l = co "end" then .ok (acc, ls) else if acc.length < 40 then match e l ls with
      | .error c => .error c
      | .ok (x, []) => .error 0
      | .ok (x, l' :: ls') => if nextOk x.tag l' = true then rdTab e n (l' :: ls') (acc ++ [x]) else .error (ls'.length + 1)
    else .error (ls.length + 1)
/-- last: the chain ends with "done"; else where the lines end -/
def rdTabs (last : Bool) (rest : List Nat) (e : List Nat → Ls → Rt (Ent α)) : Nat → Ls → List (List (Ent α)) → Rt (List (List (Ent α)))
  | 0, _, _ => .error 0
  | _ + 1, [], acc => if last = false ∧ rest = [] then .ok (acc, []) else .error 0
  | n + 1, l :: ls, acc => if last = true ∧ l = co "done" then .ok (acc, ls) else if l = co "table" ∧ acc.length < 10 then match rdTab e (ls.length + 1) ls [] with
      | .ok (t, ls') => rdTabs last rest e n ls' (acc ++ [t])
      | .error c => .error c
    else .error (ls.length + 1)
end
/-- a chain within: it ends with "done" -/
def rdCh (kn : List Nat) (raw : Bool) : (d : Nat) → Ls → Rt (Ch d)
  | 0, [] => .error 0
  | 0, l :: ls => if l = co "done" then .ok ((), ls) else .error (ls.length + 1)
  | d + 1, ls => rdTabs true [] (rdEnt (rdCh kn raw d) kn raw) (ls.length + 1) ls []
def orderOk (o : List Nat) : Bool := decide (o = co "small") || decide (o = co "great")
def rdTop (kn : List Nat) (rest : List Nat) (ls : Ls) : Rt (Ch 4) := rdTabs false rest (rdEnt (rdCh kn true 3) kn true) (ls.length + 1) ls []
/-- the lines behind the text's last line end: rest -/
def rdTree (kn : List Nat) (rest : List Nat) : Ls → Rt (List Nat × Ch 4)
  | [] => .error 0
  | l :: ls => match wordsL l with
    | [w, o] => if w = co "order" ∧ orderOk o = true then mapR (fun c => (o, c)) (rdTop kn rest ls) else .error (ls.length + 1)
    | _ => .error (ls.length + 1)
/-! ### numbers -/
theorem numL_head : ∀ n : Nat, (TL.numL n).head? = some 48 → n = 0
  | n, h => by
    by_cases h10 : n < 10
    · rw [TL.numL_lt h10] at h
      simp at h
      omega
    · have := numL_head (n / 10)
      rw [TL.numL_step (by omega)] at h
      have h2 : (TL.numL (n / 10)).head? = some 48 := by
        cases hq : TL.numL (n / 10) with
        | nil => exact absurd hq (TL.numL_ne _)
        | cons c r => rw [hq] at h; exact h
      have := this h2
      omega
termination_by n => n
decreasing_by omega
theorem numL_fig (n : Nat) : (TL.numL n).all fig = true := by
  rw [List.all_eq_true]
  intro c hc
  have := TL.numL_digits n c hc
  unfold fig
  simp [this]
theorem numBy_num {n : Nat} (h : n < 10000000000) : numBy (TL.numL n) = some n := by
  unfold numBy
  have h1 : 1 ≤ (TL.numL n).length := List.length_pos_iff.mpr (TL.numL_ne n)
  have h2 := TL.numL_len (k := 10) (by decide) h
  have h3 : (decide ((TL.numL n).head? = some 48) && !decide (TL.numL n = [48])) = false := by
    by_cases hh : (TL.numL n).head? = some 48
    · obtain rfl := numL_head n hh
      rfl
    · rw [decide_eq_false hh]
      rfl
  rw [if_pos, TL.numL_val]
  unfold numOk
  rw [h3, numL_fig, decide_eq_true h1, decide_eq_true h2]
  rfl
theorem numsBy_num : ∀ {ns : List Nat}, (∀ n ∈ ns, n < 10000000000) → numsBy (ns.map TL.numL) = some ns
  | [], _ => rfl
  | n :: ns, h => by
    rw [List.map_cons, numsBy, numBy_num (h n (List.mem_cons_self ..)), numsBy_num fun m hm => h m (List.mem_cons_of_mem _ hm)]
theorem words_ln {w : List Nat} {ns : List Nat} (h : 32 ∉ w) : wordsL (ln w ns) = w :: ns.map TL.numL :=
  TL.spl_join (List.cons_ne_nil _ _) fun p hp => by
    rcases List.mem_cons.mp hp with rfl | hp
    · exact h
    · obtain ⟨n, _, rfl⟩ := List.mem_map.mp hp
      exact TL.numL_free (by decide)
theorem words_2 {w : List Nat} {n : Nat} (h : 32 ∉ w) : wordsL (w ++ 32 :: TL.numL n) = [w, TL.numL n] := by
  unfold wordsL
  have := TL.spl_part1 (S := []) (acc := []) (rest := TL.numL n) h
  rw [show w ++ 32 :: TL.numL n = w ++ ([32] ++ TL.numL n) from rfl, this, TL.spl_last1 (TL.numL_free (by decide))]
  rfl
theorem words_3 {w : List Nat} {n : Nat} {t : List Nat} (h : 32 ∉ w) : wordsL (w ++ 32 :: (TL.numL n ++ 32 :: t)) = w :: TL.numL n :: wordsL t := by
  unfold wordsL
  have := TL.spl_part1 (S := []) (acc := []) (rest := TL.numL n ++ 32 :: t) h
  rw [show w ++ 32 :: (TL.numL n ++ 32 :: t) = w ++ ([32] ++ (TL.numL n ++ 32 :: t)) from rfl, this]
  have := TL.spl_part1 (S := []) (acc := []) (rest := t) (p := TL.numL n) (s := 32) (TL.numL_free (by decide))
  rw [show TL.numL n ++ 32 :: t = TL.numL n ++ ([32] ++ t) from rfl, this]
  rfl
theorem tagBy_num {n : Nat} (h : n ≤ 65535) : tagBy (TL.numL n) = some n := by
  unfold tagBy
  rw [numBy_num (by omega)]
  exact if_pos h
/-! ### the printed lines, read -/
theorem rdPieces_ok {ls : Ls} : ∀ (ps : Ls) (n : Nat) (acc : Ls), ps.length < n → acc.length + ps.length ≤ 300 → (∀ p ∈ ps, p.length ≤ 300 ∧ ∀ x ∈ p, x < 256) →
    rdPieces n (ps.map (ln (co "piece")) ++ co "end" :: ls) acc = .ok (acc ++ ps, ls)
  | [], n + 1, acc, _, _, _ => by
    rw [List.map_nil, List.nil_append, rdPieces, if_pos rfl, List.append_nil]
  | p :: ps, n + 1, acc, h1, h2, h3 => by
    have hp := h3 p (List.mem_cons_self ..)
    have hw : wordsL (ln (co "piece") p) = co "piece" :: p.map TL.numL := words_ln (by decide)
    have hne : ln (co "piece") p ≠ co "end" := fun z => by
      rw [z] at hw
      have : wordsL (co "end") = [co "end"] := by decide
      rw [this] at hw
      injection hw with hw
      exact absurd hw (by decide)
    have hpl : pieceL (ln (co "piece") p) = some p := by
      unfold pieceL
      rw [hw]
      show (if co "piece" = co "piece" then _ else _) = _
      rw [if_pos rfl]
      unfold pieceBy
      rw [numsBy_num fun x hx => Nat.lt_trans (hp.2 x hx) (by decide)]
      show (if pieceB p = true then _ else _) = _
      rw [if_pos]
      unfold pieceB
      rw [decide_eq_true hp.1, Bool.true_and, List.all_eq_true]
      exact fun x hx => decide_eq_true (hp.2 x hx)
    rw [List.length_cons] at h1 h2
    rw [List.map_cons, List.cons_append, rdPieces, if_neg hne, hpl]
    show (if acc.length < 300 then _ else _) = _
    rw [if_pos (by omega), rdPieces_ok ps n (acc ++ [p]) (by omega) (by rw [List.length_append, List.length_singleton]; omega) fun q hq => h3 q (List.mem_cons_of_mem _ hq), List.append_assoc]
    rfl
  | _, 0, _, h, _, _ => absurd h (Nat.not_lt_zero _)
section
variable {α : Type} {f : Ls → Rt α} {lc : α → Ls} {kn : List Nat} {g : α → Prop} {raw : Bool}
theorem rdChains_ok {ls : Ls} : ∀ (cs : List α) (n : Nat) (acc : List α), cs.length < n → acc.length + cs.length ≤ 300 → (∀ c ∈ cs, ∀ ls, f (lc c ++ co "done" :: ls) = .ok (c, ls)) →
    rdChains f n ((cs.flatMap fun c => co "chain" :: (lc c ++ [co "done"])) ++ co "end" :: ls) acc = .ok (acc ++ cs, ls)
  | [], n + 1, acc, _, _, _ => by
    rw [List.flatMap_nil, List.nil_append, rdChains, if_pos rfl, List.append_nil]
  | c :: cs, n + 1, acc, h1, h2, h3 => by
    rw [List.length_cons] at h1 h2
    have e : ((c :: cs).flatMap fun c => co "chain" :: (lc c ++ [co "done"])) ++ co "end" :: ls = co "chain" :: (lc c ++ co "done" :: ((cs.flatMap fun c => co "chain" :: (lc c ++ [co "done"])) ++ co "end" :: ls)) := by
      rw [List.flatMap_cons]
      simp
    rw [e, rdChains, if_neg (by decide), if_pos ⟨rfl, by omega⟩, h3 c (List.mem_cons_self ..)]
    show rdChains f n _ (acc ++ [c]) = _
    rw [rdChains_ok cs n (acc ++ [c]) (by omega) (by rw [List.length_append, List.length_singleton]; omega) fun q hq => h3 q (List.mem_cons_of_mem _ hq), List.append_assoc]
    rfl
  | _, 0, _, h, _, _ => absurd h (Nat.not_lt_zero _)
theorem wo_nums {k : Nat} {ns : List Nat} (hr : raw = true) (hk : k ≤ 65535) (h : gWo kn g k (.nums ns)) : (plainK kn raw k && worthsB kn k ns) = true ∧ ∀ n ∈ ns, n < 10000000000 := by
  subst hr
  unfold plainK worthsB
  rcases h with ⟨h1, h2, h3, h4⟩ | ⟨h1, h2, h3, h4⟩
  · have hlim : lim k ≤ 4294967296 := by
      unfold lim
      repeat' split
      all_goals decide
    refine ⟨?_, fun n hn => Nat.lt_of_lt_of_le (h4 n hn) (Nat.le_trans hlim (by decide))⟩
    rw [if_pos h1]
    simp [h1, h2, h3, hk]
    exact h4
  · refine ⟨?_, fun n hn => Nat.lt_of_lt_of_le (h4 n hn) (by decide)⟩
    rw [if_neg h1]
    simp [h1, h2, h3, hk]
    exact h4
theorem co_free (s : String) (h : 32 ∉ co s := by decide) : 32 ∉ co s := h
theorem text_line {tag : Nat} {t : List Nat} : co "text " ++ TL.numL tag ++ 32 :: t = co "text" ++ 32 :: (TL.numL tag ++ 32 :: t) := by
  rw [List.append_assoc]
  rfl
/-- the first line of an entry -/
def hd (e : Ent α) : List Nat := match e.w with
  | .nums ns => ln (co "entry") (e.tag :: e.kind :: ns)
  | .text t => co "text " ++ TL.numL e.tag ++ 32 :: t
  | .pieces _ => co "pieces " ++ TL.numL e.tag
  | .chains _ => co "chains " ++ TL.numL e.tag
theorem hd_words (e : Ent α) : ∃ w rest, wordsL (hd e) = w :: TL.numL e.tag :: rest := by
  obtain ⟨tag, kind, w⟩ := e
  cases w with
  | nums ns => exact ⟨_, _, words_ln (by decide)⟩
  | text t =>
    refine ⟨co "text", wordsL t, ?_⟩
    show wordsL (co "text " ++ TL.numL tag ++ 32 :: t) = _
    rw [text_line]
    exact words_3 (by decide)
  | pieces ps => exact ⟨co "pieces", [], words_2 (w := co "pieces") (by decide)⟩
  | chains cs => exact ⟨co "chains", [], words_2 (w := co "chains") (by decide)⟩
theorem hd_tag {e : Ent α} (h : e.tag ≤ 65535) : tagL (hd e) = some e.tag := by
  obtain ⟨w, rest, e1⟩ := hd_words e
  unfold tagL
  rw [e1]
  exact tagBy_num h
theorem hd_ne (e : Ent α) : hd e ≠ co "end" := fun z => by
  obtain ⟨w, rest, e1⟩ := hd_words e
  rw [z] at e1
  have : wordsL (co "end") = [co "end"] := by decide
  rw [this] at e1
  cases e1
theorem lEnt_hd (e : Ent α) : ∃ more, lEnt lc e = hd e :: more := by
  obtain ⟨tag, kind, w⟩ := e
  cases w with
  | nums ns => exact ⟨_, rfl⟩
  | text t => exact ⟨_, rfl⟩
  | pieces ps => exact ⟨_, rfl⟩
  | chains cs => exact ⟨_, rfl⟩
theorem rdEnt_ok {e : Ent α} (hr : raw = true) (ge : GEnt kn g e) (hf : ∀ c, g c → ∀ ls, f (lc c ++ co "done" :: ls) = .ok (c, ls)) :
    ∃ more, lEnt lc e = hd e :: more ∧ ∀ ls, rdEnt f kn raw (hd e) (more ++ ls) = .ok (e, ls) := by
  obtain ⟨tag, kind, w⟩ := e
  have ht : tag ≤ 65535 := ge.tag
  have hk : kind ≤ 65535 := ge.kind
  have gw := ge.w
  cases w with
  | nums ns =>
    refine ⟨[], rfl, fun ls => ?_⟩
    obtain ⟨h1, h2⟩ := wo_nums hr hk gw
    have hw : wordsL (hd (⟨tag, kind, .nums ns⟩ : Ent α)) = co "entry" :: TL.numL tag :: (kind :: ns).map TL.numL := words_ln (by decide)
    unfold rdEnt
    rw [hw]
    dsimp only
    rw [tagBy_num ht]
    dsimp only
    rw [if_pos rfl]
    unfold plainIn
    rw [numsBy_num fun n hn => by
      rcases List.mem_cons.mp hn with rfl | hn
      · omega
      · exact h2 n hn]
    dsimp only
    rw [if_pos h1]
    rfl
  | text t =>
    refine ⟨[], rfl, fun ls => ?_⟩
    obtain ⟨rfl, h4, hl, hs⟩ := gw
    have hw : wordsL (hd (⟨tag, 4, .text t⟩ : Ent α)) = co "text" :: TL.numL tag :: wordsL t := by
      show wordsL (co "text " ++ TL.numL tag ++ 32 :: t) = _
      rw [text_line]
      exact words_3 (by decide)
    have hd1 : (hd (⟨tag, 4, .text t⟩ : Ent α)).drop ((co "text").length + (TL.numL tag).length + 2) = t := by
      show (co "text " ++ TL.numL tag ++ 32 :: t).drop _ = t
      rw [show co "text " ++ TL.numL tag ++ 32 :: t = (co "text " ++ TL.numL tag ++ [32]) ++ t by simp, List.drop_append_of_le_length]
      · rw [List.drop_of_length_le]
        · rfl
        · simp [co]
          omega
      · simp [co]
        omega
    unfold rdEnt
    rw [hw]
    dsimp only
    rw [tagBy_num ht]
    dsimp only
    rw [if_neg (by decide), if_pos rfl, hd1, if_pos]
    · rfl
    · refine ⟨h4, ?_, ?_⟩
      · exact MB.spl_ne _ _ _ _
      · unfold textB
        rw [decide_eq_true hl, Bool.true_and, List.all_eq_true]
        exact fun x hx => decide_eq_true (hs x hx)
  | pieces ps =>
    refine ⟨ps.map (ln (co "piece")) ++ [co "end"], rfl, fun ls => ?_⟩
    obtain ⟨rfl, h6, hl, hp⟩ := gw
    have hw : wordsL (hd (⟨tag, 6, .pieces ps⟩ : Ent α)) = [co "pieces", TL.numL tag] := words_2 (w := co "pieces") (by decide)
    unfold rdEnt
    rw [hw]
    dsimp only
    rw [tagBy_num ht]
    dsimp only
    rw [if_neg (by decide), if_neg (by decide), if_neg (fun z => absurd z.2.1 (by decide)), if_pos ⟨rfl, rfl, h6⟩, List.append_assoc]
    rw [show [co "end"] ++ ls = co "end" :: ls from rfl, rdPieces_ok ps _ [] (by simp; omega) (by simpa using hl) hp]
    rfl
  | chains cs =>
    refine ⟨(cs.flatMap fun c => co "chain" :: (lc c ++ [co "done"])) ++ [co "end"], rfl, fun ls => ?_⟩
    obtain ⟨rfl, h5, hl, hc⟩ := gw
    have hw : wordsL (hd (⟨tag, 5, .chains cs⟩ : Ent α)) = [co "chains", TL.numL tag] := words_2 (w := co "chains") (by decide)
    have hlen : cs.length ≤ (cs.flatMap fun c => co "chain" :: (lc c ++ [co "done"])).length := by
      clear hl hc hw ge
      induction cs with
      | nil => exact Nat.le_refl _
      | cons c cs ih => rw [List.flatMap_cons, List.length_append, List.length_cons, List.length_cons]; omega
    unfold rdEnt
    rw [hw]
    dsimp only
    rw [tagBy_num ht]
    dsimp only
    rw [if_neg (by decide), if_neg (by decide), if_pos ⟨rfl, rfl, h5⟩, List.append_assoc]
    rw [show [co "end"] ++ ls = co "end" :: ls from rfl, rdChains_ok (lc := lc) cs _ [] (by rw [List.length_append]; omega) (by simpa using hl) fun c hm => hf c (hc c hm)]
    rfl
theorem rdTab_ok {e : List Nat → Ls → Rt (Ent α)} {ls : Ls} : ∀ (es : List (Ent α)) (n : Nat) (acc : List (Ent α)), es.length < n → acc.length + es.length ≤ 40 → es.Pairwise (fun a b => a.tag < b.tag) → (∀ x ∈ es, x.tag ≤ 65535) →
    (∀ x ∈ es, ∃ more, lEnt lc x = hd x :: more ∧ ∀ ls, e (hd x) (more ++ ls) = .ok (x, ls)) →
    rdTab e n (es.flatMap (lEnt lc) ++ co "end" :: ls) acc = .ok (acc ++ es, ls)
  | [], n + 1, acc, _, _, _, _, _ => by
    rw [List.flatMap_nil, List.nil_append, rdTab, if_pos rfl, List.append_nil]
  | x :: es, n + 1, acc, h1, h2, h3, h4, h5 => by
    rw [List.length_cons] at h1 h2
    obtain ⟨more, e1, e2⟩ := h5 x (List.mem_cons_self ..)
    have ih := rdTab_ok (ls := ls) es n (acc ++ [x]) (by omega) (by rw [List.length_append, List.length_singleton]; omega) (List.pairwise_cons.mp h3).2 (fun y hy => h4 y (List.mem_cons_of_mem _ hy)) fun y hy => h5 y (List.mem_cons_of_mem _ hy)
    rw [List.append_assoc] at ih
    rw [List.flatMap_cons, e1, List.cons_append, List.cons_append, List.append_assoc, rdTab, if_neg (hd_ne x), if_pos (by omega), e2]
    cases es with
    | nil =>
      show (if nextOk x.tag (co "end") = true then _ else _) = _
      rw [if_pos (by unfold nextOk; simp)]
      exact ih
    | cons y es =>
      obtain ⟨more2, e3⟩ := lEnt_hd (lc := lc) y
      rw [List.flatMap_cons, e3, List.cons_append, List.cons_append] at ih ⊢
      show (if nextOk x.tag (hd y) = true then _ else _) = _
      rw [if_pos]
      · exact ih
      · unfold nextOk
        rw [hd_tag (h4 y (by simp))]
        have := (List.pairwise_cons.mp h3).1 y (List.mem_cons_self ..)
        simp [this]
  | _, 0, _, h, _, _, _, _ => absurd h (Nat.not_lt_zero _)
theorem ents_len (es : List (Ent α)) : es.length ≤ (es.flatMap (lEnt lc)).length := by
  induction es with
  | nil => exact Nat.le_refl _
  | cons x es ih =>
    obtain ⟨more, e⟩ := lEnt_hd (lc := lc) x
    rw [List.flatMap_cons, List.length_append, e, List.length_cons, List.length_cons]
    omega
theorem rdTabs_ok {last : Bool} {rest : List Nat} {e : List Nat → Ls → Rt (Ent α)} {ls : Ls} (hl : last = false → ls = [] ∧ rest = []) : ∀ (ts : List (List (Ent α))) (n : Nat) (acc : List (List (Ent α))), ts.length < n → acc.length + ts.length ≤ 10 → (∀ t ∈ ts, GTab kn g t) →
    (∀ t ∈ ts, ∀ x ∈ t, ∃ more, lEnt lc x = hd x :: more ∧ ∀ ls, e (hd x) (more ++ ls) = .ok (x, ls)) →
    rdTabs last rest e n (ts.flatMap (lTab lc) ++ (if last = true then co "done" :: ls else ls)) acc = .ok (acc ++ ts, ls)
  | [], n + 1, acc, _, _, _, _ => by
    rw [List.flatMap_nil, List.nil_append]
    cases last with
    | true =>
      rw [if_pos rfl, rdTabs, if_pos ⟨rfl, rfl⟩, List.append_nil]
    | false =>
      obtain ⟨rfl, rfl⟩ := hl rfl
      rw [if_neg (by decide), rdTabs, if_pos ⟨rfl, rfl⟩, List.append_nil]
  | t :: ts, n + 1, acc, h1, h2, h3, h4 => by
    rw [List.length_cons] at h1 h2
    have gt := h3 t (List.mem_cons_self ..)
    have e1 : (t :: ts).flatMap (lTab lc) ++ (if last = true then co "done" :: ls else ls) = co "table" :: (t.flatMap (lEnt lc) ++ co "end" :: (ts.flatMap (lTab lc) ++ (if last = true then co "done" :: ls else ls))) := by
      rw [List.flatMap_cons]
      unfold lTab
      simp
    rw [e1, rdTabs, if_neg (fun z => absurd z.2 (by decide)), if_pos ⟨rfl, by omega⟩]
    have hlen := ents_len (lc := lc) t
    rw [rdTab_ok (lc := lc) t _ [] (by rw [List.length_append]; omega) (by rw [List.length_nil, Nat.zero_add]; exact gt.few) gt.up (fun x hx => (gt.all x hx).tag) (h4 t (List.mem_cons_self ..))]
    show rdTabs last rest e n _ (acc ++ [t]) = _
    rw [rdTabs_ok hl ts n (acc ++ [t]) (by omega) (by rw [List.length_append, List.length_singleton]; omega) (fun y hy => h3 y (List.mem_cons_of_mem _ hy)) fun y hy => h4 y (List.mem_cons_of_mem _ hy), List.append_assoc]
    rfl
  | _, 0, _, h, _, _, _ => absurd h (Nat.not_lt_zero _)
theorem tabs_len (ts : List (List (Ent α))) : ts.length ≤ (ts.flatMap (lTab lc)).length := by
  induction ts with
  | nil => exact Nat.le_refl _
  | cons x es ih =>
    rw [List.flatMap_cons, List.length_append]
    unfold lTab at *
    simp only [List.length_cons, List.length_append] at *
    omega
end
theorem rdCh_ok (kn : List Nat) : ∀ (d : Nat) (c : Ch d), gCh kn d c → ∀ ls, rdCh kn true d (lCh d c ++ co "done" :: ls) = .ok (c, ls)
  | 0, c, _, ls => by
    exact if_pos (c := co "done" = co "done") rfl
  | d + 1, c, g, ls => by
    have g' : GCha kn (gCh kn d) c := g
    have hc : List (List (Ent (Ch d))) := c
    have h := rdTabs_ok (α := Ch d) (lc := lCh d) (kn := kn) (g := gCh kn d) (last := true) (rest := []) (e := rdEnt (rdCh kn true d) kn true) (ls := ls) (fun z => by cases z) c ((lCh (d + 1) c ++ co "done" :: ls).length + 1) [] (by
      have := tabs_len (lc := lCh d) (show List (List (Ent (Ch d))) from c)
      show List.length (show List (List (Ent (Ch d))) from c) < ((show List (List (Ent (Ch d))) from c).flatMap (lTab (lCh d)) ++ co "done" :: ls).length + 1
      rw [List.length_append]
      omega) (by rw [List.length_nil, Nat.zero_add]; exact g'.few) g'.all fun t ht x hx => rdEnt_ok rfl ((g'.all t ht).all x hx) (rdCh_ok kn d)
    rw [if_pos rfl] at h
    exact h
theorem rdTree_ok {kn : List Nat} {o : List Nat} {c : Ch 4} (ho : orderOk o = true) (g : gCh kn 4 c) : rdTree kn [] ((co "order " ++ o) :: lCh 4 c) = .ok ((o, c), []) := by
  have g' : GCha kn (gCh kn 3) c := g
  have hw : wordsL (co "order " ++ o) = [co "order", o] := by
    unfold orderOk at ho
    rw [Bool.or_eq_true, decide_eq_true_eq, decide_eq_true_eq] at ho
    rcases ho with rfl | rfl <;> decide
  have h := rdTabs_ok (α := Ch 3) (lc := lCh 3) (kn := kn) (g := gCh kn 3) (last := false) (rest := []) (e := rdEnt (rdCh kn true 3) kn true) (ls := []) (fun _ => ⟨rfl, rfl⟩) c ((lCh 4 c).length + 1) [] (by
      have := tabs_len (lc := lCh 3) (show List (List (Ent (Ch 3))) from c)
      show List.length (show List (List (Ent (Ch 3))) from c) < ((show List (List (Ent (Ch 3))) from c).flatMap (lTab (lCh 3))).length + 1
      omega) (by rw [List.length_nil, Nat.zero_add]; exact g'.few) g'.all fun t ht x hx => rdEnt_ok rfl ((g'.all t ht).all x hx) (rdCh_ok kn 3)
  rw [if_neg (by decide), List.append_nil] at h
  have h2 : rdTop kn [] (lCh 4 c) = .ok (c, []) := h
  unfold rdTree
  dsimp only
  rw [hw]
  dsimp only
  rw [if_pos ⟨rfl, ho⟩, h2]
  rfl
end K82
set_option maxRecDepth 100000
set_option maxHeartbeats 1000000
namespace K82
open PySem PySem.Spec PyProof.Rows L2 Evl MB
section
variable {P : Program} {w : World} {K : PySem.W.Frag} {mg : Str → Option Value} {base : Heap} {aKn aWi aOw aLi aOn aOt : Addr}
/-! ### are_numbers -/
def numsB (ns : List Nat) (lim most : Int) : Bool := decide ((ns.length : Int) ≤ most) && ns.all (fun n => decide ((n : Int) < lim))
/-- a tuple of numbers, or None -/
def NumsV (K : PySem.W.Frag) (H : Hp) (x : V) (o : Option (List Nat)) : Prop := match o with
  | none => x = .non
  | some ns => ∃ q, x = .ref q ∧ SqT K H q (ns.map iv)
theorem NumsV.ex {H H' : Hp} {x : V} {o : Option (List Nat)} (e : Ex H H') (h : NumsV K H x o) : NumsV K H' x o := by
  cases o with
  | none => exact h
  | some ns =>
    obtain ⟨q, rfl, hq⟩ := h
    exact ⟨q, rfl, ex_t e hq⟩
def sp_are_numbers (K : PySem.W.Frag) : Sp := fun vs H Q _ => ∃ (x : V) (o : Option (List Nat)) (lim most : Int), vs = [x, .int lim, .int most] ∧ NumsV K H x o ∧ (∀ ns ∈ o, ns.length ≤ 3500000) ∧ ∀ H', Ex H H' → Q (.bl (match o with
  | none => false
  | some ns => numsB ns lim most)) H'
theorem rc_isiNon {K : PySem.W.Frag} {H : Hp} {c : String} {b : Bool} (hk : kitB "NoneType" c = some b) : RC (rIsiA K) [.non, .ty c] H (.bl b) := rc_isi (.base .non) hk fun _ _ => .base .non
theorem ok_are_numbers {f : Addr} {fd : FuncData} {ke : V} (F : FunD K "are_numbers" "are_numbers" (defArgs s_are_numbers) (defBody s_are_numbers) (defScope s_are_numbers) [] [("most", ke)] f fd) (T : T0 K mg aKn aWi aOw aLi aOn aOt)
    (c_is_whole : MB.Cl P w K mg base 1 "is_whole" sp_is_whole) : FnOk P w K mg base CX0 2 f fd p_are_numbers (sp_are_numbers K) := by
  refine F.ok sc_are_numbers (fun vs H Q E h => ?_) (fun cdv A outer s H vs Q E hr h => ?_)
  · obtain ⟨q, ns, lim, most, rfl, _⟩ := h
    rfl
  · obtain ⟨x, o, lim, most, rfl, hx, h2, k⟩ := h
    refine ⟨_, (pss_cons (ps_if (PW.pt (pw_or (pt_not (pt_val (pe_callB (MB.call_isiK (K := K) rfl) (by rfl) T.n_isinstance MB.bo_isinstance (pa_cons (pv 0) (pa_cons (pe_bltn (v := .ty "tuple") (by rfl) T.n_tuple MB.bo_tuple rfl) pa_nil))))) (pw_or1 (pt_cmpR op_gt (pe_callB (MB.call_lenK (K := K) rfl) (by rfl) T.n_len MB.bo_len (pa_cons (pv 0) pa_nil)) (pv 2) (nomark _))))) (pss_one (ps_ret pe_bl)) pss_nil)
      (pss_one (ps_ret (pe_callB (MB.cr_allK (K := K) rfl rfl) (by rfl) T.n_all MB.bo_all (pa_cons (pe_lc (own := [("one", 3)]) (by rfl) sc_are_numbers.nd (MB.pi_tupK (K := K) rfl (pv 0)) (blkOk_by (own := [("one", 3)]) (N := n_are_numbers) (sc := defScope s_are_numbers) (by decide +kernel)) (fun _ _ _ _ _ => (pg_name (i := 3) sc_are_numbers.nd rfl (.inl rfl))) (fun _ _ _ _ _ => pts_nil) (fun _ _ _ _ _ => (MB.pe_cl c_is_whole hr (by decide) (by rfl) passL (pa_cons (pv 3) (pa_cons (pe_op op_sub (pv 1) pe_int) pa_nil))))) pa_nil))))), ?_⟩
    cases o with
    | none =>
      obtain rfl : x = .non := hx
      refine q_ifN (b := true) (et_is (et_or (a := true) (b := true) (et_not (a := false) (et_test (ev_cb2 (ev_var rfl) ev_c (rc_isiNon (by decide +kernel))))) fun h => by cases h) rfl) (fun _ H1 e1 => ?_) fun h => by cases h
      exact s_ret ev_c fun H2 e2 => k H2 (e1.trans e2)
    | some ns =>
      obtain ⟨q, rfl, hq⟩ := hx
      have h2 := h2 ns rfl
      have hl : (ns.map iv).length = ns.length := List.length_map _
      refine q_ifN (b := decide (most < (ns.length : Int))) (et_is (et_or (a := false) (b := decide (most < (ns.length : Int))) (et_not (a := true) (et_test (ev_cb2 (ev_var rfl) ev_c (MB.rc_isiTup hq (by decide +kernel))))) fun _ => et_B (ev_is (ev_op (ev_cb1 (ev_var rfl) (rc_lenT hq)) (ev_var rfl) rv_I0) (congrArg V.bl (by rw [hl])))) rfl) (fun hb H1 e1 => ?_) fun hb H1 e1 => ?_
      · have hb := of_decide_eq_true hb
        refine s_ret (ev_is ev_c (w := .bl (numsB ns lim most)) ?_) fun H2 e2 => k H2 (e1.trans e2)
        unfold numsB
        rw [decide_eq_false (by omega)]
        rfl
      · have hb := of_decide_eq_false hb
        refine s_ret (ev_is (MB.ev_allL (bs := ns.map fun (n : Nat) => decide ((n : Int) < lim)) ?_) (w := .bl (numsB ns lim most)) ?_) fun H2 e2 => k H2 (e1.trans e2)
        · refine els_new (el_is (el_all (el_lcT (ds := ns) iv (fun _ => true) (fun (n : Nat) => .bl (decide ((n : Int) < lim))) (etp_val (ev_var rfl) (ex_t e1 hq)) (by omega) (fun _ => by rfl) (fun _ _ => ety) fun n hm _ => ?_)) ?_)
          · refine ev_call (ea_cons (ev_var rfl) (ea_cons (ev_op (ev_var rfl) ev_c rv_I0) ea_nil)) fun H1 e Q q E => ⟨_, _, rfl, fun H2 e2 => ?_⟩
            have e1 : (decide ((0 : Int) ≤ (n : Int)) && decide ((n : Int) ≤ lim - 1)) = decide ((n : Int) < lim) := by
              rw [decide_eq_true (by omega), Bool.true_and, decide_eq_decide]
              omega
            rw [e1]
            exact q H2 e2
          · rw [List.map_map]
            rfl
        · unfold numsB
          rw [decide_eq_true (by omega), Bool.true_and, List.all_map]
          rfl
/-! ### is_piece, are_pieces -/
def sp_is_piece (K : PySem.W.Frag) : Sp := fun vs H Q _ => ∃ (x : V) (o : Option (List Nat)), vs = [x] ∧ NumsV K H x o ∧ (∀ ns ∈ o, ns.length ≤ 3500000) ∧ ∀ H', Ex H H' → Q (.bl (match o with
  | none => false
  | some ns => pieceB ns)) H'
theorem numsB_piece (ns : List Nat) : numsB ns 256 300 = pieceB ns := by
  unfold numsB pieceB
  have e1 : decide ((ns.length : Int) ≤ 300) = decide (ns.length ≤ 300) := decide_eq_decide.mpr (by omega)
  rw [e1]
  congr 1
  congr 1
  funext n
  exact decide_eq_decide.mpr (by omega)
theorem ok_is_piece {f : Addr} {fd : FuncData} (F : Fun K "is_piece" "is_piece" s_is_piece f fd) (T : T0 K mg aKn aWi aOw aLi aOn aOt) (d_are_numbers : MB.ClD P w K mg base 2 "are_numbers" (sp_are_numbers K) [.int 300]) : FnOk P w K mg base CX0 3 f fd p_is_piece (sp_is_piece K) := by
  refine F.ok sc_is_piece (fun vs H Q E h => ?_) (fun cdv A outer s H vs Q E hr h => ?_)
  · obtain ⟨q, ns, rfl, _⟩ := h
    rfl
  · obtain ⟨x, o, rfl, hx, h2, k⟩ := h
    refine ⟨_, (pss_one (ps_ret (MB.pe_clD d_are_numbers hr (by decide) (by rfl) passL (pa_cons (pv 0) (pa_cons (pe_gc (by rfl) T.g_BYTE) pa_nil))))), ?_⟩
    refine s_ret (ev_call (ea_cons (ev_var rfl) (ea_cons ev_c ea_nil)) fun H1 e Q q' E => ⟨x, o, 256, 300, rfl, hx.ex e, h2, q'⟩) fun H1 e1 => ?_
    cases o with
    | none => exact k H1 e1
    | some ns =>
      have : Q (.bl (pieceB ns)) H1 := k H1 e1
      rw [← numsB_piece] at this
      exact this
theorem pieceB_ok {p : List Nat} (h : p.length ≤ 300 ∧ ∀ n ∈ p, n < 256) : pieceB p = true := by
  unfold pieceB
  rw [decide_eq_true h.1, Bool.true_and, List.all_eq_true]
  exact fun x hx => decide_eq_true (h.2 x hx)
end
end K82
set_option maxRecDepth 100000
set_option maxHeartbeats 1000000
namespace K82
open PySem PySem.Spec PyProof.Rows L2 Evl MB
section
variable {P : Program} {w : World} {K : PySem.W.Frag} {mg : Str → Option Value} {base : Heap} {aKn aWi aOw aLi aOn aOt : Addr}
theorem ev_callN {n m : Nat} {sp : Sp} {gV : List V → List V → List V} {E : XK} {t tk : TA} {σ : L2.St} {H : Hp} {vs zs : List V} {z : V} (h : EvA t σ H vs) (hk : EvA tk σ H zs) (l1 : vs.length = n) (l2 : zs.length = m) (hs : SpV sp (gV vs zs) H z) : Ev (tCallN n m sp gV E t tk) σ H z := fun H1 e Q q =>
  h H1 e _ fun H2 e2 => hk H2 (e.trans e2) _ fun H3 e3 => ⟨l1, l2, hs H3 ((e.trans e2).trans e3) Q (fun H4 e4 => q H4 ((e2.trans e3).trans e4)) E⟩
/-! ### is_worths: of numbers (a plain kind, or a raw one), of a text -/
def sp_is_worths (K : PySem.W.Frag) : Sp := fun vs H Q _ => ∃ (kind : Nat) (x y : V) (kn : List Nat), vs = [iv kind, x, y] ∧ KnAt K H y kn ∧
  ((∃ q ns, x = .ref q ∧ SqT K H q (ns.map iv) ∧ ns.length ≤ 3500000 ∧ (kind ∈ kn → kind < 4) ∧ ∀ H', Ex H H' → Q (.bl (worthsB kn kind ns)) H') ∨ (∃ t, x = tv t ∧ kind = 4 ∧ 4 ∈ kn ∧ t.length ≤ 3500000 ∧ ∀ H', Ex H H' → Q (.bl (textB t)) H'))
theorem signs_S : (Str.ofString " -.0123456789ABCDEFGHIJKLMNOPQRSTUVWXYZabcdefghijklmnopqrstuvwxyz") = SX.S SIGNS := of_S _
theorem lim_at {k : Nat} (h1 : 1 ≤ k) (h2 : k < 4) : ([(1, 256), (2, 65536), (3, 4294967296)] : List (Int × Int)).lookup (k : Int) = some (lim k : Int) := by
  have : k = 1 ∨ k = 2 ∨ k = 3 := by omega
  rcases this with rfl | rfl | rfl <;> decide
theorem numsB_lim {kn : List Nat} {kind : Nat} {ns : List Nat} (h : kind ∈ kn) : numsB ns (lim kind : Int) 300 = worthsB kn kind ns := by
  unfold numsB worthsB
  rw [if_pos h]
  have e1 : decide ((ns.length : Int) ≤ 300) = decide (ns.length ≤ 300) := decide_eq_decide.mpr (by omega)
  rw [e1]
  congr 1
  congr 1
  funext n
  exact decide_eq_decide.mpr (by omega)
theorem numsB_raw {kn : List Nat} {kind : Nat} {ns : List Nat} (h : kind ∉ kn) : (numsB ns 256 (300 * (wid kind : Int)) && decide ((ns.length : Int) % (wid kind : Int) = 0)) = worthsB kn kind ns := by
  unfold numsB worthsB
  rw [if_neg h]
  have e1 : decide ((ns.length : Int) ≤ 300 * (wid kind : Int)) = decide (ns.length ≤ 300 * wid kind) := decide_eq_decide.mpr (by omega)
  have e2 : decide ((ns.length : Int) % (wid kind : Int) = 0) = decide (ns.length % wid kind = 0) := decide_eq_decide.mpr (by
    rw [← Int.natCast_emod]
    omega)
  rw [e1, e2]
  congr 1
  congr 1
  congr 1
  funext n
  exact decide_eq_decide.mpr (by omega)
theorem ok_is_worths {f : Addr} {fd : FuncData} {ke : V} (F : FunD K "is_worths" "is_worths" (defArgs s_is_worths) (defBody s_is_worths) (defScope s_is_worths) [] [("known", ke)] f fd) (T : T0 K mg aKn aWi aOw aLi aOn aOt)
    (c_width : MB.Cl P w K mg base 1 "width" sp_width) (d_are_numbers : MB.ClD P w K mg base 2 "are_numbers" (sp_are_numbers K) [.int 300]) (k_are_numbers : MB.ClN P w K mg base 2 "are_numbers" (sp_are_numbers K) 2 ["most"] (fun vs zs => vs ++ zs)) : FnOk P w K mg base CX0 3 f fd p_is_worths (sp_is_worths K) := by
  refine F.ok sc_is_worths (fun vs H Q E h => ?_) (fun cdv A outer s H vs Q E hr h => ?_)
  · obtain ⟨kind, x, y, kn, rfl, _⟩ := h
    rfl
  · obtain ⟨kind, x, y, kn, rfl, ⟨ka, rfl, hk, hkn⟩, hx⟩ := h
    have hu64 := hu64 hr
    refine ⟨_, (pss_cons (ps_if (pt_cmpR (MB.op_niK (K := K) rfl) (pv 0) (pv 2) rfl) (pss_cons (ps_set (i := 3) sc_is_worths.nd rfl (Or.inl rfl) (MB.pe_cl c_width hr (by decide) (by rfl) passL (pa_cons (pv 0) pa_nil)))
      (pss_one (ps_ret (pe_and (MB.pe_clN k_are_numbers hr (by decide) (by rfl) passL (pa_cons (pv 1) (pa_cons (pe_gc (by rfl) T.g_BYTE) pa_nil)) (pk_cons (pe_op (MB.op_mulK (K := K) rfl) (pe_gc (by rfl) T.g_MOST_COUNT) (pv 3)) pk_nil)) (pe_one (pe_cmpR (MB.op_eqK (K := K) rfl hu64) (pe_op op_mod (pe_callB (MB.call_lenK (K := K) rfl) (by rfl) T.n_len MB.bo_len (pa_cons (pv 1) pa_nil)) (pv 3)) pe_int (nomark _))))))) pss_nil)
      (pss_cons (ps_if (pt_cmpR (MB.op_eqK (K := K) rfl hu64) (pv 0) (pe_gc (by rfl) T.g_TEXT) (nomark _)) (pss_one (ps_ret (pe_and (pe_callB (MB.call_isiK (K := K) rfl) (by rfl) T.n_isinstance MB.bo_isinstance (pa_cons (pv 1) (pa_cons (pe_bltn (v := .ty "str") (by rfl) T.n_str MB.bo_str rfl) pa_nil))) (pe_and (pe_cmpR op_le (pe_callB (MB.call_lenK (K := K) rfl) (by rfl) T.n_len MB.bo_len (pa_cons (pv 1) pa_nil)) (pe_gc (by rfl) T.g_MOST_COUNT) (nomark _)) (pe_one (pe_callB (MB.cr_allK (K := K) rfl rfl) (by rfl) T.n_all MB.bo_all (pa_cons (pe_lc (own := [("sign", 4)]) (by rfl) sc_is_worths.nd (pi_str (pv 1)) (blkOk_by (own := [("sign", 4)]) (N := n_is_worths) (sc := defScope s_is_worths) (by decide +kernel)) (fun _ _ _ _ _ => (pg_name (i := 4) sc_is_worths.nd rfl (.inl rfl))) (fun _ _ _ _ _ => pts_nil) (fun _ _ _ _ _ => (pe_cmpR (MB.op_inK (K := K) rfl) (pv 4) (pe_gc (by rfl) T.g_SIGNS) rfl))) pa_nil))))))) pss_nil)
      (pss_one (ps_ret (MB.pe_clD d_are_numbers hr (by decide) (by rfl) passL (pa_cons (pv 1) (pa_cons (pe_ix (MB.ix_kdI (K := K) rfl) (pe_gc (by rfl) T.g_LIMITS) (pv 0) (fun _ _ => rfl)) pa_nil))))))), ?_⟩
    rcases hx with ⟨q, ns, rfl, hq, hz, h4, k⟩ | ⟨t, rfl, rfl, h4, hl, k⟩
    · by_cases hin : kind ∈ kn
      · have hlt := h4 hin
        have h1 := (hkn.six kind hin).1
        refine q_ifN (b := false) (et_B (ev_is (ev_op (ev_var rfl) (ev_var rfl) (rv_niK hk)) (by simp [hin]))) (fun h => by cases h) fun _ H1 e1 => ?_
        refine q_ifN (b := false) (et_B (ev_is (ev_op (ev_var rfl) ev_c rv_eqI) (congrArg V.bl (decide_eq_false (by omega))))) (fun h => by cases h) fun _ H2 e2 => ?_
        rw [← numsB_lim hin] at k
        exact s_ret (ev_call (ea_cons (ev_var rfl) (ea_cons (ev_op ev_c (ev_var rfl) (rv_xI T.k_LIMITS (lim_at h1 hlt))) ea_nil)) fun H3 e Q q' E => ⟨_, some ns, _, 300, rfl, ⟨q, rfl, ex_t ((e1.trans e2).trans e) hq⟩, fun m hm => by cases hm; exact hz, q'⟩) fun H3 e3 => k H3 ((e1.trans e2).trans e3)
      · refine q_ifN (b := true) (et_B (ev_is (ev_op (ev_var rfl) (ev_var rfl) (rv_niK hk)) (by simp [hin]))) (fun _ H1 e1 => ?_) fun h => by cases h
        refine q_asg (v := iv (wid kind)) (ev_call (ea_cons (ev_var rfl) ea_nil) fun H1 e Q q E => ⟨kind, rfl, q⟩) fun H2 e2 => ?_
        have e12 := e1.trans e2
        have hw1 := wid_pos kind
        rw [← numsB_raw hin] at k
        refine s_ret (ev_andV (ev_callN (ea_cons (ev_var rfl) (ea_cons ev_c ea_nil)) (ea_cons (ev_op ev_c (ev_var rfl) (rv_mulI (.inl (by decide)))) ea_nil) rfl rfl fun H3 e3 Q q' E => ⟨_, some ns, 256, _, rfl, ⟨q, rfl, ex_t (e12.trans e3) hq⟩, fun m hm => by cases hm; exact hz, q'⟩) fun _ => ev_is (ev_op (ev_op (ev_cb1 (ev_var rfl) (rc_lenT (ex_t e12 hq))) (ev_var rfl) (rv_I (by show (0 : Int) < (wid kind : Int); omega))) ev_c rv_eqI) (congrArg V.bl (by rw [List.length_map]))) fun H3 e3 => k H3 (e12.trans e3)
    · refine q_ifN (b := false) (et_B (ev_is (ev_op (ev_var rfl) (ev_var rfl) (rv_niK hk)) (by simp [h4]))) (fun h => by cases h) fun _ H1 e1 => ?_
      refine q_ifN (b := true) (et_B (ev_is (ev_op (ev_var rfl) ev_c rv_eqI) (congrArg V.bl (decide_eq_true rfl)))) (fun _ H2 e2 => ?_) fun h => by cases h
      refine s_ret (ev_is (ev_andV (a := true) (ev_cb2 (ev_var rfl) ev_c (MB.rc_isiStr (by decide +kernel))) fun _ => ev_andV (a := decide (t.length ≤ 300)) (ev_is (ev_op (ev_cb1 (ev_var rfl) (rc_lenS (by omega))) ev_c rv_I0) (congrArg V.bl (decide_eq_decide.mpr (by omega)))) fun _ => MB.ev_allL (bs := t.map fun c => decide (c ∈ SIGNS)) ?_) (w := .bl (textB t)) ?_) fun H3 e3 => k H3 ((e1.trans e2).trans e3)
      · refine els_new (el_is (el_all (el_lcS (w := t) (fun _ => true) (fun c => .bl (decide (c ∈ SIGNS))) (ev_var rfl) (by omega) (fun _ => by rfl) (fun _ _ => ety) fun c hc _ => ?_)) (by rw [List.map_map]; rfl))
        refine ev_op (ev_var rfl) ev_c fun H3 _ Q q => .inl ⟨c, _, rfl, rfl, ?_⟩
        rw [signs_S]
        exact q H3 (Ex.refl H3)
      · rw [List.all_map, Bool.true_and]
        rfl
end
end K82
set_option maxRecDepth 100000
set_option maxHeartbeats 1000000
namespace K82
open PySem PySem.Spec PyProof.Rows L2 Evl MB
section
variable {P : Program} {w : World} {K : PySem.W.Frag} {mg : Str → Option Value} {base : Heap} {aKn aWi aOw aLi aOn aOt : Addr}
theorem ev_neNilV {σ : L2.St} {H : Hp} {ta : TE} {a : Addr} {xs : List V} (ha : Ev ta σ H (.ref a)) (h : SqL K H a xs) : Ev (tOp (rNeNil K) ta (tLst tNil)) σ H (.bl (!xs.isEmpty)) := fun H1 e Q q =>
  ha H1 e _ fun H2 e2 => (el_lst ea_nil (by decide) : EvL (tLst tNil) σ H []) H2 (e.trans e2) _ fun b H3 _ e3 h3 => ⟨a, b, xs, rfl, rfl, ex_l ((e.trans e2).trans e3) h, sq_of h3, q H3 (e2.trans e3)⟩
/-! ### number_by -/
def ov : Option Nat → V
  | none => .non
  | some n => iv n
def sp_number_by : Sp := fun vs H Q _ => ∃ wd : List Nat, vs = [tv wd] ∧ wd.length ≤ 3500000 ∧ ∀ H', Ex H H' → Q (ov (numBy wd)) H'
theorem figs_S : Str.ofString "0123456789" = SX.S (co "0123456789") := of_S _
theorem fig_in (c : Nat) : decide (c ∈ co "0123456789") = fig c := by
  have e : co "0123456789" = [48, 49, 50, 51, 52, 53, 54, 55, 56, 57] := by decide
  unfold fig
  rw [e, ← Bool.decide_and, decide_eq_decide]
  simp only [List.mem_cons, List.not_mem_nil, or_false]
  omega
theorem ok_number_by {f : Addr} {fd : FuncData} (F : Fun K "number_by" "number_by" s_number_by f fd) (T : T0 K mg aKn aWi aOw aLi aOn aOt) : FnOk P w K mg base CX0 1 f fd p_number_by sp_number_by := by
  refine F.ok sc_number_by (fun vs H Q E h => ?_) (fun cdv A outer s H vs Q E hr h => ?_)
  · obtain ⟨wd, rfl, _⟩ := h
    rfl
  · obtain ⟨wd, rfl, hl, k⟩ := h
    have hu64 := hu64 hr
    refine ⟨_, (pss_cons (ps_if (PW.pt (pw_or (pt_not (pt_chain op_le op_le pe_int (pe_callB (MB.call_lenK (K := K) rfl) (by rfl) T.n_len MB.bo_len (pa_cons (pv 0) pa_nil)) (pe_gc (by rfl) T.g_MOST_FIGURES))) (pw_or1 (pt_not (pt_val (pe_callB (MB.cr_allK (K := K) rfl rfl) (by rfl) T.n_all MB.bo_all (pa_cons (pe_lc (own := [("sign", 1)]) (by rfl) sc_number_by.nd (pi_str (pv 0)) (blkOk_by (own := [("sign", 1)]) (N := n_number_by) (sc := defScope s_number_by) (by decide +kernel)) (fun _ _ _ _ _ => (pg_name (i := 1) sc_number_by.nd rfl (.inl rfl))) (fun _ _ _ _ _ => pts_nil) (fun _ _ _ _ _ => (pe_cmpR (MB.op_inK (K := K) rfl) (pv 1) (pe_gc (by rfl) T.g_FIGURES) rfl))) pa_nil))))))) (pss_one (ps_ret pe_non)) pss_nil)
      (pss_cons (ps_if (PW.pt (pw_and (pt_cmpR (MB.op_eqK (K := K) rfl hu64) (pe_ix (MB.ix_K (K := K) rfl) (pv 0) pe_int (fun _ _ => rfl)) pe_str (nomark _)) (pw_and1 (pt_cmpR (MB.op_neK (K := K) rfl hu64) (pv 0) pe_str (nomark _))))) (pss_one (ps_ret pe_non)) pss_nil)
      (pss_one (ps_ret (pe_callTy MB.call_intA (by rfl) T.n_int MB.bo_int (pa_cons (pv 0) pa_nil)))))), ?_⟩
    refine q_ifN (b := !(decide (1 ≤ wd.length) && decide (wd.length ≤ 10)) || !(wd.all fig)) (et_or (et_not (et_test (ev_chain (a := decide (1 ≤ wd.length)) (b := decide (wd.length ≤ 10)) ev_c (ev_cb1 (ev_var rfl) (rc_lenS (by omega))) ev_c ?_ fun _ => ?_))) fun _ => et_not (et_test (ev_is (MB.ev_allL (bs := wd.map fig) (els_new (el_is (el_all (el_lcS (w := wd) (fun _ => true) (fun c => .bl (fig c)) (ev_var rfl) (by omega) (fun _ => by rfl) (fun _ _ => ety) fun c hc _ => ?_)) (by rw [List.map_map]; rfl)))) (congrArg V.bl (by rw [List.all_map]; rfl))))) (fun hb H1 e1 => ?_) fun hb H1 e1 => ?_
    · have e : decide (1 ≤ wd.length) = decide ((1 : Int) ≤ (wd.length : Int)) := decide_eq_decide.mpr (by omega)
      rw [e]
      exact rv_I0
    · have e : decide (wd.length ≤ 10) = decide ((wd.length : Int) ≤ (10 : Int)) := decide_eq_decide.mpr (by omega)
      rw [e]
      exact rv_I0
    · refine ev_op (ev_var rfl) ev_c fun H3 _ Q q => .inl ⟨c, _, rfl, rfl, ?_⟩
      rw [figs_S]
      have e : decide (c ∈ (SX.S (co "0123456789")).cps.toList) = fig c := fig_in c
      rw [e]
      exact q H3 (Ex.refl H3)
    · have hn : numBy wd = none := by
        unfold numBy numOk
        refine if_neg fun z => ?_
        rw [Bool.and_eq_true, Bool.and_eq_true] at z
        rw [z.1.1, z.1.2] at hb
        cases hb
      rw [hn] at k
      exact s_ret ev_c fun H2 e2 => k H2 (e1.trans e2)
    · rw [Bool.or_eq_false_iff, Bool.not_eq_false', Bool.not_eq_false'] at hb
      have h1 : 1 ≤ wd.length := of_decide_eq_true (Bool.and_eq_true _ _ ▸ hb.1).1
      have h2 : wd.length ≤ 10 := of_decide_eq_true (Bool.and_eq_true _ _ ▸ hb.1).2
      obtain ⟨c, r, rfl⟩ : ∃ c r, wd = c :: r := by
        cases wd with
        | nil => exact absurd h1 (by decide)
        | cons c r => exact ⟨c, r, rfl⟩
      refine q_ifN (b := decide (c = 48) && !decide (c :: r = [48])) (et_and (et_B (ev_is (ev_op (ev_op (ev_var rfl) ev_c (rv_xS (w := c :: r) (i := 0) (c := c) (by omega) (MB.atI_nat (i := 0) rfl))) (ev_is ev_c (congrArg V.str (of_S "0"))) rv_eqC) (congrArg V.bl (decide_eq_decide.mpr (by show [c] = [48] ↔ _; simp))))) fun _ => et_B (ev_op (ev_var rfl) (ev_is ev_c (congrArg V.str (of_S "0"))) rv_neC)) (fun hb2 H2 e2 => ?_) fun hb2 H2 e2 => ?_
      · have hn : numBy (c :: r) = none := by
          unfold numBy numOk
          refine if_neg fun z => ?_
          rw [Bool.and_eq_true, Bool.not_eq_true'] at z
          have z2 := z.2
          rw [show decide ((c :: r).head? = some 48) = decide (c = 48) from decide_eq_decide.mpr (by simp), hb2] at z2
          cases z2
        rw [hn] at k
        exact s_ret ev_c fun H3 e3 => k H3 ((e1.trans e2).trans e3)
      · have hn : numBy (c :: r) = some (NumText.digitsVal (c :: r)) := by
          unfold numBy numOk
          refine if_pos ?_
          rw [hb.1, hb.2, show decide ((c :: r).head? = some 48) = decide (c = 48) from decide_eq_decide.mpr (by simp), hb2]
          rfl
        rw [hn] at k
        refine s_ret (ev_cb1 (ev_var rfl) fun H3 e3 Q q => .inr ⟨_, _, rfl, SX.int_S (a := c :: r) hb.2 (List.cons_ne_nil _ _) (by omega), by rw [SX.S_len]; omega, q H3 (Ex.refl _)⟩) fun H3 e3 => k H3 ((e1.trans e2).trans e3)
/-- x = tuple(a new list) -/
theorem q_asgTup {σ : L2.St} {H : Hp} {te : TE} {xs : List V} {i : Nat} {tz : TS} {D : Ends} (h : EvL te σ H xs) (k : ∀ q H1, H q = none → Ex H H1 → H1 q = some (.tup xs) → tz D (σ.set i (some (.ref q))) H1) : tSeq (tAsg (tCB (rTupleK K) (tCons te tNil)) (gName i)) tz D σ H :=
  h H (Ex.refl H) _ fun p H1 hp e1 h1 => ⟨p, _, rfl, .inl ⟨sq_of h1, fun q hq => k q _ (fresh_back e1 hq) (e1.trans (Ex.new hq)) upd_same⟩⟩
/-! ### numbers_by -/
def sp_numbers_by (K : PySem.W.Frag) : Sp := fun vs H Q _ => ∃ (l : Addr) (ws : Ls), vs = [.ref l] ∧ SqL K H l (ws.map tv) ∧ ws.length ≤ 3500000 ∧ (∀ x ∈ ws, x.length ≤ 3500000) ∧ ∀ x H', Ex H H' → NumsV K H' x (numsBy ws) → Q x H'
theorem inV_non : ∀ ws : Ls, inV .non (ws.map fun x => ov (numBy x)) = (numsBy ws).isNone
  | [] => rfl
  | x :: ws => by
    have e : inV .non ((x :: ws).map fun x => ov (numBy x)) = (eqV (ov (numBy x)) .non || inV .non (ws.map fun x => ov (numBy x))) := rfl
    rw [e, inV_non ws, numsBy]
    cases numBy x with
    | none => rfl
    | some n =>
      cases numsBy ws with
      | none => rfl
      | some ns => rfl
theorem flat_ov (ws : Ls) : (ws.map fun x => ov (numBy x)).all flatV = true := by
  rw [List.all_eq_true]
  intro x hx
  obtain ⟨n, _, rfl⟩ := List.mem_map.mp hx
  cases numBy n <;> rfl
theorem numsBy_map : ∀ {ws : Ls} {ns : List Nat}, numsBy ws = some ns → ws.map (fun x => ov (numBy x)) = ns.map iv
  | [], _, h => by cases h; rfl
  | x :: ws, ns, h => by
    rw [numsBy] at h
    cases h1 : numBy x with
    | none => rw [h1] at h; cases h
    | some n =>
      cases h2 : numsBy ws with
      | none => rw [h1, h2] at h; cases h
      | some ms =>
        rw [h1, h2] at h
        cases h
        rw [List.map_cons, h1, numsBy_map h2]
        rfl
theorem ok_numbers_by {f : Addr} {fd : FuncData} (F : Fun K "numbers_by" "numbers_by" s_numbers_by f fd) (T : T0 K mg aKn aWi aOw aLi aOn aOt) (c_number_by : MB.Cl P w K mg base 1 "number_by" sp_number_by) : FnOk P w K mg base CX0 2 f fd p_numbers_by (sp_numbers_by K) := by
  refine F.ok sc_numbers_by (fun vs H Q E h => ?_) (fun cdv A outer s H vs Q E hr h => ?_)
  · obtain ⟨l, ws, rfl, _⟩ := h
    rfl
  · obtain ⟨l, ws, rfl, hl, h1, h2, k⟩ := h
    refine ⟨_, (pss_cons (ps_set (i := 1) sc_numbers_by.nd rfl (Or.inl rfl) (pe_callTy (MB.call_tupleK (K := K) rfl) (by rfl) T.n_tuple MB.bo_tuple (pa_cons (pe_lc (own := [("word", 2)]) (by rfl) sc_numbers_by.nd (MB.pi_listK (K := K) rfl (pv 0)) (blkOk_by (own := [("word", 2)]) (N := n_numbers_by) (sc := defScope s_numbers_by) (by decide +kernel)) (fun _ _ _ _ _ => (pg_name (i := 2) sc_numbers_by.nd rfl (.inl rfl))) (fun _ _ _ _ _ => pts_nil) (fun _ _ _ _ _ => (MB.pe_cl c_number_by hr (by decide) (by rfl) passL (pa_cons (pv 2) pa_nil)))) pa_nil)))
      (pss_one (ps_ret (pe_ifExp (pt_cmpR (MB.op_inK (K := K) rfl) pe_non (pv 1) rfl) pe_non (pv 1))))), ?_⟩
    refine q_asgTup (xs := ws.map fun x => ov (numBy x)) (el_all (el_lcLs (ds := ws) tv (fun _ => true) (fun x => ov (numBy x)) (els_val (ev_var rfl) hl) (by omega) (fun _ => by rfl) (fun _ _ => ety) fun x hm _ => ev_call (ea_cons (ev_var rfl) ea_nil) fun H1 e Q q E => ⟨x, rfl, h2 x hm, q⟩)) fun q H1 hq0 e2 hq => ?_
    have hqt : SqT K H1 q (ws.map fun x => ov (numBy x)) := st_of hq
    cases hn : numsBy ws with
    | none =>
      rw [hn] at k
      exact s_ret (ev_if (b := true) (et_test (ev_is (ev_op ev_c (ev_var rfl) fun H3 e3 Q q => .inr (rv_isT hqt rfl (flat_ov ws) H3 e3 Q q)) (congrArg V.bl (by rw [inV_non, hn]; rfl)))) (fun _ => ev_c) fun z => by cases z) fun H3 e3 => k _ H3 (e2.trans e3) rfl
    | some ns =>
      rw [hn] at k
      refine s_ret (ev_if (b := false) (et_test (ev_is (ev_op ev_c (ev_var rfl) fun H3 e3 Q q => .inr (rv_isT hqt rfl (flat_ov ws) H3 e3 Q q)) (congrArg V.bl (by rw [inV_non, hn]; rfl)))) (fun z => by cases z) fun _ => ev_var rfl) fun H3 e3 => k _ H3 (e2.trans e3) ⟨q, rfl, ?_⟩
      rw [← numsBy_map hn]
      exact ex_t e3 hqt
end
end K82
set_option maxRecDepth 100000
set_option maxHeartbeats 1000000
namespace K82
open PySem PySem.Spec PyProof.Rows L2 Evl MB
/-! ### NoText -/
def sp_nt (K : PySem.W.Frag) (C : Addr) : Sp := fun vs H Q _ => ∃ a v, vs = [.ref a, v] ∧ H a = some (exo a C none) ∧ ∀ d H', H d = none → d ≠ a → H' a = some (exo a C (some d)) → H' d = some (exd d [("line", v)]) → (∀ b o, H b = some o → b ≠ a → H' b = some o) → Q .non H'
section
variable {P : Program} {w : World} {K : PySem.W.Frag} {mg : Str → Option Value} {base : Heap} {aKn aWi aOw aLi aOn aOt : Addr}
/-- what is asked of the classes NoText and TornError -/
structure NT0 (K : PySem.W.Frag) (mg : Str → Option Value) (C B : Addr) (mc : Value) : Prop where
  ox : OexC K C
  gC : mg "NoText" = some (.ref C)
  gB : mg "TornError" = some (.ref B)
  rB : ClX.CRead K B mc
  vB : PySem.W.findCls K (.ref B) mc "__init__" = some (.val (.builtin "ValueError.__init__"))
  nf : PySem.W.findIn K (.ref C) "line" = some none
theorem ok_nt {C B : Addr} {mc : Value} {f : Addr} {fd : FuncData} (F : Fun K "__init__" "NoText.__init__" s_NoText_init__ f fd) (N : NT0 K mg C B mc) : FnOk P w K mg base CX0 1 f fd ["self", "line"] (sp_nt K C) := by
  refine F.ok sc_NoText_init__ (fun vs H Q E h => ?_) (fun cdv A outer s H vs Q E hr h => ?_)
  · obtain ⟨a, v, rfl, _⟩ := h
    rfl
  · obtain ⟨a, v, rfl, ha, k⟩ := h
    refine ⟨_, pss_cons (ps_expr (pe_oinit (by rfl) N.gB N.rB N.vB (pa_cons (pv 0) (pa_cons pe_str pa_nil)))) (pss_one (ps_ost (pv 0) (pv 1))), ?_⟩
    refine ⟨_, rfl, a, C, _, rfl, by show 1 ≤ 1000; decide, N.ox, ha, ?_⟩
    refine ⟨_, rfl, _, rfl, a, C, rfl, N.ox, N.nf, .inl ⟨ha, fun d hd hne => ?_⟩⟩
    refine k d _ hd hne upd_same ?_ fun b o hb hba => ?_
    · rw [upd_ne hne, upd_same]
    · rw [upd_ne hba, upd_ne (ne_of_none hb hd)]
      exact hb
structure NT (P : Program) (w : World) (K : PySem.W.Frag) (mg : Str → Option Value) (base : Heap) (C : Addr) : Prop where
  ox : OexC K C
  gC : mg "NoText" = some (.ref C)
  ini : ∃ (fI : Addr) (fd : FuncData), FnOk P w K mg base (L2.CX P w) 1 fI fd ["self", "line"] (sp_nt K C) ∧ PySem.W.findIn K (.ref C) "__init__" = some (some (.ref fI)) ∧ PySem.W.typeIn K (.ref fI) = some (.type "function") ∧ Binds K fd ["self", "line"] []
theorem pmk_NoText {X : Cx} {C : Addr} {j : Nat} {e : Expr} {es : List Expr} {ta : TA} {p pos : Pos} (N : NT X.prog X.w X.K X.mg X.base C) (hr : Room j X.A) (hj : 2 ≤ j) (hg : Gl X "NoText") (ha : PA X (e :: es) ta)
    (he : starEach (e :: es) X.env = (false, eval e X.env) :: starEach es X.env := by rfl) (hpl : (backTo pos (starEach es X.env)).any (·.1) = false := by rfl) :
    PMk X (.Call (.Name "NoText" p) (e :: es) [] pos) (tMkO C (sp_nt X.K C) [] ta) := by
  obtain ⟨fI, fd, F, iC, tI, hb⟩ := N.ini
  exact pmk_oex N.ox iC tI F (hr.mono hj) hb .nil passL hg N.gC ha (by decide) he hpl
theorem mk_nt {C : Addr} {σ : L2.St} {H : Hp} {ta : TA} {v : V} {W : XK} (h : EvA ta σ H [v]) (k : ∀ d H', Ex H H' → H d = none → H' d = some (.xd [("line", v)]) → W (.ref C) (some d) H') : tMkO C (sp_nt K C) [] ta σ H W :=
  h H (Ex.refl H) _ fun H1 e1 => ⟨by show 1 ≤ 1000; decide, fun a ha => ⟨a, v, rfl, upd_same, fun d H2 hd hne h1 h2 hk => ⟨rfl, d, _, h1, h2, by
    rw [upd_ne hne] at hd
    exact hd, by
    rw [upd_ne hne] at hd
    refine k d _ (fun b o hb => ?_) (fresh_back e1 hd) upd_same
    have hb1 := e1 b o hb
    have hba := ne_of_none hb1 ha
    rw [upd_ne (ne_of_none hb1 hd), del_ne hba]
    exact hk b o (by rw [upd_ne hba]; exact hb1) hba⟩⟩⟩
/-! ### data under a change at one place -/
mutual
def tupd : PyData → Bool
  | .list _ => false
  | .tuple ds => tupdAll ds
  | _ => true
def tupdAll : List PyData → Bool
  | [] => true
  | d :: ds => tupd d && tupdAll ds
end
/-- no tuple at a -/
def NoTup (H : Hp) (a : Addr) : Prop := ∃ u, H a = some u ∧ (∀ xs, u ≠ .tup xs) ∧ ∀ o xs, u ≠ .frz o (.tup xs)
theorem NoTup.ins {H : Hp} {a C dx : Addr} {fs : List (Str × V)} (h : H a = some (.ins C dx fs)) : NoTup H a := ⟨_, h, fun _ z => (nomatch z), fun _ _ z => (nomatch z)⟩
theorem NoTup.lst {H : Hp} {a : Addr} {xs : List V} (h : H a = some (.lst xs)) : NoTup H a := ⟨_, h, fun _ z => (nomatch z), fun _ _ z => (nomatch z)⟩
theorem but_t {H H' : Hp} {a p : Addr} {xs : List V} (ha : NoTup H a) (e : But a H H') (h : SqT K H p xs) : SqT K H' p xs := by
  obtain ⟨u, h0, h1, h2⟩ := ha
  rcases h with (h | ⟨o, h⟩) | h
  · exact .inl (.inl (e _ _ (fun z => by rw [z, h0] at h; exact h1 _ (Option.some.inj h)) h))
  · exact .inl (.inr ⟨o, e _ _ (fun z => by rw [z, h0] at h; exact h2 _ _ (Option.some.inj h)) h⟩)
  · exact .inr h
mutual
theorem dp_but {H H' : Hp} {a : Addr} (ha : NoTup H a) (e : But a H H') : ∀ (d : PyData) (v : V), tupd d = true → Dp K H v d → Dp K H' v d
  | .none, _, _, h => by cases h; exact .non
  | .bool b, _, _, h => by cases h; exact .bl b
  | .int i, _, _, h => by cases h; exact .int i
  | .str x, _, _, h => by cases h; exact .str x
  | .list ds, _, t, _ => by cases t
  | .tuple ds, _, t, h => by
    cases h with
    | tup q b => exact .tup (but_t ha e q) (dpAll_but ha e ds _ t b)
  | .dict _, _, _, h => by cases h
theorem dpAll_but {H H' : Hp} {a : Addr} (ha : NoTup H a) (e : But a H H') : ∀ (ds : List PyData) (vs : List V), tupdAll ds = true → DpAll K H vs ds → DpAll K H' vs ds
  | [], _, _, h => by cases h; exact .nil
  | d :: ds, _, t, h => by
    rw [tupdAll, Bool.and_eq_true] at t
    cases h with
    | cons h1 h2 => exact .cons (dp_but ha e d _ t.1 h1) (dpAll_but ha e ds _ t.2 h2)
end
theorem tupdAll_map {α : Type} {f : α → PyData} (h : ∀ x, tupd (f x) = true) : ∀ l : List α, tupdAll (l.map f) = true
  | [] => rfl
  | x :: l => by rw [List.map_cons, tupdAll, h x, tupdAll_map h l]; rfl
theorem tupd_dT (ns : List Nat) : tupd (dT ns) = true := tupdAll_map (fun _ => rfl) ns
theorem tupd_wo {α : Type} {f : α → PyData} (h : ∀ x, tupd (f x) = true) : ∀ x : Wo α, tupd (dWo f x) = true
  | .nums l => tupd_dT l
  | .text _ => rfl
  | .pieces ps => tupdAll_map tupd_dT ps
  | .chains cs => tupdAll_map h cs
theorem tupd_ent {α : Type} {f : α → PyData} (h : ∀ x, tupd (f x) = true) (e : Ent α) : tupd (dEnt f e) = true := by
  show (true && (true && (tupd (dWo f e.w) && true))) = true
  rw [tupd_wo h]
  rfl
theorem tupd_tab {α : Type} {f : α → PyData} (h : ∀ x, tupd (f x) = true) (t : List (Ent α)) : tupd (dTab f t) = true := tupdAll_map (tupd_ent h) t
theorem tupd_ch : ∀ (d : Nat) (c : Ch d), tupd (dCh d c) = true
  | 0, _ => rfl
  | d + 1, c => tupdAll_map (tupd_tab (tupd_ch d)) c
/-! ### the reader's object -/
structure Rd where
  a : Addr
  dx : Addr
  rl : Addr
  ky : V
  rows : Ls
  rest : List Nat
  kn : List Nat
  raw : Bool
def Rd.fs (R : Rd) (s : Nat) : List (Str × V) := [("rows", .ref R.rl), ("rest", tv R.rest), ("known", R.ky), ("raw", .bl R.raw), ("spot", iv s)]
structure Rd.At (R : Rd) (C : Addr) (K : PySem.W.Frag) (H : Hp) (ls : Ls) : Prop where
  obj : H R.a = some (.ins C R.dx (R.fs (R.rows.length - ls.length)))
  pre : ∃ pre, R.rows = pre ++ ls
  rl : H R.rl = some (.lst (R.rows.map tv))
  kn : KnAt K H R.ky R.kn
  few : R.rows.length ≤ 3500000
  long : ∀ l ∈ R.rows, l.length ≤ 3500000
/-- the class Lines -/
structure LC (K : PySem.W.Frag) (C : Addr) : Prop where
  cl : Cls K C
  n_rows : NoAttr K C "rows"
  n_rest : NoAttr K C "rest"
  n_known : NoAttr K C "known"
  n_raw : NoAttr K C "raw"
  n_spot : NoAttr K C "spot"
section
variable {R : Rd} {C CN : Addr} {H H' : Hp} {ls : Ls}
theorem Rd.At.ex (e : Ex H H') (h : R.At C K H ls) : R.At C K H' ls := ⟨e _ _ h.obj, h.pre, e _ _ h.rl, h.kn.ex e, h.few, h.long⟩
theorem Rd.At.no (h : R.At C K H ls) : NoTup H R.a := NoTup.ins h.obj
theorem Rd.At.isS (h : R.At C K H ls) : H R.a ≠ none := by rw [h.obj]; exact fun z => nomatch z
theorem Rd.At.len (h : R.At C K H ls) : ls.length ≤ R.rows.length := by
  obtain ⟨pre, e⟩ := h.pre
  rw [e, List.length_append]
  omega
theorem Rd.At.mem (h : R.At C K H ls) {l : List Nat} (hl : l ∈ ls) : l.length ≤ 3500000 := by
  obtain ⟨pre, e⟩ := h.pre
  exact h.long l (by rw [e]; exact List.mem_append_right _ hl)
theorem Rd.At.ne (h : R.At C K H ls) {b : Addr} {xs : List V} (hb : H b = some (.lst xs)) : b ≠ R.a := fun z => by
  rw [z, h.obj] at hb
  cases hb
theorem Rd.At.keep (h : R.At C K H ls) (e : But R.a H H') {b : Addr} {xs : List V} (hb : H b = some (.lst xs)) : H' b = some (.lst xs) := e _ _ (h.ne hb) hb
theorem KnAt.but {a : Addr} {y : V} {kn : List Nat} (ha : NoTup H a) (e : But a H H') (h : KnAt K H y kn) : KnAt K H' y kn := by
  obtain ⟨b, rfl, h1, h2⟩ := h
  exact ⟨b, rfl, but_t ha e h1, h2⟩
/-- a list that was made behind the reader is written to -/
theorem Rd.At.mut {b : Addr} {xs ys : List V} (hb : H b = some (.lst xs)) (hr : b ≠ R.rl) (h : R.At C K H ls) : R.At C K (upd H b (.lst ys)) ls := by
  have e : But b H (upd H b (.lst ys)) := fun x o hx ho => by rw [upd_ne hx]; exact ho
  refine ⟨?_, h.pre, ?_, h.kn.but (NoTup.lst hb) e, h.few, h.long⟩
  · rw [upd_ne (Ne.symm (h.ne hb))]
    exact h.obj
  · rw [upd_ne (Ne.symm hr)]
    exact h.rl
theorem but_ex (hb : But R.a H H') {H2 : Hp} (e : Ex H' H2) : But R.a H H2 := hb.trans (But.of e)
theorem but_fresh {a : Addr} {q : Addr} (e : But a H H') (h1 : H' a ≠ none) (h : H' q = none) : H q = none := by
  cases hq : H q with
  | none => rfl
  | some o =>
    have := e q o (fun z => h1 (by rw [← z]; exact h)) hq
    rw [h] at this
    cases this
def Fails (R : Rd) (CN : Addr) (c : Nat) (H : Hp) (E : XK) : Prop := ∀ d H', But R.a H H' → H d = none → H' d = some (.xd [("line", iv (R.rows.length - c))]) → E (.ref CN) (some d) H'
theorem Fails.mono {c : Nat} {E : XK} (k : Fails R CN c H E) (e : But R.a H H') (h1 : H' R.a ≠ none) : Fails R CN c H' E := fun d H2 e2 hd hx => k d H2 (e.trans e2) (but_fresh e h1 hd) hx
def Rdn {α : Type} (R : Rd) (C CN : Addr) (K : PySem.W.Frag) (dv : α → PyData) (r : Rt α) (H : Hp) (Q : VK) (E : XK) : Prop := match r with
  | .ok (x, ls') => ∀ v H', But R.a H H' → R.At C K H' ls' → Dp K H' v (dv x) → Q v H'
  | .error c => Fails R CN c H E
theorem Rdn.mono {α : Type} {dv : α → PyData} {r : Rt α} {Q : VK} {E : XK} (k : Rdn R C CN K dv r H Q E) (e : But R.a H H') (h1 : H' R.a ≠ none) : Rdn R C CN K dv r H' Q E := by
  cases r with
  | ok x => exact fun v H2 e2 hA hd => k v H2 (e.trans e2) hA hd
  | error c => exact Fails.mono k e h1
theorem Rdn.err {α : Type} {dv : α → PyData} {r : Rt α} {c : Nat} {Q : VK} {E : XK} (k : Rdn R C CN K dv r H Q E) (h : r = .error c) : Fails R CN c H E := by
  subst h
  exact k
theorem Rdn.ok {α : Type} {dv : α → PyData} {r : Rt α} {x : α} {ls' : Ls} {Q : VK} {E : XK} (k : Rdn R C CN K dv r H Q E) (h : r = .ok (x, ls')) : ∀ v H', But R.a H H' → R.At C K H' ls' → Dp K H' v (dv x) → Q v H' := by
  subst h
  exact k
end
/-! ### needs, take_line, is_over, tag_of -/
def spNeeds (K : PySem.W.Frag) (C CN : Addr) : Sp := fun vs H Q E => ∃ (R : Rd) (ls : Ls) (b : Bool), vs = [.ref R.a, .bl b] ∧ R.At C K H ls ∧ ls.length < R.rows.length ∧ (b = true → ∀ H', Ex H H' → Q .non H') ∧ (b = false → Fails R CN (ls.length + 1) H E)
def spTake (K : PySem.W.Frag) (C CN : Addr) : Sp := fun vs H Q E => ∃ (R : Rd) (ls : Ls), vs = [.ref R.a] ∧ R.At C K H ls ∧ (ls = [] → Fails R CN 0 H E) ∧ ∀ l ls', ls = l :: ls' → ∀ H', But R.a H H' → R.At C K H' ls' → Q (tv l) H'
def spOver (K : PySem.W.Frag) (C : Addr) : Sp := fun vs H Q _ => ∃ (R : Rd) (ls : Ls), vs = [.ref R.a] ∧ R.At C K H ls ∧ ∀ H', Ex H H' → Q (.bl (decide (ls = []) && decide (R.rest = []))) H'
def spTag (C : Addr) : Sp := fun vs H Q _ => ∃ (x : V) (l : List Nat), vs = [x, tv l] ∧ l.length ≤ 3500000 ∧ ∀ H', Ex H H' → Q (ov (tagL l)) H'
theorem ev_fld {te : TE} {σ : L2.St} {H : Hp} {a C dx : Addr} {fs : List (Str × V)} {f : Str} {v : V} (h : Ev te σ H (.ref a)) (ha : H a = some (.ins C dx fs)) (c : Cls K C) (n : NoAttr K C f) (l : fs.lookup f = some v) : Ev (tFld K te f) σ H v := fun H1 e Q q =>
  h H1 e _ fun H2 e2 => ⟨a, C, dx, fs, v, rfl, (e.trans e2) _ _ ha, c, n, l, q H2 e2⟩
theorem ok_Lines_needs {C CN : Addr} {f : Addr} {fd : FuncData} (F : Fun K "needs" "Lines.needs" s_Lines_needs f fd) (T : T0 K mg aKn aWi aOw aLi aOn aOt) (L : LC K C) (N_NoText : NT P w K mg base CN) : FnOk P w K mg base (L2.CX P w) 3 f fd p_Lines_needs (spNeeds K C CN) := by
  refine F.okX sc_Lines_needs (fun vs H Q E h => ?_) (fun cdv A outer s H vs Q E hr h => ?_)
  · obtain ⟨R, ls, b, rfl, _⟩ := h
    rfl
  · obtain ⟨R, ls, b, rfl, hA, hlt, k1, k2⟩ := h
    refine ⟨_, (pss_one (ps_if (pt_not (pt_val (pv 1))) (pss_one (ps_raise rfl (takes_of rfl rfl rfl rfl) (pmk_NoText N_NoText hr (by decide) (by rfl) (pa_cons (pe_op op_sub (pe_fld (pv 0) rfl) pe_int) pa_nil)))) pss_nil)), ?_⟩
    refine s_ifN (b := !b) (et_not (et_test (ev_var rfl))) (fun hb H1 e1 => ?_) fun hb H1 e1 => ?_
    · have hb : b = false := by simpa using hb
      refine mk_nt (ea_cons (ev_is (ev_op (ev_fld (v := iv (R.rows.length - ls.length)) (ev_var rfl) (e1 _ _ hA.obj) L.cl L.n_spot rfl) ev_c rv_I0) ?_) ea_nil) fun d H' e hd hx => k2 hb d H' ((But.of e1).trans (But.of e)) (fresh_back e1 hd) hx
      exact congrArg V.int (by omega)
    · have hb : b = true := by simpa using hb
      exact k1 hb H1 e1
theorem ok_Lines_take_line {C CN : Addr} {f : Addr} {fd : FuncData} (F : Fun K "take_line" "Lines.take_line" s_Lines_take_line f fd) (T : T0 K mg aKn aWi aOw aLi aOn aOt) (L : LC K C) (N_NoText : NT P w K mg base CN) : FnOk P w K mg base (L2.CX P w) 3 f fd p_Lines_take_line (spTake K C CN) := by
  refine F.okX sc_Lines_take_line (fun vs H Q E h => ?_) (fun cdv A outer s H vs Q E hr h => ?_)
  · obtain ⟨R, ls, rfl, _⟩ := h
    rfl
  · obtain ⟨R, ls, rfl, hA, k1, k2⟩ := h
    have hu64 := hu64 hr
    refine ⟨_, (pss_cons (ps_if (pt_cmpR (MB.op_eqK (K := K) rfl hu64) (pe_fld (pv 0) rfl) (pe_callB (MB.call_lenK (K := K) rfl) (by rfl) T.n_len MB.bo_len (pa_cons (pe_fld (pv 0) rfl) pa_nil)) (nomark _)) (pss_one (ps_raise rfl (takes_of rfl rfl rfl rfl) (pmk_NoText N_NoText hr (by decide) (by rfl) (pa_cons (pe_fld (pv 0) rfl) pa_nil)))) pss_nil)
      (pss_cons (ps_fldaug (pv 0) pe_int in_add)
      (pss_one (ps_ret (pe_ix (MB.ix_K (K := K) rfl) (pe_fld (pv 0) rfl) (pe_op op_sub (pe_fld (pv 0) rfl) pe_int) (fun _ _ => rfl)))))), ?_⟩
    have hlen := hA.len
    have hml : (R.rows.map tv).length = R.rows.length := List.length_map _
    refine q_ifN (b := decide (ls = [])) (et_B (ev_is (ev_op (ev_fld (v := iv (R.rows.length - ls.length)) (ev_var rfl) hA.obj L.cl L.n_spot rfl) (ev_cb1 (ev_fld (ev_var rfl) hA.obj L.cl L.n_rows rfl) (rc_lenL (sq_of hA.rl))) rv_eqI) (congrArg V.bl (decide_eq_decide.mpr (by
      rw [hml, ← List.length_eq_zero_iff]
      omega))))) (fun hb H1 e1 => ?_) fun hb H1 e1 => ?_
    · have hb := of_decide_eq_true hb
      subst hb
      exact mk_nt (ea_cons (ev_fld (ev_var rfl) (e1 _ _ hA.obj) L.cl L.n_spot rfl) ea_nil) fun d H' e hd hx => k1 rfl d H' ((But.of e1).trans (But.of e)) (fresh_back e1 hd) hx
    · have hb := of_decide_eq_false hb
      obtain ⟨l, ls', rfl⟩ := List.exists_cons_of_ne_nil hb
      have hA1 := hA.ex e1
      obtain ⟨pre, hpre⟩ := hA.pre
      have hrl : R.rows.length = pre.length + (ls'.length + 1) := by rw [hpre, List.length_append, List.length_cons]
      have hsp : iv (R.rows.length - (l :: ls').length) = V.int (pre.length : Int) := congrArg V.int (by rw [List.length_cons]; omega)
      refine ⟨_, rfl, R.a, C, R.dx, _, _, rfl, hA1.obj, L.cl, L.n_spot, rfl, _, _, hsp, rfl, R.dx, _, hA1.obj, by show 5 < 1000; decide, ?_⟩
      have e2 : But R.a H1 (upd H1 R.a (.ins C R.dx (R.fs (R.rows.length - ls'.length)))) := fun b o hb hbo => by rw [upd_ne hb]; exact hbo
      have hobj : putF "spot" (V.int ((pre.length : Int) + 1)) (R.fs (R.rows.length - (l :: ls').length)) = R.fs (R.rows.length - ls'.length) := by
        have e3 : V.int ((pre.length : Int) + 1) = iv (R.rows.length - ls'.length) := congrArg V.int (by omega)
        rw [e3]
        rfl
      rw [hobj]
      have hA2 : R.At C K (upd H1 R.a (.ins C R.dx (R.fs (R.rows.length - ls'.length)))) ls' := by
        refine ⟨upd_same, ⟨pre ++ [l], by rw [hpre, List.append_assoc]; rfl⟩, ?_, hA1.kn.but hA1.no e2, hA.few, hA.long⟩
        rw [upd_ne (hA1.ne hA1.rl)]
        exact hA1.rl
      have hat : R.rows[pre.length]? = some l := by rw [hpre, List.getElem?_append_right (Nat.le_refl _), Nat.sub_self]; rfl
      refine s_ret (ev_op (ev_fld (ev_var rfl) hA2.obj L.cl L.n_rows rfl) (ev_is (ev_op (ev_fld (v := iv (R.rows.length - ls'.length)) (ev_var rfl) hA2.obj L.cl L.n_spot rfl) ev_c rv_I0) (w := .int (pre.length : Int)) (congrArg V.int (by omega))) (rv_xL (v := tv l) (sq_of hA2.rl) (MB.atI_nat (by rw [List.getElem?_map, hat]; rfl)))) fun H3 e3 => k2 l ls' rfl H3 ((But.of e1).trans (e2.trans (But.of e3))) (hA2.ex e3)
theorem ok_Lines_is_over {C : Addr} {f : Addr} {fd : FuncData} (F : Fun K "is_over" "Lines.is_over" s_Lines_is_over f fd) (T : T0 K mg aKn aWi aOw aLi aOn aOt) (L : LC K C) : FnOk P w K mg base CX0 1 f fd p_Lines_is_over (spOver K C) := by
  refine F.ok sc_Lines_is_over (fun vs H Q E h => ?_) (fun cdv A outer s H vs Q E hr h => ?_)
  · obtain ⟨R, ls, rfl, _⟩ := h
    rfl
  · obtain ⟨R, ls, rfl, hA, k⟩ := h
    have hu64 := hu64 hr
    refine ⟨_, (pss_one (ps_ret (pe_and (pe_cmpR (MB.op_eqK (K := K) rfl hu64) (pe_fld (pv 0) rfl) (pe_callB (MB.call_lenK (K := K) rfl) (by rfl) T.n_len MB.bo_len (pa_cons (pe_fld (pv 0) rfl) pa_nil)) (nomark _)) (pe_one (pe_cmpR (MB.op_eqK (K := K) rfl hu64) (pe_fld (pv 0) rfl) pe_str (nomark _)))))), ?_⟩
    have hlen := hA.len
    have hml : (R.rows.map tv).length = R.rows.length := List.length_map _
    refine s_ret (ev_andV (ev_is (ev_op (ev_fld (v := iv (R.rows.length - ls.length)) (ev_var rfl) hA.obj L.cl L.n_spot rfl) (ev_cb1 (ev_fld (ev_var rfl) hA.obj L.cl L.n_rows rfl) (rc_lenL (sq_of hA.rl))) rv_eqI) (congrArg V.bl (decide_eq_decide.mpr (by
      rw [hml, ← List.length_eq_zero_iff]
      omega)))) fun _ => ev_op (ev_fld (v := tv R.rest) (ev_var rfl) hA.obj L.cl L.n_rest rfl) (ev_is ev_c (congrArg V.str (of_S ""))) rv_eqC) k
/-- word, *rest = line.split(' ') -/
theorem q_words {σ : L2.St} {H : Hp} {te : TE} {l : List Nat} {i j : Nat} {tz : TS} {D : Ends} (h : Ev te σ H (tv l)) (hl : l.length ≤ 3500000)
    (k : ∀ w rest p H1, wordsL l = w :: rest → rest.length ≤ 3500001 → (∀ x ∈ w :: rest, x.length ≤ 3500000) → Ex H H1 → H p = none → H1 p = some (.lst (rest.map tv)) → tz D ((σ.set i (some (tv w))).set j (some (.ref p))) H1) :
    tSeq (tAsg (tM1 (fun x xs H Q => ∃ a b, x = .str a ∧ xs = [.str b] ∧ (b.length == 0) = false ∧ a.length + 2 ≤ sizeLine ∧ rNewStrs (Txt.split a b) H Q) te (tC (.str " "))) (gStar K 2 1 (gCons (gName i) (gCons (gName j) gNil)))) tz D σ H := by
  refine (el_split (w := l) (sep := [32]) (H := H) h (ev_is ev_c (congrArg V.str (of_S " "))) (by decide) (by decide) (by omega)) H (Ex.refl H) _ fun p0 H1 hn0 e1 h1 => ?_
  have hL : (wordsL l).length ≤ 3500001 := Nat.le_trans (spl_length _ _ _ _) (by omega)
  have hm1 : ∀ x ∈ wordsL l, x.length ≤ 3500000 := fun x h => by have := spl_mem _ _ _ _ _ h; rw [List.length_nil] at this; omega
  have hne : wordsL l ≠ [] := spl_ne _ _ _ _
  change H1 p0 = some (.lst ((wordsL l).map fun w => V.str (SX.S w))) at h1
  obtain ⟨w, rest, hw⟩ := List.exists_cons_of_ne_nil hne
  rw [hw] at h1 hL hm1
  rw [List.length_cons] at hL
  refine ⟨p0, _, rfl, sq_of h1, by decide, by simp, fun p hp => ?_⟩
  have e2 : Ex H (upd H1 p (.lst (rest.map tv))) := e1.trans (Ex.new hp)
  have eL : List.take (List.length ((w :: rest).map fun w => V.str (SX.S w)) + 1 - 2) (List.drop 1 ((w :: rest).map fun w => V.str (SX.S w))) = rest.map tv := by
    rw [List.map_cons, List.length_cons, List.drop_succ_cons, List.drop_zero, List.take_of_length_le (by omega)]
    rfl
  have eR : List.take 1 ((w :: rest).map fun w => V.str (SX.S w)) ++ [V.ref p] ++ List.drop (List.length ((w :: rest).map fun w => V.str (SX.S w)) + 1 - 2) (List.drop 1 ((w :: rest).map fun w => V.str (SX.S w))) = [tv w, V.ref p] := by
    rw [List.map_cons, List.length_cons, List.drop_succ_cons, List.drop_zero, List.drop_of_length_le (by omega)]
    rfl
  rw [eL]
  refine ⟨_, _, eR, _, _, rfl, rfl, ?_⟩
  exact k w rest p _ hw (by omega) hm1 e2 (fresh_back e1 hp) upd_same
theorem ov_ne (o : Option Nat) : decide (ov o = .non) = o.isNone := by cases o <;> rfl
theorem ok_Lines_tag_of {C : Addr} {f : Addr} {fd : FuncData} (F : Fun K "tag_of" "Lines.tag_of" s_Lines_tag_of f fd) (T : T0 K mg aKn aWi aOw aLi aOn aOt) (c_number_by : MB.Cl P w K mg base 1 "number_by" sp_number_by) : FnOk P w K mg base CX0 2 f fd p_Lines_tag_of (spTag C) := by
  refine F.ok sc_Lines_tag_of (fun vs H Q E h => ?_) (fun cdv A outer s H vs Q E hr h => ?_)
  · obtain ⟨x, l, rfl, _⟩ := h
    rfl
  · obtain ⟨x, l, rfl, hl, k⟩ := h
    have hu64 := hu64 hr
    refine ⟨_, (pss_cons (ps_asg (pe_split (pv 1) pe_str) (MB.pg_star (n := 2) (i := 1) rfl (pgs_cons (pg_name (i := 2) sc_Lines_tag_of.nd rfl (.inl rfl)) (MB.pgs_star (pg_name (i := 3) sc_Lines_tag_of.nd rfl (.inl rfl)) pgs_nil))))
      (pss_cons (ps_set (i := 4) sc_Lines_tag_of.nd rfl (Or.inl rfl) (pe_ifExp (pt_cmpR (MB.op_neNil (K := K) rfl (Nat.lt_of_le_of_lt (Nat.le_add_right _ 64) hu64)) (pv 3) (pe_lst pa_nil) (nomark _)) (MB.pe_cl c_number_by hr (by decide) (by rfl) passL (pa_cons (pe_ix (MB.ix_K (K := K) rfl) (pv 3) pe_int (fun _ _ => rfl)) pa_nil)) pe_non))
      (pss_one (ps_ret (pe_ifExp (PW.pt (pw_and (pt_cmpR MB.op_isNotA (pv 4) pe_non (nomark _)) (pw_and1 (pt_cmpR op_le (pv 4) (pe_gc (by rfl) T.g_MOST_NUMBER) (nomark _))))) (pv 4) pe_non))))), ?_⟩
    refine q_words (ev_var rfl) hl fun w rest p H1 hw hrl hm e1 hp0 hp => ?_
    have fin : ∀ o : Option Nat, (match o with | some n => if n ≤ 65535 then some n else none | none => none) = tagL l → ∀ H2, Ex H H2 → ∀ σ : L2.St, σ[4]? = some (some (ov o)) →
      tRet (tIf (tAnd (tB (tOp rIsNotA (tVar 4) (tC .non))) (tB (tOp (rI0 fun i j => .bl (decide (i ≤ j))) (tVar 4) (tC (.int 65535))))) (tVar 4) (tC .non)) { nx := fun _ H' => Q .non H', rt := Q } σ H2 := by
      intro o ho H2 e2 σ hσ
      cases o with
      | none =>
        refine s_ret (ev_if (b := false) (et_is (et_and (a := false) (b := false) (et_B (ev_op (ev_var hσ) ev_c fun H3 _ Q q => .inl ⟨rfl, q H3 (Ex.refl H3)⟩)) fun z => by cases z) rfl) (fun z => by cases z) fun _ => ev_c) fun H3 e3 => ?_
        have := k H3 (e2.trans e3)
        rw [← ho] at this
        exact this
      | some n =>
        refine s_ret (v := ov (if n ≤ 65535 then some n else none)) (ev_if (b := decide (n ≤ 65535)) (et_is (et_and (a := true) (b := decide (n ≤ 65535)) (et_B (ev_op (ev_var hσ) ev_c fun H3 _ Q q => .inl ⟨rfl, q H3 (Ex.refl H3)⟩)) fun _ => et_B (ev_is (ev_op (ev_var hσ) ev_c rv_I0) (congrArg V.bl (decide_eq_decide.mpr (by omega))))) rfl) (fun hb => ?_) fun hb => ?_) fun H3 e3 => ?_
        · rw [if_pos (of_decide_eq_true hb)]
          exact ev_var hσ
        · rw [if_neg (of_decide_eq_false hb)]
          exact ev_c
        · have := k H3 (e2.trans e3)
          rw [← ho] at this
          exact this
    cases rest with
    | nil =>
      refine q_asg (v := ov none) (ev_if (b := false) (et_B (ev_is (ev_neNilV (ev_var rfl) (sq_of hp)) rfl)) (fun z => by cases z) fun _ => ev_c) fun H2 e2 => fin none ?_ H2 (e1.trans e2) _ rfl
      unfold tagL
      rw [hw]
    | cons r rest =>
      refine q_asg (v := ov (numBy r)) (ev_if (b := true) (et_B (ev_is (ev_neNilV (ev_var rfl) (sq_of hp)) rfl)) (fun _ => ev_call (ea_cons (ev_op (ev_var rfl) ev_c (rv_xL (v := tv r) (sq_of hp) (MB.atI_nat (i := 0) rfl))) ea_nil) fun H2 e2 Q q E => ⟨r, rfl, hm r (by simp), q⟩) fun z => by cases z) fun H2 e2 => fin (numBy r) ?_ H2 (e1.trans e2) _ rfl
      unfold tagL
      rw [hw]
      rfl
end
end K82
set_option maxRecDepth 100000
set_option maxHeartbeats 1000000
namespace K82
open PySem PySem.Spec PyProof.Rows L2 Evl MB
section
variable {P : Program} {w : World} {K : PySem.W.Frag} {mg : Str → Option Value} {base : Heap} {aKn aWi aOw aLi aOn aOt : Addr}
section
variable {R : Rd} {C CN : Addr} {ls : Ls} {σ : L2.St} {H : Hp} {E : XK} {D : Ends} {tz : TS} {i j : Nat} {te : TE} {b : Bool}
theorem q_take (h0 : σ[j]? = some (some (.ref R.a))) (hA : R.At C K H ls) (kf : ls = [] → Fails R CN 0 H E) (k : ∀ l ls', ls = l :: ls' → ∀ H', But R.a H H' → R.At C K H' ls' → tz D (σ.set i (some (tv l))) H') :
    tSeq (tAsg (tMeth C "take_line" (spTake K C CN) [] E (tVar j) tNil) (gName i)) tz D σ H :=
  ⟨_, h0, R.a, R.dx, _, rfl, hA.obj, rfl, R, ls, rfl, hA, kf, fun l ls' e H' b a => k l ls' e H' b a⟩
theorem s_take (h0 : σ[j]? = some (some (.ref R.a))) (hA : R.At C K H ls) (kf : ls = [] → Fails R CN 0 H E) (k : ∀ l ls', ls = l :: ls' → ∀ H', But R.a H H' → R.At C K H' ls' → D.nx (σ.set i (some (tv l))) H') :
    tAsg (tMeth C "take_line" (spTake K C CN) [] E (tVar j) tNil) (gName i) D σ H :=
  ⟨_, h0, R.a, R.dx, _, rfl, hA.obj, rfl, R, ls, rfl, hA, kf, fun l ls' e H' b a => k l ls' e H' b a⟩
theorem s_needs (h0 : σ[j]? = some (some (.ref R.a))) (hA : R.At C K H ls) (hlt : ls.length < R.rows.length) (h : Ev te σ H (.bl b)) (kf : b = false → Fails R CN (ls.length + 1) H E) (k : b = true → ∀ H1, Ex H H1 → D.nx σ H1) :
    tDrop (tMeth C "needs" (spNeeds K C CN) [] E (tVar j) (tCons te tNil)) D σ H :=
  ⟨_, h0, R.a, R.dx, _, rfl, hA.obj, rfl, (ea_cons h ea_nil : EvA _ σ H _) H (Ex.refl H) _ fun H1 e1 => ⟨R, ls, b, rfl, hA.ex e1, hlt, fun hb H2 e2 => k hb H2 (e1.trans e2), fun hb => (kf hb).mono (But.of e1) (hA.ex e1).isS⟩⟩
theorem q_needs (h0 : σ[j]? = some (some (.ref R.a))) (hA : R.At C K H ls) (hlt : ls.length < R.rows.length) (h : Ev te σ H (.bl b)) (kf : b = false → Fails R CN (ls.length + 1) H E) (k : b = true → ∀ H1, Ex H H1 → tz D σ H1) :
    tSeq (tDrop (tMeth C "needs" (spNeeds K C CN) [] E (tVar j) (tCons te tNil))) tz D σ H := s_needs (D := { D with nx := tz D }) h0 hA hlt h kf k
theorem ev_over (h0 : σ[j]? = some (some (.ref R.a))) (hA : R.At C K H ls) : Ev (tMeth C "is_over" (spOver K C) [] E (tVar j) tNil) σ H (.bl (decide (ls = []) && decide (R.rest = []))) := fun H1 e Q q =>
  ⟨_, h0, R.a, R.dx, _, rfl, (hA.ex e).obj, rfl, R, ls, rfl, hA.ex e, q⟩
theorem ev_tag {l : List Nat} (h0 : σ[j]? = some (some (.ref R.a))) (hA : R.At C K H ls) (h : Ev te σ H (tv l)) (hl : l.length ≤ 3500000) : Ev (tMeth C "tag_of" (spTag C) [] E (tVar j) (tCons te tNil)) σ H (ov (tagL l)) := fun H1 e Q q =>
  ⟨_, h0, R.a, R.dx, _, rfl, (hA.ex e).obj, rfl, h H1 e _ fun H2 e2 => ⟨_, l, rfl, hl, fun H3 e3 => q H3 (e2.trans e3)⟩⟩
/-- return tuple(xs) -/
theorem s_retTup {xs : List V} {fl : Addr} (h : Ev te σ H (.ref fl)) (hl : H fl = some (.lst xs)) (k : ∀ q H1, H q = none → Ex H H1 → H1 q = some (.tup xs) → D.rt (.ref q) H1) : tRet (tCB (rTupleK K) (tCons te tNil)) D σ H :=
  h H (Ex.refl H) _ fun H1 e1 => ⟨fl, xs, rfl, .inl ⟨sq_of (e1 _ _ hl), fun q hq => k q _ (fresh_back e1 hq) (e1.trans (Ex.new hq)) upd_same⟩⟩
theorem etp_tuple {xs : List V} (h : EvLs K te σ H xs) : EvTp K (tCB (rTupleK K) (tCons te tNil)) σ H xs := fun H1 e Q q => h H1 e _ fun p H2 e2 hp => ⟨p, xs, rfl, .inl ⟨hp, fun l hl => q l _ (e2.trans (Ex.new hl)) (st_of upd_same)⟩⟩
end
theorem shaped_dT (ns : List Nat) : SeqAt.shaped (dT ns) = true := by
  have h : ∀ ns : List Nat, PyData.canLayAll0 (ns.map fun (n : Nat) => PyData.int (n : Int)) = true ∧ PyData.depthAll (ns.map fun (n : Nat) => PyData.int (n : Int)) = 0 := by
    intro ns
    induction ns with
    | nil => exact ⟨rfl, rfl⟩
    | cons n r ih =>
      rw [List.map_cons, PyData.canLayAll0, PyData.depthAll, ih.1, ih.2, PyData.canLay0, PyData.depth]
      exact ⟨rfl, rfl⟩
  unfold SeqAt.shaped dT
  rw [PyData.canLay0, PyData.depth, (h ns).1, (h ns).2]
  rfl
theorem dp_nums {H : Hp} {q : Addr} {ns : List Nat} (h : SqT K H q (ns.map iv)) : Dp K H (.ref q) (dT ns) := by
  refine .tup h ?_
  have := MB.dpAll_ints (K := K) (H := H) (ns.map fun (n : Nat) => (n : Int))
  rw [List.map_map, List.map_map] at this
  exact this
/-- numbers != () -/
theorem ev_neUnit {σ : L2.St} {H : Hp} {te : TE} {q : Addr} {ns : List Nat} (h : Ev te σ H (.ref q)) (hq : SqT K H q (ns.map iv)) : Ev (tOp (rNeA K) te (tTup tNil)) σ H (.bl (!ns.isEmpty)) :=
  ev_opU (xs := []) h (eu_tup ea_nil (by show 0 ≤ 100000; decide)) fun p H1 hp e => by
    have hh := rv_neD (K := K) (H := H1) (x := .ref q) (y := .ref p) (d := dT ns) (e := .tuple []) (dp_nums (ex_t e hq)) (.tup (st_of hp) .nil) (shaped_dT ns) rfl
    have e2 : PyData.eqv (dT ns) (.tuple []) = ns.isEmpty := by
      cases ns <;> rfl
    rw [e2] at hh
    exact hh
theorem ev_worths {σ : L2.St} {H : Hp} {E : XK} {t1 tl tk : TE} {kind : Nat} {ns kn : List Nat} {y : V} (h1 : Ev t1 σ H (iv kind)) (h2 : EvTp K tl σ H (ns.map iv)) (h3 : Ev tk σ H y) (hy : KnAt K H y kn) (hz : ns.length ≤ 3500000) (h4 : kind ∈ kn → kind < 4) :
    Ev (tCallN 2 1 (sp_is_worths K) (fun vs zs => vs ++ zs) E (tCons t1 (tCons tl tNil)) (tCons tk tNil)) σ H (.bl (worthsB kn kind ns)) := fun H1 e Q q =>
  h1 H1 e _ fun H2 e2 => h2 H2 (e.trans e2) _ fun p H3 e3 hp => h3 H3 ((e.trans e2).trans e3) _ fun H4 e4 => ⟨rfl, rfl, kind, _, y, kn, rfl, hy.ex (((e.trans e2).trans e3).trans e4), .inl ⟨p, ns, rfl, ex_t e4 hp, hz, h4, fun H5 e5 => q H5 (((e2.trans e3).trans e4).trans e5)⟩⟩
theorem ev_worthsT {σ : L2.St} {H : Hp} {E : XK} {t1 tl tk : TE} {t kn : List Nat} {y : V} (h1 : Ev t1 σ H (iv 4)) (h2 : Ev tl σ H (tv t)) (h3 : Ev tk σ H y) (hy : KnAt K H y kn) (hz : t.length ≤ 3500000) (h4 : 4 ∈ kn) :
    Ev (tCallN 2 1 (sp_is_worths K) (fun vs zs => vs ++ zs) E (tCons t1 (tCons tl tNil)) (tCons tk tNil)) σ H (.bl (textB t)) := fun H1 e Q q =>
  h1 H1 e _ fun H2 e2 => h2 H2 (e.trans e2) _ fun H3 e3 => h3 H3 ((e.trans e2).trans e3) _ fun H4 e4 => ⟨rfl, rfl, 4, _, y, kn, rfl, hy.ex (((e.trans e2).trans e3).trans e4), .inr ⟨t, rfl, rfl, h4, hz, fun H5 e5 => q H5 (((e2.trans e3).trans e4).trans e5)⟩⟩
/-! ### plain_in -/
def spPlain (K : PySem.W.Frag) (C CN : Addr) : Sp := fun vs H Q E => ∃ (R : Rd) (ls : Ls) (l : Addr) (ws : Ls), vs = [.ref R.a, .ref l] ∧ R.At C K H ls ∧ ls.length < R.rows.length ∧ SqL K H l (ws.map tv) ∧ ws.length ≤ 3500000 ∧ (∀ x ∈ ws, x.length ≤ 3500000) ∧
  (plainIn R.kn R.raw ws = none → Fails R CN (ls.length + 1) H E) ∧ ∀ k ns, plainIn R.kn R.raw ws = some (k, ns) → ∀ p q H', Ex H H' → H p = none → H' p = some (.tup [iv k, .ref q]) → SqT K H' q (ns.map iv) → Q (.ref p) H'
theorem numsBy_len : ∀ {ws : Ls} {ns : List Nat}, numsBy ws = some ns → ns.length = ws.length := fun h => by
  have := congrArg List.length (numsBy_map h)
  rw [List.length_map, List.length_map] at this
  exact this.symm
theorem ev_known {σ : L2.St} {H : Hp} {R : Rd} {C : Addr} {ls : Ls} {te : TE} (h : Ev te σ H (.ref R.a)) (hA : R.At C K H ls) (L : LC K C) : Ev (tFld K te "known") σ H R.ky := ev_fld h hA.obj L.cl L.n_known rfl
theorem rv_inY {H : Hp} {y : V} {k : Nat} {kn : List Nat} (h : KnAt K H y kn) : RV (rInA K) (iv k) y H (.bl (decide (k ∈ kn))) := by
  obtain ⟨a, rfl, h1, _⟩ := h
  exact rv_inK h1
theorem rv_niY {H : Hp} {y : V} {k : Nat} {kn : List Nat} (h : KnAt K H y kn) : RV (rNotInA K) (iv k) y H (.bl (!decide (k ∈ kn))) := by
  obtain ⟨a, rfl, h1, _⟩ := h
  exact rv_niK h1
theorem ok_Lines_plain_in {C CN : Addr} {f : Addr} {fd : FuncData} (F : Fun K "plain_in" "Lines.plain_in" s_Lines_plain_in f fd) (T : T0 K mg aKn aWi aOw aLi aOn aOt) (L : LC K C) (c_numbers_by : MB.Cl P w K mg base 2 "numbers_by" (sp_numbers_by K))
    (m_needs : MB.Mt P w K mg base 3 C "needs" (spNeeds K C CN)) (k_is_worths : MB.ClN P w K mg base 3 "is_worths" (sp_is_worths K) 2 ["known"] (fun vs zs => vs ++ zs)) : FnOk P w K mg base (L2.CX P w) 4 f fd p_Lines_plain_in (spPlain K C CN) := by
  refine F.okX sc_Lines_plain_in (fun vs H Q E h => ?_) (fun cdv A outer s H vs Q E hr h => ?_)
  · obtain ⟨R, ls, l, ws, rfl, _⟩ := h
    rfl
  · obtain ⟨R, ls, l, ws, rfl, hA, hlt, hl, hz, hzl, kf, k⟩ := h
    have hu64 := hu64 hr
    have HX : Passes (L2.CX P w) (cxOf (L2.CX P w) P w K mg base n_Lines_plain_in "Lines.plain_in" (defScope s_Lines_plain_in) f cdv A outer s H E) E := passes_call (W := fun cls d _ H => E cls d H) (takes_of rfl rfl rfl rfl) fun _ _ _ _ h => h
    refine ⟨_, (pss_cons (ps_set (i := 2) sc_Lines_plain_in.nd rfl (Or.inl rfl) (MB.pe_cl c_numbers_by hr (by decide) (by rfl) passL (pa_cons (pv 1) pa_nil)))
      (pss_cons (ps_expr (MB.pe_mt m_needs hr (by decide) HX (pv 0) (pa_cons (pe_and (pe_cmpR MB.op_isNotA (pv 2) pe_non (nomark _)) (pe_one (pe_cmpR (MB.op_neK (K := K) rfl hu64) (pv 2) (pe_tup pa_nil) (nomark _)))) pa_nil)))
      (pss_cons (ps_asg (pv 2) (MB.pg_starT (n := 2) (i := 1) rfl (pgs_cons (pg_name (i := 3) sc_Lines_plain_in.nd rfl (.inl rfl)) (MB.pgs_star (pg_name (i := 4) sc_Lines_plain_in.nd rfl (.inl rfl)) pgs_nil))))
      (pss_cons (ps_expr (MB.pe_mt m_needs hr (by decide) HX (pv 0) (pa_cons (pe_and (pe_cmpR op_le (pv 3) (pe_gc (by rfl) T.g_MOST_NUMBER) (nomark _)) (pe_one (pe_or (pe_and (pe_cmpR (MB.op_niK (K := K) rfl) (pv 3) (pe_fld (pv 0) rfl) rfl) (pe_one (pe_fld (pv 0) rfl))) (pe_one (pe_and (pe_cmpR (MB.op_inK (K := K) rfl) (pv 3) (pe_fld (pv 0) rfl) rfl) (pe_one (pe_cmpR op_lt (pv 3) pe_int (nomark _)))))))) pa_nil)))
      (pss_cons (ps_expr (MB.pe_mt m_needs hr (by decide) HX (pv 0) (pa_cons (MB.pe_clN k_is_worths hr (by decide) (by rfl) passL (pa_cons (pv 3) (pa_cons (pe_callTy (MB.call_tupleK (K := K) rfl) (by rfl) T.n_tuple MB.bo_tuple (pa_cons (pv 4) pa_nil)) pa_nil)) (pk_cons (pe_fld (pv 0) rfl) pk_nil)) pa_nil)))
      (pss_one (ps_ret (pe_tup (pa_cons (pv 3) (pa_cons (pe_callTy (MB.call_tupleK (K := K) rfl) (by rfl) T.n_tuple MB.bo_tuple (pa_cons (pv 4) pa_nil)) pa_nil)))))))))), ?_⟩
    refine q_asgC (ea_cons (ev_var rfl) ea_nil) fun H1 e1 => ⟨l, ws, rfl, ex_l e1 hl, hz, hzl, fun x H2 e2 hx => ?_⟩
    have hA2 := hA.ex (e1.trans e2)
    have e12 := e1.trans e2
    cases hn : numsBy ws with
    | none =>
      rw [hn] at hx
      obtain rfl : x = .non := hx
      refine q_needs (b := false) rfl hA2 hlt (ev_is (ev_andV (a := false) (b := false) (ev_op (ev_var rfl) ev_c fun H3 _ Q q => .inl ⟨rfl, q H3 (Ex.refl H3)⟩) fun z => by cases z) rfl) (fun _ => (kf (by unfold plainIn; rw [hn])).mono (But.of e12) hA2.isS) fun z => by cases z
    | some ms =>
      rw [hn] at hx
      obtain ⟨q0, rfl, hq0⟩ := hx
      have hms := numsBy_len hn
      refine q_needs (b := !ms.isEmpty) rfl hA2 hlt (ev_is (ev_andV (a := true) (b := !ms.isEmpty) (ev_op (ev_var rfl) ev_c fun H3 _ Q q => .inl ⟨rfl, q H3 (Ex.refl H3)⟩) fun _ => ev_neUnit (ev_var rfl) hq0) rfl) (fun hb => (kf (by
        unfold plainIn
        rw [hn]
        cases ms with
        | nil => rfl
        | cons => cases hb)).mono (But.of e12) hA2.isS) fun hb H3 e3 => ?_
      cases ms with
      | nil => cases hb
      | cons kind ns =>
        have hpl : plainIn R.kn R.raw ws = if (plainK R.kn R.raw kind && worthsB R.kn kind ns) = true then some (kind, ns) else none := by
          unfold plainIn
          rw [hn]
        have e13 := e12.trans e3
        have hnl : ns.length ≤ 3500000 := by
          rw [List.length_cons] at hms
          omega
        refine ⟨_, rfl, q0, _, rfl, ex_t e3 hq0, by decide, by simp, fun wl hwl => ?_⟩
        have eL : List.take (List.length ((kind :: ns).map iv) + 1 - 2) (List.drop 1 ((kind :: ns).map iv)) = ns.map iv := by
          rw [List.map_cons, List.length_cons, List.drop_succ_cons, List.drop_zero, List.take_of_length_le (by omega)]
        have eR : List.take 1 ((kind :: ns).map iv) ++ [V.ref wl] ++ List.drop (List.length ((kind :: ns).map iv) + 1 - 2) (List.drop 1 ((kind :: ns).map iv)) = [iv kind, V.ref wl] := by
          rw [List.map_cons, List.length_cons, List.drop_succ_cons, List.drop_zero, List.drop_of_length_le (by omega)]
          rfl
        rw [eL]
        refine ⟨_, _, eR, _, _, rfl, rfl, ?_⟩
        have e4 : Ex H (upd H3 wl (.lst (ns.map iv))) := e13.trans (Ex.new hwl)
        have h4 : upd H3 wl (.lst (ns.map iv)) wl = some (.lst (ns.map iv)) := upd_same
        generalize upd H3 wl (.lst (ns.map iv)) = H4 at e4 h4
        have hA4 := hA.ex e4
        refine q_needs (b := plainK R.kn R.raw kind) rfl hA4 hlt (ev_andV (ev_is (ev_op (ev_var rfl) ev_c rv_I0) (congrArg V.bl (decide_eq_decide.mpr (by omega)))) fun _ => ev_orV (ev_andV (ev_is (ev_op (ev_var rfl) (ev_known (ev_var rfl) hA4 L) (rv_niY hA4.kn)) (congrArg V.bl (by rw [decide_not]))) fun _ => ev_fld (v := .bl R.raw) (ev_var rfl) hA4.obj L.cl L.n_raw rfl) fun _ => ev_andV (ev_op (ev_var rfl) (ev_known (ev_var rfl) hA4 L) (rv_inY hA4.kn)) fun _ => ev_is (ev_op (ev_var rfl) ev_c rv_I0) (congrArg V.bl (decide_eq_decide.mpr (by omega)))) (fun hb => (kf (by rw [hpl, hb]; rfl)).mono (But.of e4) hA4.isS) fun hb H5 e5 => ?_
        have hA5 := hA4.ex e5
        have h45 := e4.trans e5
        have hk4 : kind ∈ R.kn → kind < 4 := fun hin => by
          unfold plainK at hb
          simp [hin] at hb
          exact hb.2
        refine q_needs (b := worthsB R.kn kind ns) rfl hA5 hlt (ev_worths (ev_var rfl) (etp_tuple (els_val (ev_var rfl) (sq_of (e5 _ _ h4)))) (ev_known (ev_var rfl) hA5 L) hA5.kn hnl hk4) (fun hb2 => (kf (by rw [hpl, hb2, Bool.and_false]; rfl)).mono (But.of h45) hA5.isS) fun hb2 H6 e6 => ?_
        have h46 := h45.trans e6
        refine ⟨_, rfl, (etp_tuple (xs := ns.map iv) (els_val (ev_var rfl) (sq_of (e6 _ _ (e5 _ _ h4)))) : EvTp K _ _ H6 _) H6 (Ex.refl _) _ fun q H7 e7 hq => ⟨by show 2 ≤ sizeLine; decide, fun p hp => ?_⟩⟩
        exact k kind ns (by rw [hpl, hb, hb2]; rfl) p q _ ((h46.trans e7).trans (Ex.new hp)) (fresh_back (h46.trans e7) hp) upd_same (ex_t (Ex.new hp) hq)
/-! ### take_pieces -/
def spPieces (K : PySem.W.Frag) (C CN : Addr) : Sp := fun vs H Q E => ∃ (R : Rd) (ls : Ls), vs = [.ref R.a] ∧ R.At C K H ls ∧ Rdn R C CN K (fun ps : Ls => .tuple (ps.map dT)) (rdPieces (ls.length + 1) ls []) H Q E
def pieceC (w : List Nat) (rest : Ls) (k : Nat) : Bool := decide (w = co "piece") && ((match numsBy rest with
  | none => false
  | some p => pieceB p) && decide (k < 300))
theorem rdPieces_step {n : Nat} {l : List Nat} {ls acc : Ls} {w : List Nat} {rest : Ls} (hne : l ≠ co "end") (hw : wordsL l = w :: rest) : rdPieces (n + 1) (l :: ls) acc = if pieceC w rest acc.length = true then rdPieces n ls (acc ++ [(numsBy rest).getD []]) else .error (ls.length + 1) := by
  rw [rdPieces, if_neg hne]
  unfold pieceL pieceC
  rw [hw]
  dsimp only
  by_cases h1 : w = co "piece"
  · rw [if_pos h1, decide_eq_true h1, Bool.true_and]
    unfold pieceBy
    cases numsBy rest with
    | none => rfl
    | some p =>
      dsimp only
      by_cases h2 : pieceB p = true
      · simp [h2]
      · simp [h2]
  · rw [if_neg h1, decide_eq_false h1]
    rfl
/-- the items of a list that is being made -/
def Acc {α : Type} (K : PySem.W.Frag) (H : Hp) (fl : Addr) (dv : α → PyData) (acc : List α) : Prop := ∃ vs : List V, H fl = some (.lst vs) ∧ vs.length = acc.length ∧ DpAll K H vs (acc.map dv)
theorem Acc.nil {α : Type} {H : Hp} {fl : Addr} {dv : α → PyData} (h : H fl = some (.lst [])) : Acc K H fl dv [] := ⟨[], h, rfl, .nil⟩
theorem Acc.ex {α : Type} {H H' : Hp} {fl : Addr} {dv : α → PyData} {acc : List α} (e : Ex H H') (h : Acc K H fl dv acc) : Acc K H' fl dv acc := by
  obtain ⟨vs, h1, h2, h3⟩ := h
  exact ⟨vs, e _ _ h1, h2, dpAll_ex e _ _ h3⟩
theorem Acc.but {α : Type} {H H' : Hp} {fl a : Addr} {dv : α → PyData} {acc : List α} (ht : ∀ x, tupd (dv x) = true) (ha : NoTup H a) (hne : fl ≠ a) (e : But a H H') (h : Acc K H fl dv acc) : Acc K H' fl dv acc := by
  obtain ⟨vs, h1, h2, h3⟩ := h
  exact ⟨vs, e _ _ hne h1, h2, dpAll_but ha e _ _ (tupdAll_map ht acc) h3⟩
theorem dpAll_snoc {H : Hp} : ∀ {vs : List V} {ds : List PyData} {v : V} {d : PyData}, DpAll K H vs ds → Dp K H v d → DpAll K H (vs ++ [v]) (ds ++ [d])
  | _, _, _, _, .nil, h => .cons h .nil
  | _, _, _, _, .cons h1 h2, h => .cons h1 (dpAll_snoc h2 h)
theorem Acc.app {α : Type} {H : Hp} {fl : Addr} {dv : α → PyData} {acc : List α} {vs : List V} {v : V} {x : α} (ht : ∀ x, tupd (dv x) = true) (h1 : H fl = some (.lst vs)) (h2 : vs.length = acc.length) (h3 : DpAll K H vs (acc.map dv)) (hd : Dp K H v (dv x)) : Acc K (upd H fl (.lst (vs ++ [v]))) fl dv (acc ++ [x]) := by
  have e : But fl H (upd H fl (.lst (vs ++ [v]))) := fun b o hb ho => by rw [upd_ne hb]; exact ho
  have hn := NoTup.lst h1
  refine ⟨_, upd_same, by rw [List.length_append, List.length_append, h2]; rfl, ?_⟩
  rw [List.map_append]
  exact dpAll_snoc (dpAll_but hn e _ _ (tupdAll_map ht acc) h3) (dp_but hn e _ _ (ht x) hd)
theorem ok_Lines_take_pieces {C CN : Addr} {f : Addr} {fd : FuncData} (F : Fun K "take_pieces" "Lines.take_pieces" s_Lines_take_pieces f fd) (T : T0 K mg aKn aWi aOw aLi aOn aOt) (L : LC K C) (c_numbers_by : MB.Cl P w K mg base 2 "numbers_by" (sp_numbers_by K)) (c_is_piece : MB.Cl P w K mg base 3 "is_piece" (sp_is_piece K))
    (m_needs : MB.Mt P w K mg base 3 C "needs" (spNeeds K C CN)) (m_take_line : MB.Mt P w K mg base 3 C "take_line" (spTake K C CN)) : FnOk P w K mg base (L2.CX P w) 4 f fd p_Lines_take_pieces (spPieces K C CN) := by
  refine F.okX sc_Lines_take_pieces (fun vs H Q E h => ?_) (fun cdv A outer s H vs Q E hr h => ?_)
  · obtain ⟨R, ls, rfl, _⟩ := h
    rfl
  · obtain ⟨R, ls0, rfl, hA0, k⟩ := h
    have hu64 := hu64 hr
    have HX : Passes (L2.CX P w) (cxOf (L2.CX P w) P w K mg base n_Lines_take_pieces "Lines.take_pieces" (defScope s_Lines_take_pieces) f cdv A outer s H E) E := passes_call (W := fun cls d _ H => E cls d H) (takes_of rfl rfl rfl rfl) fun _ _ _ _ h => h
    refine ⟨_, (pss_cons (ps_set (i := 1) sc_Lines_take_pieces.nd rfl (Or.inl rfl) (pe_lst pa_nil))
      (pss_cons (ps_set (i := 2) sc_Lines_take_pieces.nd rfl (Or.inl rfl) (MB.pe_mt0 m_take_line hr (by decide) HX (pv 0)))
      (pss_cons (ps_while (passes_of rfl) (pt_cmpR (MB.op_neK (K := K) rfl hu64) (pv 2) pe_str (nomark _))
      (pss_cons (ps_asg (pe_split (pv 2) pe_str) (MB.pg_star (n := 2) (i := 1) rfl (pgs_cons (pg_name (i := 3) sc_Lines_take_pieces.nd rfl (.inl rfl)) (MB.pgs_star (pg_name (i := 4) sc_Lines_take_pieces.nd rfl (.inl rfl)) pgs_nil))))
      (pss_cons (ps_set (i := 5) sc_Lines_take_pieces.nd rfl (Or.inl rfl) (MB.pe_cl c_numbers_by hr (by decide) (by rfl) passL (pa_cons (pv 4) pa_nil)))
      (pss_cons (ps_expr (MB.pe_mt m_needs hr (by decide) HX (pv 0) (pa_cons (pe_and (pe_cmpR (MB.op_eqK (K := K) rfl hu64) (pv 3) pe_str (nomark _)) (pe_and (MB.pe_cl c_is_piece hr (by decide) (by rfl) passL (pa_cons (pv 5) pa_nil)) (pe_one (pe_cmpR op_lt (pe_callB (MB.call_lenK (K := K) rfl) (by rfl) T.n_len MB.bo_len (pa_cons (pv 1) pa_nil)) (pe_gc (by rfl) T.g_MOST_WORTHS) (nomark _))))) pa_nil)))
      (pss_cons (ps_expr (pe_bm PySem.F.plainAttrs_list PySem.F.slot_list_append PySem.F.type_list_append mt_append (pv 1) (pa_cons (pv 5) pa_nil)))
      (pss_one (ps_set (i := 2) sc_Lines_take_pieces.nd rfl (Or.inl rfl) (MB.pe_mt0 m_take_line hr (by decide) HX (pv 0)))))))))
      (pss_one (ps_ret (pe_callTy (MB.call_tupleK (K := K) rfl) (by rfl) T.n_tuple MB.bo_tuple (pa_cons (pv 1) pa_nil))))))), ?_⟩
    have hA0' := hA0
    generalize hr0 : rdPieces (ls0.length + 1) ls0 [] = r at k
    refine q_asgL (el_lst ea_nil (by decide)) fun fl H1 hfl e1 h1 => ?_
    have hflr : fl ≠ R.rl := fun z => by rw [z, hA0.rl] at hfl; cases hfl
    have hfla : fl ≠ R.a := fun z => by rw [z, hA0.obj] at hfl; cases hfl
    have hA1 := hA0.ex e1
    refine q_take rfl hA1 (fun hn => ?_) fun l ls hls H2 b2 hA2 => ?_
    · subst hn
      exact Fails.mono (k.err hr0.symm) (But.of e1) hA1.isS
    subst hls
    have hlt2 : ls.length < R.rows.length := by
      have := hA1.len
      rw [List.length_cons] at this
      omega
    refine q_while (fun m σ' H' => ∃ (ls : Ls) (l : List Nat) (n : Nat) (acc : Ls) (a b c : Option V), m = ls.length ∧ σ' = [some (.ref R.a), some (.ref fl), some (tv l), a, b, c] ∧ But R.a H H' ∧ R.At C K H' ls ∧ ls.length < R.rows.length ∧ l.length ≤ 3500000 ∧ Acc K H' fl dT acc ∧ acc.length ≤ 300 ∧ ls.length < n ∧ rdPieces (n + 1) (l :: ls) acc = r) ls.length
      ⟨ls, l, (l :: ls).length, [], none, none, none, rfl, rfl, (But.of e1).trans b2, hA2, hlt2, hA1.mem (by simp), (Acc.nil h1).but tupd_dT hA1.no hfla b2, by decide, by simp, hr0⟩ ?_
    rintro m σ' H' ⟨ls, l, n, acc, a, b, c, rfl, rfl, bH, hA, hlt, hll, hacc, h300, hn, hrd⟩
    refine ⟨!decide (l = co "end"), et_test (ev_op (ev_var rfl) (ev_is ev_c (congrArg V.str (of_S "end"))) rv_neC), fun hb H3 e3 => ?_, fun hb H3 e3 => ?_⟩
    · have hne : l ≠ co "end" := by simpa using hb
      refine ⟨fun σ' H' => ∃ m', m' < ls.length ∧ ∃ (ls : Ls) (l : List Nat) (n : Nat) (acc : Ls) (a b c : Option V), m' = ls.length ∧ σ' = [some (.ref R.a), some (.ref fl), some (tv l), a, b, c] ∧ But R.a H H' ∧ R.At C K H' ls ∧ ls.length < R.rows.length ∧ l.length ≤ 3500000 ∧ Acc K H' fl dT acc ∧ acc.length ≤ 300 ∧ ls.length < n ∧ rdPieces (n + 1) (l :: ls) acc = r, fun _ _ h => h, ?_⟩
      have hA3 := hA.ex e3
      have b3 := bH.trans (But.of e3)
      refine q_words (ev_var rfl) hll fun w rest p H4 hw hrl hm e4 hp0 hp => ?_
      refine q_asgC (ea_cons (ev_var rfl) ea_nil) fun H5 e5 => ⟨p, rest, rfl, sq_of (e5 _ _ hp), by
        have := hm w (by simp)
        have h2 : (wordsL l).length ≤ l.length + 1 := spl_length _ _ _ _
        rw [hw, List.length_cons] at h2
        omega, fun x hx => hm x (List.mem_cons_of_mem _ hx), fun x H6 e6 hx => ?_⟩
      have e46 := (e4.trans e5).trans e6
      have hA6 := hA3.ex e46
      have b6 := b3.trans (But.of e46)
      have hacc6 := hacc.ex (e3.trans e46)
      obtain ⟨vs, hv1, hv2, hv3⟩ := hacc6
      rw [rdPieces_step hne hw] at hrd
      have hnl : ∀ ns ∈ numsBy rest, ns.length ≤ 3500000 := fun ns hns => by
        have := numsBy_len hns
        have h2 : (wordsL l).length ≤ l.length + 1 := spl_length _ _ _ _
        rw [hw, List.length_cons] at h2
        omega
      refine q_needs (b := pieceC w rest acc.length) rfl hA6 hlt (ev_andV (ev_op (ev_var rfl) (ev_is ev_c (congrArg V.str (of_S "piece"))) rv_eqC) fun _ => ev_andV (ev_call (ea_cons (ev_var rfl) ea_nil) fun H7 e7 Q q E => ⟨x, numsBy rest, rfl, hx.ex e7, hnl, q⟩) fun _ => ev_is (ev_op (ev_cb1 (ev_var rfl) (rc_lenL (sq_of hv1))) ev_c rv_I0) (congrArg V.bl (by rw [hv2]; exact decide_eq_decide.mpr (by omega)))) (fun hb => ?_) fun hb H7 e7 => ?_
      · rw [if_neg (by rw [hb]; exact Bool.false_ne_true)] at hrd
        exact Fails.mono (k.err hrd.symm) b6 hA6.isS
      · rw [if_pos hb] at hrd
        have hpc := hb
        unfold pieceC at hpc
        rw [Bool.and_eq_true, Bool.and_eq_true] at hpc
        have h300' : acc.length < 300 := of_decide_eq_true hpc.2.2
        cases hnb : numsBy rest with
        | none => rw [hnb] at hpc; exact absurd hpc.2.1 Bool.false_ne_true
        | some ns =>
          rw [hnb] at hx hrd
          obtain ⟨q, rfl, hq⟩ := hx
          refine q_app (e7 _ _ hv1) (ev_var rfl) (ev_var rfl) (by omega) fun H8 e8 => ?_
          have e78 := e7.trans e8
          have hA8 := hA6.ex e78
          have hacc9 : Acc K (upd H8 fl (.lst (vs ++ [.ref q]))) fl dT (acc ++ [ns]) := Acc.app tupd_dT (e78 _ _ hv1) hv2 (dpAll_ex e78 _ _ hv3) (dp_nums (ex_t e78 hq))
          have hA9 : R.At C K (upd H8 fl (.lst (vs ++ [.ref q]))) ls := hA8.mut (e78 _ _ hv1) hflr
          have b9 : But R.a H (upd H8 fl (.lst (vs ++ [.ref q]))) := (b6.trans (But.of e78)).mut hfl
          generalize upd H8 fl (.lst (vs ++ [.ref q])) = H9 at hacc9 hA9 b9
          refine s_take rfl hA9 (fun hn0 => ?_) fun l' ls' hls' H10 b10 hA10 => ?_
          · subst hn0
            obtain ⟨n', rfl⟩ : ∃ n', n = n' + 1 := ⟨n - 1, by rw [List.length_nil] at hn; omega⟩
            exact Fails.mono (k.err hrd.symm) b9 hA9.isS
          · subst hls'
            rw [List.length_cons] at hn hlt
            obtain ⟨n', rfl⟩ : ∃ n', n = n' + 1 := ⟨n - 1, by omega⟩
            refine ⟨ls'.length, by rw [List.length_cons]; omega, ls', l', n', acc ++ [ns], _, _, _, rfl, rfl, b9.trans b10, hA10, by omega, hA9.mem (by simp), hacc9.but tupd_dT hA9.no hfla b10, by rw [List.length_append, List.length_singleton]; omega, by omega, hrd⟩
    · have he : l = co "end" := by simpa using hb
      subst he
      rw [rdPieces, if_pos rfl] at hrd
      obtain ⟨vs, hv1, hv2, hv3⟩ := hacc.ex e3
      refine s_retTup (ev_var rfl) hv1 fun q H4 hq e4 h4 => k.ok hrd.symm _ H4 ((bH.trans (But.of e3)).trans (But.of e4)) (hA.ex (e3.trans e4)) (.tup (st_of h4) (dpAll_ex e4 _ _ hv3))
end
end K82
set_option maxRecDepth 100000
set_option maxHeartbeats 1000000
namespace K82
open PySem PySem.Spec PyProof.Rows L2 Evl MB
section
variable {P : Program} {w : World} {K : PySem.W.Frag} {mg : Str → Option Value} {base : Heap} {aKn aWi aOw aLi aOn aOt : Addr}
/-! ### Lines(text, known) -/
def NotStr (K : PySem.W.Frag) (H : Hp) (v : V) : Prop := ∀ H', Ex H H' → ∃ a, TyX K H' v (.type a) ∧ kitB a "str" = some false
/-- the lines of a text, what is behind the last line end -/
def linesL (t : List Nat) : Ls := TL.spl [10] 0 [] t
def rowsL (t : List Nat) : Ls := (linesL t).dropLast
def restL (t : List Nat) : List Nat := (linesL t).getLast?.getD []
def spInit (K : PySem.W.Frag) (C CN : Addr) : Sp := fun vs H Q E => ∃ (a dx : Addr) (x y : V) (raw : Bool), vs = [.ref a, x, y, .bl raw] ∧ H a = some (.ins C dx []) ∧
  ((∃ t kn, x = tv t ∧ t.length < 3500000 ∧ KnAt K H y kn ∧ ∀ rl H', But a H H' → H rl = none → Rd.At ⟨a, dx, rl, y, rowsL t, restL t, kn, raw⟩ C K H' (rowsL t) → Q .non H') ∨
  (NotStr K H x ∧ ∀ d H', Ex H H' → H d = none → H' d = some (.xd [("line", .non)]) → E (.ref CN) (some d) H'))
theorem q_fld {σ : L2.St} {H : Hp} {ta te : TE} {a C dx : Addr} {fs : List (Str × V)} {f : Str} {v : V} {tz : TS} {D : Ends} (hv : Ev te σ H v) (ha : Ev ta σ H (.ref a)) (h : H a = some (.ins C dx fs)) (c : Cls K C) (n : NoAttr K C f) (hl : fs.length ≤ 100) (k : ∀ H1, But a H H1 → H1 a = some (.ins C dx (putF f v fs)) → tz D σ H1) : tSeq (sFld K ta te f) tz D σ H :=
  hv H (Ex.refl H) _ fun H1 e1 => ha H1 e1 _ fun H2 e2 => ⟨a, C, dx, fs, rfl, (e1.trans e2) _ _ h, c, n, by omega, k _ (fun b o hb ho => by rw [upd_ne hb]; exact (e1.trans e2) _ _ ho) upd_same⟩
theorem s_fld {σ : L2.St} {H : Hp} {ta te : TE} {a C dx : Addr} {fs : List (Str × V)} {f : Str} {v : V} {D : Ends} (hv : Ev te σ H v) (ha : Ev ta σ H (.ref a)) (h : H a = some (.ins C dx fs)) (c : Cls K C) (n : NoAttr K C f) (hl : fs.length ≤ 100) (k : ∀ H1, But a H H1 → H1 a = some (.ins C dx (putF f v fs)) → D.nx σ H1) : sFld K ta te f D σ H :=
  hv H (Ex.refl H) _ fun H1 e1 => ha H1 e1 _ fun H2 e2 => ⟨a, C, dx, fs, rfl, (e1.trans e2) _ _ h, c, n, by omega, k _ (fun b o hb ho => by rw [upd_ne hb]; exact (e1.trans e2) _ _ ho) upd_same⟩
theorem ok_Lines_init {C CN : Addr} {f : Addr} {fd : FuncData} {ke : V} (F : FunD K "__init__" "Lines.__init__" (defArgs s_Lines_init__) (defBody s_Lines_init__) (defScope s_Lines_init__) [] [("raw", ke)] f fd) (T : T0 K mg aKn aWi aOw aLi aOn aOt) (L : LC K C) (N_NoText : NT P w K mg base CN) : FnOk P w K mg base (L2.CX P w) 3 f fd p_Lines_init__ (spInit K C CN) := by
  refine F.ok sc_Lines_init__ (fun vs H Q E h => ?_) (fun cdv A outer s H vs Q E hr h => ?_)
  · obtain ⟨a, dx, x, y, raw, rfl, _⟩ := h
    rfl
  · obtain ⟨a, dx, x, y, raw, rfl, ha, h⟩ := h
    have hu64 := hu64 hr
    refine ⟨_, (pss_cons (ps_if (pt_not (pt_val (pe_callB (MB.call_isiK (K := K) rfl) (by rfl) T.n_isinstance MB.bo_isinstance (pa_cons (pv 1) (pa_cons (pe_bltn (v := .ty "str") (by rfl) T.n_str MB.bo_str rfl) pa_nil))))) (pss_one (ps_raise rfl (takes_of rfl rfl rfl rfl) (pmk_NoText N_NoText hr (by decide) (by rfl) (pa_cons pe_non pa_nil)))) pss_nil)
      (pss_cons (ps_asg (pe_split (pv 1) pe_str) (MB.pg_star (n := 2) (i := 0) rfl (MB.pgs_star (pg_name (i := 4) sc_Lines_init__.nd rfl (.inl rfl)) (pgs_cons (pg_name (i := 5) sc_Lines_init__.nd rfl (.inl rfl)) pgs_nil))))
      (pss_cons (ps_fld (pv 0) (pv 4) rfl)
      (pss_cons (ps_fld (pv 0) (pv 5) rfl)
      (pss_cons (ps_fld (pv 0) (pv 2) rfl)
      (pss_cons (ps_fld (pv 0) (pv 3) rfl)
      (pss_one (ps_fld (pv 0) pe_int rfl)))))))), ?_⟩
    rcases h with ⟨t, kn, rfl, ht, hy, k⟩ | ⟨hn, k⟩
    · refine q_ifN (b := false) (et_not (a := true) (et_test (ev_cb2 (ev_var rfl) ev_c (rc_isiStr (by decide +kernel))))) (fun z => nomatch z) fun _ H1 e1 => ?_
      refine (el_split (w := t) (sep := [10]) (H := H1) (ev_var rfl) (ev_is ev_c (congrArg V.str (of_S "\n"))) (by decide) (by decide) (by omega)) H1 (Ex.refl H1) _ fun pl0 H2 hn0 e2 h2 => ?_
      have hL : (linesL t).length ≤ 3500000 := Nat.le_trans (spl_length _ _ _ _) (by omega)
      have hm1 : ∀ l ∈ linesL t, l.length ≤ 3500000 := fun l h => by have := spl_mem _ _ _ _ _ h; rw [List.length_nil] at this; omega
      have hne : linesL t ≠ [] := spl_ne [10] t 0 []
      change H2 pl0 = some (.lst ((linesL t).map fun w => V.str (SX.S w))) at h2
      have hrows : rowsL t = (linesL t).dropLast := rfl
      have hrest : restL t = (linesL t).getLast?.getD [] := rfl
      revert k
      rw [hrows, hrest]
      intro k
      generalize linesL t = Lx at k h2 hL hm1 hne
      have hml : (Lx.map fun w => V.str (SX.S w)).length = Lx.length := List.length_map _
      have hpos : 0 < Lx.length := List.length_pos_iff.mpr hne
      refine ⟨pl0, _, rfl, sq_of h2, by decide, by rw [hml]; omega, fun pl hpl => ?_⟩
      have eL : List.take (List.length (Lx.map fun w => V.str (SX.S w)) + 1 - 2) (List.drop 0 (Lx.map fun w => V.str (SX.S w))) = Lx.dropLast.map tv := by
        rw [hml, List.drop_zero, ← List.map_take, List.dropLast_eq_take]
        rfl
      have eR : List.take 0 (Lx.map fun w => V.str (SX.S w)) ++ [V.ref pl] ++ List.drop (List.length (Lx.map fun w => V.str (SX.S w)) + 1 - 2) (List.drop 0 (Lx.map fun w => V.str (SX.S w))) = [V.ref pl, tv (Lx.getLast?.getD [])] := by
        rw [hml, List.drop_zero, ← List.map_drop, show Lx.length + 1 - 2 = Lx.length - 1 by omega, drop_last hne, List.getLast?_eq_some_getLast hne]
        rfl
      rw [eL]
      refine ⟨_, _, eR, _, _, rfl, rfl, ?_⟩
      have e3 : Ex H (upd H2 pl (.lst (Lx.dropLast.map tv))) := (e1.trans e2).trans (Ex.new hpl)
      have h3 : upd H2 pl (.lst (Lx.dropLast.map tv)) pl = some (.lst (Lx.dropLast.map tv)) := upd_same
      have hpl0 : H pl = none := fresh_back (e1.trans e2) hpl
      generalize upd H2 pl (.lst (Lx.dropLast.map tv)) = H3 at e3 h3
      have hpa : pl ≠ a := fun z => by rw [z, ha] at hpl0; cases hpl0
      refine q_fld (v := .ref pl) (ev_var rfl) (ev_var rfl) (e3 _ _ ha) L.cl L.n_rows (by show 0 ≤ 100; decide) fun H4 b4 h4 => ?_
      refine q_fld (v := tv (Lx.getLast?.getD [])) (ev_var rfl) (ev_var rfl) h4 L.cl L.n_rest (by show 1 ≤ 100; decide) fun H5 b5 h5 => ?_
      refine q_fld (v := y) (ev_var rfl) (ev_var rfl) h5 L.cl L.n_known (by show 2 ≤ 100; decide) fun H6 b6 h6 => ?_
      refine q_fld (v := .bl raw) (ev_var rfl) (ev_var rfl) h6 L.cl L.n_raw (by show 3 ≤ 100; decide) fun H7 b7 h7 => ?_
      refine s_fld (v := iv 0) ev_c (ev_var rfl) h7 L.cl L.n_spot (by show 4 ≤ 100; decide) fun H8 b8 h8 => ?_
      have b38 : But a H3 H8 := b4.trans (b5.trans (b6.trans (b7.trans b8)))
      have b8' : But a H H8 := (But.of e3).trans b38
      refine k pl H8 b8' hpl0 ⟨?_, ⟨[], rfl⟩, b38 _ _ hpa h3, hy.but (NoTup.ins ha) b8', ?_, fun l hl => hm1 l (List.dropLast_subset _ hl)⟩
      · rw [h8, Nat.sub_self]
        rfl
      · show Lx.dropLast.length ≤ 3500000
        rw [List.length_dropLast]
        omega
    · obtain ⟨c, hc1, hc2⟩ := hn H (Ex.refl H)
      refine q_ifN (b := true) (et_not (a := false) (et_test (ev_cb2 (ev_var rfl) ev_c fun H1 e1 Q q => ?_))) (fun _ H1 e1 => ?_) fun z => nomatch z
      · obtain ⟨c, hc1, hc2⟩ := hn H1 e1
        exact .inl ⟨_, _, .type c, .type "str", false, rfl, .ty _, hc1, kit_ty hc2, q H1 (Ex.refl H1)⟩
      · exact mk_nt (ea_cons ev_c ea_nil) fun d H' e hd hx => k d H' (e1.trans e) (fresh_back e1 hd) hx
/-! ### take_chains -/
/-- take_tables(5 - d, last=..): a chain with tables of Ch d' -/
def rdTabsV (last : Bool) (rest : List Nat) (kn : List Nat) (raw : Bool) : (d : Nat) → Ls → Rt (Ch d)
  | 0, ls => rdCh kn raw 0 ls
  | d + 1, ls => rdTabs last rest (rdEnt (rdCh kn raw d) kn raw) (ls.length + 1) ls []
theorem rdTabsV_ch (kn : List Nat) (raw : Bool) : ∀ (d : Nat) (ls : Ls), rdTabsV true [] kn raw d ls = rdCh kn raw d ls
  | 0, _ => rfl
  | d + 1, _ => rfl
def lastV : Bool → V
  | true => tv (co "done")
  | false => .non
def spTabs (K : PySem.W.Frag) (C CN : Addr) (d : Nat) : Sp := fun vs H Q E => ∃ (R : Rd) (ls : Ls) (last : Bool) (rest : List Nat), vs = [.ref R.a, .int (5 - (d : Int)), lastV last] ∧ R.At C K H ls ∧ (last = false → rest = R.rest ∧ d ≠ 0) ∧
  Rdn R C CN K (dCh d) (rdTabsV last rest R.kn R.raw d ls) H Q E
def spChains (K : PySem.W.Frag) (C CN : Addr) (d : Nat) : Sp := fun vs H Q E => ∃ (R : Rd) (ls : Ls), vs = [.ref R.a, .int (5 - (d : Int))] ∧ R.At C K H ls ∧
  Rdn R C CN K (fun cs : List (Ch d) => .tuple (cs.map (dCh d))) (rdChains (rdCh R.kn R.raw d) (ls.length + 1) ls []) H Q E
theorem rdChains_step {α : Type} {f : Ls → Rt α} {n : Nat} {l : List Nat} {ls : Ls} {acc : List α} (hne : l ≠ co "end") : rdChains f (n + 1) (l :: ls) acc = if (decide (l = co "chain") && decide (acc.length < 300)) = true then (match f ls with
      | .ok (c, ls') => rdChains f n ls' (acc ++ [c])
      | .error c => .error c) else .error (ls.length + 1) := by
  rw [rdChains, if_neg hne]
  by_cases h1 : l = co "chain" ∧ acc.length < 300
  · rewrite [if_pos h1, if_pos (by rw [decide_eq_true h1.1, decide_eq_true h1.2]; rfl)]
    cases f ls <;> rfl
  · rw [if_neg h1, if_neg (by rw [← Bool.decide_and]; exact fun z => h1 (of_decide_eq_true z))]
theorem ok_Lines_take_chains {d : Nat} {C CN : Addr} {f : Addr} {fd : FuncData} (F : Fun K "take_chains" "Lines.take_chains" s_Lines_take_chains f fd) (T : T0 K mg aKn aWi aOw aLi aOn aOt) (L : LC K C)
    (m_needs : MB.Mt P w K mg base 3 C "needs" (spNeeds K C CN)) (m_take_line : MB.Mt P w K mg base 3 C "take_line" (spTake K C CN)) (n_take_tables : MB.MtN P w K mg base (4 * d + 4) C "take_tables" (spTabs K C CN d) 1 ["last"] (fun vs zs => vs ++ zs))
    (len : ∀ kn raw ls c ls', rdCh kn raw d ls = .ok (c, ls') → ls'.length < ls.length) : FnOk P w K mg base (L2.CX P w) (4 * d + 5) f fd p_Lines_take_chains (spChains K C CN d) := by
  refine F.okX sc_Lines_take_chains (fun vs H Q E h => ?_) (fun cdv A outer s H vs Q E hr h => ?_)
  · obtain ⟨R, ls, rfl, _⟩ := h
    rfl
  · obtain ⟨R, ls0, rfl, hA0, k⟩ := h
    have hu64 := hu64 hr
    have HX : Passes (L2.CX P w) (cxOf (L2.CX P w) P w K mg base n_Lines_take_chains "Lines.take_chains" (defScope s_Lines_take_chains) f cdv A outer s H E) E := passes_call (W := fun cls d _ H => E cls d H) (takes_of rfl rfl rfl rfl) fun _ _ _ _ h => h
    refine ⟨_, (pss_cons (ps_set (i := 2) sc_Lines_take_chains.nd rfl (Or.inl rfl) (pe_lst pa_nil))
      (pss_cons (ps_set (i := 3) sc_Lines_take_chains.nd rfl (Or.inl rfl) (MB.pe_mt0 m_take_line hr (by omega) HX (pv 0)))
      (pss_cons (ps_while (passes_of rfl) (pt_cmpR (MB.op_neK (K := K) rfl hu64) (pv 3) pe_str (nomark _))
      (pss_cons (ps_expr (MB.pe_mt m_needs hr (by omega) HX (pv 0) (pa_cons (pe_and (pe_cmpR (MB.op_eqK (K := K) rfl hu64) (pv 3) pe_str (nomark _)) (pe_one (pe_cmpR op_lt (pe_callB (MB.call_lenK (K := K) rfl) (by rfl) T.n_len MB.bo_len (pa_cons (pv 2) pa_nil)) (pe_gc (by rfl) T.g_MOST_WORTHS) (nomark _)))) pa_nil)))
      (pss_cons (ps_expr (pe_bm PySem.F.plainAttrs_list PySem.F.slot_list_append PySem.F.type_list_append mt_append (pv 2) (pa_cons (MB.pe_mtN n_take_tables hr (by omega) HX (pv 0) (pa_cons (pv 1) pa_nil) (pk_cons pe_str pk_nil)) pa_nil)))
      (pss_one (ps_set (i := 3) sc_Lines_take_chains.nd rfl (Or.inl rfl) (MB.pe_mt0 m_take_line hr (by omega) HX (pv 0)))))))
      (pss_one (ps_ret (pe_callTy (MB.call_tupleK (K := K) rfl) (by rfl) T.n_tuple MB.bo_tuple (pa_cons (pv 2) pa_nil))))))), ?_⟩
    generalize hr0 : rdChains (rdCh R.kn R.raw d) (ls0.length + 1) ls0 [] = r at k
    refine q_asgL (el_lst ea_nil (by decide)) fun fl H1 hfl e1 h1 => ?_
    have hflr : fl ≠ R.rl := fun z => by rw [z, hA0.rl] at hfl; cases hfl
    have hfla : fl ≠ R.a := fun z => by rw [z, hA0.obj] at hfl; cases hfl
    have hA1 := hA0.ex e1
    refine q_take rfl hA1 (fun hn => ?_) fun l ls hls H2 b2 hA2 => ?_
    · subst hn
      exact Fails.mono (k.err hr0.symm) (But.of e1) hA1.isS
    subst hls
    have hlt2 : ls.length < R.rows.length := by
      have := hA1.len
      rw [List.length_cons] at this
      omega
    refine q_while (fun m σ' H' => ∃ (ls : Ls) (l : List Nat) (n : Nat) (acc : List (Ch d)), m = ls.length ∧ σ' = [some (.ref R.a), some (.int (5 - (d : Int))), some (.ref fl), some (tv l)] ∧ But R.a H H' ∧ R.At C K H' ls ∧ ls.length < R.rows.length ∧ Acc K H' fl (dCh d) acc ∧ acc.length ≤ 300 ∧ ls.length < n ∧ rdChains (rdCh R.kn R.raw d) (n + 1) (l :: ls) acc = r) ls.length
      ⟨ls, l, (l :: ls).length, [], rfl, rfl, (But.of e1).trans b2, hA2, hlt2, (Acc.nil h1).but (tupd_ch d) hA1.no hfla b2, by simp, by simp, hr0⟩ ?_
    rintro m σ' H' ⟨ls, l, n, acc, rfl, rfl, bH, hA, hlt, hacc, h300, hn, hrd⟩
    refine ⟨!decide (l = co "end"), et_test (ev_op (ev_var rfl) (ev_is ev_c (congrArg V.str (of_S "end"))) rv_neC), fun hb H3 e3 => ?_, fun hb H3 e3 => ?_⟩
    · have hne : l ≠ co "end" := by simpa using hb
      refine ⟨fun σ' H' => ∃ m', m' < ls.length ∧ ∃ (ls : Ls) (l : List Nat) (n : Nat) (acc : List (Ch d)), m' = ls.length ∧ σ' = [some (.ref R.a), some (.int (5 - (d : Int))), some (.ref fl), some (tv l)] ∧ But R.a H H' ∧ R.At C K H' ls ∧ ls.length < R.rows.length ∧ Acc K H' fl (dCh d) acc ∧ acc.length ≤ 300 ∧ ls.length < n ∧ rdChains (rdCh R.kn R.raw d) (n + 1) (l :: ls) acc = r, fun _ _ h => h, ?_⟩
      have hA3 := hA.ex e3
      have b3 := bH.trans (But.of e3)
      obtain ⟨vs, hv1, hv2, hv3⟩ := hacc.ex e3
      rw [rdChains_step hne] at hrd
      refine q_needs (b := decide (l = co "chain") && decide (acc.length < 300)) rfl hA3 hlt (ev_andV (ev_op (ev_var rfl) (ev_is ev_c (congrArg V.str (of_S "chain"))) rv_eqC) fun _ => ev_is (ev_op (ev_cb1 (ev_var rfl) (rc_lenL (sq_of hv1))) ev_c rv_I0) (congrArg V.bl (by rw [hv2]; exact decide_eq_decide.mpr (by omega)))) (fun hb => ?_) fun hb H4 e4 => ?_
      · rw [if_neg (by rw [hb]; exact Bool.false_ne_true)] at hrd
        exact Fails.mono (k.err hrd.symm) b3 hA3.isS
      · rw [if_pos hb] at hrd
        rw [Bool.and_eq_true] at hb
        have h300' : acc.length < 300 := of_decide_eq_true hb.2
        have hA4 := hA3.ex e4
        have b4 := b3.trans (But.of e4)
        refine ⟨_, rfl, .inl ⟨rfl, vs, sq_of (e4 _ _ hv1)⟩, ?_⟩
        refine ⟨_, rfl, R.a, R.dx, _, rfl, hA4.obj, rfl, _, rfl, rfl, rfl, R, ls, true, [], ?_, hA4, (fun z => by cases z), ?_⟩
        · show [V.ref R.a, V.int (5 - (d : Int)), V.str (Str.ofString "done")] = _
          rw [of_S]
          rfl
        · rw [rdTabsV_ch]
          cases hc : rdCh R.kn R.raw d ls with
          | error c =>
            rw [hc] at hrd
            exact Fails.mono (k.err hrd.symm) b4 hA4.isS
          | ok x =>
            obtain ⟨c, ls1⟩ := x
            rw [hc] at hrd
            have hlen1 := len _ _ _ _ _ hc
            intro v H5 b5 hA5 hd5
            have hacc5 : Acc K H5 fl (dCh d) acc := Acc.but (tupd_ch d) hA4.no hfla b5 ⟨vs, e4 _ _ hv1, hv2, dpAll_ex e4 _ _ hv3⟩
            obtain ⟨vs', hw1, hw2, hw3⟩ := hacc5
            refine ⟨fl, vs', v, rfl, rfl, hw1, sz_lt (by omega), ?_⟩
            have hacc9 := Acc.app (tupd_ch d) hw1 hw2 hw3 hd5
            have hA9 := hA5.mut (ys := vs' ++ [v]) hw1 hflr
            have b9 : But R.a H (upd H5 fl (.lst (vs' ++ [v]))) := (b4.trans b5).mut hfl
            generalize upd H5 fl (.lst (vs' ++ [v])) = H9 at hacc9 hA9 b9
            refine s_take rfl hA9 (fun hn0 => ?_) fun l' ls' hls' H10 b10 hA10 => ?_
            · subst hn0
              obtain ⟨n', rfl⟩ : ∃ n', n = n' + 1 := ⟨n - 1, by omega⟩
              exact Fails.mono (k.err hrd.symm) b9 hA9.isS
            · subst hls'
              rw [List.length_cons] at hlen1
              obtain ⟨n', rfl⟩ : ∃ n', n = n' + 1 := ⟨n - 1, by omega⟩
              refine ⟨ls'.length, by omega, ls', l', n', acc ++ [c], rfl, rfl, b9.trans b10, hA10, by omega, hacc9.but (tupd_ch d) hA9.no hfla b10, by rw [List.length_append, List.length_singleton]; omega, by omega, hrd⟩
    · have he : l = co "end" := by simpa using hb
      subst he
      rw [rdChains, if_pos rfl] at hrd
      obtain ⟨vs, hv1, hv2, hv3⟩ := hacc.ex e3
      refine s_retTup (ev_var rfl) hv1 fun q H4 hq e4 h4 => k.ok hrd.symm _ H4 ((bH.trans (But.of e3)).trans (But.of e4)) (hA.ex (e3.trans e4)) (.tup (st_of h4) (dpAll_ex e4 _ _ hv3))
end
end K82
set_option maxRecDepth 100000
set_option maxHeartbeats 1000000
namespace K82
open PySem PySem.Spec PyProof.Rows L2 Evl MB
/-! ### what is read is shorter -/
theorem rdPieces_len : ∀ {n : Nat} {ls acc : Ls} {x : Ls} {ls' : Ls}, rdPieces n ls acc = .ok (x, ls') → ls'.length < ls.length
  | 0, _, _, _, _, h => by cases h
  | n + 1, [], _, _, _, h => by cases h
  | n + 1, l :: ls, acc, x, ls', h => by
    rw [rdPieces] at h
    rw [List.length_cons]
    split at h
    · cases h
      omega
    · split at h
      · split at h
        · have := rdPieces_len h
          omega
        · cases h
      · cases h
section
variable {α : Type}
theorem rdChains_len {f : Ls → Rt α} (hf : ∀ ls c ls', f ls = .ok (c, ls') → ls'.length < ls.length) : ∀ {n : Nat} {ls : Ls} {acc x : List α} {ls' : Ls}, rdChains f n ls acc = .ok (x, ls') → ls'.length < ls.length
  | 0, _, _, _, _, h => by cases h
  | n + 1, [], _, _, _, h => by cases h
  | n + 1, l :: ls, acc, x, ls', h => by
    rw [rdChains] at h
    rw [List.length_cons]
    split at h
    · cases h
      omega
    · split at h
      · split at h
        · rename_i c ls1 h1
          have h2 := hf _ _ _ h1
          have h3 := rdChains_len hf h
          omega
        · cases h
      · cases h
theorem mapR_ok {β : Type} {g : α → β} {r : Rt α} {y : β} {ls' : Ls} (h : mapR g r = .ok (y, ls')) : ∃ x, r = .ok (x, ls') ∧ y = g x := by
  cases r with
  | error c => cases h
  | ok p =>
    cases h
    exact ⟨_, rfl, rfl⟩
theorem rdEnt_len {f : Ls → Rt α} {kn : List Nat} {raw : Bool} (hf : ∀ ls c ls', f ls = .ok (c, ls') → ls'.length < ls.length) {l : List Nat} {ls ls' : Ls} {x : Ent α} (h : rdEnt f kn raw l ls = .ok (x, ls')) : ls'.length ≤ ls.length := by
  unfold rdEnt at h
  split at h
  · split at h
    · cases h
    · split at h
      · split at h
        · cases h
          exact Nat.le_refl _
        · cases h
      · split at h
        · split at h
          · cases h
            exact Nat.le_refl _
          · cases h
        · split at h
          · obtain ⟨y, h1, _⟩ := mapR_ok h
            exact Nat.le_of_lt (rdChains_len hf h1)
          · split at h
            · obtain ⟨y, h1, _⟩ := mapR_ok h
              exact Nat.le_of_lt (rdPieces_len h1)
            · cases h
  · cases h
theorem rdTab_len {e : List Nat → Ls → Rt (Ent α)} (he : ∀ l ls x ls', e l ls = .ok (x, ls') → ls'.length ≤ ls.length) : ∀ {n : Nat} {ls : Ls} {acc x : List (Ent α)} {ls' : Ls}, rdTab e n ls acc = .ok (x, ls') → ls'.length < ls.length
  | 0, _, _, _, _, h => by cases h
  | n + 1, [], _, _, _, h => by cases h
  | n + 1, l :: ls, acc, x, ls', h => by
    rw [rdTab] at h
    rw [List.length_cons]
    split at h
    · cases h
      omega
    · split at h
      · split at h
        · cases h
        · cases h
        · rename_i y l1 ls1 h1
          have h2 := he _ _ _ _ h1
          split at h
          · have h3 := rdTab_len he h
            omega
          · cases h
      · cases h
theorem rdTabs_len {rest : List Nat} {e : List Nat → Ls → Rt (Ent α)} (he : ∀ l ls x ls', e l ls = .ok (x, ls') → ls'.length ≤ ls.length) : ∀ {n : Nat} {ls : Ls} {acc x : List (List (Ent α))} {ls' : Ls}, rdTabs true rest e n ls acc = .ok (x, ls') → ls'.length < ls.length
  | 0, _, _, _, _, h => by cases h
  | n + 1, [], _, _, _, h => by cases h
  | n + 1, l :: ls, acc, x, ls', h => by
    rw [rdTabs] at h
    rw [List.length_cons]
    split at h
    · cases h
      omega
    · split at h
      · split at h
        · rename_i c ls1 h1
          have h2 := rdTab_len he h1
          have h3 := rdTabs_len he h
          omega
        · cases h
      · cases h
end
theorem rdCh_len : ∀ (d : Nat) (kn : List Nat) (raw : Bool) (ls : Ls) (c : Ch d) (ls' : Ls), rdCh kn raw d ls = .ok (c, ls') → ls'.length < ls.length
  | 0, kn, raw, [], c, ls', h => by cases h
  | 0, kn, raw, l :: ls, c, ls', h => by
    have h : (if l = co "done" then (.ok ((), ls) : Rt Unit) else .error (ls.length + 1)) = .ok (c, ls') := h
    rw [List.length_cons]
    split at h
    · cases h
      omega
    · cases h
  | d + 1, kn, raw, ls, c, ls', h => rdTabs_len (fun _ _ _ _ h => rdEnt_len (fun ls c ls' h => rdCh_len d kn raw ls c ls' h) h) h
section
variable {P : Program} {w : World} {K : PySem.W.Frag} {mg : Str → Option Value} {base : Heap} {aKn aWi aOw aLi aOn aOt : Addr}
/-! ### take_entry -/
def spEntry (K : PySem.W.Frag) (C CN : Addr) (d : Nat) : Sp := fun vs H Q E => ∃ (R : Rd) (ls : Ls) (l : List Nat), vs = [.ref R.a, tv l, .int (4 - (d : Int))] ∧ R.At C K H ls ∧ ls.length < R.rows.length ∧ l.length ≤ 3500000 ∧
  Rdn R C CN K (dEnt (dCh d)) (rdEnt (rdCh R.kn R.raw d) R.kn R.raw l ls) H Q E
theorem r_if {t : TT} {ta tb : TE} {σ : L2.St} {H : Hp} {b : Bool} {Q : VK} (h : EvT t σ H b) (h1 : b = true → ∀ H1, Ex H H1 → ta σ H1 Q) (h2 : b = false → ∀ H1, Ex H H1 → tb σ H1 Q) : tIf t ta tb σ H Q := h H (Ex.refl H) _ fun H1 e1 => by
  cases b with
  | true => exact h1 rfl H1 e1
  | false => exact h2 rfl H1 e1
theorem cutS_drop (l : List Nat) (n : Nat) : cutS (SX.S l) (some (n : Int)) none = SX.S (l.drop n) := by
  rw [C8.cutS_slice, SX.slice_from (by omega), Int.toNat_natCast]
theorem k_cp : ¬ ((Sum.inr ("chains" : Str) : Key) = Sum.inr ("pieces" : Str)) := by decide +kernel
/-- {'chains': 5, 'pieces': 6}.get(word, 0) -/
theorem ev_sort {σ : L2.St} {H : Hp} {ty : TE} {wd : List Nat} (h : Ev ty σ H (tv wd)) : Ev (tDGet2 (tDisp [(tC (.str "chains"), tC (.int 5)), (tC (.str "pieces"), tC (.int 6))]) ty (tC (.int 0))) σ H (iv (if wd = co "chains" then 5 else if wd = co "pieces" then 6 else 0)) := fun H1 e Q q => by
  intro p hp
  refine ⟨upd_same, [((.inr "chains" : Key), .int 5), (.inr "pieces", .int 6)], rfl, by show 2 ≤ 15; decide, ?_⟩
  have eM : mergeK [] [((Sum.inr (Str.ofString "chains") : Key), V.int 5), (Sum.inr (Str.ofString "pieces"), V.int 6)] = [(Sum.inr (Str.ofString "chains"), V.int 5), (Sum.inr (Str.ofString "pieces"), V.int 6)] := by
    unfold mergeK putK
    simp only [List.foldl_cons, List.foldl_nil, List.any_nil, Bool.false_eq_true, if_false, List.nil_append, List.any_cons, Bool.or_false]
    rw [if_neg (by rw [decide_eq_false k_cp]; decide)]
    rfl
  rw [eM]
  have e2 : Ex H1 (upd (upd H1 p (.dK [])) p (.dK [(Sum.inr (Str.ofString "chains"), V.int 5), (Sum.inr (Str.ofString "pieces"), V.int 6)])) := fun b o hb => by
    rw [upd_ne (ne_of_none hb hp), upd_ne (ne_of_none hb hp)]
    exact hb
  refine ⟨p, rfl, .inl ⟨_, .inl upd_same⟩, h _ (e.trans e2) _ fun H2 e3 => ⟨_, DGet.k (k := .inr (SX.S wd)) (e3 _ _ upd_same), ?_⟩⟩
  have hk : ∀ s : String, ((Sum.inr (Str.ofString s) : Key) = Sum.inr (SX.S wd)) ↔ wd = co s := fun s => by
    rw [of_S]
    exact ⟨fun z => (SX.S_inj (Sum.inr.inj z)).symm, fun z => by rw [z]⟩
  have hv : (valV [((Sum.inr (Str.ofString "chains") : Key), V.int 5), (Sum.inr (Str.ofString "pieces"), V.int 6)] (.inr (SX.S wd))).getD (.int 0) = iv (if wd = co "chains" then 5 else if wd = co "pieces" then 6 else 0) := by
    by_cases h1 : wd = co "chains"
    · rw [if_pos h1, valV_pos ((hk "chains").mpr h1)]
      rfl
    · rw [if_neg h1, valV_neg (fun z => h1 ((hk "chains").mp z))]
      by_cases h2 : wd = co "pieces"
      · rw [if_pos h2, valV_pos ((hk "pieces").mpr h2)]
        rfl
      · rw [if_neg h2, valV_neg (fun z => h2 ((hk "pieces").mp z))]
        rfl
  rw [hv]
  exact q H2 (e2.trans e3)
theorem ta_L {te : TE} {σ : L2.St} {H : Hp} {xs : List V} {Q : List V → Hp → Prop} (h : EvL te σ H xs) (k : ∀ p H1, H p = none → Ex H H1 → H1 p = some (.lst xs) → Q [.ref p] H1) : tCons te tNil σ H Q := h H (Ex.refl H) _ fun p H1 hp e h1 => k p H1 hp e h1
theorem ta_1 {te : TE} {σ : L2.St} {H : Hp} {v : V} {Q : List V → Hp → Prop} (h : Ev te σ H v) (k : ∀ H1, Ex H H1 → Q [v] H1) : tCons te tNil σ H Q := h H (Ex.refl H) _ fun H1 e => k H1 e
theorem dp_ent3 {α : Type} {f : α → PyData} {H : Hp} {q : Addr} {tag kind : Nat} {x : V} {wo : Wo α} (h : SqT K H q [iv tag, iv kind, x]) (hx : Dp K H x (dWo f wo)) : Dp K H (.ref q) (dEnt f ⟨tag, kind, wo⟩) := .tup h (.cons (.int _) (.cons (.int _) (.cons hx .nil)))
theorem ok_Lines_take_entry {d : Nat} {C CN : Addr} {f : Addr} {fd : FuncData} (F : Fun K "take_entry" "Lines.take_entry" s_Lines_take_entry f fd) (T : T0 K mg aKn aWi aOw aLi aOn aOt) (L : LC K C)
    (m_needs : MB.Mt P w K mg base 3 C "needs" (spNeeds K C CN)) (m_tag_of : MB.Mt P w K mg base 2 C "tag_of" (spTag C)) (m_plain_in : MB.Mt P w K mg base 4 C "plain_in" (spPlain K C CN)) (m_take_pieces : MB.Mt P w K mg base 4 C "take_pieces" (spPieces K C CN))
    (m_take_chains : MB.Mt P w K mg base (4 * d + 5) C "take_chains" (spChains K C CN d)) (k_is_worths : MB.ClN P w K mg base 3 "is_worths" (sp_is_worths K) 2 ["known"] (fun vs zs => vs ++ zs)) : FnOk P w K mg base (L2.CX P w) (4 * d + 6) f fd p_Lines_take_entry (spEntry K C CN d) := by
  refine F.okX sc_Lines_take_entry (fun vs H Q E h => ?_) (fun cdv A outer s H vs Q E hr h => ?_)
  · obtain ⟨R, ls, l, rfl, _⟩ := h
    rfl
  · obtain ⟨R, ls, l, rfl, hA, hlt, hll, k⟩ := h
    have hu64 := hu64 hr
    have hu := hu_of hr
    have HX : Passes (L2.CX P w) (cxOf (L2.CX P w) P w K mg base n_Lines_take_entry "Lines.take_entry" (defScope s_Lines_take_entry) f cdv A outer s H E) E := passes_call (W := fun cls d _ H => E cls d H) (takes_of rfl rfl rfl rfl) fun _ _ _ _ h => h
    refine ⟨_, (pss_cons (ps_asg (pe_split (pv 1) pe_str) (MB.pg_star (n := 2) (i := 1) rfl (pgs_cons (pg_name (i := 3) sc_Lines_take_entry.nd rfl (.inl rfl)) (MB.pgs_star (pg_name (i := 4) sc_Lines_take_entry.nd rfl (.inl rfl)) pgs_nil))))
      (pss_cons (ps_set (i := 5) sc_Lines_take_entry.nd rfl (Or.inl rfl) (MB.pe_mt m_tag_of hr (by omega) passL (pv 0) (pa_cons (pv 1) pa_nil)))
      (pss_cons (ps_expr (MB.pe_mt m_needs hr (by omega) HX (pv 0) (pa_cons (pe_cmpR MB.op_isNotA (pv 5) pe_non (nomark _)) pa_nil)))
      (pss_cons (ps_if (pt_cmpR (MB.op_eqK (K := K) rfl hu64) (pv 3) pe_str (nomark _)) (pss_one (ps_ret (pe_op (MB.op_addK (K := K) rfl) (pe_tup (pa_cons (pv 5) pa_nil)) (MB.pe_mt m_plain_in hr (by omega) HX (pv 0) (pa_cons (pe_slice (MB.sl_K (K := K) rfl) (pv 4) (po_some pe_int) po_none) pa_nil))))) pss_nil)
      (pss_cons (ps_if (pt_cmpR (MB.op_eqK (K := K) rfl hu64) (pv 3) pe_str (nomark _)) (pss_cons (ps_set (i := 6) sc_Lines_take_entry.nd rfl (Or.inl rfl) (pe_slice (MB.sl_K (K := K) rfl) (pv 1) (po_some (pe_op (MB.op_addK (K := K) rfl) (pe_op (MB.op_addK (K := K) rfl) (pe_callB (MB.call_lenK (K := K) rfl) (by rfl) T.n_len MB.bo_len (pa_cons (pv 3) pa_nil)) (pe_callB (MB.call_lenK (K := K) rfl) (by rfl) T.n_len MB.bo_len (pa_cons (pe_ix (MB.ix_K (K := K) rfl) (pv 4) pe_int (fun _ _ => rfl)) pa_nil))) pe_int)) po_none))
      (pss_cons (ps_expr (MB.pe_mt m_needs hr (by omega) HX (pv 0) (pa_cons (pe_and (pe_cmpR (MB.op_inK (K := K) rfl) pe_int (pe_fld (pv 0) rfl) rfl) (pe_and (pe_cmpR op_gt (pe_callB (MB.call_lenK (K := K) rfl) (by rfl) T.n_len MB.bo_len (pa_cons (pv 4) pa_nil)) pe_int (nomark _)) (pe_one (MB.pe_clN k_is_worths hr (by omega) (by rfl) passL (pa_cons pe_int (pa_cons (pv 6) pa_nil)) (pk_cons (pe_fld (pv 0) rfl) pk_nil))))) pa_nil)))
      (pss_one (ps_ret (pe_tup (pa_cons (pv 5) (pa_cons pe_int (pa_cons (pv 6) pa_nil)))))))) pss_nil)
      (pss_cons (ps_expr (MB.pe_mt m_needs hr (by omega) HX (pv 0) (pa_cons (pe_and (pe_cmpR (MB.op_eqK (K := K) rfl hu64) (pe_callB (MB.call_lenK (K := K) rfl) (by rfl) T.n_len MB.bo_len (pa_cons (pv 4) pa_nil)) pe_int (nomark _)) (pe_one (pe_cmpR (MB.op_inK (K := K) rfl) (pe_dget2 hu (pe_disp (pps_cons pe_str pe_int (pps_cons pe_str pe_int pps_nil)) (by rfl) (by rfl) (fun z => by cases z) (by decide)) (pv 3) pe_int ⟨rfl, rfl, rfl, rfl⟩) (pe_fld (pv 0) rfl) rfl))) pa_nil)))
      (pss_one (ps_ret (pe_ifExp (pt_cmpR (MB.op_eqK (K := K) rfl hu64) (pv 3) pe_str (nomark _)) (pe_tup (pa_cons (pv 5) (pa_cons pe_int (pa_cons (MB.pe_mt m_take_chains hr (by omega) HX (pv 0) (pa_cons (pe_op (MB.op_addK (K := K) rfl) (pv 2) pe_int) pa_nil)) pa_nil)))) (pe_tup (pa_cons (pv 5) (pa_cons pe_int (pa_cons (MB.pe_mt0 m_take_pieces hr (by omega) HX (pv 0)) pa_nil))))))))))))), ?_⟩
    refine q_words (ev_var rfl) hll fun w0 rest0 p H1 hw hrl hm e1 hp0 hp => ?_
    have hA1 := hA.ex e1
    refine q_asg (ev_tag rfl hA1 (ev_var rfl) hll) fun H2 e2 => ?_
    have hA2 := hA1.ex e2
    have e12 := e1.trans e2
    unfold rdEnt at k
    rw [hw] at k
    have hbad : tagL l = none → Fails R CN (ls.length + 1) H E := fun hn => by
      unfold tagL at hn
      rw [hw] at hn
      cases rest0 with
      | nil => exact k
      | cons r rest =>
        dsimp only at hn k
        rw [hn] at k
        exact k
    cases ht : tagL l with
    | none => exact q_needs (b := false) rfl hA2 hlt (ev_op (ev_var rfl) ev_c fun H3 _ Q q => .inl ⟨rfl, q H3 (Ex.refl H3)⟩) (fun _ => (hbad ht).mono (But.of e12) hA2.isS) fun z => by cases z
    | some tag =>
      refine q_needs (b := true) rfl hA2 hlt (ev_op (ev_var rfl) ev_c fun H3 _ Q q => .inl ⟨rfl, q H3 (Ex.refl H3)⟩) (fun z => by cases z) fun _ H3 e3 => ?_
      unfold tagL at ht
      rw [hw] at ht
      cases rest0 with
      | nil => cases ht
      | cons r rest =>
        dsimp only at ht k
        rw [ht] at k
        dsimp only at k
        have e13 := e12.trans e3
        have hA3 := hA2.ex e3
        have hp3 := e3 _ _ (e2 _ _ hp)
        have k3 := k.mono (But.of e13) hA3.isS
        clear k hbad
        rw [List.length_cons] at hrl
        have hmr : ∀ x ∈ rest, x.length ≤ 3500000 := fun x hx => hm x (by simp [hx])
        have hrest : rest.length ≤ 3500000 := by omega
        refine q_ifN (b := decide (w0 = co "entry")) (et_test (ev_op (ev_var rfl) (ev_is ev_c (congrArg V.str (of_S "entry"))) rv_eqC)) (fun hb H4 e4 => ?_) fun hb H4 e4 => ?_
        · rw [if_pos (of_decide_eq_true hb)] at k3
          have hA4 := hA3.ex e4
          refine ⟨_, rfl, by show 1 ≤ sizeLine; decide, fun t1 ht1 => ?_⟩
          have e5 : Ex H4 (upd H4 t1 (.tup [iv tag])) := Ex.new ht1
          have h5 : upd H4 t1 (.tup [iv tag]) t1 = some (.tup [iv tag]) := upd_same
          change tMeth _ _ _ _ _ _ _ _ (upd H4 t1 (.tup [iv tag])) _
          generalize upd H4 t1 (.tup [iv tag]) = H5 at e5 h5
          have hA5 := hA4.ex e5
          refine ⟨_, rfl, R.a, R.dx, _, rfl, hA5.obj, rfl, ?_⟩
          refine ta_L (els_sl (xs := (r :: rest).map tv) (els_val (ev_var rfl) (sq_of (e5 _ _ (e4 _ _ hp3)))) (eo_some (i := ((1 : Nat) : Int)) ev_c) eo_none) fun t2 H6 ht2 e6 h6 => ?_
          rw [cut_from, List.drop_succ_cons, List.drop_zero] at h6
          have hA6 := hA5.ex e6
          have e36 := (e4.trans e5).trans e6
          refine ⟨R, ls, t2, rest, rfl, hA6, hlt, sq_of h6, hrest, hmr, fun hn => ?_, fun kd ns hns pp qq H7 e7 hpp h7 hqq => ?_⟩
          · rw [hn] at k3
            exact Fails.mono k3 (But.of e36) hA6.isS
          · rw [hns] at k3
            refine .inr (.inr (.inr ⟨t1, pp, [iv tag], [iv kd, .ref qq], rfl, rfl, st_of (e7 _ _ (e6 _ _ h5)), st_of h7, by show 3 ≤ sizeLine; decide, ?_⟩))
            have fin : ∀ q H8, Ex H7 H8 → SqT K H8 q [iv tag, iv kd, .ref qq] → Q (.ref q) H8 := fun q H8 e8 h8 => k3 (.ref q) H8 (But.of ((e36.trans e7).trans e8)) (hA6.ex (e7.trans e8)) (dp_ent3 h8 (dp_nums (ex_t e8 hqq)))
            exact ⟨fun h => absurd h (List.cons_ne_nil _ _), fun _ h => absurd h (List.cons_ne_nil _ _), fun _ _ q hq => fin q _ (Ex.new hq) (st_of upd_same)⟩
        · have hne1 := of_decide_eq_false hb
          rw [if_neg hne1] at k3
          have hA4 := hA3.ex e4
          have hp4 := e4 _ _ hp3
          refine q_ifN (b := decide (w0 = co "text")) (et_test (ev_op (ev_var rfl) (ev_is ev_c (congrArg V.str (of_S "text"))) rv_eqC)) (fun hb H5 e5 => ?_) fun hb H5 e5 => ?_
          · rw [if_pos (of_decide_eq_true hb)] at k3
            have hA5 := hA4.ex e5
            have hp5 := e5 _ _ hp4
            have hsl : Ev (tSl (rSl K) (tVar 1) (tPart (tOp (rAddA K) (tOp (rAddA K) (tCB (rLenA K) (tCons (tVar 3) tNil)) (tCB (rLenA K) (tCons (tOp (rIx K) (tVar 4) (tC (.int 0))) tNil))) (tC (.int 2)))) tNoPart) (((((start n_Lines_take_entry [.ref R.a, tv l, .int (4 - (d : Int))]).set 3 (some (tv w0))).set 4 (some (.ref p))).set 5 (some (ov (some tag))))) H5 (tv (l.drop (w0.length + r.length + 2))) := by
              refine ev_is (ev_slS (lo := some ((w0.length + r.length + 2 : Nat) : Int)) (hi := none) (w := SX.S l) (ev_var rfl) (eo_some (ev_is (ev_op (ev_op (ev_cb1 (ev_var rfl) (rc_lenS (w := w0) (by have := hm w0 (by simp); omega))) (ev_cb1 (ev_op (ev_var rfl) ev_c (rv_xL (v := tv r) (sq_of hp5) (MB.atI_nat (i := 0) rfl))) (rc_lenS (w := r) (by have := hm r (by simp); omega))) rv_addI) ev_c rv_addI) (congrArg V.int (by omega)))) eo_none (by rw [SX.S_len]; omega)) (congrArg V.str (cutS_drop _ _))
            refine q_asg hsl fun H6 e6 => ?_
            have hA6 := hA5.ex e6
            have hp6 := e6 _ _ hp5
            generalize ht' : l.drop (w0.length + r.length + 2) = t at k3
            have htl : t.length ≤ 3500000 := by rw [← ht', List.length_drop]; omega
            have e36 := (e4.trans e5).trans e6
            refine q_needs (b := decide (4 ∈ R.kn) && (!rest.isEmpty && textB t)) rfl hA6 hlt ?_ (fun hb => ?_) fun hb H7 e7 => ?_
            · by_cases h4 : 4 ∈ R.kn
              · exact ev_andV (ev_op ev_c (ev_known (ev_var rfl) hA6 L) (rv_inY (k := 4) hA6.kn)) fun _ => ev_andV (ev_is (ev_op (ev_cb1 (ev_var rfl) (rc_lenL (sq_of hp6))) ev_c rv_I0) (congrArg V.bl (by
                  cases rest with
                  | nil => rfl
                  | cons x xs =>
                    rw [List.length_map, List.length_cons, List.length_cons]
                    exact decide_eq_true (by omega)))) fun _ => ev_worthsT ev_c (ev_var rfl) (ev_known (ev_var rfl) hA6 L) hA6.kn htl h4
              · refine ev_is (ev_andV (a := false) (b := false) (ev_is (ev_op ev_c (ev_known (ev_var rfl) hA6 L) (rv_inY (k := 4) hA6.kn)) (congrArg V.bl (decide_eq_false h4))) fun z => by cases z) ?_
                rw [decide_eq_false h4]
                rfl
            · rw [if_neg] at k3
              · exact Fails.mono k3 (But.of e36) hA6.isS
              · rintro ⟨z1, z2, z3⟩
                rw [decide_eq_true z1, z3] at hb
                cases rest with
                | nil => exact z2 rfl
                | cons => cases hb
            · rw [Bool.and_eq_true, Bool.and_eq_true] at hb
              rw [if_pos ⟨of_decide_eq_true hb.1, by
                intro z
                rw [z] at hb
                exact absurd hb.2.1 Bool.false_ne_true, hb.2.2⟩] at k3
              refine s_retU (eu_tup (vs := [iv tag, iv 4, tv t]) (ea_cons (ev_var rfl) (ea_cons ev_c (ea_cons (ev_is (ev_var rfl) (by rw [← ht'])) ea_nil))) (by show 3 ≤ 100000; decide)) fun q H8 hq e8 h8 => ?_
              exact k3 _ H8 (But.of ((e36.trans e7).trans e8)) (hA6.ex (e7.trans e8)) (dp_ent3 (st_of h8) (.str _))
          · have hne2 := of_decide_eq_false hb
            rw [if_neg hne2] at k3
            have hA5 := hA4.ex e5
            have hp5 := e5 _ _ hp4
            have e35 := e4.trans e5
            refine q_needs (b := decide (rest = []) && decide ((if w0 = co "chains" then 5 else if w0 = co "pieces" then 6 else 0) ∈ R.kn)) rfl hA5 hlt (ev_andV (ev_is (ev_op (ev_cb1 (ev_var rfl) (rc_lenL (sq_of hp5))) ev_c rv_eqI) (congrArg V.bl (by
                cases rest with
                | nil => rfl
                | cons x xs =>
                  rw [List.length_map, List.length_cons, List.length_cons, decide_eq_false (List.cons_ne_nil _ _)]
                  exact decide_eq_false (by omega)))) fun _ => ev_op (ev_sort (ev_var rfl)) (ev_known (ev_var rfl) hA5 L) (rv_inY hA5.kn)) (fun hb => ?_) fun hb H6 e6 => ?_
            · have h0 : ¬ (0 ∈ R.kn) := fun z => by
                obtain ⟨_, _, _, hkn⟩ := hA5.kn
                have := (hkn.six 0 z).1
                omega
              rw [if_neg, if_neg] at k3
              · exact Fails.mono k3 (But.of e35) hA5.isS
              · rintro ⟨z1, z2, z3⟩
                rw [decide_eq_true z1, z2, if_neg (by decide), if_pos rfl, decide_eq_true z3] at hb
                cases hb
              · rintro ⟨z1, z2, z3⟩
                rw [decide_eq_true z1, z2, if_pos rfl, decide_eq_true z3] at hb
                cases hb
            · rw [Bool.and_eq_true] at hb
              have hr0 : rest = [] := of_decide_eq_true hb.1
              have hin := of_decide_eq_true hb.2
              have hA6 := hA5.ex e6
              have e36 := e35.trans e6
              refine r_if (b := decide (w0 = co "chains")) (et_test (ev_op (ev_var rfl) (ev_is ev_c (congrArg V.str (of_S "chains"))) rv_eqC)) (fun hb2 H7 e7 => ?_) fun hb2 H7 e7 => ?_
              · have hc := of_decide_eq_true hb2
                rw [if_pos hc] at hin
                rw [if_pos ⟨hr0, hc, hin⟩] at k3
                have hA7 := hA6.ex e7
                have k7 := k3.mono (But.of (e36.trans e7)) hA7.isS
                refine ⟨_, rfl, _, rfl, R.a, R.dx, _, rfl, hA7.obj, rfl, ?_⟩
                refine ta_1 (ev_is (ev_op (ev_var rfl) ev_c rv_addI) (w := .int (5 - (d : Int))) (congrArg V.int (by omega))) fun H8 e8 => ?_
                have hA8 := hA7.ex e8
                refine ⟨R, ls, rfl, hA8, ?_⟩
                have k8 := k7.mono (But.of e8) hA8.isS
                cases hrc : rdChains (rdCh R.kn R.raw d) (ls.length + 1) ls [] with
                | error c =>
                  rw [hrc] at k8
                  exact k8
                | ok x =>
                  obtain ⟨cs, ls1⟩ := x
                  rw [hrc] at k8
                  intro v H9 b9 hA9 hd9
                  refine ⟨by show 3 ≤ sizeLine; decide, fun q hq => ?_⟩
                  exact k8 _ _ (but_ex b9 (Ex.new hq)) (hA9.ex (Ex.new hq)) (dp_ent3 (st_of upd_same) (dp_ex (Ex.new hq) _ _ hd9))
              · have hc := of_decide_eq_false hb2
                rw [if_neg hc] at hin
                by_cases hp2 : w0 = co "pieces"
                · rw [if_pos hp2] at hin
                  rw [if_neg (fun z => hc z.2.1), if_pos ⟨hr0, hp2, hin⟩] at k3
                  have hA7 := hA6.ex e7
                  have k7 := k3.mono (But.of (e36.trans e7)) hA7.isS
                  refine ⟨_, rfl, _, rfl, R.a, R.dx, _, rfl, hA7.obj, rfl, R, ls, rfl, hA7, ?_⟩
                  cases hrc : rdPieces (ls.length + 1) ls [] with
                  | error c =>
                    rw [hrc] at k7
                    exact k7
                  | ok x =>
                    obtain ⟨ps, ls1⟩ := x
                    rw [hrc] at k7
                    intro v H9 b9 hA9 hd9
                    refine ⟨by show 3 ≤ sizeLine; decide, fun q hq => ?_⟩
                    exact k7 _ _ (but_ex b9 (Ex.new hq)) (hA9.ex (Ex.new hq)) (dp_ent3 (st_of upd_same) (dp_ex (Ex.new hq) _ _ hd9))
                · rw [if_neg hp2] at hin
                  obtain ⟨_, _, _, hkn⟩ := hA6.kn
                  have := (hkn.six 0 hin).1
                  exact absurd this (by decide)
end
end K82
set_option maxRecDepth 100000
set_option maxHeartbeats 1000000
namespace K82
open PySem PySem.Spec PyProof.Rows L2 Evl MB
section
variable {P : Program} {w : World} {K : PySem.W.Frag} {mg : Str → Option Value} {base : Heap} {aKn aWi aOw aLi aOn aOt : Addr}
/-! ### take_table -/
def spTable (K : PySem.W.Frag) (C CN : Addr) (d : Nat) : Sp := fun vs H Q E => ∃ (R : Rd) (ls : Ls), vs = [.ref R.a, .int (4 - (d : Int))] ∧ R.At C K H ls ∧
  Rdn R C CN K (dTab (dCh d)) (rdTab (rdEnt (rdCh R.kn R.raw d) R.kn R.raw) (ls.length + 1) ls []) H Q E
theorem rdTab_step {α : Type} {e : List Nat → Ls → Rt (Ent α)} {n : Nat} {l : List Nat} {ls : Ls} {acc : List (Ent α)} (hne : l ≠ co "end") : rdTab e (n + 1) (l :: ls) acc = if acc.length < 40 then (match e l ls with
      | .error c => .error c
      | .ok (x, []) => .error 0
      | .ok (x, l' :: ls') => if nextOk x.tag l' = true then rdTab e n (l' :: ls') (acc ++ [x]) else .error (ls'.length + 1))
    else .error (ls.length + 1) := by
  rewrite [rdTab, if_neg hne]
  by_cases h : acc.length < 40
  · rewrite [if_pos h]
    try rewrite [if_pos h]
    rcases e l ls with c | ⟨x, _ | ⟨l', ls'⟩⟩ <;> rfl
  · rewrite [if_neg h]
    try rewrite [if_neg h]
    rfl
theorem ok_Lines_take_table {d : Nat} {C CN : Addr} {f : Addr} {fd : FuncData} (F : Fun K "take_table" "Lines.take_table" s_Lines_take_table f fd) (T : T0 K mg aKn aWi aOw aLi aOn aOt) (L : LC K C)
    (m_needs : MB.Mt P w K mg base 3 C "needs" (spNeeds K C CN)) (m_take_line : MB.Mt P w K mg base 3 C "take_line" (spTake K C CN)) (m_tag_of : MB.Mt P w K mg base 2 C "tag_of" (spTag C)) (m_take_entry : MB.Mt P w K mg base (4 * d + 6) C "take_entry" (spEntry K C CN d)) :
    FnOk P w K mg base (L2.CX P w) (4 * d + 7) f fd p_Lines_take_table (spTable K C CN d) := by
  refine F.okX sc_Lines_take_table (fun vs H Q E h => ?_) (fun cdv A outer s H vs Q E hr h => ?_)
  · obtain ⟨R, ls, rfl, _⟩ := h
    rfl
  · obtain ⟨R, ls0, rfl, hA0, k⟩ := h
    have hu64 := hu64 hr
    have HX : Passes (L2.CX P w) (cxOf (L2.CX P w) P w K mg base n_Lines_take_table "Lines.take_table" (defScope s_Lines_take_table) f cdv A outer s H E) E := passes_call (W := fun cls d _ H => E cls d H) (takes_of rfl rfl rfl rfl) fun _ _ _ _ h => h
    refine ⟨_, (pss_cons (ps_set (i := 2) sc_Lines_take_table.nd rfl (Or.inl rfl) (pe_lst pa_nil))
      (pss_cons (ps_set (i := 3) sc_Lines_take_table.nd rfl (Or.inl rfl) (MB.pe_mt0 m_take_line hr (by omega) HX (pv 0)))
      (pss_cons (ps_while (passes_of rfl) (pt_cmpR (MB.op_neK (K := K) rfl hu64) (pv 3) pe_str (nomark _))
      (pss_cons (ps_expr (MB.pe_mt m_needs hr (by omega) HX (pv 0) (pa_cons (pe_cmpR op_lt (pe_callB (MB.call_lenK (K := K) rfl) (by rfl) T.n_len MB.bo_len (pa_cons (pv 2) pa_nil)) (pe_gc (by rfl) T.g_MOST_ENTRIES) (nomark _)) pa_nil)))
      (pss_cons (ps_set (i := 4) sc_Lines_take_table.nd rfl (Or.inl rfl) (MB.pe_mt m_take_entry hr (by omega) HX (pv 0) (pa_cons (pv 3) (pa_cons (pv 1) pa_nil))))
      (pss_cons (ps_expr (pe_bm PySem.F.plainAttrs_list PySem.F.slot_list_append PySem.F.type_list_append mt_append (pv 2) (pa_cons (pv 4) pa_nil)))
      (pss_cons (ps_set (i := 3) sc_Lines_take_table.nd rfl (Or.inl rfl) (MB.pe_mt0 m_take_line hr (by omega) HX (pv 0)))
      (pss_one (ps_expr (MB.pe_mt m_needs hr (by omega) HX (pv 0) (pa_cons (pe_or (pe_cmpR (MB.op_eqK (K := K) rfl hu64) (pv 3) pe_str (nomark _)) (pe_one (pe_and (pe_cmpR MB.op_isNotA (MB.pe_mt m_tag_of hr (by omega) passL (pv 0) (pa_cons (pv 3) pa_nil)) pe_non (nomark _)) (pe_one (pe_cmpR op_gt (MB.pe_mt m_tag_of hr (by omega) passL (pv 0) (pa_cons (pv 3) pa_nil)) (pe_ix (MB.ix_K (K := K) rfl) (pv 4) pe_int (fun _ _ => rfl)) (nomark _)))))) pa_nil)))))))))
      (pss_one (ps_ret (pe_callTy (MB.call_tupleK (K := K) rfl) (by rfl) T.n_tuple MB.bo_tuple (pa_cons (pv 2) pa_nil))))))), ?_⟩
    have elen : ∀ l ls x ls', rdEnt (rdCh R.kn R.raw d) R.kn R.raw l ls = .ok (x, ls') → ls'.length ≤ ls.length := fun l ls x ls' h => rdEnt_len (fun ls c ls' h => rdCh_len d _ _ ls c ls' h) h
    have htup : ∀ x, tupd (dEnt (dCh d) x) = true := tupd_ent (tupd_ch d)
    have hent : ∀ l ls, rdEnt (rdCh R.kn R.raw d) R.kn R.raw l ls = rdEnt (rdCh R.kn R.raw d) R.kn R.raw l ls := fun _ _ => rfl
    revert k elen hent
    generalize hef : rdEnt (rdCh R.kn R.raw d) R.kn R.raw = ef
    intro k elen hent
    generalize hr0 : rdTab ef (ls0.length + 1) ls0 [] = r at k
    refine q_asgL (el_lst ea_nil (by decide)) fun fl H1 hfl e1 h1 => ?_
    have hflr : fl ≠ R.rl := fun z => by rw [z, hA0.rl] at hfl; cases hfl
    have hfla : fl ≠ R.a := fun z => by rw [z, hA0.obj] at hfl; cases hfl
    have hA1 := hA0.ex e1
    refine q_take rfl hA1 (fun hn => ?_) fun l ls hls H2 b2 hA2 => ?_
    · subst hn
      exact Fails.mono (k.err hr0.symm) (But.of e1) hA1.isS
    subst hls
    have hlt2 : ls.length < R.rows.length := by
      have := hA1.len
      rw [List.length_cons] at this
      omega
    refine q_while (fun m σ' H' => ∃ (ls : Ls) (l : List Nat) (n : Nat) (acc : List (Ent (Ch d))) (a : Option V), m = ls.length ∧ σ' = [some (.ref R.a), some (.int (4 - (d : Int))), some (.ref fl), some (tv l), a] ∧ But R.a H H' ∧ R.At C K H' ls ∧ ls.length < R.rows.length ∧ l.length ≤ 3500000 ∧ Acc K H' fl (dEnt (dCh d)) acc ∧ acc.length ≤ 40 ∧ ls.length < n ∧ rdTab ef (n + 1) (l :: ls) acc = r) ls.length
      ⟨ls, l, (l :: ls).length, [], none, rfl, rfl, (But.of e1).trans b2, hA2, hlt2, hA1.mem (by simp), (Acc.nil h1).but htup hA1.no hfla b2, by simp, by simp, hr0⟩ ?_
    rintro m σ' H' ⟨ls, l, n, acc, a, rfl, rfl, bH, hA, hlt, hll, hacc, h40, hn, hrd⟩
    refine ⟨!decide (l = co "end"), et_test (ev_op (ev_var rfl) (ev_is ev_c (congrArg V.str (of_S "end"))) rv_neC), fun hb H3 e3 => ?_, fun hb H3 e3 => ?_⟩
    · have hne : l ≠ co "end" := by simpa using hb
      refine ⟨fun σ' H' => ∃ m', m' < ls.length ∧ ∃ (ls : Ls) (l : List Nat) (n : Nat) (acc : List (Ent (Ch d))) (a : Option V), m' = ls.length ∧ σ' = [some (.ref R.a), some (.int (4 - (d : Int))), some (.ref fl), some (tv l), a] ∧ But R.a H H' ∧ R.At C K H' ls ∧ ls.length < R.rows.length ∧ l.length ≤ 3500000 ∧ Acc K H' fl (dEnt (dCh d)) acc ∧ acc.length ≤ 40 ∧ ls.length < n ∧ rdTab ef (n + 1) (l :: ls) acc = r, fun _ _ h => h, ?_⟩
      have hA3 := hA.ex e3
      have b3 := bH.trans (But.of e3)
      obtain ⟨vs, hv1, hv2, hv3⟩ := hacc.ex e3
      rw [rdTab_step hne] at hrd
      refine q_needs (b := decide (acc.length < 40)) rfl hA3 hlt (ev_is (ev_op (ev_cb1 (ev_var rfl) (rc_lenL (sq_of hv1))) ev_c rv_I0) (congrArg V.bl (by rw [hv2]; exact decide_eq_decide.mpr (by omega)))) (fun hb => ?_) fun hb H4 e4 => ?_
      · rw [if_neg (of_decide_eq_false hb)] at hrd
        exact Fails.mono (k.err hrd.symm) b3 hA3.isS
      · have h40' := of_decide_eq_true hb
        rw [if_pos h40'] at hrd
        have hA4 := hA3.ex e4
        have b4 := b3.trans (But.of e4)
        refine ⟨_, rfl, R.a, R.dx, _, rfl, hA4.obj, rfl, _, rfl, _, rfl, R, ls, l, rfl, hA4, hlt, hll, ?_⟩
        rw [hef]
        cases he : ef l ls with
        | error c =>
          rw [he] at hrd
          exact Fails.mono (k.err hrd.symm) b4 hA4.isS
        | ok x =>
          obtain ⟨x, ls1⟩ := x
          have hle1 := elen _ _ _ _ he
          rw [he] at hrd
          intro v H5 b5 hA5 hd5
          obtain ⟨vs', hw1, hw2, hw3⟩ : Acc K H5 fl (dEnt (dCh d)) acc := Acc.but htup hA4.no hfla b5 ⟨vs, e4 _ _ hv1, hv2, dpAll_ex e4 _ _ hv3⟩
          have b5' := b4.trans b5
          refine q_app hw1 (ev_var rfl) (ev_var rfl) (by omega) fun H6 e6 => ?_
          have hacc9 := Acc.app htup (e6 _ _ hw1) hw2 (dpAll_ex e6 _ _ hw3) (dp_ex e6 _ _ hd5)
          have hA9 := (hA5.ex e6).mut (ys := vs' ++ [v]) (e6 _ _ hw1) hflr
          have b9 : But R.a H (upd H6 fl (.lst (vs' ++ [v]))) := (b5'.trans (But.of e6)).mut hfl
          have hd9 : Dp K (upd H6 fl (.lst (vs' ++ [v]))) v (dEnt (dCh d) x) := dp_but (NoTup.lst (e6 _ _ hw1)) (fun b o hb ho => by rw [upd_ne hb]; exact ho) _ _ (htup x) (dp_ex e6 _ _ hd5)
          generalize upd H6 fl (.lst (vs' ++ [v])) = H9 at hacc9 hA9 b9 hd9
          refine q_take rfl hA9 (fun hn0 => ?_) fun l' ls' hls' H10 b10 hA10 => ?_
          · subst hn0
            exact Fails.mono (k.err hrd.symm) b9 hA9.isS
          · subst hls'
            rw [List.length_cons] at hle1
            have hlt' : ls'.length < R.rows.length := by omega
            have hll' := hA9.mem (l := l') (by simp)
            have b10' := b9.trans b10
            have hd10 := dp_but hA9.no b10 _ _ (htup x) hd9
            obtain ⟨ea, ex, rfl, hes, _⟩ := dp_ent hd10
            have hacc10 := hacc9.but htup hA9.no hfla b10
            refine s_needs (b := nextOk x.tag l') rfl hA10 hlt' (ev_orV (ev_op (ev_var rfl) (ev_is ev_c (congrArg V.str (of_S "end"))) rv_eqC) fun _ => ?_) (fun hb => ?_) fun hb H11 e11 => ?_
            · cases ht : tagL l' with
              | none => exact ev_is (ev_andV (a := false) (b := false) (ev_op (ev_tag rfl hA10 (ev_var rfl) hll') ev_c fun H3 _ Q q => .inl ⟨rfl, by rw [ht]; exact q H3 (Ex.refl H3)⟩) fun z => by cases z) rfl
              | some tg =>
                refine ev_is (ev_andV (a := true) (b := decide (x.tag < tg)) (ev_op (ev_tag rfl hA10 (ev_var rfl) hll') ev_c fun H3 _ Q q => .inl ⟨rfl, by rw [ht]; exact q H3 (Ex.refl H3)⟩) fun _ => ev_is (ev_op (ev_is (ev_tag rfl hA10 (ev_var rfl) hll') (w := iv tg) (by rw [ht]; rfl)) (ev_op (ev_var rfl) ev_c (rv_xT (v := iv x.tag) hes (MB.atI_nat (i := 0) rfl))) rv_I0) (congrArg V.bl (decide_eq_decide.mpr (by omega)))) (by rw [Bool.true_and])
            · have hrd : (if nextOk x.tag l' = true then rdTab ef n (l' :: ls') (acc ++ [x]) else .error (ls'.length + 1)) = r := hrd
              rw [if_neg (by rw [hb]; exact Bool.false_ne_true)] at hrd
              exact Fails.mono (k.err hrd.symm) b10' hA10.isS
            · have hrd : (if nextOk x.tag l' = true then rdTab ef n (l' :: ls') (acc ++ [x]) else .error (ls'.length + 1)) = r := hrd
              rw [if_pos hb] at hrd
              obtain ⟨n', rfl⟩ : ∃ n', n = n' + 1 := ⟨n - 1, by omega⟩
              exact ⟨ls'.length, by omega, ls', l', n', acc ++ [x], _, rfl, rfl, b10'.trans (But.of e11), hA10.ex e11, hlt', hll', hacc10.ex e11, by rw [List.length_append, List.length_singleton]; omega, by omega, hrd⟩
    · have he : l = co "end" := by simpa using hb
      subst he
      rw [rdTab, if_pos rfl] at hrd
      obtain ⟨vs, hv1, hv2, hv3⟩ := hacc.ex e3
      refine s_retTup (ev_var rfl) hv1 fun q H4 hq e4 h4 => k.ok hrd.symm _ H4 ((bH.trans (But.of e3)).trans (But.of e4)) (hA.ex (e3.trans e4)) (.tup (st_of h4) (dpAll_ex e4 _ _ hv3))
/-! ### take_tables -/
theorem lastV_S (last : Bool) : lastV last = if last = true then tv (co "done") else .non := by cases last <;> rfl
theorem ev_isLast {σ : L2.St} {H : Hp} {te tl : TE} {l : List Nat} {last : Bool} (h : Ev te σ H (tv l)) (h2 : Ev tl σ H (lastV last)) : Ev (tOp (rEqA K) te tl) σ H (.bl (last && decide (l = co "done"))) := by
  cases last with
  | true => exact ev_op h h2 rv_eqC
  | false => exact ev_op h h2 fun H1 _ Q q => .inl ⟨rfl, q H1 (Ex.refl H1)⟩
theorem et_more {σ : L2.St} {H : Hp} {R : Rd} {C : Addr} {ls : Ls} {E : XK} {last : Bool} {t1 : TE} (h0 : σ[0]? = some (some (.ref R.a))) (h2 : Ev t1 σ H (lastV last)) (hA : R.At C K H ls) :
    EvT (tOr (tB (tOp rIsNotA t1 (tC .non))) (tNot (tTest (tMeth C "is_over" (spOver K C) [] E (tVar 0) tNil)))) σ H (last || !(decide (ls = []) && decide (R.rest = []))) :=
  et_or (et_B (ev_op h2 ev_c fun H3 _ Q q => .inl ⟨rfl, by
    cases last with
    | true => exact q H3 (Ex.refl H3)
    | false => exact q H3 (Ex.refl H3)⟩)) fun _ => et_not (et_test (ev_over h0 hA))
theorem ok_Lines_take_tables0 {C CN : Addr} {f : Addr} {fd : FuncData} {sp : Sp} (F : Fun K "take_tables" "Lines.take_tables" s_Lines_take_tables f fd) (T : T0 K mg aKn aWi aOw aLi aOn aOt) (L : LC K C)
    (m_needs : MB.Mt P w K mg base 3 C "needs" (spNeeds K C CN)) (m_take_line : MB.Mt P w K mg base 3 C "take_line" (spTake K C CN)) (m_is_over : MB.Mt P w K mg base 1 C "is_over" (spOver K C)) (m_take_table : MB.Mt P w K mg base 1 C "take_table" sp) :
    FnOk P w K mg base (L2.CX P w) 4 f fd p_Lines_take_tables (spTabs K C CN 0) := by
  refine F.okX sc_Lines_take_tables (fun vs H Q E h => ?_) (fun cdv A outer s H vs Q E hr h => ?_)
  · obtain ⟨R, ls, last, rest, rfl, _⟩ := h
    rfl
  · obtain ⟨R, ls0, last, rest, rfl, hA0, hlast, k⟩ := h
    have hu64 := hu64 hr
    obtain rfl : last = true := by
      cases last with
      | true => rfl
      | false => exact absurd rfl (hlast rfl).2
    have HX : Passes (L2.CX P w) (cxOf (L2.CX P w) P w K mg base n_Lines_take_tables "Lines.take_tables" (defScope s_Lines_take_tables) f cdv A outer s H E) E := passes_call (W := fun cls d _ H => E cls d H) (takes_of rfl rfl rfl rfl) fun _ _ _ _ h => h
    refine ⟨_, (pss_cons (ps_set (i := 3) sc_Lines_take_tables.nd rfl (Or.inl rfl) (pe_lst pa_nil))
      (pss_cons (ps_while (passes_of rfl) (PW.pt (pw_or (pt_cmpR MB.op_isNotA (pv 2) pe_non (nomark _)) (pw_or1 (pt_not (pt_val (MB.pe_mt0 m_is_over hr (by decide) passL (pv 0)))))))
      (pss_cons (ps_set (i := 4) sc_Lines_take_tables.nd rfl (Or.inl rfl) (MB.pe_mt0 m_take_line hr (by decide) HX (pv 0)))
      (pss_cons (ps_if (pt_cmpR (MB.op_eqK (K := K) rfl hu64) (pv 4) (pv 2) (nomark _)) (pss_one (ps_ret (pe_callTy (MB.call_tupleK (K := K) rfl) (by rfl) T.n_tuple MB.bo_tuple (pa_cons (pv 3) pa_nil)))) pss_nil)
      (pss_cons (ps_expr (MB.pe_mt m_needs hr (by decide) HX (pv 0) (pa_cons (pe_and (pe_cmpR (MB.op_eqK (K := K) rfl hu64) (pv 4) pe_str (nomark _)) (pe_and (pe_cmpR op_le (pv 1) (pe_gc (by rfl) T.g_MOST_DEEP) (nomark _)) (pe_one (pe_cmpR op_lt (pe_callB (MB.call_lenK (K := K) rfl) (by rfl) T.n_len MB.bo_len (pa_cons (pv 3) pa_nil)) (pe_gc (by rfl) T.g_MOST_TABLES) (nomark _))))) pa_nil)))
      (pss_one (ps_expr (pe_bm PySem.F.plainAttrs_list PySem.F.slot_list_append PySem.F.type_list_append mt_append (pv 3) (pa_cons (MB.pe_mt m_take_table hr (by decide) HX (pv 0) (pa_cons (pv 1) pa_nil)) pa_nil))))))))
      (pss_one (ps_ret (pe_callTy (MB.call_tupleK (K := K) rfl) (by rfl) T.n_tuple MB.bo_tuple (pa_cons (pv 3) pa_nil)))))), ?_⟩
    refine q_asgL (el_lst ea_nil (by decide)) fun fl H1 hfl e1 h1 => ?_
    have hflr : fl ≠ R.rl := fun z => by rw [z, hA0.rl] at hfl; cases hfl
    have hfla : fl ≠ R.a := fun z => by rw [z, hA0.obj] at hfl; cases hfl
    have hA1 := hA0.ex e1
    refine q_while (fun m σ' H' => m = 0 ∧ σ' = [some (.ref R.a), some (.int (5 - ((0 : Nat) : Int))), some (lastV true), some (.ref fl), none] ∧ H' = H1) 0 ⟨rfl, rfl, rfl⟩ ?_
    rintro m σ' H' ⟨rfl, rfl, rfl⟩
    refine ⟨_, et_more rfl (ev_var rfl) hA1, fun _ H3 e3 => ?_, fun hb => by cases hb⟩
    refine ⟨fun _ _ => False, fun _ _ h => h.elim, ?_⟩
    have hA3 := hA1.ex e3
    have e13 := e1.trans e3
    refine q_take rfl hA3 (fun hn => ?_) fun l ls hls H4 b4 hA4 => ?_
    · subst hn
      exact Fails.mono k (But.of e13) hA3.isS
    · subst hls
      replace k : Rdn R C CN K (dCh 0) (if l = co "done" then (.ok ((), ls) : Rt Unit) else .error (ls.length + 1)) H Q E := k
      have hlt : ls.length < R.rows.length := by
        have := hA3.len
        rw [List.length_cons] at this
        omega
      have b4' := (But.of e13).trans b4
      have hfl4 : H4 fl = some (.lst []) := hA3.keep b4 (e3 _ _ h1)
      refine q_ifN (et_test (ev_isLast (last := true) (ev_var rfl) (ev_var rfl))) (fun hb H5 e5 => ?_) fun hb H5 e5 => ?_
      · replace k := k.ok (x := ()) (if_pos (of_decide_eq_true hb))
        exact s_retTup (ev_var rfl) (e5 _ _ hfl4) fun q H6 hq e6 h6 => k _ H6 (b4'.trans (But.of (e5.trans e6))) (hA4.ex (e5.trans e6)) (.tup (st_of h6) .nil)
      · replace k := k.err (if_neg (of_decide_eq_false hb))
        have hA5 := hA4.ex e5
        have k5 := Fails.mono k (b4'.trans (But.of e5)) hA5.isS
        by_cases ht : l = co "table"
        · exact q_needs (b := false) rfl hA5 hlt (ev_is (ev_andV (a := true) (b := false) (ev_is (ev_op (ev_var rfl) (ev_is ev_c (congrArg V.str (of_S "table"))) rv_eqC) (congrArg V.bl (decide_eq_true ht))) fun _ => ev_is (ev_andV (a := false) (b := false) (ev_is (ev_op (ev_var rfl) ev_c rv_I0) rfl) fun z => by cases z) rfl) rfl) (fun _ => k5) fun z => by cases z
        · exact q_needs (b := false) rfl hA5 hlt (ev_is (ev_andV (a := false) (b := false) (ev_is (ev_op (ev_var rfl) (ev_is ev_c (congrArg V.str (of_S "table"))) rv_eqC) (congrArg V.bl (decide_eq_false ht))) fun z => by cases z) rfl) (fun _ => k5) fun z => by cases z
theorem rdTabs_step {α : Type} {last : Bool} {rest : List Nat} {e : List Nat → Ls → Rt (Ent α)} {n : Nat} {l : List Nat} {ls : Ls} {acc : List (List (Ent α))} (h : (last && decide (l = co "done")) = false) : rdTabs last rest e (n + 1) (l :: ls) acc = if (decide (l = co "table") && (true && decide (acc.length < 10))) = true then (match rdTab e (ls.length + 1) ls [] with
      | .ok (t, ls') => rdTabs last rest e n ls' (acc ++ [t])
      | .error c => .error c)
    else .error (ls.length + 1) := by
  have h0 : ¬ (last = true ∧ l = co "done") := by
    rintro ⟨rfl, rfl⟩
    cases h
  rw [rdTabs, if_neg h0]
  by_cases h1 : l = co "table" ∧ acc.length < 10
  · rewrite [if_pos h1, if_pos (by rw [decide_eq_true h1.1, decide_eq_true h1.2]; rfl)]
    cases rdTab e (ls.length + 1) ls [] <;> rfl
  · rw [if_neg h1, if_neg (by rw [Bool.true_and, ← Bool.decide_and]; exact fun z => h1 (of_decide_eq_true z))]
theorem ok_Lines_take_tablesS {d : Nat} {C CN : Addr} {f : Addr} {fd : FuncData} (hd4 : d < 4) (F : Fun K "take_tables" "Lines.take_tables" s_Lines_take_tables f fd) (T : T0 K mg aKn aWi aOw aLi aOn aOt) (L : LC K C)
    (m_needs : MB.Mt P w K mg base 3 C "needs" (spNeeds K C CN)) (m_take_line : MB.Mt P w K mg base 3 C "take_line" (spTake K C CN)) (m_is_over : MB.Mt P w K mg base 1 C "is_over" (spOver K C)) (m_take_table : MB.Mt P w K mg base (4 * d + 7) C "take_table" (spTable K C CN d)) :
    FnOk P w K mg base (L2.CX P w) (4 * d + 8) f fd p_Lines_take_tables (spTabs K C CN (d + 1)) := by
  refine F.okX sc_Lines_take_tables (fun vs H Q E h => ?_) (fun cdv A outer s H vs Q E hr h => ?_)
  · obtain ⟨R, ls, last, rest, rfl, _⟩ := h
    rfl
  · obtain ⟨R, ls0, last, rest, rfl, hA0, hlast, k⟩ := h
    have hu64 := hu64 hr
    have HX : Passes (L2.CX P w) (cxOf (L2.CX P w) P w K mg base n_Lines_take_tables "Lines.take_tables" (defScope s_Lines_take_tables) f cdv A outer s H E) E := passes_call (W := fun cls d _ H => E cls d H) (takes_of rfl rfl rfl rfl) fun _ _ _ _ h => h
    refine ⟨_, (pss_cons (ps_set (i := 3) sc_Lines_take_tables.nd rfl (Or.inl rfl) (pe_lst pa_nil))
      (pss_cons (ps_while (passes_of rfl) (PW.pt (pw_or (pt_cmpR MB.op_isNotA (pv 2) pe_non (nomark _)) (pw_or1 (pt_not (pt_val (MB.pe_mt0 m_is_over hr (by omega) passL (pv 0)))))))
      (pss_cons (ps_set (i := 4) sc_Lines_take_tables.nd rfl (Or.inl rfl) (MB.pe_mt0 m_take_line hr (by omega) HX (pv 0)))
      (pss_cons (ps_if (pt_cmpR (MB.op_eqK (K := K) rfl hu64) (pv 4) (pv 2) (nomark _)) (pss_one (ps_ret (pe_callTy (MB.call_tupleK (K := K) rfl) (by rfl) T.n_tuple MB.bo_tuple (pa_cons (pv 3) pa_nil)))) pss_nil)
      (pss_cons (ps_expr (MB.pe_mt m_needs hr (by omega) HX (pv 0) (pa_cons (pe_and (pe_cmpR (MB.op_eqK (K := K) rfl hu64) (pv 4) pe_str (nomark _)) (pe_and (pe_cmpR op_le (pv 1) (pe_gc (by rfl) T.g_MOST_DEEP) (nomark _)) (pe_one (pe_cmpR op_lt (pe_callB (MB.call_lenK (K := K) rfl) (by rfl) T.n_len MB.bo_len (pa_cons (pv 3) pa_nil)) (pe_gc (by rfl) T.g_MOST_TABLES) (nomark _))))) pa_nil)))
      (pss_one (ps_expr (pe_bm PySem.F.plainAttrs_list PySem.F.slot_list_append PySem.F.type_list_append mt_append (pv 3) (pa_cons (MB.pe_mt m_take_table hr (by omega) HX (pv 0) (pa_cons (pv 1) pa_nil)) pa_nil))))))))
      (pss_one (ps_ret (pe_callTy (MB.call_tupleK (K := K) rfl) (by rfl) T.n_tuple MB.bo_tuple (pa_cons (pv 3) pa_nil)))))), ?_⟩
    have hdeep : (5 - ((d + 1 : Nat) : Int)) = 4 - (d : Int) := by omega
    rw [hdeep]
    have htup : ∀ x, tupd (dTab (dCh d) x) = true := tupd_tab (tupd_ch d)
    have tlen : ∀ n ls acc x ls', rdTab (rdEnt (rdCh R.kn R.raw d) R.kn R.raw) n ls acc = .ok (x, ls') → ls'.length < ls.length := fun n ls acc x ls' h => rdTab_len (fun l ls x ls' h => rdEnt_len (fun ls c ls' h => rdCh_len d _ _ ls c ls' h) h) h
    replace k : Rdn R C CN K (dCha (dCh d)) (rdTabs last rest (rdEnt (rdCh R.kn R.raw d) R.kn R.raw) (ls0.length + 1) ls0 []) H Q E := k
    generalize hef : rdEnt (rdCh R.kn R.raw d) R.kn R.raw = ef at k tlen
    generalize hr0 : rdTabs last rest ef (ls0.length + 1) ls0 [] = r at k
    refine q_asgL (el_lst ea_nil (by decide)) fun fl H1 hfl e1 h1 => ?_
    have hflr : fl ≠ R.rl := fun z => by rw [z, hA0.rl] at hfl; cases hfl
    have hfla : fl ≠ R.a := fun z => by rw [z, hA0.obj] at hfl; cases hfl
    have hA1 := hA0.ex e1
    refine q_while (fun m σ' H' => ∃ (ls : Ls) (n : Nat) (acc : List (List (Ent (Ch d)))) (a : Option V), m = ls.length ∧ σ' = [some (.ref R.a), some (.int (4 - (d : Int))), some (lastV last), some (.ref fl), a] ∧ But R.a H H' ∧ R.At C K H' ls ∧ Acc K H' fl (dTab (dCh d)) acc ∧ acc.length ≤ 10 ∧ ls.length < n ∧ rdTabs last rest ef n ls acc = r) ls0.length
      ⟨ls0, ls0.length + 1, [], none, rfl, rfl, But.of e1, hA1, Acc.nil h1, by simp, by omega, hr0⟩ ?_
    rintro m σ' H' ⟨ls, n, acc, a, rfl, rfl, bH, hA, hacc, h10, hn, hrd⟩
    obtain ⟨n, rfl⟩ : ∃ n', n = n' + 1 := ⟨n - 1, by omega⟩
    refine ⟨_, et_more rfl (ev_var rfl) hA, fun hb0 H3 e3 => ?_, fun hb0 H3 e3 => ?_⟩
    · refine ⟨fun σ' H' => ∃ m', m' < ls.length ∧ ∃ (ls : Ls) (n : Nat) (acc : List (List (Ent (Ch d)))) (a : Option V), m' = ls.length ∧ σ' = [some (.ref R.a), some (.int (4 - (d : Int))), some (lastV last), some (.ref fl), a] ∧ But R.a H H' ∧ R.At C K H' ls ∧ Acc K H' fl (dTab (dCh d)) acc ∧ acc.length ≤ 10 ∧ ls.length < n ∧ rdTabs last rest ef n ls acc = r, fun _ _ h => h, ?_⟩
      have hA3 := hA.ex e3
      have b3 := bH.trans (But.of e3)
      refine q_take rfl hA3 (fun hn0 => ?_) fun l ls' hls H4 b4 hA4 => ?_
      · subst hn0
        rw [rdTabs, if_neg] at hrd
        · exact Fails.mono (k.err hrd.symm) b3 hA3.isS
        · rintro ⟨rfl, z2⟩
          rw [(hlast rfl).1] at z2
          rw [z2] at hb0
          cases hb0
      · subst hls
        rw [List.length_cons] at hn
        have hlt : ls'.length < R.rows.length := by
          have := hA3.len
          rw [List.length_cons] at this
          omega
        have b4' := b3.trans b4
        obtain ⟨vs, hv1, hv2, hv3⟩ := (hacc.ex e3).but htup hA3.no hfla b4
        refine q_ifN (et_test (ev_isLast (ev_var rfl) (ev_var rfl))) (fun hb H5 e5 => ?_) fun hb H5 e5 => ?_
        · rw [Bool.and_eq_true] at hb
          rw [rdTabs, if_pos ⟨hb.1, of_decide_eq_true hb.2⟩] at hrd
          exact s_retTup (ev_var rfl) (e5 _ _ hv1) fun q H6 hq e6 h6 => k.ok hrd.symm _ H6 (b4'.trans (But.of (e5.trans e6))) (hA4.ex (e5.trans e6)) (.tup (st_of h6) (dpAll_ex (e5.trans e6) _ _ hv3))
        · rw [rdTabs_step hb] at hrd
          have hA5 := hA4.ex e5
          have b5 := b4'.trans (But.of e5)
          refine q_needs (b := decide (l = co "table") && (true && decide (acc.length < 10))) rfl hA5 hlt (ev_andV (ev_op (ev_var rfl) (ev_is ev_c (congrArg V.str (of_S "table"))) rv_eqC) fun _ => ev_andV (ev_is (ev_op (ev_var rfl) ev_c rv_I0) (congrArg V.bl (decide_eq_true (by omega)))) fun _ => ev_is (ev_op (ev_cb1 (ev_var rfl) (rc_lenL (sq_of (e5 _ _ hv1)))) ev_c rv_I0) (congrArg V.bl (by rw [hv2]; exact decide_eq_decide.mpr (by omega)))) (fun hb => ?_) fun hb H6 e6 => ?_
          · rw [if_neg (by rw [hb]; exact Bool.false_ne_true)] at hrd
            exact Fails.mono (k.err hrd.symm) b5 hA5.isS
          · rw [if_pos hb] at hrd
            rw [Bool.and_eq_true, Bool.true_and] at hb
            have h10' : acc.length < 10 := of_decide_eq_true hb.2
            have hA6 := hA5.ex e6
            have b6 := b5.trans (But.of e6)
            have e46 := e5.trans e6
            refine ⟨_, rfl, .inl ⟨rfl, vs, sq_of (e46 _ _ hv1)⟩, ?_⟩
            refine ⟨_, rfl, R.a, R.dx, _, rfl, hA6.obj, rfl, _, rfl, R, ls', rfl, hA6, ?_⟩
            rw [hef]
            cases ht : rdTab ef (ls'.length + 1) ls' [] with
            | error c =>
              rw [ht] at hrd
              exact Fails.mono (k.err hrd.symm) b6 hA6.isS
            | ok x =>
              obtain ⟨t, ls1⟩ := x
              rw [ht] at hrd
              have hlen1 := tlen _ _ _ _ _ ht
              intro v H7 b7 hA7 hd7
              obtain ⟨vs', hw1, hw2, hw3⟩ : Acc K H7 fl (dTab (dCh d)) acc := Acc.but htup hA6.no hfla b7 ⟨vs, e46 _ _ hv1, hv2, dpAll_ex e46 _ _ hv3⟩
              refine ⟨fl, vs', v, rfl, rfl, hw1, sz_lt (by omega), ?_⟩
              have hacc9 := Acc.app htup hw1 hw2 hw3 hd7
              have hA9 := hA7.mut (ys := vs' ++ [v]) hw1 hflr
              have b9 : But R.a H (upd H7 fl (.lst (vs' ++ [v]))) := (b6.trans b7).mut hfl
              exact ⟨ls1.length, by rw [List.length_cons]; omega, ls1, n, acc ++ [t], _, rfl, rfl, b9, hA9, hacc9, by rw [List.length_append, List.length_singleton]; omega, by omega, hrd⟩
    · rw [Bool.or_eq_false_iff, Bool.not_eq_false', Bool.and_eq_true] at hb0
      obtain ⟨rfl, h1', h2'⟩ := hb0
      have hls := of_decide_eq_true h1'
      subst hls
      have hrest := of_decide_eq_true h2'
      rw [rdTabs, if_pos ⟨rfl, by rw [(hlast rfl).1]; exact hrest⟩] at hrd
      obtain ⟨vs, hv1, hv2, hv3⟩ := hacc.ex e3
      exact s_retTup (ev_var rfl) hv1 fun q H4 hq e4 h4 => k.ok hrd.symm _ H4 ((bH.trans (But.of e3)).trans (But.of e4)) (hA.ex (e3.trans e4)) (.tup (st_of h4) (dpAll_ex e4 _ _ hv3))
end
end K82
set_option maxRecDepth 100000
set_option maxHeartbeats 1000000
namespace K82
open PySem PySem.Spec PyProof.Rows L2 Evl MB
section
variable {P : Program} {w : World} {K : PySem.W.Frag} {mg : Str → Option Value} {base : Heap} {aKn aWi aOw aLi aOn aOt : Addr}
/-! ### read_tree -/
def readT (kn : List Nat) (t : List Nat) : Except Nat (List Nat × Ch 4) := match rdTree kn (restL t) (rowsL t) with
  | .ok (x, _) => .ok x
  | .error c => .error ((rowsL t).length - c)
def sp_read_tree (K : PySem.W.Frag) (CN : Addr) : Sp := fun vs H Q E => ∃ x y : V, vs = [x, y] ∧
  ((∃ t kn, x = tv t ∧ t.length < 3500000 ∧ KnAt K H y kn ∧ match readT kn t with
    | .ok (o, c) => ∀ v H', Ex H H' → Dp K H' v (dTree o c) → Q v H'
    | .error n => ∀ d H', Ex H H' → H d = none → H' d = some (.xd [("line", iv n)]) → E (.ref CN) (some d) H') ∨
  (NotStr K H x ∧ ∀ d H', Ex H H' → H d = none → H' d = some (.xd [("line", .non)]) → E (.ref CN) (some d) H'))
theorem eq_S (a b : List Nat) : (SX.S a == SX.S b) = decide (b = a) := by
  by_cases h : b = a
  · subst h
    simp
  · rw [decide_eq_false h]
    exact beq_eq_false_iff_ne.mpr fun z => h (SX.S_inj z).symm
theorem inV_order (o : List Nat) : inV (tv o) [tv (co "small"), tv (co "great")] = orderOk o := by
  show ((SX.S (co "small") == SX.S o) || ((SX.S (co "great") == SX.S o) || false)) = _
  rw [eq_S, eq_S, Bool.or_false]
  rfl
theorem rv_order {H : Hp} {a : Addr} {o : List Nat} (h : SqT K H a [tv (co "small"), tv (co "great")]) : RV (rInA K) (tv o) (.ref a) H (.bl (orderOk o)) := fun H1 e Q q => .inr (rv_isT h rfl rfl H1 e Q (by rw [inV_order]; exact q))
/-- x.split(' '), x's text at hand -/
theorem w_words {σ : L2.St} {H : Hp} {l : List Nat} {G : VK} (hl : l.length ≤ 3500000) (k : ∀ p H1, Ex H H1 → H p = none → H1 p = some (.lst ((wordsL l).map tv)) → G (.ref p) H1) :
    (∃ a, tv l = .str a) ∧ tC (.str " ") σ H fun y H2 => ∃ a b, tv l = .str a ∧ [y] = [.str b] ∧ (b.length == 0) = false ∧ a.length + 2 ≤ sizeLine ∧ rNewStrs (Txt.split a b) H2 G :=
  (el_split (w := l) (sep := [32]) (H := H) (σ := σ) (ta := tC (tv l)) (te := tC (.str " ")) ev_c (ev_is ev_c (congrArg V.str (of_S " "))) (by decide) (by decide) (by omega)) H (Ex.refl H) G fun p0 H1 hn0 e1 h1 => k p0 H1 e1 hn0 h1
/-- word, *rest = a new list of texts -/
theorem g_words {σ : L2.St} {H : Hp} {w : List Nat} {rest : Ls} {p0 : Addr} {i j : Nat} {G : L2.St → Hp → Prop} (h1 : H p0 = some (.lst ((w :: rest).map tv))) (k : ∀ p H1, Ex H H1 → H p = none → H1 p = some (.lst (rest.map tv)) → G ((σ.set i (some (tv w))).set j (some (.ref p))) H1) :
    gStar K 2 1 (gCons (gName i) (gCons (gName j) gNil)) (.ref p0) σ H G := by
  refine ⟨p0, _, rfl, sq_of h1, by decide, by simp, fun p hp => ?_⟩
  have eL : List.take (List.length ((w :: rest).map tv) + 1 - 2) (List.drop 1 ((w :: rest).map tv)) = rest.map tv := by
    rw [List.map_cons, List.length_cons, List.drop_succ_cons, List.drop_zero, List.take_of_length_le (by omega)]
  have eR : List.take 1 ((w :: rest).map tv) ++ [V.ref p] ++ List.drop (List.length ((w :: rest).map tv) + 1 - 2) (List.drop 1 ((w :: rest).map tv)) = [tv w, V.ref p] := by
    rw [List.map_cons, List.length_cons, List.drop_succ_cons, List.drop_zero, List.drop_of_length_le (by omega)]
    rfl
  rw [eL]
  exact ⟨_, _, eR, _, _, rfl, rfl, k p _ (Ex.new hp) hp upd_same⟩
theorem but_new {H H1 : Hp} {a dx : Addr} {o1 o2 : HO} (ha : H a = none) (hd : H dx = none) (e : But a (upd (upd H dx o1) a o2) H1) : Ex H H1 := fun b o hb => e b o (ne_of_none hb ha) (by rw [upd_ne (ne_of_none hb ha), upd_ne (ne_of_none hb hd)]; exact hb)
theorem ok_read_tree {C CN : Addr} {f : Addr} {fd : FuncData} {ke : V} (F : FunD K "read_tree" "read_tree" (defArgs s_read_tree) (defBody s_read_tree) (defScope s_read_tree) [] [("known", ke)] f fd) (T : T0 K mg aKn aWi aOw aLi aOn aOt) (L : LC K C)
    (M_Lines : MB.MkD P w K mg base 3 "Lines" C (spInit K C CN) [.bl true]) (m_needs : MB.Mt P w K mg base 3 C "needs" (spNeeds K C CN)) (m_take_line : MB.Mt P w K mg base 3 C "take_line" (spTake K C CN)) (n_take_tables : MB.MtN P w K mg base 20 C "take_tables" (spTabs K C CN 4) 1 ["last"] (fun vs zs => vs ++ zs)) :
    FnOk P w K mg base (L2.CX P w) 21 f fd p_read_tree (sp_read_tree K CN) := by
  refine F.ok sc_read_tree (fun vs H Q E h => ?_) (fun cdv A outer s H vs Q E hr h => ?_)
  · obtain ⟨x, y, rfl, _⟩ := h
    rfl
  · obtain ⟨x, y, rfl, h⟩ := h
    have hu64 := hu64 hr
    have HX : Passes (L2.CX P w) (cxOf (L2.CX P w) P w K mg base n_read_tree "read_tree" (defScope s_read_tree) f cdv A outer s H E) E := passes_call (W := fun cls d _ H => E cls d H) (takes_of rfl rfl rfl rfl) fun _ _ _ _ h => h
    refine ⟨_, (pss_cons (ps_set (i := 2) sc_read_tree.nd rfl (Or.inl rfl) (MB.pe_mk M_Lines hr (by decide) (by rfl) HX (pa_cons (pv 0) (pa_cons (pv 1) pa_nil))))
      (pss_cons (ps_asg (pe_split (MB.pe_mt0 m_take_line hr (by decide) HX (pv 2)) pe_str) (MB.pg_star (n := 2) (i := 1) rfl (pgs_cons (pg_name (i := 3) sc_read_tree.nd rfl (.inl rfl)) (MB.pgs_star (pg_name (i := 4) sc_read_tree.nd rfl (.inl rfl)) pgs_nil))))
      (pss_cons (ps_expr (MB.pe_mt m_needs hr (by decide) HX (pv 2) (pa_cons (pe_and (pe_cmpR (MB.op_eqK (K := K) rfl hu64) (pv 3) pe_str (nomark _)) (pe_and (pe_cmpR (MB.op_eqK (K := K) rfl hu64) (pe_callB (MB.call_lenK (K := K) rfl) (by rfl) T.n_len MB.bo_len (pa_cons (pv 4) pa_nil)) pe_int (nomark _)) (pe_one (pe_cmpR (MB.op_inK (K := K) rfl) (pe_ix (MB.ix_K (K := K) rfl) (pv 4) pe_int (fun _ _ => rfl)) (pe_gc (by rfl) T.g_ORDERS) rfl)))) pa_nil)))
      (pss_one (ps_ret (pe_tup (pa_cons (pe_ix (MB.ix_K (K := K) rfl) (pv 4) pe_int (fun _ _ => rfl)) (pa_cons (MB.pe_mtN n_take_tables hr (by decide) HX (pv 2) (pa_cons pe_int pa_nil) (pk_cons pe_non pk_nil)) pa_nil)))))))), ?_⟩
    refine ⟨_, rfl, _, rfl, fun a dx ha hdx hne => ?_⟩
    have hown : ∀ {H1 : Hp}, But a (upd (upd H dx (.own a)) a (.ins C dx [])) H1 → Ex H H1 := fun e => but_new ha hdx e
    refine ⟨a, dx, x, y, true, rfl, upd_same, ?_⟩
    have e0 : Ex H (upd (upd H dx (.own a)) a (.ins C dx [])) := hown (But.refl _ _)
    rcases h with ⟨t, kn, rfl, ht, hy, k⟩ | ⟨hns, k⟩
    · refine .inl ⟨t, kn, rfl, ht, hy.ex e0, fun rl H1 b1 hrl hA1 => ⟨rfl, ?_⟩⟩
      have e1 := hown b1
      generalize hR : (⟨a, dx, rl, y, rowsL t, restL t, kn, true⟩ : Rd) = R at hA1
      have hRa : R.a = a := by rw [← hR]
      have hRrows : R.rows = rowsL t := by rw [← hR]
      have hRrest : R.rest = restL t := by rw [← hR]
      have hRkn : R.kn = kn := by rw [← hR]
      have hRraw : R.raw = true := by rw [← hR]
      have hsl : ∀ {v : V}, v = .ref a → v = .ref R.a := fun h => by rw [hRa]; exact h
      rw [← hRrows] at hA1
      have b1' : ∀ {H2 : Hp}, But R.a H1 H2 → Ex H H2 := fun b => hown (b1.trans (by rw [← hRa]; exact b))
      have kfail : ∀ {c : Nat} {H2 : Hp}, rdTree kn (restL t) (rowsL t) = .error c → But R.a H1 H2 → Fails R CN c H2 E := fun {c H2} hc b d H3 b3 hd hx => by
        unfold readT at k
        rw [hc] at k
        rw [hRrows] at hx
        exact k d H3 (b1' (b.trans b3)) (fresh_back (b1' b) hd) hx
      have kok : ∀ {o : List Nat} {c : Ch 4} {ls1 : Ls} {v : V} {H2 : Hp}, rdTree kn (restL t) (rowsL t) = .ok ((o, c), ls1) → But R.a H1 H2 → Dp K H2 v (dTree o c) → Q v H2 := fun {o c ls1 v H2} hc b hd => by
        unfold readT at k
        rw [hc] at k
        exact k v H2 (b1' b) hd
      clear k hR b1 e0 e1 hown
      subst hRa
      refine ⟨_, rfl, R.a, R.dx, _, rfl, hA1.obj, rfl, R, R.rows, rfl, hA1, fun hn => ?_, fun l ls hls H2 b2 hA2 => ?_⟩
      · refine kfail ?_ (But.refl _ _)
        rw [← hRrows, hn]
        rfl
      · have hll : l.length ≤ 3500000 := hA1.mem (by rw [hls]; exact List.mem_cons_self ..)
        have hlt : ls.length < R.rows.length := by rw [hls, List.length_cons]; omega
        obtain ⟨w0, rest0, hw⟩ := List.exists_cons_of_ne_nil (show wordsL l ≠ [] from spl_ne _ _ _ _)
        refine w_words hll fun p0 H2' e2' hp0' h2' => ?_
        rw [hw] at h2'
        refine g_words h2' fun p H3 e3' hp0 hp => ?_
        have e3 := e2'.trans e3'
        have hA3 := hA2.ex e3
        have hrd : rdTree kn (restL t) (rowsL t) = match w0 :: rest0 with
          | [w, o] => if w = co "order" ∧ orderOk o = true then mapR (fun c => (o, c)) (rdTop kn (restL t) ls) else .error (ls.length + 1)
          | _ => .error (ls.length + 1) := by
          rw [← hRrows, hls, ← hw]
          rfl
        have b3 := b2.trans (But.of e3)
        refine q_needs (b := decide (w0 = co "order") && (decide (rest0.length = 1) && orderOk (rest0.getD 0 []))) rfl hA3 hlt (ev_andV (ev_op (ev_var rfl) (ev_is ev_c (congrArg V.str (of_S "order"))) rv_eqC) fun _ => ev_andV (ev_is (ev_op (ev_cb1 (ev_var rfl) (rc_lenL (sq_of hp))) ev_c rv_eqI) (congrArg V.bl (by rw [List.length_map]; exact decide_eq_decide.mpr (by omega)))) fun h1 => ?_) (fun hb => ?_) fun hb H4 e4 => ?_
        · have h1 := of_decide_eq_true h1
          obtain ⟨o, rfl⟩ := List.length_eq_one_iff.mp h1
          exact ev_op (ev_op (ev_var rfl) ev_c (rv_xL (v := tv o) (sq_of hp) (MB.atI_nat (i := 0) rfl))) ev_c (rv_order (T.k_ORDERSn H3))
        · refine kfail ?_ b3
          rw [hrd]
          match rest0 with
          | [] => rfl
          | [o] =>
            dsimp only
            rw [if_neg]
            rintro ⟨z1, z2⟩
            rw [decide_eq_true z1] at hb
            have z3 : orderOk o = false := hb
            rw [z2] at z3
            cases z3
          | _ :: _ :: _ => rfl
        · rw [Bool.and_eq_true, Bool.and_eq_true] at hb
          obtain ⟨hb1, hb2, hb3⟩ := hb
          obtain ⟨o, rfl⟩ := List.length_eq_one_iff.mp (of_decide_eq_true hb2)
          have hrd2 : rdTree kn (restL t) (rowsL t) = mapR (fun c => (o, c)) (rdTop kn (restL t) ls) := by
            rw [hrd]
            exact if_pos ⟨of_decide_eq_true hb1, hb3⟩
          have hA4 := hA3.ex e4
          have b4 := b3.trans (But.of e4)
          refine ⟨_, rfl, .inl ⟨p, _, 0, _, rfl, rfl, sq_of (e4 _ _ hp), MB.atI_nat (i := 0) rfl, ?_⟩⟩
          refine ⟨_, rfl, R.a, R.dx, _, rfl, hA4.obj, rfl, rfl, rfl, R, ls, false, R.rest, rfl, hA4, fun _ => ⟨rfl, by decide⟩, ?_⟩
          have htop : rdTabsV false R.rest R.kn R.raw 4 ls = rdTop kn (restL t) ls := by
            rw [hRrest, hRkn, hRraw]
            rfl
          rw [htop]
          cases hc : rdTop kn (restL t) ls with
          | error c =>
            rw [hc] at hrd2
            exact kfail hrd2 b4
          | ok x =>
            obtain ⟨c, ls1⟩ := x
            rw [hc] at hrd2
            intro v H5 b5 hA5 hd5
            refine ⟨by show 2 ≤ sizeLine; decide, fun q hq => kok hrd2 ((b4.trans b5).trans (But.of (Ex.new hq))) (.tup (st_of upd_same) (.cons (.str _) (.cons (dp_ex (Ex.new hq) _ _ hd5) .nil)))⟩
    · refine .inr ⟨fun H2 e2 => hns H2 (e0.trans e2), fun d H2 e2 hd hx => k d H2 (e0.trans e2) (fresh_back e0 hd) hx⟩
end
end K82
set_option maxRecDepth 100000
set_option maxHeartbeats 1000000
namespace K82
open PySem PySem.Spec PyProof.Rows L2 Evl MB
section
variable {P : Program} {w : World} {K : PySem.W.Frag} {mg : Str → Option Value} {base : Heap} {aKn aWi aOw aLi aOn aOt : Addr}
section
variable {ta tb te : TE} {σ : L2.St} {H : Hp} {xs ys : List V} {z : V} {sp : Sp} {E : XK}
theorem etp_cat (ha : EvTp K ta σ H xs) (hb : EvTp K tb σ H ys) (hz : xs.length + ys.length ≤ 8000000) : EvTp K (tOp (rAddA K) ta tb) σ H (xs ++ ys) := fun H1 e Q q =>
  ha H1 e _ fun p H2 e2 hp => hb H2 (e.trans e2) _ fun p' H3 e3 hp' => .inr (.inr (.inr ⟨p, p', xs, ys, rfl, rfl, ex_t e3 hp, hp', Nat.le_trans hz (by decide), fun h => q p' H3 (e2.trans e3) (by rw [h]; exact hp'), fun _ h => q p H3 (e2.trans e3) (by rw [h, List.append_nil]; exact ex_t e3 hp), fun _ _ r hr => q r _ ((e2.trans e3).trans (Ex.new hr)) (st_of upd_same)⟩))
theorem ev_callTp (h : EvTp K te σ H xs) (hs : ∀ p H1, Ex H H1 → SqT K H1 p xs → SpV sp [.ref p] H1 z) : Ev (tCall sp [] E (tCons te tNil)) σ H z := fun H1 e Q q =>
  h H1 e _ fun p H2 e2 hp => hs p H2 (e.trans e2) hp H2 (Ex.refl _) Q (fun H3 e3 => q H3 (e2.trans e3)) E
end
/-! ### _law_numbers_text -/
def ntext (ns : List Nat) : List Nat := ns.flatMap fun n => 32 :: TL.numL n
theorem ln_ntext : ∀ (wd ns : List Nat), ln wd ns = wd ++ ntext ns
  | wd, [] => by unfold ln ntext; simp [TL.joinL]
  | wd, n :: ns => by
    have h := ln_ntext (TL.numL n) ns
    unfold ln ntext at *
    rw [List.map_cons, List.flatMap_cons]
    show wd ++ ([32] ++ TL.joinL [32] (TL.numL n :: ns.map TL.numL)) = _
    rw [h]
    simp
theorem ntext_le {b : Nat} (hb : 0 < b) : ∀ {ns : List Nat}, (∀ n ∈ ns, n < 10 ^ b) → (ntext ns).length ≤ ns.length * (b + 1)
  | [], _ => Nat.zero_le _
  | n :: ns, h => by
    have h1 := ntext_le hb fun m hm => h m (List.mem_cons_of_mem _ hm)
    have h2 := TL.numL_len hb (h n (List.mem_cons_self ..))
    unfold ntext at *
    rw [List.flatMap_cons, List.length_append, List.length_cons, List.length_cons, Nat.add_mul]
    omega
end
end K82
set_option maxRecDepth 100000
set_option maxHeartbeats 1000000
/-! plain facts: the text of a tree is read as it; its data may be shown -/
namespace K82
open PySem PySem.Spec PyProof.Rows L2 Evl MB
theorem joinL_rows : ∀ ls : Ls, TL.joinL [10] (ls ++ [[]]) = txt ls
  | [] => rfl
  | [l] => by show l ++ ([10] ++ []) = _; simp [txt]
  | l :: l2 :: ls => by
    have h := joinL_rows (l2 :: ls)
    show l ++ ([10] ++ TL.joinL [10] (l2 :: ls ++ [[]])) = _
    rw [h]
    simp [txt]
theorem lines_txt {ls : Ls} (h : ∀ l ∈ ls, 10 ∉ l) : linesL (txt ls) = ls ++ [[]] := by
  unfold linesL
  rw [← joinL_rows]
  refine TL.spl_join (by simp) fun p hp => ?_
  rcases List.mem_append.mp hp with hp | hp
  · exact h p hp
  · rw [List.mem_singleton] at hp
    subst hp
    exact List.not_mem_nil
theorem rows_txt {ls : Ls} (h : ∀ l ∈ ls, 10 ∉ l) : rowsL (txt ls) = ls := by
  unfold rowsL
  rw [lines_txt h, List.dropLast_concat]
theorem rest_txt {ls : Ls} (h : ∀ l ∈ ls, 10 ∉ l) : restL (txt ls) = [] := by
  unfold restL
  rw [lines_txt h, List.getLast?_concat]
  rfl
theorem txt_len (ls : Ls) : (txt ls).length = mu ls := by
  induction ls with
  | nil => rfl
  | cons l ls ih =>
    unfold txt at *
    rw [List.flatMap_cons, List.length_append, ih, List.length_append, mu_cons]
    rfl
theorem ntext_free (ns : List Nat) : 10 ∉ ntext ns := fun h => by
  obtain ⟨n, _, h⟩ := List.mem_flatMap.mp h
  rcases List.mem_cons.mp h with h | h
  · cases h
  · exact TL.numL_free (by decide) h
theorem ln_free {wd : List Nat} (h : 10 ∉ wd) (ns : List Nat) : 10 ∉ ln wd ns := by
  rw [ln_ntext]
  intro z
  rcases List.mem_append.mp z with z | z
  · exact h z
  · exact ntext_free ns z
theorem signs_free : 10 ∉ SIGNS := by decide
section
variable {α : Type} {kn : List Nat} {g : α → Prop} {lc : α → Ls}
theorem lEnt_free {e : Ent α} (ge : GEnt kn g e) (hc : ∀ c, g c → ∀ l ∈ lc c, 10 ∉ l) : ∀ l ∈ lEnt lc e, 10 ∉ l := by
  obtain ⟨tag, kind, w⟩ := e
  have gw := ge.w
  have two : ∀ s : List Nat, 10 ∉ s → 10 ∉ s ++ TL.numL tag := fun s h z => by
    rcases List.mem_append.mp z with z | z
    · exact h z
    · exact TL.numL_free (by decide) z
  intro l hl
  cases w with
  | nums ns =>
    obtain rfl := List.mem_singleton.mp hl
    exact ln_free (by decide) _
  | text t =>
    obtain rfl := List.mem_singleton.mp hl
    obtain ⟨_, _, _, hs⟩ := gw
    intro z
    rcases List.mem_append.mp z with z | z
    · exact two _ (by decide) z
    · rcases List.mem_cons.mp z with z | z
      · cases z
      · exact signs_free (hs 10 z)
  | pieces ps =>
    rcases List.mem_cons.mp hl with rfl | hl
    · exact two _ (by decide)
    · rcases List.mem_append.mp hl with hl | hl
      · obtain ⟨p, _, rfl⟩ := List.mem_map.mp hl
        exact ln_free (by decide) _
      · obtain rfl := List.mem_singleton.mp hl
        decide
  | chains cs =>
    obtain ⟨_, _, _, hcs⟩ := gw
    rcases List.mem_cons.mp hl with rfl | hl
    · exact two _ (by decide)
    · rcases List.mem_append.mp hl with hl | hl
      · obtain ⟨c, hm, hl⟩ := List.mem_flatMap.mp hl
        rcases List.mem_cons.mp hl with rfl | hl
        · decide
        · rcases List.mem_append.mp hl with hl | hl
          · exact hc c (hcs c hm) l hl
          · obtain rfl := List.mem_singleton.mp hl
            decide
      · obtain rfl := List.mem_singleton.mp hl
        decide
theorem lTab_free {t : List (Ent α)} (gt : GTab kn g t) (hc : ∀ c, g c → ∀ l ∈ lc c, 10 ∉ l) : ∀ l ∈ lTab lc t, 10 ∉ l := by
  intro l hl
  rcases List.mem_cons.mp hl with rfl | hl
  · decide
  · rcases List.mem_append.mp hl with hl | hl
    · obtain ⟨e, hm, hl⟩ := List.mem_flatMap.mp hl
      exact lEnt_free (gt.all e hm) hc l hl
    · obtain rfl := List.mem_singleton.mp hl
      decide
end
theorem lCh_free (kn : List Nat) : ∀ (d : Nat) (c : Ch d), gCh kn d c → ∀ l ∈ lCh d c, 10 ∉ l
  | 0, _, _, l, hl => absurd hl List.not_mem_nil
  | d + 1, c, g, l, hl => by
    have g' : GCha kn (gCh kn d) c := g
    obtain ⟨t, hm, hl⟩ := List.mem_flatMap.mp (show l ∈ (show List (List (Ent (Ch d))) from c).flatMap (lTab (lCh d)) from hl)
    exact lTab_free (g'.all t hm) (lCh_free kn d) l hl
theorem lTree_free {kn : List Nat} {o : List Nat} {c : Ch 4} (ho : orderOk o = true) (g : gCh kn 4 c) : ∀ l ∈ lTree o c, 10 ∉ l := fun l hl => by
  rcases List.mem_cons.mp hl with rfl | hl
  · unfold orderOk at ho
    rw [Bool.or_eq_true, decide_eq_true_eq, decide_eq_true_eq] at ho
    rcases ho with rfl | rfl <;> decide
  · exact lCh_free kn 4 c g l hl
/-- THE READ-BACK -/
theorem readT_txt {kn : List Nat} {o : List Nat} {c : Ch 4} (ho : orderOk o = true) (g : gCh kn 4 c) : readT kn (txt (lTree o c)) = .ok (o, c) := by
  have h := lTree_free ho g
  unfold readT
  rw [rows_txt h, rest_txt h, show lTree o c = (co "order " ++ o) :: lCh 4 c from rfl, rdTree_ok ho g]
/-! ### what repr asks of the data -/
structure Okd (d : PyData) (k : Nat) : Prop where
  lay : d.canLay0 = true
  sho : d.intsShort 13 = true
  shw : d.showable = true
  dep : d.depth ≤ k
theorem Okd.mono {d : PyData} {j k : Nat} (h : Okd d j) (hj : j ≤ k) : Okd d k := ⟨h.lay, h.sho, h.shw, Nat.le_trans h.dep hj⟩
theorem okd_all {α : Type} {f : α → PyData} {k : Nat} : ∀ {l : List α}, (∀ x ∈ l, Okd (f x) k) → PyData.canLayAll0 (l.map f) = true ∧ PyData.intsShortAll 13 (l.map f) = true ∧ PyData.showableAll (l.map f) = true ∧ PyData.depthAll (l.map f) ≤ k
  | [], _ => ⟨rfl, rfl, rfl, Nat.zero_le _⟩
  | x :: l, h => by
    obtain ⟨h1, h2, h3, h4⟩ := okd_all fun y hy => h y (List.mem_cons_of_mem _ hy)
    have hx := h x (List.mem_cons_self ..)
    rw [List.map_cons, PyData.canLayAll0, PyData.intsShortAll, PyData.showableAll, PyData.depthAll, h1, h2, h3, hx.lay, hx.sho, hx.shw]
    exact ⟨rfl, rfl, rfl, Nat.max_le.mpr ⟨hx.dep, h4⟩⟩
theorem okd_tup {α : Type} {f : α → PyData} {k : Nat} {l : List α} (h : ∀ x ∈ l, Okd (f x) k) : Okd (.tuple (l.map f)) (k + 1) := by
  obtain ⟨h1, h2, h3, h4⟩ := okd_all h
  refine ⟨?_, ?_, ?_, ?_⟩
  · rw [PyData.canLay0, h1]
  · rw [PyData.intsShort, h2]
  · rw [PyData.showable, h3]
  · rw [PyData.depth]
    omega
theorem okd_int {n : Nat} (h : n < 1000000000000) : Okd (.int (n : Int)) 0 := by
  refine ⟨rfl, ?_, ?_, Nat.le_refl _⟩
  · rw [PyData.intsShort]
    exact decide_eq_true (PyData.shown_int_le (by rw [Int.natAbs_natCast]; exact h))
  · rw [PyData.showable]
    exact decide_eq_true (log_small h)
theorem okd_str {t : List Nat} (h : ∀ c ∈ t, c < 0x110000) : Okd (.str (SX.S t)) 0 := by
  refine ⟨?_, rfl, rfl, Nat.le_refl _⟩
  rw [PyData.canLay0]
  show (t.toArray.all (· < 0x110000)) = true
  simpa using h
theorem signs_low : ∀ c ∈ SIGNS, c < 0x110000 := by decide
theorem okd_nums {ns : List Nat} (h : ∀ n ∈ ns, n < 1000000000000) : Okd (dT ns) 1 := okd_tup fun n hn => okd_int (h n hn)
theorem okd_ent {α : Type} {f : α → PyData} {kn : List Nat} {g : α → Prop} {k : Nat} {e : Ent α} (ge : GEnt kn g e) (hk : 2 ≤ k) (hf : ∀ c, g c → Okd (f c) k) : Okd (dEnt f e) (k + 2) := by
  obtain ⟨tag, kind, w⟩ := e
  have gw := ge.w
  have hw : Okd (dWo f w) (k + 1) := by
    cases w with
    | nums ns => exact (okd_nums (gNums gw).2.1).mono (by omega)
    | text t => exact (okd_str fun c hc => signs_low c (gw.2.2.2 c hc)).mono (by omega)
    | pieces ps => exact (okd_tup (k := 1) fun p hp => okd_nums fun n hn => lt_big (Nat.le_of_lt ((gw.2.2.2 p hp).2 n hn))).mono (by omega)
    | chains cs => exact okd_tup fun c hc => hf c (gw.2.2.2 c hc)
  have h := okd_tup (f := fun d : PyData => d) (k := k + 1) (l := [.int (tag : Int), .int (kind : Int), dWo f w]) fun x hx => by
    simp only [List.mem_cons, List.not_mem_nil, or_false] at hx
    rcases hx with rfl | rfl | rfl
    · exact (okd_int (lt_big ge.tag)).mono (by omega)
    · exact (okd_int (lt_big ge.kind)).mono (by omega)
    · exact hw
  exact h
theorem okd_ch (kn : List Nat) : ∀ (d : Nat) (c : Ch d), gCh kn d c → Okd (dCh d c) (4 * d + 2)
  | 0, _, _ => (okd_tup (f := fun d : PyData => d) (l := []) (k := 0) (fun x hx => absurd hx List.not_mem_nil)).mono (by decide)
  | d + 1, c, g => by
    have g' : GCha kn (gCh kn d) c := g
    have h := okd_tup (f := dTab (dCh d)) (k := 4 * d + 5) (l := show List (List (Ent (Ch d))) from c) fun t ht => okd_tup (f := dEnt (dCh d)) (k := 4 * d + 4) fun e he => okd_ent ((g'.all t ht).all e he) (by omega) (okd_ch kn d)
    exact Okd.mono (k := 4 * (d + 1) + 2) h (by omega)
/-! ### its weight -/
theorem w_int {n b : Nat} (h : n < 2 ^ b) (hb : 0 < b) : PyData.weight (.int (n : Int)) ≤ b := by
  rw [PyData.weight]
  split
  · exact Nat.zero_le _
  · rename_i h0
    rw [Int.natAbs_natCast]
    have hn : n ≠ 0 := by
      intro z
      subst z
      exact h0 rfl
    have := (Nat.log2_lt hn).mpr h
    omega
theorem wAll_append : ∀ a b : List PyData, PyData.weightAll (a ++ b) = PyData.weightAll a + PyData.weightAll b
  | [], b => by rw [List.nil_append, PyData.weightAll, Nat.zero_add]
  | x :: a, b => by rw [List.cons_append, PyData.weightAll, PyData.weightAll, wAll_append a b]; omega
theorem wAll_le {α : Type} {f : α → PyData} {m : α → Nat} : ∀ {l : List α}, (∀ x ∈ l, PyData.weight (f x) + 1 ≤ m x) → PyData.weightAll (l.map f) ≤ (l.map m).sum
  | [], _ => Nat.zero_le _
  | x :: l, h => by
    have h1 := wAll_le fun y hy => h y (List.mem_cons_of_mem _ hy)
    have h2 := h x (List.mem_cons_self ..)
    rw [List.map_cons, List.map_cons, List.sum_cons, PyData.weightAll]
    omega
theorem sum_mul {α : Type} (m : α → Nat) (k : Nat) : ∀ l : List α, (l.map fun x => k * m x).sum = k * (l.map m).sum
  | [] => rfl
  | x :: l => by rw [List.map_cons, List.map_cons, List.sum_cons, List.sum_cons, sum_mul m k l, Nat.mul_add]
theorem mu_flatMap {α : Type} (f : α → Ls) : ∀ l : List α, mu (l.flatMap f) = (l.map fun x => mu (f x)).sum
  | [] => rfl
  | x :: l => by rw [List.flatMap_cons, mu_append, mu_flatMap f l, List.map_cons, List.sum_cons]
theorem w_nums {ns : List Nat} (h : ∀ n ∈ ns, n < 4294967296) : PyData.weight (dT ns) ≤ 33 * ns.length := by
  unfold dT
  rw [PyData.weight]
  have h1 := wAll_le (f := fun (n : Nat) => PyData.int (n : Int)) (m := fun _ => 33) (l := ns) fun n hn => Nat.succ_le_succ (w_int (b := 32) (h n hn) (by decide))
  refine Nat.le_trans h1 ?_
  rw [show (ns.map fun _ => 33) = List.replicate ns.length 33 from List.map_const' .., List.sum_replicate_nat, Nat.mul_comm]
  exact Nat.le_refl _
theorem numL_pos (n : Nat) : 1 ≤ (TL.numL n).length := List.length_pos_iff.mpr (TL.numL_ne n)
theorem ntext_ge (ns : List Nat) : 2 * ns.length ≤ (ntext ns).length := by
  induction ns with
  | nil => exact Nat.le_refl _
  | cons n ns ih =>
    have := numL_pos n
    unfold ntext at *
    rw [List.flatMap_cons, List.length_append, List.length_cons, List.length_cons]
    omega
theorem mu_ln (wd ns : List Nat) : wd.length + 2 * ns.length + 1 ≤ mu [ln wd ns] := by
  have := ntext_ge ns
  rw [mu_cons, mu_nil, ln_ntext, List.length_append]
  omega
theorem w_ent {α : Type} {f : α → PyData} {lc : α → Ls} {kn : List Nat} {g : α → Prop} {e : Ent α} (ge : GEnt kn g e) (hf : ∀ c, g c → PyData.weight (f c) ≤ 17 * mu (lc c)) : PyData.weight (dEnt f e) + 1 ≤ 17 * mu (lEnt lc e) := by
  obtain ⟨tag, kind, w⟩ := e
  have gw := ge.w
  have h1 := w_int (n := tag) (b := 16) (Nat.lt_of_le_of_lt ge.tag (by decide)) (by decide)
  have h2 := w_int (n := kind) (b := 16) (Nat.lt_of_le_of_lt ge.kind (by decide)) (by decide)
  have hd : PyData.weight (dEnt f ⟨tag, kind, w⟩) ≤ 35 + PyData.weight (dWo f w) := by
    show PyData.weightAll [.int (tag : Int), .int (kind : Int), dWo f w] ≤ _
    simp only [PyData.weightAll]
    omega
  have hn1 := numL_pos tag
  cases w with
  | nums ns =>
    have hlt : ∀ n ∈ ns, n < 4294967296 := by
      rcases gw with ⟨_, _, _, h⟩ | ⟨_, _, _, h⟩
      · exact fun n hn => Nat.lt_of_lt_of_le (h n hn) (lim_le _)
      · exact fun n hn => Nat.lt_trans (h n hn) (by decide)
    have hw : PyData.weight (dWo f (.nums ns)) ≤ 33 * ns.length := w_nums hlt
    have hm := mu_ln (co "entry") (tag :: kind :: ns)
    show _ ≤ 17 * mu [ln (co "entry") (tag :: kind :: ns)]
    rw [List.length_cons, List.length_cons] at hm
    have : (co "entry").length = 5 := rfl
    omega
  | text t =>
    have hw : PyData.weight (dWo f (.text t)) = t.length := by
      show (SX.S t).cps.size = _
      simp [SX.S]
    show _ ≤ 17 * mu [co "text " ++ TL.numL tag ++ 32 :: t]
    rw [mu_cons, mu_nil, List.length_append, List.length_append, List.length_cons]
    have : (co "text ").length = 5 := rfl
    omega
  | pieces ps =>
    have hp := gw.2.2.2
    have hw : PyData.weight (dWo f (.pieces ps)) ≤ 17 * mu (ps.map (ln (co "piece"))) := by
      show PyData.weightAll (ps.map dT) ≤ _
      refine Nat.le_trans (wAll_le (m := fun p => 17 * mu [ln (co "piece") p]) fun p hpm => ?_) ?_
      · have h3 := w_nums (ns := p) fun n hn => Nat.lt_trans ((hp p hpm).2 n hn) (by decide)
        have h4 := mu_ln (co "piece") p
        have : (co "piece").length = 5 := rfl
        omega
      · rw [sum_mul]
        refine Nat.mul_le_mul_left _ (Nat.le_of_eq ?_)
        have : ps.map (ln (co "piece")) = ps.flatMap fun p => [ln (co "piece") p] := by
          clear hp gw hd ge
          induction ps with
          | nil => rfl
          | cons p ps ih => rw [List.map_cons, List.flatMap_cons, ih]; rfl
        rw [this, mu_flatMap]
    show _ ≤ 17 * mu ((co "pieces " ++ TL.numL tag) :: (ps.map (ln (co "piece")) ++ [co "end"]))
    rw [mu_cons, mu_append, List.length_append]
    have h7 : (co "pieces ").length = 7 := rfl
    have h8 : mu [co "end"] = 4 := rfl
    omega
  | chains cs =>
    have hc := gw.2.2.2
    have hw : PyData.weight (dWo f (.chains cs)) ≤ 17 * mu (cs.flatMap fun c => co "chain" :: (lc c ++ [co "done"])) := by
      show PyData.weightAll (cs.map f) ≤ _
      refine Nat.le_trans (wAll_le (m := fun c => 17 * mu (co "chain" :: (lc c ++ [co "done"]))) fun c hcm => ?_) ?_
      · have h3 := hf c (hc c hcm)
        rw [mu_cons, mu_append]
        have : (co "chain").length = 5 := rfl
        omega
      · rw [sum_mul, mu_flatMap]
        exact Nat.le_refl _
    show _ ≤ 17 * mu ((co "chains " ++ TL.numL tag) :: ((cs.flatMap fun c => co "chain" :: (lc c ++ [co "done"])) ++ [co "end"]))
    rw [mu_cons, mu_append, List.length_append]
    have h7 : (co "chains ").length = 7 := rfl
    have h8 : mu [co "end"] = 4 := rfl
    omega
theorem w_tab {α : Type} {f : α → PyData} {lc : α → Ls} {kn : List Nat} {g : α → Prop} {t : List (Ent α)} (gt : GTab kn g t) (hf : ∀ c, g c → PyData.weight (f c) ≤ 17 * mu (lc c)) : PyData.weight (dTab f t) + 1 ≤ 17 * mu (lTab lc t) := by
  have hw : PyData.weight (dTab f t) ≤ 17 * mu (t.flatMap (lEnt lc)) := by
    show PyData.weightAll (t.map (dEnt f)) ≤ _
    refine Nat.le_trans (wAll_le (m := fun e => 17 * mu (lEnt lc e)) fun e he => w_ent (gt.all e he) hf) ?_
    rw [sum_mul, mu_flatMap]
    exact Nat.le_refl _
  unfold lTab
  rw [mu_cons, mu_append]
  have : (co "table").length = 5 := rfl
  omega
theorem w_ch (kn : List Nat) : ∀ (d : Nat) (c : Ch d), gCh kn d c → PyData.weight (dCh d c) ≤ 17 * mu (lCh d c)
  | 0, _, _ => Nat.le_refl _
  | d + 1, c, g => by
    have g' : GCha kn (gCh kn d) c := g
    show PyData.weightAll ((show List (List (Ent (Ch d))) from c).map (dTab (dCh d))) ≤ 17 * mu ((show List (List (Ent (Ch d))) from c).flatMap (lTab (lCh d)))
    refine Nat.le_trans (wAll_le (m := fun t => 17 * mu (lTab (lCh d) t)) fun t ht => w_tab (g'.all t ht) (w_ch kn d)) ?_
    rw [sum_mul, mu_flatMap]
    exact Nat.le_refl _
/-- repr(tree) -/
theorem rc_reprTree {K : PySem.W.Frag} {H : Hp} {x : V} {kn o : List Nat} {c : Ch 4} (hx : Dp K H x (dTree o c)) (g : gCh kn 4 c) (ho : orderOk o = true) (hm : mu (lCh 4 c) ≤ 61000) : RC (rReprD K) [x] H (.str (dTree o c).shown) := fun H1 e Q q => by
  obtain ⟨a, v, rfl, _⟩ := dp_tree hx
  have ok : Okd (dTree o c) 19 := okd_tup (f := fun d : PyData => d) (k := 18) (l := [.str (SX.S o), dCh 4 c]) fun y hy => by
    simp only [List.mem_cons, List.not_mem_nil, or_false] at hy
    rcases hy with rfl | rfl
    · refine (okd_str fun z hz => ?_).mono (by omega)
      unfold orderOk at ho
      rw [Bool.or_eq_true, decide_eq_true_eq, decide_eq_true_eq] at ho
      rcases ho with rfl | rfl
      · exact (show ∀ z ∈ co "small", z < 0x110000 by decide) z hz
      · exact (show ∀ z ∈ co "great", z < 0x110000 by decide) z hz
    · exact okd_ch kn 4 c g
  have hw : PyData.weight (dTree o c) ≤ 2 ^ 20 := by
    have h1 := w_ch kn 4 c g
    have h2 : PyData.weight (.str (SX.S o)) = o.length := by
      show (SX.S o).cps.size = _
      simp [SX.S]
    have h3 : o.length ≤ 5 := by
      unfold orderOk at ho
      rw [Bool.or_eq_true, decide_eq_true_eq, decide_eq_true_eq] at ho
      rcases ho with rfl | rfl <;> decide
    show PyData.weightAll [.str (SX.S o), dCh 4 c] ≤ _
    simp only [PyData.weightAll]
    rw [h2]
    omega
  have hlay : PyData.layable0 (dTree o c) = true := by
    unfold PyData.layable0
    rw [ok.lay, decide_eq_true hw, decide_eq_true (Nat.le_trans ok.dep (by decide))]
    rfl
  exact ⟨a, _, rfl, dp_ex e _ _ hx, ok.shw, PyData.hasDict_of_canLay _ ok.lay, Nat.le_trans ok.dep (by decide), PyData.shown_fits_of_layable0 (B := 13) (by decide) (by decide) hlay ok.sho, q H1 (Ex.refl _)⟩
end K82
set_option maxRecDepth 100000
set_option maxHeartbeats 1000000
/-! what is read, written back: the lines are those of what was read -/
namespace K82
open PySem PySem.Spec PyProof.Rows L2 Evl MB
theorem join_spl1 (s : Nat) : ∀ (l acc : List Nat), TL.joinL [s] (TL.spl [s] 0 acc l) = acc ++ l
  | [], acc => by rw [TL.spl_nil, List.append_nil]; rfl
  | c :: r, acc => by
    by_cases h : TL.pre [s] (c :: r) = true
    · have hc : c = s := by
        by_cases hc : c = s
        · exact hc
        · rw [TL.pre_of_head [] r hc] at h
          cases h
      subst hc
      rw [TL.spl_hit h]
      show TL.joinL [c] (acc :: TL.spl [c] 0 [] r) = _
      have ih := join_spl1 c r []
      cases e : TL.spl [c] 0 [] r with
      | nil => exact absurd e (MB.spl_ne _ _ _ _)
      | cons p q =>
        rw [e] at ih
        show acc ++ ([c] ++ TL.joinL [c] (p :: q)) = _
        rw [ih]
        rfl
    · rw [TL.spl_miss (by simpa using h), join_spl1 s r (acc ++ [c]), List.append_assoc]
      rfl
theorem of_words {l : List Nat} {ws : Ls} (h : wordsL l = ws) : l = TL.joinL [32] ws := by
  rw [← h]
  unfold wordsL
  rw [join_spl1, List.nil_append]
/-! ### numbers -/
theorem chr_back : ∀ c, c < 58 → (Char.ofNat c).toNat = c := by decide
theorem numL_back {w : List Nat} (h1 : w ≠ []) (h2 : w.all fig = true) (h3 : w.head? = some 48 → w = [48]) : TL.numL (NumText.digitsVal w) = w := by
  have hd : NumText.AllDigits w := fun c hc => by
    have := List.all_eq_true.mp h2 c hc
    unfold fig at this
    simpa using this
  obtain ⟨n, hn⟩ : ∃ n, w.length = n + 1 := ⟨w.length - 1, by have := List.length_pos_iff.mpr h1; omega⟩
  unfold TL.numL
  rw [NumText.toDigits_digitsVal n w hn hd, List.map_map]
  · have : w.map (Char.toNat ∘ Char.ofNat) = w.map id := List.map_congr_left fun c hc => chr_back c (by have := hd c hc; omega)
    rw [this, List.map_id]
  · cases w with
    | nil => exact absurd rfl h1
    | cons c r =>
      by_cases hc : c = 48
      · subst hc
        have := h3 rfl
        injection this with _ e
        subst e
        left
        simpa using hn.symm
      · right
        exact ⟨c, r, rfl, by have := hd c (List.mem_cons_self ..); omega⟩
theorem dv_lt : ∀ r : List Nat, NumText.AllDigits r → NumText.digitsVal r.reverse < 10 ^ r.length
  | [], _ => by decide
  | c :: r, h => by
    have ih := dv_lt r fun d hd => h d (List.mem_cons_of_mem _ hd)
    have hc := h c (List.mem_cons_self ..)
    rw [List.reverse_cons, NumText.digitsVal_snoc, List.length_cons, Nat.pow_succ]
    omega
theorem numBy_back {w : List Nat} {n : Nat} (h : numBy w = some n) : w = TL.numL n ∧ n < 10000000000 := by
  unfold numBy at h
  split at h
  · rename_i h1
    injection h with h
    subst h
    unfold numOk at h1
    simp only [Bool.and_eq_true, decide_eq_true_eq, Bool.not_eq_true', Bool.and_eq_false_iff, decide_eq_false_iff_not, Bool.not_eq_false'] at h1
    obtain ⟨⟨⟨a1, a2⟩, a3⟩, a4⟩ := h1
    refine ⟨(numL_back (fun z => by rw [z] at a1; exact absurd a1 (by decide)) a3 fun z => ?_).symm, ?_⟩
    · rcases a4 with a4 | a4
      · exact absurd z a4
      · simpa using a4
    · have hd : NumText.AllDigits w := fun c hc => by
        have := List.all_eq_true.mp a3 c hc
        unfold fig at this
        simpa using this
      have := dv_lt w.reverse hd.reverse
      rw [List.reverse_reverse, List.length_reverse] at this
      exact Nat.lt_of_lt_of_le this (Nat.le_trans (Nat.pow_le_pow_right (by decide) a2) (by decide))
  · cases h
theorem numsBy_back : ∀ {ws : Ls} {ns : List Nat}, numsBy ws = some ns → ws = ns.map TL.numL ∧ ∀ n ∈ ns, n < 10000000000
  | [], ns, h => by
    injection h with h
    subst h
    exact ⟨rfl, fun n hn => absurd hn List.not_mem_nil⟩
  | w :: ws, ns, h => by
    rw [numsBy] at h
    cases h1 : numBy w with
    | none => rw [h1] at h; cases h
    | some n =>
      cases h2 : numsBy ws with
      | none => rw [h1, h2] at h; cases h
      | some ms =>
        rw [h1, h2] at h
        injection h with h
        subst h
        obtain ⟨e1, e2⟩ := numBy_back h1
        obtain ⟨e3, e4⟩ := numsBy_back h2
        refine ⟨by rw [List.map_cons, ← e1, ← e3], fun m hm => ?_⟩
        rcases List.mem_cons.mp hm with rfl | hm
        · exact e2
        · exact e4 m hm
theorem tagBy_back {w : List Nat} {n : Nat} (h : tagBy w = some n) : w = TL.numL n ∧ n ≤ 65535 := by
  unfold tagBy at h
  cases h1 : numBy w with
  | none => rw [h1] at h; cases h
  | some m =>
    rw [h1] at h
    dsimp only at h
    split at h
    · injection h with h
      subst h
      exact ⟨(numBy_back h1).1, by assumption⟩
    · cases h
theorem pieceL_back {l : List Nat} {p : List Nat} (h : pieceL l = some p) : l = ln (co "piece") p ∧ p.length ≤ 300 ∧ ∀ n ∈ p, n < 256 := by
  unfold pieceL at h
  cases hw : wordsL l with
  | nil => rw [hw] at h; cases h
  | cons w rest =>
    rw [hw] at h
    dsimp only at h
    split at h
    · rename_i hp
      subst hp
      unfold pieceBy at h
      cases h2 : numsBy rest with
      | none => rw [h2] at h; cases h
      | some q =>
        rw [h2] at h
        dsimp only at h
        split at h
        · rename_i hb
          injection h with h
          subst h
          unfold pieceB at hb
          simp only [Bool.and_eq_true, decide_eq_true_eq, List.all_eq_true] at hb
          refine ⟨?_, hb.1, hb.2⟩
          rw [of_words hw, (numsBy_back h2).1]
          rfl
        · cases h
    · cases h
theorem plainIn_back {kn : List Nat} {raw : Bool} {ws : Ls} {k : Nat} {ns : List Nat} (h : plainIn kn raw ws = some (k, ns)) : ws = (k :: ns).map TL.numL ∧ plainK kn raw k = true ∧ worthsB kn k ns = true := by
  unfold plainIn at h
  cases h2 : numsBy ws with
  | none => rw [h2] at h; cases h
  | some q =>
    rw [h2] at h
    cases q with
    | nil => cases h
    | cons k' ns' =>
      dsimp only at h
      split at h
      · rename_i hb
        injection h with h
        injection h with e1 e2
        subst e1 e2
        rw [Bool.and_eq_true] at hb
        exact ⟨(numsBy_back h2).1, hb.1, hb.2⟩
      · cases h
/-! ### parts -/
theorem rdPieces_back : ∀ {n : Nat} {ls acc xs ls' : Ls}, rdPieces n ls acc = .ok (xs, ls') → ∃ ps : Ls, xs = acc ++ ps ∧ ls = ps.map (ln (co "piece")) ++ co "end" :: ls' ∧ (∀ p ∈ ps, p.length ≤ 300 ∧ ∀ n ∈ p, n < 256) ∧ (acc.length ≤ 300 → xs.length ≤ 300)
  | 0, _, _, _, _, h => by cases h
  | n + 1, [], _, _, _, h => by cases h
  | n + 1, l :: ls, acc, xs, ls', h => by
    rw [rdPieces] at h
    split at h
    · rename_i he
      injection h with h
      injection h with e1 e2
      subst e1 e2 he
      exact ⟨[], by rw [List.append_nil], rfl, fun p hp => absurd hp List.not_mem_nil, id⟩
    · split at h
      · rename_i p hp
        split at h
        · obtain ⟨ps, e1, e2, e3, e4⟩ := rdPieces_back h
          obtain ⟨a1, a2, a3⟩ := pieceL_back hp
          refine ⟨p :: ps, by rw [e1, List.append_assoc]; rfl, by rw [e2, a1]; rfl, fun q hq => ?_, fun _ => e4 (by rw [List.length_append, List.length_singleton]; omega)⟩
          rcases List.mem_cons.mp hq with rfl | hq
          · exact ⟨a2, a3⟩
          · exact e3 q hq
        · cases h
      · cases h
section
variable {α : Type} {f : Ls → Rt α} {lc : α → Ls} {kn : List Nat} {g : α → Prop} {raw : Bool}
theorem rdChains_back (hf : ∀ ls c ls', f ls = .ok (c, ls') → ls = lc c ++ co "done" :: ls' ∧ g c) : ∀ {n : Nat} {ls : Ls} {acc xs : List α} {ls' : Ls}, rdChains f n ls acc = .ok (xs, ls') →
    ∃ cs : List α, xs = acc ++ cs ∧ ls = (cs.flatMap fun c => co "chain" :: (lc c ++ [co "done"])) ++ co "end" :: ls' ∧ (∀ c ∈ cs, g c) ∧ (acc.length ≤ 300 → xs.length ≤ 300)
  | 0, _, _, _, _, h => by cases h
  | n + 1, [], _, _, _, h => by cases h
  | n + 1, l :: ls, acc, xs, ls', h => by
    rw [rdChains] at h
    split at h
    · rename_i he
      injection h with h
      injection h with e1 e2
      subst e1 e2 he
      exact ⟨[], by rw [List.append_nil], rfl, fun p hp => absurd hp List.not_mem_nil, id⟩
    · split at h
      · rename_i hc
        obtain ⟨rfl, hc⟩ := hc
        split at h
        · rename_i c ls1 h1
          obtain ⟨cs, e1, e2, e3, e4⟩ := rdChains_back hf h
          obtain ⟨a1, a2⟩ := hf _ _ _ h1
          refine ⟨c :: cs, by rw [e1, List.append_assoc]; rfl, by rw [a1, e2, List.flatMap_cons]; simp, fun q hq => ?_, fun _ => e4 (by rw [List.length_append, List.length_singleton]; omega)⟩
          rcases List.mem_cons.mp hq with rfl | hq
          · exact a2
          · exact e3 q hq
        · cases h
      · cases h
theorem rdEnt_tag {l : List Nat} {ls ls' : Ls} {x : Ent α} (h : rdEnt f kn raw l ls = .ok (x, ls')) : tagL l = some x.tag ∧ l ≠ co "end" := by
  unfold rdEnt at h
  unfold tagL
  cases hw : wordsL l with
  | nil => rw [hw] at h; cases h
  | cons w t =>
    cases t with
    | nil => rw [hw] at h; cases h
    | cons r rest =>
      rw [hw] at h
      dsimp only at h ⊢
      refine ⟨?_, fun z => ?_⟩
      · cases ht : tagBy r with
        | none => rw [ht] at h; cases h
        | some tag =>
          rw [ht] at h
          dsimp only at h
          split at h
          · split at h
            · injection h with h
              injection h with e1 e2
              subst e1
              rfl
            · cases h
          · split at h
            · split at h
              · injection h with h
                injection h with e1 e2
                subst e1
                rfl
              · cases h
            · split at h
              · obtain ⟨y, _, rfl⟩ := mapR_ok h
                rfl
              · split at h
                · obtain ⟨y, _, rfl⟩ := mapR_ok h
                  rfl
                · cases h
      · rw [z] at hw
        have : wordsL (co "end") = [co "end"] := by decide
        rw [this] at hw
        cases hw
theorem wo_back {k : Nat} {ns : List Nat} (h1 : plainK kn raw k = true) (h2 : worthsB kn k ns = true) : k ≤ 65535 ∧ gWo kn g k (.nums ns) := by
  unfold plainK at h1
  unfold worthsB at h2
  simp only [Bool.and_eq_true, Bool.or_eq_true, decide_eq_true_eq] at h1
  refine ⟨h1.1, ?_⟩
  split at h2
  · rename_i hk
    simp only [Bool.and_eq_true, List.all_eq_true, decide_eq_true_eq] at h2
    refine .inl ⟨hk, ?_, h2.1, h2.2⟩
    rcases h1.2 with h | h
    · exact absurd hk h.1
    · exact h.2
  · rename_i hk
    simp only [Bool.and_eq_true, List.all_eq_true, decide_eq_true_eq] at h2
    exact .inr ⟨hk, h2.1.1, h2.2, h2.1.2⟩
theorem joinL_cons3 (w r : List Nat) {rest : Ls} (h : rest ≠ []) : TL.joinL [32] (w :: r :: rest) = w ++ 32 :: (r ++ 32 :: TL.joinL [32] rest) := by
  cases rest with
  | nil => exact absurd rfl h
  | cons a b => rfl
theorem text_line0 {r t : List Nat} : co "text " ++ r ++ 32 :: t = co "text" ++ 32 :: (r ++ 32 :: t) := by
  rw [List.append_assoc]
  rfl
theorem rdEnt_back (hf : ∀ ls c ls', f ls = .ok (c, ls') → ls = lc c ++ co "done" :: ls' ∧ g c) {l : List Nat} {ls ls' : Ls} {x : Ent α} (h : rdEnt f kn raw l ls = .ok (x, ls')) : ∃ more, lEnt lc x = l :: more ∧ ls = more ++ ls' ∧ GEnt kn g x := by
  unfold rdEnt at h
  cases hw : wordsL l with
  | nil => rw [hw] at h; cases h
  | cons w t =>
    cases t with
    | nil => rw [hw] at h; cases h
    | cons r rest =>
      rw [hw] at h
      have hl := of_words hw
      dsimp only at h
      cases ht : tagBy r with
      | none => rw [ht] at h; cases h
      | some tag =>
        rw [ht] at h
        obtain ⟨hr, htag⟩ := tagBy_back ht
        dsimp only at h
        split at h
        · rename_i hwe
          subst hwe
          cases hp : plainIn kn raw rest with
          | none => rw [hp] at h; cases h
          | some q =>
            obtain ⟨k, ns⟩ := q
            rw [hp] at h
            injection h with h
            injection h with e1 e2
            subst e1 e2
            obtain ⟨a1, a2, a3⟩ := plainIn_back hp
            obtain ⟨b1, b2⟩ := wo_back (g := g) a2 a3
            refine ⟨[], ?_, rfl, htag, b1, b2⟩
            rw [hl, a1, hr]
            rfl
        · split at h
          · rename_i hwe
            subst hwe
            split at h
            · rename_i hc
              obtain ⟨c1, c2, c3⟩ := hc
              injection h with h
              injection h with e1 e2
              subst e1 e2
              have hdrop : l.drop ((co "text").length + r.length + 2) = TL.joinL [32] rest := by
                rw [hl, joinL_cons3 _ _ c2]
                rw [show co "text" ++ 32 :: (r ++ 32 :: TL.joinL [32] rest) = (co "text" ++ 32 :: (r ++ [32])) ++ TL.joinL [32] rest from by simp]
                rw [List.drop_append_of_le_length (by simp; omega), List.drop_eq_nil_of_le (by simp; omega), List.nil_append]
              unfold textB at c3
              simp only [Bool.and_eq_true, List.all_eq_true, decide_eq_true_eq] at c3
              refine ⟨[], ?_, rfl, htag, by show 4 ≤ 65535; decide, ⟨rfl, c1, c3.1, c3.2⟩⟩
              show [co "text " ++ TL.numL tag ++ 32 :: l.drop ((co "text").length + r.length + 2)] = [l]
              rw [hdrop, hl, joinL_cons3 _ _ c2, ← hr, text_line0]
            · cases h
          · split at h
            · rename_i hc
              obtain ⟨rfl, rfl, h5⟩ := hc
              obtain ⟨cs, h1, rfl⟩ := mapR_ok h
              obtain ⟨cs', e1, e2, e3, e4⟩ := rdChains_back hf h1
              rw [List.nil_append] at e1
              subst e1
              refine ⟨(cs.flatMap fun c => co "chain" :: (lc c ++ [co "done"])) ++ [co "end"], ?_, by rw [e2]; simp, htag, by show 5 ≤ 65535; decide, ⟨rfl, h5, e4 (Nat.zero_le _), e3⟩⟩
              show (co "chains " ++ TL.numL tag) :: _ = _
              rw [hl, hr]
              rfl
            · split at h
              · rename_i hc
                obtain ⟨rfl, rfl, h6⟩ := hc
                obtain ⟨ps, h1, rfl⟩ := mapR_ok h
                obtain ⟨ps', e1, e2, e3, e4⟩ := rdPieces_back h1
                rw [List.nil_append] at e1
                subst e1
                refine ⟨ps.map (ln (co "piece")) ++ [co "end"], ?_, by rw [e2]; simp, htag, by show 6 ≤ 65535; decide, ⟨rfl, h6, e4 (Nat.zero_le _), e3⟩⟩
                show (co "pieces " ++ TL.numL tag) :: _ = _
                rw [hl, hr]
                rfl
              · cases h
theorem rdTab_back {e : List Nat → Ls → Rt (Ent α)} (he : ∀ l ls x ls', e l ls = .ok (x, ls') → (∃ more, lEnt lc x = l :: more ∧ ls = more ++ ls' ∧ GEnt kn g x) ∧ tagL l = some x.tag) : ∀ {n : Nat} {ls : Ls} {acc xs : List (Ent α)} {ls' : Ls}, rdTab e n ls acc = .ok (xs, ls') →
    ∃ es : List (Ent α), xs = acc ++ es ∧ ls = es.flatMap (lEnt lc) ++ co "end" :: ls' ∧ (∀ x ∈ es, GEnt kn g x) ∧ es.Pairwise (fun a b => a.tag < b.tag) ∧ (∀ b l r, ls = l :: r → nextOk b l = true → ∀ x ∈ es, b < x.tag) ∧ (acc.length ≤ 40 → xs.length ≤ 40)
  | 0, _, _, _, _, h => by cases h
  | n + 1, [], _, _, _, h => by cases h
  | n + 1, l :: ls, acc, xs, ls', h => by
    rw [rdTab] at h
    split at h
    · rename_i he
      injection h with h
      injection h with e1 e2
      subst e1 e2 he
      exact ⟨[], by rw [List.append_nil], rfl, fun p hp => absurd hp List.not_mem_nil, List.Pairwise.nil, fun _ _ _ _ _ x hx => absurd hx List.not_mem_nil, id⟩
    · rename_i hne
      split at h
      · cases h1 : e l ls with
        | error c => rw [h1] at h; cases h
        | ok q =>
          obtain ⟨x, ls1⟩ := q
          rw [h1] at h
          cases ls1 with
          | nil => cases h
          | cons l' ls1 =>
            dsimp only at h
            split at h
            · rename_i hnx
              obtain ⟨es, e1, e2, e3, e4, e5, e6⟩ := rdTab_back he h
              obtain ⟨⟨more, a1, a2, a3⟩, a4⟩ := he _ _ _ _ h1
              have hx := e5 x.tag l' ls1 rfl hnx
              refine ⟨x :: es, by rw [e1, List.append_assoc]; rfl, by rw [List.flatMap_cons, a1, a2, e2]; simp, fun y hy => ?_, List.pairwise_cons.mpr ⟨hx, e4⟩, fun b l0 r0 hl0 hb y hy => ?_, fun _ => e6 (by rw [List.length_append, List.length_singleton]; omega)⟩
              · rcases List.mem_cons.mp hy with rfl | hy
                · exact a3
                · exact e3 y hy
              · injection hl0 with hl0 _
                subst hl0
                unfold nextOk at hb
                rw [decide_eq_false hne, Bool.false_or, a4] at hb
                have hbx : b < x.tag := of_decide_eq_true hb
                rcases List.mem_cons.mp hy with rfl | hy
                · exact hbx
                · exact Nat.lt_trans hbx (hx y hy)
            · cases h
      · cases h
theorem rdTabs_back {last : Bool} {rest : List Nat} {e : List Nat → Ls → Rt (Ent α)} (he : ∀ l ls x ls', e l ls = .ok (x, ls') → (∃ more, lEnt lc x = l :: more ∧ ls = more ++ ls' ∧ GEnt kn g x) ∧ tagL l = some x.tag) : ∀ {n : Nat} {ls : Ls} {acc xs : List (List (Ent α))} {ls' : Ls}, rdTabs last rest e n ls acc = .ok (xs, ls') →
    ∃ ts : List (List (Ent α)), xs = acc ++ ts ∧ ls = ts.flatMap (lTab lc) ++ (if last = true then co "done" :: ls' else ls') ∧ (∀ t ∈ ts, GTab kn g t) ∧ (acc.length ≤ 10 → xs.length ≤ 10) ∧ (last = false → ls' = [] ∧ rest = [])
  | 0, _, _, _, _, h => by cases h
  | n + 1, [], acc, xs, ls', h => by
    rw [rdTabs] at h
    split at h
    · rename_i hc
      obtain ⟨rfl, hr⟩ := hc
      injection h with h
      injection h with e1 e2
      subst e1 e2
      exact ⟨[], by rw [List.append_nil], rfl, fun p hp => absurd hp List.not_mem_nil, id, fun _ => ⟨rfl, hr⟩⟩
    · cases h
  | n + 1, l :: ls, acc, xs, ls', h => by
    rw [rdTabs] at h
    split at h
    · rename_i hc
      obtain ⟨rfl, rfl⟩ := hc
      injection h with h
      injection h with e1 e2
      subst e1 e2
      exact ⟨[], by rw [List.append_nil], rfl, fun p hp => absurd hp List.not_mem_nil, id, fun z => by cases z⟩
    · split at h
      · rename_i hc
        obtain ⟨rfl, hc⟩ := hc
        cases h1 : rdTab e (ls.length + 1) ls [] with
        | error c => rw [h1] at h; cases h
        | ok q =>
          obtain ⟨t, ls1⟩ := q
          rw [h1] at h
          obtain ⟨ts, e1, e2, e3, e4, e5⟩ := rdTabs_back he h
          obtain ⟨es, a1, a2, a3, a4, _, a6⟩ := rdTab_back he h1
          rw [List.nil_append] at a1
          subst a1
          refine ⟨t :: ts, by rw [e1, List.append_assoc]; rfl, ?_, fun y hy => ?_, fun _ => e4 (by rw [List.length_append, List.length_singleton]; omega), e5⟩
          · rw [List.flatMap_cons, a2, e2]
            unfold lTab
            simp
          · rcases List.mem_cons.mp hy with rfl | hy
            · exact ⟨a6 (Nat.zero_le _), a3, a4⟩
            · exact e3 y hy
      · cases h
end
theorem rdCh_back (kn : List Nat) (raw : Bool) : ∀ (d : Nat) (ls : Ls) (c : Ch d) (ls' : Ls), rdCh kn raw d ls = .ok (c, ls') → ls = lCh d c ++ co "done" :: ls' ∧ gCh kn d c
  | 0, [], c, ls', h => by cases h
  | 0, l :: ls, c, ls', h => by
    have h : (if l = co "done" then (.ok ((), ls) : Rt Unit) else .error (ls.length + 1)) = .ok (c, ls') := h
    split at h
    · rename_i hd
      injection h with h
      injection h with e1 e2
      subst e2 hd
      exact ⟨rfl, True.intro⟩
    · cases h
  | d + 1, ls, c, ls', h => by
    obtain ⟨ts, e1, e2, e3, e4, _⟩ := rdTabs_back (lc := lCh d) (kn := kn) (g := gCh kn d) (fun l ls x ls' h => ⟨rdEnt_back (fun ls c ls' h => rdCh_back kn raw d ls c ls' h) h, (rdEnt_tag h).1⟩) h
    rw [List.nil_append] at e1
    rw [if_pos rfl] at e2
    subst e1
    exact ⟨e2, ⟨e4 (Nat.zero_le _), e3⟩⟩
end K82
set_option maxRecDepth 100000
set_option maxHeartbeats 1000000
/-! the look line by line: a stack of what is begun; it refuses the line that the reader refuses -/
namespace K82
open PySem PySem.Spec PyProof.Rows L2 Evl MB
inductive Fr where
  | table (many : Nat) (last : Int) (deep most : Nat)
  | chain (many deep most : Nat) (last : Bool)
  | chains (many deep : Nat)
  | pieces (many : Nat)
def entS (kn : List Nat) (raw : Bool) (m : Nat) (last : Int) (deep most : Nat) (S : List Fr) (l : List Nat) : Option (List Fr) := match wordsL l with
  | w :: r :: rest => match tagBy r with
    | none => none
    | some tag =>
      if m = most ∨ (tag : Int) ≤ last then none
      else if w = co "entry" then (if (plainIn kn raw rest).isSome = true then some (.table (m + 1) tag deep most :: S) else none)
      else if w = co "text" then (if 4 ∈ kn ∧ rest ≠ [] ∧ textB (l.drop (w.length + r.length + 2)) = true then some (.table (m + 1) tag deep most :: S) else none)
      else if rest = [] ∧ w = co "chains" ∧ 5 ∈ kn then some (.chains 0 (deep + 1) :: .table (m + 1) tag deep most :: S)
      else if rest = [] ∧ w = co "pieces" ∧ 6 ∈ kn then some (.pieces 0 :: .table (m + 1) tag deep most :: S)
      else none
  | _ => none
def stands (kn : List Nat) (raw : Bool) : List Fr → List Nat → Option (List Fr)
  | [], _ => none
  | .table m last deep most :: S, l => if l = co "end" ∧ most = 40 then some S else entS kn raw m last deep most S l
  | .chain m deep most last :: S, l => if l = co "table" then (if m < most ∧ deep < 5 then some (.table 0 (-1) deep 40 :: .chain (m + 1) deep most last :: S) else none) else if last = true ∧ l = co "done" then some S else none
  | .chains m deep :: S, l => if l = co "chain" then (if m < 300 then some (.chain 0 deep 10 true :: .chains (m + 1) deep :: S) else none) else if l = co "end" then some S else none
  | .pieces m :: S, l => if l = co "end" then some S else if m < 300 ∧ (pieceL l).isSome = true then some (.pieces (m + 1) :: S) else none
def run (kn : List Nat) (raw : Bool) : List Fr → Ls → Except Nat (List Fr)
  | S, [] => .ok S
  | S, l :: ls => match stands kn raw S l with
    | some S' => run kn raw S' ls
    | none => .error (ls.length + 1)
section
variable {kn : List Nat} {raw : Bool}
theorem st_table {m : Nat} {last : Int} {deep most : Nat} {S : List Fr} {l : List Nat} : stands kn raw (.table m last deep most :: S) l = if l = co "end" ∧ most = 40 then some S else entS kn raw m last deep most S l := rfl
theorem st_chain {m deep most : Nat} {last : Bool} {S : List Fr} {l : List Nat} : stands kn raw (.chain m deep most last :: S) l = if l = co "table" then (if m < most ∧ deep < 5 then some (.table 0 (-1) deep 40 :: .chain (m + 1) deep most last :: S) else none) else if last = true ∧ l = co "done" then some S else none := rfl
theorem st_chains {m deep : Nat} {S : List Fr} {l : List Nat} : stands kn raw (.chains m deep :: S) l = if l = co "chain" then (if m < 300 then some (.chain 0 deep 10 true :: .chains (m + 1) deep :: S) else none) else if l = co "end" then some S else none := rfl
theorem st_pieces {m : Nat} {S : List Fr} {l : List Nat} : stands kn raw (.pieces m :: S) l = if l = co "end" then some S else if m < 300 ∧ (pieceL l).isSome = true then some (.pieces (m + 1) :: S) else none := rfl
theorem run_some {S S' : List Fr} {l : List Nat} {ls : Ls} (h : stands kn raw S l = some S') : run kn raw S (l :: ls) = run kn raw S' ls := by
  show (match stands kn raw S l with | some S' => run kn raw S' ls | none => .error (ls.length + 1)) = _
  rw [h]
theorem run_none {S : List Fr} {l : List Nat} {ls : Ls} (h : stands kn raw S l = none) : run kn raw S (l :: ls) = .error (ls.length + 1) := by
  show (match stands kn raw S l with | some S' => run kn raw S' ls | none => .error (ls.length + 1)) = _
  rw [h]
/-- the look goes as the reader: from S to T, ended amid with more than m begun, or refused at the same line -/
def Sim (kn : List Nat) (raw : Bool) {α : Type} (S T : List Fr) (m : Nat) (ls : Ls) : Rt α → Prop
  | .ok (_, ls') => run kn raw S ls = run kn raw T ls'
  | .error 0 => ∃ S', run kn raw S ls = .ok S' ∧ m < S'.length
  | .error (c + 1) => run kn raw S ls = .error (c + 1)
theorem Sim.step {α : Type} {S S1 T : List Fr} {m : Nat} {ls ls1 : Ls} {r : Rt α} (h : Sim kn raw S1 T m ls1 r) (e : run kn raw S ls = run kn raw S1 ls1) : Sim kn raw S T m ls r := by
  match r, h with
  | .ok (_, ls'), h => exact e.trans h
  | .error 0, ⟨S', h1, h2⟩ => exact ⟨S', e.trans h1, h2⟩
  | .error (c + 1), h => exact e.trans h
theorem Sim.err {α β : Type} {S T T' : List Fr} {m m' : Nat} {ls : Ls} {c : Nat} (h : Sim (α := α) kn raw S T m ls (.error c)) (hm : m' ≤ m) : Sim (α := β) kn raw S T' m' ls (.error c) := by
  match c, h with
  | 0, ⟨S', h1, h2⟩ => exact ⟨S', h1, Nat.lt_of_le_of_lt hm h2⟩
  | c + 1, h => exact h
theorem Sim.map {α β : Type} {g : α → β} {S T : List Fr} {m : Nat} {ls : Ls} {r : Rt α} (h : Sim kn raw S T m ls r) : Sim kn raw S T m ls (mapR g r) := by
  match r, h with
  | .ok (_, ls'), h => exact h
  | .error 0, h => exact h
  | .error (c + 1), h => exact h
theorem sim_none {α : Type} {S T : List Fr} {m : Nat} {l : List Nat} {ls : Ls} (h : stands kn raw S l = none) : Sim (α := α) kn raw S T m (l :: ls) (.error (ls.length + 1)) := run_none h
theorem ne_of {a b : List Nat} (h : a = co "end") (k : b ≠ co "end") : a ≠ b := fun z => k (z ▸ h)
theorem pieces_sim {T : List Fr} : ∀ {n : Nat} {ls acc : Ls}, ls.length < n → Sim kn raw (.pieces acc.length :: T) T T.length ls (rdPieces n ls acc)
  | 0, _, _, h => absurd h (Nat.not_lt_zero _)
  | n + 1, [], acc, _ => ⟨_, rfl, by rw [List.length_cons]; omega⟩
  | n + 1, l :: ls, acc, h => by
    rw [List.length_cons] at h
    rw [rdPieces]
    split
    · rename_i he
      exact run_some (if_pos he)
    · rename_i he
      cases hp : pieceL l with
      | none =>
        exact sim_none (by rw [st_pieces, if_neg he, if_neg (fun z => by rw [hp] at z; exact absurd z.2 (by decide))])
      | some p =>
        dsimp only
        split
        · rename_i hl
          have ih := pieces_sim (T := T) (n := n) (ls := ls) (acc := acc ++ [p]) (by omega)
          rw [List.length_append, List.length_singleton] at ih
          exact ih.step (run_some (by rw [st_pieces, if_neg he, if_pos ⟨hl, by rw [hp]; rfl⟩]))
        · rename_i hl
          exact sim_none (by rw [st_pieces, if_neg he, if_neg (fun z => hl z.1)])
section
variable {α : Type} {f : Ls → Rt α}
theorem chains_sim {deep : Nat} {T : List Fr} (hf : ∀ ls T', Sim kn raw (.chain 0 deep 10 true :: T') T' T'.length ls (f ls)) (hl : ∀ ls c ls', f ls = .ok (c, ls') → ls'.length < ls.length) :
    ∀ {n : Nat} {ls : Ls} {acc : List α}, ls.length < n → Sim kn raw (.chains acc.length deep :: T) T T.length ls (rdChains f n ls acc)
  | 0, _, _, h => absurd h (Nat.not_lt_zero _)
  | n + 1, [], acc, _ => ⟨_, rfl, by rw [List.length_cons]; omega⟩
  | n + 1, l :: ls, acc, h => by
    rw [List.length_cons] at h
    rw [rdChains]
    split
    · rename_i he
      subst he
      exact run_some (by rw [st_chains, if_neg (by decide), if_pos rfl])
    · rename_i he
      split
      · rename_i hc
        obtain ⟨rfl, hc⟩ := hc
        have e : run kn raw (.chains acc.length deep :: T) (co "chain" :: ls) = run kn raw (.chain 0 deep 10 true :: .chains (acc.length + 1) deep :: T) ls := run_some (by rw [st_chains, if_pos rfl, if_pos hc])
        have h1 := hf ls (.chains (acc.length + 1) deep :: T)
        cases hr : f ls with
        | error c =>
          rw [hr] at h1
          exact (h1.err (by rw [List.length_cons]; omega)).step e
        | ok q =>
          obtain ⟨c, ls1⟩ := q
          rw [hr] at h1
          have := hl _ _ _ hr
          have ih := chains_sim (T := T) hf hl (n := n) (ls := ls1) (acc := acc ++ [c]) (by omega)
          rw [List.length_append, List.length_singleton] at ih
          exact ih.step (e.trans h1)
      · rename_i hc
        refine sim_none ?_
        rw [st_chains]
        by_cases hl : l = co "chain"
        · rw [if_pos hl, if_neg fun z => hc ⟨hl, z⟩]
        · rw [if_neg hl, if_neg he]
theorem ent_sim {deep m most : Nat} {last : Int} {S : List Fr} (hf : ∀ ls T', Sim kn raw (.chain 0 (deep + 1) 10 true :: T') T' T'.length ls (f ls)) (hl : ∀ ls c ls', f ls = .ok (c, ls') → ls'.length < ls.length) {l : List Nat} {ls : Ls}
    (he : ¬ (l = co "end" ∧ most = 40)) (hm : m < most) (ht : ∀ tag, tagL l = some tag → last < (tag : Int)) :
    (∀ x ls', rdEnt f kn raw l ls = .ok (x, ls') → run kn raw (.table m last deep most :: S) (l :: ls) = run kn raw (.table (m + 1) x.tag deep most :: S) ls') ∧
    (∀ c, rdEnt f kn raw l ls = .error c → Sim (α := Unit) kn raw (.table m last deep most :: S) [] (S.length + 1) (l :: ls) (.error c)) := by
  have hst : stands kn raw (.table m last deep most :: S) l = entS kn raw m last deep most S l := if_neg he
  unfold rdEnt
  cases hw : wordsL l with
  | nil => exact ⟨fun x ls' h => (by cases h), fun c h => by injection h with h; subst h; exact sim_none (by rw [hst]; unfold entS; rw [hw])⟩
  | cons w t =>
    cases t with
    | nil => exact ⟨fun x ls' h => (by cases h), fun c h => by injection h with h; subst h; exact sim_none (by rw [hst]; unfold entS; rw [hw])⟩
    | cons r rest =>
      dsimp only
      cases htg : tagBy r with
      | none => exact ⟨fun x ls' h => (by cases h), fun c h => by injection h with h; subst h; exact sim_none (by rw [hst]; unfold entS; rw [hw]; dsimp only; rw [htg])⟩
      | some tag =>
        have hlt : last < (tag : Int) := ht tag (by unfold tagL; rw [hw]; exact htg)
        have hno : ¬ (m = most ∨ (tag : Int) ≤ last) := fun z => by omega
        have hst2 : stands kn raw (.table m last deep most :: S) l = if w = co "entry" then (if (plainIn kn raw rest).isSome = true then some (.table (m + 1) tag deep most :: S) else none)
            else if w = co "text" then (if 4 ∈ kn ∧ rest ≠ [] ∧ textB (l.drop (w.length + r.length + 2)) = true then some (.table (m + 1) tag deep most :: S) else none)
            else if rest = [] ∧ w = co "chains" ∧ 5 ∈ kn then some (.chains 0 (deep + 1) :: .table (m + 1) tag deep most :: S)
            else if rest = [] ∧ w = co "pieces" ∧ 6 ∈ kn then some (.pieces 0 :: .table (m + 1) tag deep most :: S)
            else none := by
          rw [hst]
          unfold entS
          rw [hw]
          dsimp only
          rw [htg]
          dsimp only
          rw [if_neg hno]
        dsimp only
        by_cases h1 : w = co "entry"
        · rw [if_pos h1]
          rw [if_pos h1] at hst2
          cases hp : plainIn kn raw rest with
          | none =>
            refine ⟨fun x ls' h => (by cases h), fun c h => ?_⟩
            injection h with h
            subst h
            exact sim_none (by rw [hst2, hp]; rfl)
          | some q =>
            obtain ⟨k, ns⟩ := q
            refine ⟨fun x ls' h => ?_, fun c h => by cases h⟩
            injection h with h
            injection h with e1 e2
            subst e1 e2
            exact run_some (by rw [hst2, hp]; rfl)
        · rw [if_neg h1]
          rw [if_neg h1] at hst2
          by_cases h2 : w = co "text"
          · rw [if_pos h2]
            rw [if_pos h2] at hst2
            by_cases h3 : 4 ∈ kn ∧ rest ≠ [] ∧ textB (l.drop (w.length + r.length + 2)) = true
            · rw [if_pos h3]
              rw [if_pos h3] at hst2
              refine ⟨fun x ls' h => ?_, fun c h => by cases h⟩
              injection h with h
              injection h with e1 e2
              subst e1 e2
              exact run_some hst2
            · rw [if_neg h3]
              rw [if_neg h3] at hst2
              refine ⟨fun x ls' h => (by cases h), fun c h => ?_⟩
              injection h with h
              subst h
              exact sim_none hst2
          · rw [if_neg h2]
            rw [if_neg h2] at hst2
            by_cases h3 : rest = [] ∧ w = co "chains" ∧ 5 ∈ kn
            · rw [if_pos h3]
              rw [if_pos h3] at hst2
              have hs := chains_sim (T := .table (m + 1) tag deep most :: S) hf hl (n := ls.length + 1) (ls := ls) (acc := []) (by omega)
              cases hr : rdChains f (ls.length + 1) ls [] with
              | error c0 =>
                rw [hr] at hs
                refine ⟨fun x ls' h => (by cases h), fun c h => ?_⟩
                injection h with h
                subst h
                exact (hs.err (by rw [List.length_cons]; omega)).step (run_some hst2)
              | ok q =>
                obtain ⟨cs, ls1⟩ := q
                rw [hr] at hs
                refine ⟨fun x ls' h => ?_, fun c h => by cases h⟩
                injection h with h
                injection h with e1 e2
                subst e1 e2
                exact (run_some hst2).trans hs
            · rw [if_neg h3]
              rw [if_neg h3] at hst2
              by_cases h4 : rest = [] ∧ w = co "pieces" ∧ 6 ∈ kn
              · rw [if_pos h4]
                rw [if_pos h4] at hst2
                have hs := pieces_sim (kn := kn) (raw := raw) (T := .table (m + 1) tag deep most :: S) (n := ls.length + 1) (ls := ls) (acc := []) (by omega)
                cases hr : rdPieces (ls.length + 1) ls [] with
                | error c0 =>
                  rw [hr] at hs
                  refine ⟨fun x ls' h => (by cases h), fun c h => ?_⟩
                  injection h with h
                  subst h
                  exact (hs.err (by rw [List.length_cons]; omega)).step (run_some hst2)
                | ok q =>
                  obtain ⟨cs, ls1⟩ := q
                  rw [hr] at hs
                  refine ⟨fun x ls' h => ?_, fun c h => by cases h⟩
                  injection h with h
                  injection h with e1 e2
                  subst e1 e2
                  exact (run_some hst2).trans hs
              · rw [if_neg h4]
                rw [if_neg h4] at hst2
                refine ⟨fun x ls' h => (by cases h), fun c h => ?_⟩
                injection h with h
                subst h
                exact sim_none hst2
/-- a line that can't follow is refused -/
theorem ent_none {m deep most : Nat} {last : Int} {S : List Fr} {l : List Nat} (h : m = most ∨ tagL l = none ∨ ∃ tag, tagL l = some tag ∧ (tag : Int) ≤ last) : entS kn raw m last deep most S l = none := by
  unfold entS
  unfold tagL at h
  cases hw : wordsL l with
  | nil => rfl
  | cons w t =>
    cases t with
    | nil => rfl
    | cons r rest =>
      rw [hw] at h
      dsimp only at h ⊢
      cases htg : tagBy r with
      | none => rfl
      | some tag =>
        dsimp only
        rw [if_pos]
        rcases h with h | h | ⟨t, h1, h2⟩
        · exact .inl h
        · rw [htg] at h
          cases h
        · rw [htg] at h1
          injection h1 with h1
          subst h1
          exact .inr h2
theorem tab_sim {deep : Nat} {T : List Fr} (hf : ∀ ls T', Sim kn raw (.chain 0 (deep + 1) 10 true :: T') T' T'.length ls (f ls)) (hl : ∀ ls c ls', f ls = .ok (c, ls') → ls'.length < ls.length) :
    ∀ {n : Nat} {ls : Ls} {acc : List (Ent α)} {last : Int}, ls.length < n → acc.length ≤ 40 → (∀ l r, ls = l :: r → l ≠ co "end" → ∀ tag, tagL l = some tag → last < (tag : Int)) →
      Sim kn raw (.table acc.length last deep 40 :: T) T T.length ls (rdTab (rdEnt f kn raw) n ls acc)
  | 0, _, _, _, h, _, _ => absurd h (Nat.not_lt_zero _)
  | n + 1, [], acc, last, _, _, _ => ⟨_, rfl, by rw [List.length_cons]; omega⟩
  | n + 1, l :: ls, acc, last, h, ha, hlast => by
    rw [List.length_cons] at h
    rw [rdTab]
    split
    · rename_i he
      exact run_some (if_pos ⟨he, rfl⟩)
    · rename_i he
      have hst : stands kn raw (.table acc.length last deep 40 :: T) l = entS kn raw acc.length last deep 40 T l := if_neg fun z => he z.1
      split
      · rename_i ha2
        obtain ⟨h1, h2⟩ := ent_sim (S := T) (ls := ls) hf hl (fun z => he z.1) ha2 (hlast l ls rfl he)
        cases hr : rdEnt f kn raw l ls with
        | error c => exact (h2 c hr).err (by omega)
        | ok q =>
          obtain ⟨x, ls1⟩ := q
          have e := h1 x ls1 hr
          have hlen := rdEnt_len hl hr
          cases ls1 with
          | nil => exact ⟨_, e, by rw [List.length_cons]; omega⟩
          | cons l' ls1 =>
            rw [List.length_cons] at hlen
            dsimp only
            split
            · rename_i hnx
              have ih := tab_sim (T := T) hf hl (n := n) (ls := l' :: ls1) (acc := acc ++ [x]) (last := (x.tag : Int)) (by rw [List.length_cons]; omega) (by rw [List.length_append, List.length_singleton]; omega) (fun l0 r0 e0 hne tag htag => by
                injection e0 with e0 _
                subst e0
                unfold nextOk at hnx
                rw [decide_eq_false hne, Bool.false_or, htag] at hnx
                have := of_decide_eq_true hnx
                omega)
              rw [List.length_append, List.length_singleton] at ih
              exact ih.step e
            · rename_i hnx
              have hne : l' ≠ co "end" := fun z => hnx (by unfold nextOk; rw [decide_eq_true z, Bool.true_or])
              refine (sim_none (α := List (Ent α)) ?_ : Sim kn raw (.table (acc.length + 1) x.tag deep 40 :: T) T T.length (l' :: ls1) _).step e
              rw [st_table, if_neg fun z => hne z.1]
              refine ent_none ?_
              cases htg : tagL l' with
              | none => exact .inr (.inl rfl)
              | some tag =>
                refine .inr (.inr ⟨tag, rfl, ?_⟩)
                unfold nextOk at hnx
                rw [decide_eq_false hne, Bool.false_or, htg] at hnx
                have : ¬ (x.tag < tag) := fun z => hnx (decide_eq_true z)
                omega
      · rename_i ha2
        exact sim_none (by rw [hst]; exact ent_none (.inl (by omega)))
theorem tabs_sim {deep : Nat} {T : List Fr} {rest : List Nat} (hd : deep < 5) (hf : ∀ ls T', Sim kn raw (.chain 0 (deep + 1) 10 true :: T') T' T'.length ls (f ls)) (hl : ∀ ls c ls', f ls = .ok (c, ls') → ls'.length < ls.length) :
    ∀ {n : Nat} {ls : Ls} {acc : List (List (Ent α))}, ls.length < n → Sim kn raw (.chain acc.length deep 10 true :: T) T T.length ls (rdTabs true rest (rdEnt f kn raw) n ls acc)
  | 0, _, _, h => absurd h (Nat.not_lt_zero _)
  | n + 1, [], acc, _ => by
    rw [rdTabs, if_neg fun z => absurd z.1 (by decide)]
    exact ⟨_, rfl, by rw [List.length_cons]; omega⟩
  | n + 1, l :: ls, acc, h => by
    rw [List.length_cons] at h
    rw [rdTabs]
    split
    · rename_i he
      obtain ⟨_, rfl⟩ := he
      exact run_some (by rw [st_chain, if_neg (by decide), if_pos ⟨rfl, rfl⟩])
    · rename_i he
      split
      · rename_i hc
        obtain ⟨rfl, hc⟩ := hc
        have e : run kn raw (.chain acc.length deep 10 true :: T) (co "table" :: ls) = run kn raw (.table 0 (-1) deep 40 :: .chain (acc.length + 1) deep 10 true :: T) ls := run_some (by rw [st_chain, if_pos rfl, if_pos ⟨hc, hd⟩])
        have h1 := tab_sim (T := .chain (acc.length + 1) deep 10 true :: T) hf hl (n := ls.length + 1) (ls := ls) (acc := []) (last := -1) (by omega) (Nat.zero_le _) (fun _ _ _ _ tag _ => by omega)
        cases hr : rdTab (rdEnt f kn raw) (ls.length + 1) ls [] with
        | error c =>
          rw [hr] at h1
          exact (h1.err (by rw [List.length_cons]; omega)).step e
        | ok q =>
          obtain ⟨t, ls1⟩ := q
          rw [hr] at h1
          have := rdTab_len (fun l ls x ls' h => rdEnt_len hl h) hr
          have ih := tabs_sim (T := T) (rest := rest) hd hf hl (n := n) (ls := ls1) (acc := acc ++ [t]) (by omega)
          rw [List.length_append, List.length_singleton] at ih
          exact ih.step (e.trans h1)
      · rename_i hc
        refine sim_none ?_
        rw [st_chain]
        by_cases hl : l = co "table"
        · rw [if_pos hl, if_neg fun z => hc ⟨hl, z.1⟩]
        · rw [if_neg hl, if_neg fun z => he ⟨rfl, z.2⟩]
/-- the chain at the top -/
def SimT (kn : List Nat) (raw : Bool) (rest : List Nat) (S : List Fr) (ls : Ls) {β : Type} : Rt β → Prop
  | .ok (_, _) => rest = [] ∧ ∃ S', run kn raw S ls = .ok S' ∧ S'.length = 1
  | .error 0 => ∃ S', run kn raw S ls = .ok S' ∧ (S'.length ≠ 1 ∨ rest ≠ [])
  | .error (c + 1) => run kn raw S ls = .error (c + 1)
theorem top_sim {rest : List Nat} (hf : ∀ ls T', Sim kn raw (.chain 0 2 10 true :: T') T' T'.length ls (f ls)) (hl : ∀ ls c ls', f ls = .ok (c, ls') → ls'.length < ls.length) :
    ∀ {n : Nat} {ls : Ls} {acc : List (List (Ent α))}, ls.length < n → SimT kn raw rest [.chain acc.length 1 10 false] ls (rdTabs false rest (rdEnt f kn raw) n ls acc)
  | 0, _, _, h => absurd h (Nat.not_lt_zero _)
  | n + 1, [], acc, _ => by
    rw [rdTabs]
    split
    · rename_i hc
      exact ⟨hc.2, _, rfl, rfl⟩
    · rename_i hc
      exact ⟨_, rfl, .inr fun z => hc ⟨rfl, z⟩⟩
  | n + 1, l :: ls, acc, h => by
    rw [List.length_cons] at h
    rw [rdTabs, if_neg fun z => absurd z.1 (by decide)]
    split
    · rename_i hc
      obtain ⟨rfl, hc⟩ := hc
      have e : run kn raw [.chain acc.length 1 10 false] (co "table" :: ls) = run kn raw [.table 0 (-1) 1 40, .chain (acc.length + 1) 1 10 false] ls := run_some (by rw [st_chain, if_pos rfl, if_pos ⟨hc, by decide⟩])
      have h1 := tab_sim (T := [.chain (acc.length + 1) 1 10 false]) hf hl (n := ls.length + 1) (ls := ls) (acc := []) (last := -1) (by omega) (Nat.zero_le _) (fun _ _ _ _ tag _ => by omega)
      cases hr : rdTab (rdEnt f kn raw) (ls.length + 1) ls [] with
      | error c =>
        rw [hr] at h1
        match c, h1 with
        | 0, ⟨S', h2, h3⟩ => exact ⟨S', e.trans h2, .inl fun z => by rw [z] at h3; exact absurd h3 (Nat.lt_irrefl 1)⟩
        | c + 1, h1 => exact e.trans h1
      | ok q =>
        obtain ⟨t, ls1⟩ := q
        rw [hr] at h1
        have := rdTab_len (fun l ls x ls' h => rdEnt_len hl h) hr
        have ih := top_sim (rest := rest) hf hl (n := n) (ls := ls1) (acc := acc ++ [t]) (by omega)
        rw [List.length_append, List.length_singleton] at ih
        have e2 := e.trans h1
        dsimp only
        generalize rdTabs false rest (rdEnt f kn raw) n ls1 (acc ++ [t]) = r at ih
        match r, ih with
        | .ok (_, _), ⟨i1, S', i2, i3⟩ => exact ⟨i1, S', e2.trans i2, i3⟩
        | .error 0, ⟨S', i2, i3⟩ => exact ⟨S', e2.trans i2, i3⟩
        | .error (c + 1), i => exact e2.trans i
    · rename_i hc
      refine (run_none ?_ : run kn raw _ _ = _)
      rw [st_chain]
      by_cases hl : l = co "table"
      · rw [if_pos hl, if_neg fun z => hc ⟨hl, z.1⟩]
      · rw [if_neg hl, if_neg fun z => absurd z.1 (by decide)]
end
theorem ch_sim : ∀ (d deep : Nat), deep + d = 5 → ∀ (ls : Ls) (T : List Fr), Sim kn raw (.chain 0 deep 10 true :: T) T T.length ls (rdCh kn raw d ls)
  | 0, deep, h, [], T => ⟨_, rfl, by rw [List.length_cons]; omega⟩
  | 0, deep, h, l :: ls, T => by
    show Sim kn raw _ T T.length (l :: ls) (if l = co "done" then (.ok ((), ls) : Rt Unit) else .error (ls.length + 1))
    split
    · rename_i he
      subst he
      exact run_some (by rw [st_chain, if_neg (by decide), if_pos ⟨rfl, rfl⟩])
    · rename_i he
      refine sim_none ?_
      rw [st_chain]
      by_cases hl : l = co "table"
      · rw [if_pos hl, if_neg fun z => by omega]
      · rw [if_neg hl, if_neg fun z => he z.2]
  | d + 1, deep, h, ls, T => tabs_sim (T := T) (rest := []) (acc := []) (by omega) (fun ls T' => ch_sim d (deep + 1) (by omega) ls T') (rdCh_len d kn raw) (Nat.lt_succ_self _)
end
end K82
set_option maxRecDepth 100000
set_option maxHeartbeats 1000000
/-! the law's look at a text: the same line as the reader's; what is read has this text -/
namespace K82
open PySem PySem.Spec PyProof.Rows L2 Evl MB
theorem lines_join (t : List Nat) : TL.joinL [10] (linesL t) = t := by
  unfold linesL
  rw [join_spl1, List.nil_append]
theorem linesL_ne (t : List Nat) : linesL t ≠ [] := MB.spl_ne _ _ _ _
theorem lines_split (t : List Nat) : linesL t = rowsL t ++ [restL t] := by
  have h := linesL_ne t
  unfold rowsL restL
  have e : (linesL t).getLast?.getD [] = (linesL t).getLast h := by
    rw [List.getLast?_eq_some_getLast h]
    rfl
  rw [e]
  exact (List.dropLast_concat_getLast h).symm
theorem txt_rows {t : List Nat} (h : restL t = []) : txt (rowsL t) = t := by
  have e := lines_join t
  rw [lines_split, h, joinL_rows] at e
  exact e
def badLine (kn : List Nat) (t : List Nat) : Option Nat := match rowsL t with
  | [] => some 0
  | l :: ls => if l = co "order small" ∨ l = co "order great" then match run kn true [.chain 0 1 10 false] ls with
      | .error c => some (ls.length + 1 - c)
      | .ok S => if restL t ≠ [] ∨ S.length ≠ 1 then some (ls.length + 1) else none
    else some 0
theorem order_line (l : List Nat) : (l = co "order small" ∨ l = co "order great") ↔ ∃ o, wordsL l = [co "order", o] ∧ orderOk o = true := by
  constructor
  · rintro (rfl | rfl)
    · exact ⟨co "small", by decide, by decide⟩
    · exact ⟨co "great", by decide, by decide⟩
  · rintro ⟨o, h1, h2⟩
    rw [of_words h1]
    unfold orderOk at h2
    rw [Bool.or_eq_true, decide_eq_true_eq, decide_eq_true_eq] at h2
    rcases h2 with rfl | rfl
    · exact .inl rfl
    · exact .inr rfl
theorem rdTree_back {kn rest : List Nat} {ls : Ls} {o : List Nat} {c : Ch 4} {ls' : Ls} (h : rdTree kn rest ls = .ok ((o, c), ls')) : ls = lTree o c ∧ rest = [] ∧ orderOk o = true ∧ gCh kn 4 c := by
  cases ls with
  | nil => cases h
  | cons l ls =>
    unfold rdTree at h
    dsimp only at h
    split at h
    · rename_i w o' hw
      split at h
      · rename_i hc
        obtain ⟨rfl, ho⟩ := hc
        obtain ⟨y, h1, h2⟩ := mapR_ok h
        injection h2 with e1 e2
        subst e1 e2
        obtain ⟨ts, e1, e2, e3, e4, e5⟩ := rdTabs_back (lc := lCh 3) (kn := kn) (g := gCh kn 3) (fun l ls x ls' h => ⟨rdEnt_back (fun ls c ls' h => rdCh_back kn true 3 ls c ls' h) h, (rdEnt_tag h).1⟩) h1
        rw [List.nil_append] at e1
        rw [if_neg (by decide)] at e2
        obtain ⟨rfl, hr⟩ := e5 rfl
        subst e1
        refine ⟨?_, hr, ho, ⟨e4 (Nat.zero_le _), e3⟩⟩
        rw [of_words hw, e2, List.append_nil]
        rfl
      · cases h
    · cases h
theorem bad_read (kn t : List Nat) : (∃ n, badLine kn t = some n ∧ n ≤ (rowsL t).length ∧ readT kn t = .error n) ∨ (badLine kn t = none ∧ ∃ o c, readT kn t = .ok (o, c) ∧ t = txt (lTree o c) ∧ orderOk o = true ∧ gCh kn 4 c) := by
  cases hrd : readT kn t with
  | ok q =>
    obtain ⟨o, c⟩ := q
    unfold readT at hrd
    cases hr : rdTree kn (restL t) (rowsL t) with
    | error n => rw [hr] at hrd; cases hrd
    | ok q =>
      obtain ⟨⟨o', c'⟩, ls'⟩ := q
      rw [hr] at hrd
      injection hrd with hrd
      injection hrd with e1 e2
      subst e1 e2
      obtain ⟨a1, a2, a3, a4⟩ := rdTree_back hr
      refine .inr ⟨?_, o', c', rfl, by rw [← a1, txt_rows a2], a3, a4⟩
      unfold badLine
      rw [a1] at hr ⊢
      have hol : co "order " ++ o' = co "order small" ∨ co "order " ++ o' = co "order great" := by
        unfold orderOk at a3
        rw [Bool.or_eq_true, decide_eq_true_eq, decide_eq_true_eq] at a3
        rcases a3 with rfl | rfl
        · exact .inl rfl
        · exact .inr rfl
      obtain ⟨o2, hw, ho2⟩ := (order_line _).mp hol
      have hr2 := hr
      unfold lTree rdTree at hr2
      dsimp only at hr2
      rw [hw] at hr2
      dsimp only at hr2
      rw [if_pos ⟨rfl, ho2⟩] at hr2
      obtain ⟨y, h1, h2⟩ := mapR_ok hr2
      have hs := top_sim (kn := kn) (raw := true) (rest := restL t) (f := rdCh kn true 3) (fun ls T' => ch_sim 3 2 rfl ls T') (rdCh_len 3 kn true) (n := (lCh 4 c').length + 1) (ls := lCh 4 c') (acc := []) (Nat.lt_succ_self _)
      have h1' : rdTabs false (restL t) (rdEnt (rdCh kn true 3) kn true) ((lCh 4 c').length + 1) (lCh 4 c') [] = .ok (y, ls') := h1
      rw [h1'] at hs
      obtain ⟨i1, S', i2, i3⟩ := hs
      show (if co "order " ++ o' = co "order small" ∨ co "order " ++ o' = co "order great" then match run kn true [.chain 0 1 10 false] (lCh 4 c') with
        | .error c => some ((lCh 4 c').length + 1 - c)
        | .ok S => if restL t ≠ [] ∨ S.length ≠ 1 then some ((lCh 4 c').length + 1) else none
        else some 0) = none
      rw [if_pos hol]
      have i2' : run kn true [.chain 0 1 10 false] (lCh 4 c') = .ok S' := i2
      rw [i2']
      exact if_neg fun z => by
        rcases z with z | z
        · exact z i1
        · exact z i3
  | error n =>
    left
    unfold readT at hrd
    cases hr : rdTree kn (restL t) (rowsL t) with
    | ok q => rw [hr] at hrd; cases hrd
    | error c0 =>
      rw [hr] at hrd
      injection hrd with hrd
      refine ⟨n, ?_, by omega, rfl⟩
      unfold badLine
      cases hrows : rowsL t with
      | nil =>
        rw [hrows] at hrd
        rw [← hrd]
        simp
      | cons l ls =>
        rw [hrows] at hr hrd
        dsimp only
        rw [List.length_cons] at hrd
        unfold rdTree at hr
        dsimp only at hr
        by_cases hol : l = co "order small" ∨ l = co "order great"
        · rw [if_pos hol]
          obtain ⟨o2, hw, ho2⟩ := (order_line _).mp hol
          rw [hw] at hr
          dsimp only at hr
          rw [if_pos ⟨rfl, ho2⟩] at hr
          have hs := top_sim (kn := kn) (raw := true) (rest := restL t) (f := rdCh kn true 3) (fun ls T' => ch_sim 3 2 rfl ls T') (rdCh_len 3 kn true) (n := ls.length + 1) (ls := ls) (acc := []) (Nat.lt_succ_self _)
          have hr' : mapR (fun c => (o2, c)) (rdTabs false (restL t) (rdEnt (rdCh kn true 3) kn true) (ls.length + 1) ls []) = .error c0 := hr
          cases hq : rdTabs false (restL t) (rdEnt (rdCh kn true 3) kn true) (ls.length + 1) ls [] with
          | ok q => rw [hq] at hr'; cases hr'
          | error c =>
            rw [hq] at hr' hs
            injection hr' with hr'
            subst hr'
            match c, hs with
            | 0, ⟨S', i2, i3⟩ =>
              have i2' : run kn true [.chain 0 1 10 false] ls = .ok S' := i2
              rw [i2']
              dsimp only
              rw [if_pos, ← hrd]
              · rfl
              · rcases i3 with h | h
                · exact .inr h
                · exact .inl h
            | c + 1, i =>
              have i' : run kn true [.chain 0 1 10 false] ls = .error (c + 1) := i
              rw [i']
              dsimp only
              rw [← hrd]
        · rw [if_neg hol]
          split at hr
          · rename_i w o hw
            split at hr
            · rename_i hc
              exact absurd ((order_line l).mpr ⟨o, by rw [hw, hc.1], hc.2⟩) hol
            · injection hr with hr
              rw [← hrd, ← hr, Nat.sub_self]
          · injection hr with hr
            rw [← hrd, ← hr, Nat.sub_self]
end K82
set_option maxRecDepth 100000
set_option maxHeartbeats 1000000
namespace K82
open PySem PySem.Spec PyProof.Rows L2 Evl MB
section
variable {P : Program} {w : World} {K : PySem.W.Frag} {mg : Str → Option Value} {base : Heap} {aKn aWi aOw aLi aOn aOt : Addr}
/-! ### _law_pen -/
theorem ok_law_pen {f : Addr} {fd : FuncData} (F : Fun K "_law_pen" "_law_pen" s_law_pen f fd) (T : T0 K mg aKn aWi aOw aLi aOn aOt) : FnOk P w K mg base CX0 1 f fd p_law_pen (spPenX K) := by
  refine F.ok sc_law_pen (fun vs H Q E h => ?_) (fun cdv A outer s H vs Q E hr h => ?_)
  · obtain ⟨a, ns, rfl, _⟩ := h
    rfl
  · obtain ⟨a, ns, rfl, ha, k⟩ := h
    refine ⟨_, (pss_one (ps_ret (pe_disp (pps_cons pe_str (pe_callTy (MB.call_listK (K := K) rfl) (by rfl) T.n_list MB.bo_list (pa_cons (pe_slice (MB.sl_K (K := K) rfl) (pv 0) po_none (po_some pe_int)) pa_nil)) (pps_cons pe_str pe_int (pps_cons pe_str pe_int pps_nil))) (by rfl) (by rfl) (fun z => by cases z) (by decide)))), ?_⟩
    intro p hp
    have e0 : Ex H (upd H p (.dK [])) := Ex.new hp
    have hcut : cutV (ns.map V.int) none (some 63) = (ns.take 63).map V.int := by
      have := cut_nat V.int ns 0 63
      rw [List.drop_zero] at this
      exact this
    refine (els_sl (els_val (ev_var rfl) ha) eo_none (eo_some ev_c) : EvL _ _ H _) _ e0 _ fun c H1 hc e1 h1 => ?_
    refine ⟨c, _, rfl, .inl (sq_of h1), fun l hl => ⟨?_, [(.inr "cells", .ref l), (.inr "at", .int 0), (.inr "left", .int 0)], rfl, by show 3 ≤ 15; decide, ?_⟩⟩
    · have hp1 := e1 _ _ upd_same
      rw [upd_ne (ne_of_none hp1 hl)]
      exact hp1
    · have hp1 := e1 _ _ upd_same
      have hm : mergeK [] ([(.inr "cells", .ref l), (.inr "at", .int 0), (.inr "left", .int 0)] : List (Key × V)) = penL l 0 0 := by
        unfold mergeK
        show putK (putK (putK [] (Sum.inr "cells" : Key) (V.ref l)) (Sum.inr "at") (.int 0)) (Sum.inr "left") (.int 0) = _
        have q1 : putK [] (.inr "cells") (V.ref l) = [((.inr "cells" : Key), V.ref l)] := rfl
        have q2 : putK [((.inr "cells" : Key), V.ref l)] (.inr "at") (V.int 0) = [((.inr "cells" : Key), V.ref l), (.inr "at", .int 0)] := by
          unfold putK
          rw [if_neg (by simp only [List.any_cons, List.any_nil, decide_eq_false k_la]; decide)]
          rfl
        rw [q1, q2]
        unfold putK
        rw [if_neg (by simp only [List.any_cons, List.any_nil, decide_eq_false k_ll, decide_eq_false k_al]; decide)]
        rfl
      rw [hm]
      refine k p l _ (Ex.mut ((e0.trans e1).trans (Ex.new hl)) hp) hp ⟨(ns.take 63), 0, 0, ⟨by rw [upd_same]; rfl, ?_, ?_, Int.le_refl _, Int.le_refl _⟩, Int.le_refl _⟩
      · rw [upd_ne (Ne.symm (ne_of_none hp1 hl)), upd_same, hcut]
      · rw [List.length_take]
        omega
/-! ### _law_draw -/
theorem ok_law_draw {f : Addr} {fd : FuncData} (F : Fun K "_law_draw" "_law_draw" s_law_draw f fd) (T : T0 K mg aKn aWi aOw aLi aOn aOt) : FnOk P w K mg base CX0 1 f fd p_law_draw spDrawX := by
  refine F.ok sc_law_draw (fun vs H Q E h => ?_) (fun cdv A outer s H vs Q E hr h => ?_)
  · obtain ⟨p, lc, m, n, tb, rfl, _⟩ := h
    rfl
  · obtain ⟨p, lc, m, n, tb, rfl, hm0, hm1, ⟨cs, a, l, ⟨h1, h2, h3, ha0, hl0⟩, han⟩, hn, k⟩ := h
    have hu64 := hu64 hr
    have hu := hu_of hr
    have hne : lc ≠ p := fun z => by rw [z, h1] at h2; cases h2
    have hdiv : ∀ l : Int, CDivW l m := fun l => wide_div hm0 (b := 40) (by omega) (by decide) (by decide)
    refine ⟨_, (pss_cons (ps_if (pt_cmpR op_gt (pe_dget hu (pv 0) pe_str (fun _ _ => rfl)) pe_int (nomark _)) (pss_cons (ps_set (i := 2) sc_law_draw.nd rfl (Or.inl rfl) (pe_op op_mod (pe_dget hu (pv 0) pe_str (fun _ _ => rfl)) (pv 1)))
      (pss_cons (ps_dput hu (pv 0) pe_str (pe_op op_fdivW (pe_dget hu (pv 0) pe_str (fun _ _ => rfl)) (pv 1)) rfl)
      (pss_one (ps_ret (pv 2))))) pss_nil)
      (pss_cons (ps_set (i := 3) sc_law_draw.nd rfl (Or.inl rfl) (pe_dget hu (pv 0) pe_str (fun _ _ => rfl)))
      (pss_cons (ps_dput hu (pv 0) pe_str (pe_op (MB.op_addK (K := K) rfl) (pv 3) pe_int) rfl)
      (pss_cons (ps_set (i := 4) sc_law_draw.nd rfl (Or.inl rfl) (pe_op (MB.op_addK (K := K) rfl) (pe_op (MB.op_mulK (K := K) rfl) pe_int (pv 3)) pe_int))
      (Evl.pss_cut (ps_if (pt_cmpR (MB.op_neK (K := K) rfl hu64) (pe_dget hu (pv 0) pe_str (fun _ _ => rfl)) (pe_lst pa_nil) (nomark _)) (pss_one (ps_set (i := 4) sc_law_draw.nd rfl (Or.inl rfl) (pe_ix (MB.ix_K (K := K) rfl) (pe_dget hu (pv 0) pe_str (fun _ _ => rfl)) (pe_op op_mod (pv 3) (pe_callB (MB.call_lenK (K := K) rfl) (by rfl) T.n_len MB.bo_len (pa_cons (pe_dget hu (pv 0) pe_str (fun _ _ => rfl)) pa_nil))) (fun _ _ => rfl)))) pss_nil)
      (pss_cons (ps_if (PW.pt (pw_and (pt_cmpR op_lt (pv 3) (pe_callB (MB.call_lenK (K := K) rfl) (by rfl) T.n_len MB.bo_len (pa_cons (pe_dget hu (pv 0) pe_str (fun _ _ => rfl)) pa_nil)) (nomark _)) (pw_and1 (pt_cmpR op_ge (pe_callB call_abs (by rfl) T.n_abs MB.bo_abs (pa_cons (pv 4) pa_nil)) (pe_op op_pow pe_int pe_int) (nomark _))))) (pss_cons (ps_set (i := 5) sc_law_draw.nd rfl (Or.inl rfl) (pe_op (MB.op_addK (K := K) rfl) (pe_op (MB.op_mulK (K := K) rfl) pe_int (pe_callB call_abs (by rfl) T.n_abs MB.bo_abs (pa_cons (pv 4) pa_nil))) (pe_callTy MB.call_intA (by rfl) T.n_int MB.bo_int (pa_cons (pe_cmpR op_lt (pv 4) pe_int (nomark _)) pa_nil))))
      (pss_cons (ps_dput hu (pv 0) pe_str (pe_op op_fdivW (pv 5) (pv 1)) rfl)
      (pss_one (ps_ret (pe_op op_mod (pv 5) (pv 1)))))) pss_nil)
      (pss_cons (ps_set (i := 6) sc_law_draw.nd rfl (Or.inl rfl) (pe_op op_mod (pe_op op_pow (pe_op (MB.op_addK (K := K) rfl) (pe_op (MB.op_addK (K := K) rfl) (pe_op op_mod (pv 4) pe_int) (pe_op (MB.op_mulK (K := K) rfl) pe_int (pv 3))) pe_int) pe_int) pe_int))
      (pss_cons (ps_set (i := 7) sc_law_draw.nd rfl (Or.inl rfl) (pe_op op_mod (pe_op op_pow (pe_op (MB.op_addK (K := K) rfl) (pe_op (MB.op_mulK (K := K) rfl) (pv 6) (pe_op (MB.op_addK (K := K) rfl) (pv 3) pe_int)) (pe_op (MB.op_mulK (K := K) rfl) (pe_op (MB.op_mulK (K := K) rfl) pe_int (pv 3)) (pv 3))) pe_int) pe_int))
      (pss_one (ps_ret (pe_op op_mod (pe_op op_fdivW (pv 7) pe_int) (pv 1)))))))))))), ?_⟩
    refine q_ifN (b := decide (0 < l)) (et_test (ev_op (ev_dget (.inr "left") (ev_var rfl) h1 (penX_left lc a l tb)) ev_c rv_I0)) (fun hb H1 e1 => ?_) fun hb H1 e1 => ?_
    · -- the rest of a great cell
      refine q_asg (ev_op (ev_dget (.inr "left") (ev_var rfl) (e1 _ _ h1) (penX_left lc a l tb)) (ev_var rfl) (rv_I hm0)) fun H2 e2 => ?_
      refine q_dput (.inr "left") (ev_op (ev_dget (.inr "left") (ev_var rfl) ((e1.trans e2) _ _ h1) (penX_left lc a l tb)) (ev_var rfl) (rv_I (hdiv l))) (ev_var rfl) ((e1.trans e2) _ _ h1) (penX_len ..) fun H3 e3 => ?_
      rw [putX_left]
      have e03 := (e1.trans e2).trans e3
      refine s_ret (ev_var rfl) fun H4 e4 => k _ H4 (Int.emod_nonneg _ (by omega)) (Int.emod_lt_of_pos _ hm0) ⟨cs, a, l / m, ⟨e4 _ _ upd_same, e4 _ _ ?_, h3, ha0, Int.ediv_nonneg hl0 (by omega)⟩, by omega⟩ fun b o hb hbo => e4 _ _ ?_
      · rw [upd_ne hne]
        exact e03 _ _ h2
      · rw [upd_ne hb]
        exact e03 _ _ hbo
    refine q_asg (ev_dget (.inr "at") (ev_var rfl) (e1 _ _ h1) (penX_at lc a l tb)) fun H2 e2 => ?_
    refine q_dput (.inr "at") (ev_op (ev_var rfl) ev_c rv_addI) (ev_var rfl) ((e1.trans e2) _ _ h1) (penX_len ..) fun H3 e3 => ?_
    rw [putX_at]
    have e03 := (e1.trans e2).trans e3
    have hp4 : upd H3 p (.dK (penX lc (a + 1) l tb)) p = some (.dK (penX lc (a + 1) l tb)) := upd_same
    have hc4 : upd H3 p (.dK (penX lc (a + 1) l tb)) lc = some (.lst (cs.map V.int)) := by rw [upd_ne hne]; exact e03 _ _ h2
    have hb4 : But p H (upd H3 p (.dK (penX lc (a + 1) l tb))) := fun b o hb hbo => by rw [upd_ne hb]; exact e03 _ _ hbo
    revert hp4 hc4 hb4
    generalize upd H3 p (.dK (penX lc (a + 1) l tb)) = H4
    intro hp4 hc4 hb4
    refine q_asg (ev_op (ev_op ev_c (ev_var rfl) (rv_mulI (.inl (by decide)))) ev_c rv_addI) fun H5 e5 => ?_
    have hcl : (cs.map V.int).length = cs.length := List.length_map _
    refine ⟨fun σ' H' => ∃ c : Int, σ' = [some (.ref p), some (.int m), none, some (.int a), some (.int c), none, none, none] ∧ But p H H' ∧ H' p = some (.dK (penX lc (a + 1) l tb)) ∧ H' lc = some (.lst (cs.map V.int)), ?_, ?_⟩
    · refine s_ifN (b := !decide (cs = [])) (et_test ?_) (fun hb H6 e6 => ?_) fun hb H6 e6 => ?_
      · rw [← ints_ne_nil]
        exact ev_opL (ev_dget (.inr "cells") (ev_var rfl) (e5 _ _ hp4) (penX_cells lc _ l tb)) (el_lst ea_nil (by decide)) fun q H6 hq e6 => rv_neD (.lst (sq_of (e6 _ _ (e5 _ _ hc4))) (MB.dpAll_ints cs)) (.lst (sq_of hq) .nil) (PySem.W.ke_shaped_ints cs) rfl
      · have hcs : cs ≠ [] := by simpa using hb
        have hpos : 0 < cs.length := List.length_pos_iff.mpr hcs
        have hlt : (a % (cs.length : Int)).toNat < cs.length := by
          have := Int.emod_lt_of_pos a (b := (cs.length : Int)) (by omega)
          have := Int.emod_nonneg a (b := (cs.length : Int)) (by omega)
          omega
        have hat : atI (cs.map V.int) (a % (cs.length : Int)) = some (.int (cs[(a % (cs.length : Int)).toNat])) := by
          have h0 := Int.emod_nonneg a (b := (cs.length : Int)) (by omega)
          have hj : (((a % (cs.length : Int)).toNat : Nat) : Int) = a % (cs.length : Int) := by omega
          have h9 : atI (cs.map V.int) (((a % (cs.length : Int)).toNat : Nat) : Int) = some (.int (cs[(a % (cs.length : Int)).toNat])) := MB.atI_nat (by
            rw [List.getElem?_map, List.getElem?_eq_getElem hlt]
            rfl)
          rw [hj] at h9
          exact h9
        have e56 := e5.trans e6
        refine s_asg (ev_op (ev_dget (.inr "cells") (ev_var rfl) (e56 _ _ hp4) (penX_cells lc _ l tb)) (ev_op (ev_var rfl) (ev_cb1 (ev_dget (.inr "cells") (ev_var rfl) (e56 _ _ hp4) (penX_cells lc _ l tb)) (rc_lenL (sq_of (e56 _ _ hc4)))) (rv_I (by rw [hcl]; omega))) (rv_xL (sq_of (e56 _ _ hc4)) (by rw [hcl]; exact hat))) fun H7 e7 => ?_
        exact ⟨_, rfl, hb4.trans (.of (e56.trans e7)), (e56.trans e7) _ _ hp4, (e56.trans e7) _ _ hc4⟩
      · have e56 := e5.trans e6
        exact ⟨_, rfl, hb4.trans (.of e56), e56 _ _ hp4, e56 _ _ hc4⟩
    rintro σ' H6 ⟨c, rfl, hb6, hp6, hc6⟩
    have pen7 : ∀ H7, Ex H6 H7 → PenX H7 p lc (n + 1) tb := fun H7 e7 => ⟨cs, a + 1, l, ⟨e7 _ _ hp6, e7 _ _ hc6, h3, by omega, hl0⟩, by omega⟩
    have habs : 0 ≤ (if c < 0 then -c else c) := by
      by_cases h : c < 0
      · rw [if_pos h]; omega
      · rw [if_neg h]; omega
    refine q_ifN (b := decide (a < (cs.length : Int)) && decide ((10 : Int) ^ 18 ≤ (if c < 0 then -c else c))) (et_and (et_test ?_) fun _ => et_test ?_) (fun hb H7 e7 => ?_) fun hb H7 e7 => ?_
    · rw [← hcl]
      exact ev_op (ev_var rfl) (ev_cb1 (ev_dget (.inr "cells") (ev_var rfl) hp6 (penX_cells lc _ l tb)) (rc_lenL (sq_of hc6))) rv_I0
    · exact ev_op (ev_cb1 (ev_var rfl) rc_abs) (ev_op ev_c ev_c (rv_I ⟨by decide, by decide, by decide⟩)) rv_I0
    · -- a great cell
      refine q_asg (ev_op (ev_op ev_c (ev_cb1 (ev_var rfl) rc_abs) (rv_mulI (.inl (by decide)))) (ev_cb1 (ev_op (ev_var rfl) ev_c rv_I0) rc_intB) rv_addI) fun H8 e8 => ?_
      have hw0 : 0 ≤ 2 * (if c < 0 then -c else c) + (if decide (c < 0) = true then (1 : Int) else 0) := by
        have : (0 : Int) ≤ (if decide (c < 0) = true then (1 : Int) else 0) := by split <;> omega
        omega
      revert hw0
      generalize 2 * (if c < 0 then -c else c) + (if decide (c < 0) = true then (1 : Int) else 0) = wh
      intro hw0
      refine q_dput (.inr "left") (ev_op (ev_var rfl) (ev_var rfl) (rv_I (hdiv _))) (ev_var rfl) ((e7.trans e8) _ _ hp6) (penX_len ..) fun H9 e9 => ?_
      rw [putX_left]
      have e69 := (e7.trans e8).trans e9
      refine s_ret (ev_op (ev_var rfl) (ev_var rfl) (rv_I hm0)) fun H10 e10 => k _ H10 (Int.emod_nonneg _ (by omega)) (Int.emod_lt_of_pos _ hm0) ⟨cs, a + 1, wh / m, ⟨e10 _ _ upd_same, e10 _ _ ?_, h3, by omega, Int.ediv_nonneg hw0 (by omega)⟩, by omega⟩ fun b o hb hbo => e10 _ _ ?_
      · rw [upd_ne hne]
        exact e69 _ _ hc6
      · rw [upd_ne hb]
        exact e69 _ _ (hb6 _ _ hb hbo)
    · have hr1 := Int.emod_nonneg c (b := 2147483587) (by omega)
      have hr2 := Int.emod_lt_of_pos c (b := 2147483587) (by omega)
      refine q_asg (ev_op (ev_op (ev_op (ev_op (ev_op (ev_var rfl) ev_c (rv_I (by show (0 : Int) < 2147483587; decide))) (ev_op ev_c (ev_var rfl) (rv_mulI (.inl (by decide)))) rv_addI) ev_c rv_addI) ev_c (rv_I ⟨by decide, by decide, by omega⟩)) ev_c (rv_I (by show (0 : Int) < 2147483647; decide))) fun H8 e8 => ?_
      have ho1 := Int.emod_nonneg ((c % 2147483587 + 70913 * a + 53) ^ (5 : Int).toNat) (b := 2147483647) (by omega)
      have ho2 := Int.emod_lt_of_pos ((c % 2147483587 + 70913 * a + 53) ^ (5 : Int).toNat) (b := 2147483647) (by omega)
      revert ho1 ho2
      generalize (c % 2147483587 + 70913 * a + 53) ^ (5 : Int).toNat % 2147483647 = one
      intro ho1 ho2
      have hz : (one * (a + 65551) + 86291 * a * a).natAbs < 2 ^ 64 := by
        have q1 : 0 ≤ one * (a + 65551) := Int.mul_nonneg ho1 (by omega)
        have q2 : one * (a + 65551) ≤ 2147483647 * 1065551 := Int.mul_le_mul (by omega) (by omega) (by omega) (by omega)
        have q3 : 0 ≤ 86291 * a * a := Int.mul_nonneg (by omega) ha0
        have q4 : 86291 * a * a ≤ 86291000000 * 1000000 := Int.mul_le_mul (by omega) (by omega) ha0 (by omega)
        omega
      refine q_asg (ev_op (ev_op (ev_op (ev_op (ev_var rfl) (ev_op (ev_var rfl) ev_c rv_addI) (rv_mulI (.inl ⟨by omega, by omega⟩))) (ev_op (ev_op ev_c (ev_var rfl) (rv_mulI (.inl (by decide)))) (ev_var rfl) (rv_mulI (.inl ⟨by omega, by omega⟩))) rv_addI) ev_c (rv_I ⟨by decide, by decide, hz⟩)) ev_c (rv_I (by show (0 : Int) < 2147483477; decide))) fun H9 e9 => ?_
      refine s_ret (ev_op (ev_op (ev_var rfl) ev_c (rv_I (wide_div (b := 40) (by decide) (by decide) (by decide) (by decide)))) (ev_var rfl) (rv_I hm0)) fun H10 e10 => ?_
      have e610 := ((e7.trans e8).trans e9).trans e10
      exact k _ H10 (Int.emod_nonneg _ (by omega)) (Int.emod_lt_of_pos _ hm0) (pen7 _ e610) (hb6.trans (.of e610))
/-! ### _law_numbers -/
theorem ok_law_numbers {f : Addr} {fd : FuncData} (F : Fun K "_law_numbers" "_law_numbers" s_law_numbers f fd) (T : T0 K mg aKn aWi aOw aLi aOn aOt) (c_law_draw : MB.Cl P w K mg base 1 "_law_draw" spDrawX) : FnOk P w K mg base CX0 2 f fd p_law_numbers spNumbersX := by
  refine F.ok sc_law_numbers (fun vs H Q E h => ?_) (fun cdv A outer s H vs Q E hr h => ?_)
  · obtain ⟨p, lc, m, l, n, tb, rfl, _⟩ := h
    rfl
  · obtain ⟨p, lc, many, lim, n, tb, rfl, hm, hl0, hl1, hpen, hn, k⟩ := h
    refine ⟨_, (pss_cons (ps_set (i := 3) sc_law_numbers.nd rfl (Or.inr rfl) (pe_lst (pa_cons pe_int (pa_cons pe_int (pa_cons (pe_op op_sub (pv 2) pe_int) (pa_cons (pe_op op_fdiv (pv 2) pe_int) pa_nil))))))
      (pss_one (ps_ret (pe_callTy (MB.call_tupleK (K := K) rfl) (by rfl) T.n_tuple MB.bo_tuple (pa_cons (pe_lc (own := [("_law_k", 4)]) (by rfl) sc_law_numbers.nd (pi_range1 (by rfl) T.n_range (pa_cons (pv 1) pa_nil)) (blkOk_by (own := [("_law_k", 4)]) (N := n_law_numbers) (sc := defScope s_law_numbers) (by decide +kernel)) (fun _ _ _ _ _ => (pg_name (i := 4) sc_law_numbers.nd rfl (.inl rfl))) (fun _ _ _ _ _ => pts_nil) (fun _ _ _ _ _ => (pe_ix (MB.ix_K (K := K) rfl) (pe_lst (pa_cons (pe_ix (MB.ix_K (K := K) rfl) (pv 3) (MB.pe_cl c_law_draw hr (by decide) (by rfl) passL (pa_cons (pv 0) (pa_cons pe_int pa_nil))) (fun _ _ => rfl)) (pa_cons (MB.pe_cl c_law_draw hr (by decide) (by rfl) passL (pa_cons (pv 0) (pa_cons (pv 2) pa_nil))) pa_nil))) (MB.pe_cl c_law_draw hr (by decide) (by rfl) passL (pa_cons (pv 0) (pa_cons pe_int pa_nil))) (fun _ _ => rfl)))) pa_nil))))), ?_⟩
    refine q_asgL (el_lst (ea_cons ev_c (ea_cons ev_c (ea_cons (ev_op (ev_var rfl) ev_c rv_I0) (ea_cons (ev_op (ev_var rfl) ev_c (rv_I ⟨by decide, by decide⟩)) ea_nil)))) (by show 4 ≤ 100000; decide)) fun le H1 hle e1 h1 => ?_
    have hends : ∀ r : Int, 0 ≤ r → r < 4 → ∃ e : Nat, (e : Int) < lim ∧ atI ([V.int 0, V.int 1, V.int (lim - 1), V.int (lim / 2)] : List V) r = some (.int (e : Int)) := by
      intro r h0 h4
      have : r = 0 ∨ r = 1 ∨ r = 2 ∨ r = 3 := by omega
      rcases this with rfl | rfl | rfl | rfl
      · exact ⟨0, by omega, rfl⟩
      · exact ⟨1, by omega, rfl⟩
      · exact ⟨(lim - 1).toNat, by omega, by rw [show (((lim - 1).toNat : Nat) : Int) = lim - 1 by omega]; rfl⟩
      · exact ⟨(lim / 2).toNat, by omega, by rw [show (((lim / 2).toNat : Nat) : Int) = lim / 2 by omega]; rfl⟩
    have hpe := hpen.ex e1
    refine ⟨_, rfl, (many : Int), rfl, by omega, by omega, fun Dl hD => lc_range (lo := 0) (n := (many : Int).toNat) (fun i H' => ∃ ns : List Nat, ns.length = i ∧ (∀ x ∈ ns, (x : Int) < lim) ∧ H' Dl = some (.lst (ns.map fun (k : Nat) => V.int (k : Int))) ∧ PenX H' p lc (n + 3 * i) tb ∧ But p H1 H') ?_ ?_ ?_⟩
    · exact ⟨[], rfl, by simp, upd_same, hpe.ex (Ex.new hD), But.of (Ex.new hD)⟩
    · rintro i H2 hi ⟨ns, hnl, hns, hd2, hp2, hb2⟩
      rw [Int.toNat_natCast] at hi
      refine ⟨by rfl, ?_⟩
      refine t_yes ?_
      have hle2 : H2 le = some (.lst [V.int 0, V.int 1, V.int (lim - 1), V.int (lim / 2)]) := hb2 _ _ (hpe.ne h1) h1
      refine ⟨_, rfl, ev_drawX (m := 4) (ev_var rfl) ev_c (by decide) (by decide) hp2 (by omega) fun r H3 hr0 hr1 hp3 hb3 => ?_⟩
      obtain ⟨e, he, hat⟩ := hends r hr0 hr1
      refine .inl ⟨le, _, r, _, rfl, rfl, sq_of (hb3 _ _ (hp2.ne hle2) hle2), hat, ?_⟩
      refine ev_drawX (m := lim) (ev_var rfl) (ev_var rfl) (by omega) (by omega) hp3 (by omega) fun r2 H4 hr20 hr21 hp4 hb4 => ?_
      refine ⟨by show 2 ≤ sizeLine; decide, fun q hq => ?_⟩
      have hp5 := hp4.ex (Ex.new (o := .lst [V.int (e : Int), V.int r2]) hq)
      refine ev_drawX (m := 2) (ev_var rfl) ev_c (by decide) (by decide) hp5 (by omega) fun r3 H6 hr30 hr31 hp6 hb6 => ?_
      have hq6 : H6 q = some (.lst [V.int (e : Int), V.int r2]) := hb6 _ _ (hp5.ne upd_same) upd_same
      have hDp : Dl ≠ p := hp2.ne hd2
      have hd6 : H6 Dl = some (.lst (ns.map fun (k : Nat) => V.int (k : Int))) := hb6 _ _ hDp (by
        have hd4 := hb4 _ _ hDp (hb3 _ _ hDp hd2)
        rw [upd_ne (ne_of_none hd4 hq)]
        exact hd4)
      have hval : ∃ z : Nat, (z : Int) < lim ∧ atI ([V.int (e : Int), V.int r2] : List V) r3 = some (.int (z : Int)) := by
        have : r3 = 0 ∨ r3 = 1 := by omega
        rcases this with rfl | rfl
        · exact ⟨e, he, rfl⟩
        · exact ⟨r2.toNat, by omega, by rw [show ((r2.toNat : Nat) : Int) = r2 by omega]; rfl⟩
      obtain ⟨z, hz, hatz⟩ := hval
      refine .inl ⟨q, _, r3, _, rfl, rfl, sq_of hq6, hatz, _, hd6, ?_, ns ++ [z], ?_, ?_, ?_, ?_, ?_⟩
      · rw [List.length_map, hnl]
        have : (3500000 : Nat) ≤ sizeLine := by decide
        omega
      · rw [List.length_append, hnl]
        rfl
      · intro x hx
        rw [List.mem_append, List.mem_singleton] at hx
        rcases hx with hx | rfl
        · exact hns x hx
        · exact hz
      · rw [upd_same, List.map_append]
        rfl
      · exact (hp6.le (by omega)).upd (hpe.off hD).1 (hpe.off hD).2
      · refine But.mut ?_ hD
        exact ((((hb2.trans hb3).trans hb4).trans (But.of (Ex.new hq)))).trans hb6
    · rintro H2 ⟨ns, hnl, hns, hd2, hp2, hb2⟩
      rw [Int.toNat_natCast] at hnl hp2
      refine ⟨Dl, _, rfl, .inl ⟨sq_of hd2, fun q hq => ?_⟩⟩
      refine k ns q _ hnl hns ?_ upd_same (hp2.ex (Ex.new hq)) ((But.of e1).trans (hb2.trans (But.of (Ex.new hq))))
      exact fresh_back e1 (hb2.freshX hp2 hq)
end
end K82
set_option maxRecDepth 100000
set_option maxHeartbeats 1000000
namespace K82
open PySem PySem.Spec PyProof.Rows L2 Evl MB
section
variable {P : Program} {w : World} {K : PySem.W.Frag} {mg : Str → Option Value} {base : Heap} {aKn aWi aOw aLi aOn aOt : Addr}
/-! ### _law_right -/
theorem eqv_dT : ∀ a b : List Nat, PyData.eqv (dT a) (dT b) = true → a = b
  | [], [], _ => rfl
  | [], b :: bs, h => by
    unfold dT at h
    rw [List.map_nil, List.map_cons, PyData.eqv, PyData.eqvAll] at h
    cases h
  | a :: as, [], h => by
    unfold dT at h
    rw [List.map_nil, List.map_cons, PyData.eqv, PyData.eqvAll] at h
    cases h
  | a :: as, b :: bs, h => by
    unfold dT at h
    rw [List.map_cons, List.map_cons, PyData.eqv, PyData.eqvAll, PyData.eqv, Bool.and_eq_true] at h
    have h1 : (a : Int) = (b : Int) := by simpa using h.1
    have h2 := eqv_dT as bs (by unfold dT; rw [PyData.eqv]; exact h.2)
    rw [h2]
    congr 1
    omega
theorem ev_eqKn {σ : L2.St} {H : Hp} {te : TE} {ta : TA} {y : V} {kn : List Nat} (h : Ev te σ H y) (hy : KnAt K H y kn) (ha : EvA ta σ H ([1, 2, 3, 4, 5, 6].map iv)) : Ev (tOp (rEqA K) te (tTup ta)) σ H (.bl (PyData.eqv (dT kn) (dT [1, 2, 3, 4, 5, 6]))) :=
  ev_opU h (eu_tup ha (by show 6 ≤ 100000; decide)) fun p H1 hp e => by
    obtain ⟨a, rfl, hs, _⟩ := hy
    exact rv_eqD (dp_nums (ex_t e hs)) (dp_nums (st_of hp)) (shaped_dT kn) (shaped_dT _)
theorem ev_showN {σ : L2.St} {H : Hp} {E : XK} {t1 t2 : TE} {x y : V} {o kn : List Nat} {c : Ch 4} (h1 : Ev t1 σ H x) (h2 : Ev t2 σ H y) (hx : Dp K H x (dTree o c)) (hy : KnAt K H y kn) (g : gCh kn 4 c) (ho : o.length ≤ 10) (hm : mu (lCh 4 c) ≤ 3600000) :
    Ev (tCallN 1 1 (sp_show_tree K) (fun vs zs => vs ++ zs) E (tCons t1 tNil) (tCons t2 tNil)) σ H (tv (txt (lTree o c))) :=
  ev_callN (ea_cons h1 ea_nil) (ea_cons h2 ea_nil) rfl rfl fun H1 e1 Q q E => ⟨x, y, o, c, kn, rfl, dp_ex e1 _ _ hx, hy.ex e1, g, ho, hm, q⟩
theorem ev_showD {σ : L2.St} {H : Hp} {E : XK} {t1 : TE} {x y : V} {o kn : List Nat} {c : Ch 4} (h1 : Ev t1 σ H x) (hx : Dp K H x (dTree o c)) (hy : KnAt K H y kn) (g : gCh kn 4 c) (ho : o.length ≤ 10) (hm : mu (lCh 4 c) ≤ 3600000) :
    Ev (tCall (sp_show_tree K) [y] E (tCons t1 tNil)) σ H (tv (txt (lTree o c))) :=
  ev_call (ea_cons h1 ea_nil) fun H1 e1 Q q E => ⟨x, y, o, c, kn, rfl, dp_ex e1 _ _ hx, hy.ex e1, g, ho, hm, q⟩
/-- what is read is these data -/
def EvD (K : PySem.W.Frag) (te : TE) (σ : L2.St) (H : Hp) (d : PyData) : Prop := ∀ H1, Ex H H1 → ∀ Q : VK, (∀ v H2, Ex H1 H2 → Dp K H2 v d → Q v H2) → te σ H1 Q
theorem evd_readN {CN : Addr} {σ : L2.St} {H : Hp} {E : XK} {t1 t2 : TE} {y : V} {o kn : List Nat} {c : Ch 4} (h1 : Ev t1 σ H (tv (txt (lTree o c)))) (h2 : Ev t2 σ H y) (hy : KnAt K H y kn) (g : gCh kn 4 c) (ho : orderOk o = true) (hm : mu (lTree o c) < 3500000) :
    EvD K (tCallN 1 1 (sp_read_tree K CN) (fun vs zs => vs ++ zs) E (tCons t1 tNil) (tCons t2 tNil)) σ H (dTree o c) := fun H1 e Q q =>
  h1 H1 e _ fun H2 e2 => h2 H2 (e.trans e2) _ fun H3 e3 => ⟨rfl, rfl, _, y, rfl, .inl ⟨_, kn, rfl, by rw [txt_len]; exact hm, hy.ex ((e.trans e2).trans e3), by
    rw [readT_txt ho g]
    exact fun v H4 e4 hd => q v H4 ((e2.trans e3).trans e4) hd⟩⟩
theorem evd_readD {CN : Addr} {σ : L2.St} {H : Hp} {E : XK} {t1 : TE} {y : V} {o kn : List Nat} {c : Ch 4} (h1 : Ev t1 σ H (tv (txt (lTree o c)))) (hy : KnAt K H y kn) (g : gCh kn 4 c) (ho : orderOk o = true) (hm : mu (lTree o c) < 3500000) :
    EvD K (tCall (sp_read_tree K CN) [y] E (tCons t1 tNil)) σ H (dTree o c) := fun H1 e Q q =>
  h1 H1 e _ fun H2 e2 => ⟨_, y, rfl, .inl ⟨_, kn, rfl, by rw [txt_len]; exact hm, hy.ex (e.trans e2), by
    rw [readT_txt ho g]
    exact fun v H4 e4 hd => q v H4 (e2.trans e4) hd⟩⟩
theorem ev_reprD {σ : L2.St} {H : Hp} {te : TE} {o kn : List Nat} {c : Ch 4} (h : EvD K te σ H (dTree o c)) (g : gCh kn 4 c) (ho : orderOk o = true) (hm : mu (lCh 4 c) ≤ 61000) : Ev (tCB (rReprD K) (tCons te tNil)) σ H (.str (dTree o c).shown) := fun H1 e Q q =>
  h H1 e _ fun v H2 e2 hd => rc_reprTree hd g ho hm H2 (Ex.refl _) _ fun H3 e3 => q H3 (e2.trans e3)
theorem rv_neStr {K : PySem.W.Frag} {H : Hp} {z : Str} : RV (rNeA K) (.str z) (.str z) H (.bl false) := fun H1 _ _ q => .inl ⟨rfl, by
  have e : (!decide (V.str z = V.str z)) = false := by simp
  rw [e]
  exact q H1 (Ex.refl H1)⟩
theorem rv_eqStr {K : PySem.W.Frag} {H : Hp} {z : Str} : RV (rEqA K) (.str z) (.str z) H (.bl true) := fun H1 _ _ q => .inl ⟨rfl, by
  have e : decide (V.str z = V.str z) = true := by simp
  rw [e]
  exact q H1 (Ex.refl H1)⟩
theorem order_len {o : List Nat} (ho : orderOk o = true) : o.length ≤ 5 := by
  unfold orderOk at ho
  rw [Bool.or_eq_true, decide_eq_true_eq, decide_eq_true_eq] at ho
  rcases ho with rfl | rfl <;> decide
end
end K82
set_option maxRecDepth 100000
set_option maxHeartbeats 1000000
/-! plain facts: what is not known made raw; how much is drawn -/
namespace K82
open PySem PySem.Spec PyProof.Rows L2 Evl MB
abbrev ALL : List Nat := [1, 2, 3, 4, 5, 6]
section
variable {α β : Type}
def wlen : Wo α → Nat
  | .nums l => l.length
  | .text t => t.length
  | .pieces l => l.length
  | .chains l => l.length
def rawW (kn : List Nat) (rf : α → α) (tag kind : Nat) (x : Wo α) : Wo α :=
  if kind ∈ ALL ∧ kind ∉ kn then .nums ((List.range (wid kind * wlen x)).map fun k => (37 * k + tag) % 256)
  else match x with
    | .chains cs => .chains (cs.map rf)
    | y => y
def rawE (kn : List Nat) (rf : α → α) (e : Ent α) : Ent α := ⟨e.tag, e.kind, rawW kn rf e.tag e.kind e.w⟩
/-- few worths, at most m numbers -/
def smWo (m : Nat) (sa : α → Prop) : Wo α → Prop
  | .nums l => l.length ≤ m
  | .text t => t.length ≤ 10
  | .pieces ps => ps.length ≤ 3 ∧ ∀ p ∈ ps, p.length ≤ 8
  | .chains cs => cs.length ≤ 2 ∧ ∀ c ∈ cs, sa c
def nTw (na : α → Nat) : Wo α → Nat
  | .chains cs => (cs.map na).sum
  | _ => 0
def smTab (m : Nat) (sa : α → Prop) (t : List (Ent α)) : Prop := t.length ≤ 5 ∧ ∀ e ∈ t, smWo m sa e.w
def nTt (na : α → Nat) (t : List (Ent α)) : Nat := 1 + (t.map fun e => nTw na e.w).sum
end
def rawC (kn : List Nat) : (d : Nat) → Ch d → Ch d
  | 0, c => c
  | d + 1, c => (show List (List (Ent (Ch d))) from c).map (List.map (rawE kn (rawC kn d)))
def smCh (m : Nat) : (d : Nat) → Ch d → Prop
  | 0, _ => True
  | d + 1, c => ∀ t ∈ (show List (List (Ent (Ch d))) from c), smTab m (smCh m d) t
/-- how many tables -/
def nT : (d : Nat) → Ch d → Nat
  | 0, _ => 0
  | d + 1, c => ((show List (List (Ent (Ch d))) from c).map (nTt (nT d))).sum
theorem sum_eq {α : Type} {f g : α → Nat} : ∀ {l : List α}, (∀ x ∈ l, f x = g x) → (l.map f).sum = (l.map g).sum
  | [], _ => rfl
  | x :: l, h => by rw [List.map_cons, List.map_cons, List.sum_cons, List.sum_cons, h x (List.mem_cons_self ..), sum_eq fun y hy => h y (List.mem_cons_of_mem _ hy)]
theorem sum_mono {α : Type} {f g : α → Nat} : ∀ {l : List α}, (∀ x ∈ l, f x ≤ g x) → (l.map f).sum ≤ (l.map g).sum
  | [], _ => Nat.le_refl _
  | x :: l, h => by
    rw [List.map_cons, List.map_cons, List.sum_cons, List.sum_cons]
    have h1 := h x (List.mem_cons_self ..)
    have h2 := sum_mono fun y hy => h y (List.mem_cons_of_mem _ hy)
    omega
section
variable {α β : Type}
theorem smWo_m {m : Nat} {h : α → β} {sa : α → Prop} {sb : β → Prop} (k : ∀ a, sa a → sb (h a)) {x : Wo α} (q : smWo m sa x) : smWo m sb (mWo h x) := by
  cases x with
  | nums l => exact q
  | text l => exact q
  | pieces l => exact q
  | chains l =>
    refine ⟨by rw [List.length_map]; exact q.1, fun c hc => ?_⟩
    obtain ⟨y, hy, rfl⟩ := List.mem_map.mp hc
    exact k y (q.2 y hy)
theorem nTw_m {h : α → β} {na : α → Nat} {nb : β → Nat} (k : ∀ a, nb (h a) = na a) (x : Wo α) : nTw nb (mWo h x) = nTw na x := by
  cases x with
  | chains l =>
    show ((l.map h).map nb).sum = (l.map na).sum
    rw [List.map_map]
    exact sum_eq fun y _ => k y
  | _ => rfl
end
theorem smCh_lift (m : Nat) : ∀ (d : Nat) (c : Ch d), smCh m d c → smCh m (d + 1) (lift d c)
  | 0, _, _ => fun t ht => absurd ht List.not_mem_nil
  | d + 1, c, q => fun t ht => by
    obtain ⟨u, hu, rfl⟩ := List.mem_map.mp ht
    have g := q u hu
    refine ⟨by rw [List.length_map]; exact g.1, fun e he => ?_⟩
    obtain ⟨x, hx, rfl⟩ := List.mem_map.mp he
    exact smWo_m (smCh_lift m d) (g.2 x hx)
theorem nTt_m {α β : Type} {h : α → β} {na : α → Nat} {nb : β → Nat} (k : ∀ a, nb (h a) = na a) (c : List (List (Ent α))) : ((mCha h c).map (nTt nb)).sum = (c.map (nTt na)).sum := by
  unfold mCha
  rw [List.map_map]
  refine sum_eq fun t _ => ?_
  show 1 + ((t.map (mEnt h)).map fun e => nTw nb e.w).sum = 1 + (t.map fun e => nTw na e.w).sum
  rw [List.map_map]
  congr 1
  exact sum_eq fun e _ => nTw_m k e.w
theorem nT_lift : ∀ (d : Nat) (c : Ch d), nT (d + 1) (lift d c) = nT d c
  | 0, _ => rfl
  | d + 1, c => nTt_m (nT_lift d) c
/-! ### made raw -/
theorem wlen_le {α : Type} {g : α → Prop} {kind : Nat} {x : Wo α} (h : gWo ALL g kind x) : wlen x ≤ 1200 ∧ (kind ∈ ALL → wlen x ≤ 300) := by
  cases x with
  | nums l =>
    rcases h with ⟨h1, h2, h3, h4⟩ | ⟨h1, h2, h3, h4⟩
    · exact ⟨Nat.le_trans h3 (by decide), fun _ => h3⟩
    · refine ⟨?_, fun z => absurd z h1⟩
      have := wid_le kind
      show l.length ≤ _
      omega
  | text t => exact ⟨Nat.le_trans h.2.2.1 (by decide), fun _ => h.2.2.1⟩
  | pieces l => exact ⟨Nat.le_trans h.2.2.1 (by decide), fun _ => h.2.2.1⟩
  | chains l => exact ⟨Nat.le_trans h.2.2.1 (by decide), fun _ => h.2.2.1⟩
theorem gEnt_raw {α : Type} {kn : List Nat} {g1 g2 : α → Prop} {rf : α → α} (hk : Kn kn) (hr : ∀ a, g1 a → g2 (rf a)) {e : Ent α} (h : GEnt ALL g1 e) : GEnt kn g2 (rawE kn rf e) := by
  obtain ⟨tag, kind, x⟩ := e
  refine ⟨h.tag, h.kind, ?_⟩
  have gw := h.w
  show gWo kn g2 kind (rawW kn rf tag kind x)
  have hl := wlen_le gw
  unfold rawW
  by_cases hc : kind ∈ ALL ∧ kind ∉ kn
  · rw [if_pos hc]
    refine .inr ⟨hc.2, ?_, ?_, ?_⟩
    · rw [List.length_map, List.length_range, Nat.mul_comm]
      exact Nat.mul_le_mul_right _ (hl.2 hc.1)
    · rw [List.length_map, List.length_range]
      exact Nat.mul_mod_right _ _
    · intro n hn
      obtain ⟨k, _, rfl⟩ := List.mem_map.mp hn
      exact Nat.mod_lt _ (by decide)
  · rw [if_neg hc]
    have hin : kind ∈ ALL → kind ∈ kn := fun h1 => Classical.byContradiction fun h2 => hc ⟨h1, h2⟩
    have hall : kind ∈ kn → kind ∈ ALL := fun h1 => by
      have := hk.six kind h1
      have : kind = 1 ∨ kind = 2 ∨ kind = 3 ∨ kind = 4 ∨ kind = 5 ∨ kind = 6 := by omega
      simpa using this
    cases x with
    | nums l =>
      rcases gw with ⟨h1, h2, h3, h4⟩ | ⟨h1, h2, h3, h4⟩
      · exact .inl ⟨hin h1, h2, h3, h4⟩
      · exact .inr ⟨fun z => h1 (hall z), h2, h3, h4⟩
    | text t =>
      obtain ⟨rfl, h1, h2, h3⟩ := gw
      exact ⟨rfl, hin h1, h2, h3⟩
    | pieces l =>
      obtain ⟨rfl, h1, h2, h3⟩ := gw
      exact ⟨rfl, hin h1, h2, h3⟩
    | chains l =>
      obtain ⟨rfl, h1, h2, h3⟩ := gw
      refine ⟨rfl, hin h1, by rw [List.length_map]; exact h2, fun c hc => ?_⟩
      obtain ⟨y, hy, rfl⟩ := List.mem_map.mp hc
      exact hr y (h3 y hy)
theorem gCh_raw {kn : List Nat} (hk : Kn kn) : ∀ (d : Nat) (c : Ch d), gCh ALL d c → gCh kn d (rawC kn d c)
  | 0, _, _ => trivial
  | d + 1, c, g => by
    have g' : GCha ALL (gCh ALL d) c := g
    refine (⟨?_, fun t ht => ?_⟩ : GCha kn (gCh kn d) ((show List (List (Ent (Ch d))) from c).map (List.map (rawE kn (rawC kn d)))))
    · rw [List.length_map]
      exact g'.few
    · obtain ⟨u, hu, rfl⟩ := List.mem_map.mp ht
      have gu := g'.all u hu
      refine ⟨by rw [List.length_map]; exact gu.few, fun e he => ?_, List.pairwise_map.mpr gu.up⟩
      obtain ⟨x, hx, rfl⟩ := List.mem_map.mp he
      exact gEnt_raw hk (gCh_raw hk d) (gu.all x hx)
theorem sm_raw {kn : List Nat} : ∀ (d : Nat) (c : Ch d), smCh 40 d c → smCh 160 d (rawC kn d c) ∧ nT d (rawC kn d c) ≤ nT d c
  | 0, _, _ => ⟨trivial, Nat.le_refl _⟩
  | d + 1, c, q => by
    have hw : ∀ (tag kind : Nat) (x : Wo (Ch d)), smWo 40 (smCh 40 d) x → smWo 160 (smCh 160 d) (rawW kn (rawC kn d) tag kind x) ∧ nTw (nT d) (rawW kn (rawC kn d) tag kind x) ≤ nTw (nT d) x := by
      intro tag kind x hx
      unfold rawW
      by_cases hc : kind ∈ ALL ∧ kind ∉ kn
      · rw [if_pos hc]
        refine ⟨?_, Nat.zero_le _⟩
        show List.length _ ≤ 160
        rw [List.length_map, List.length_range]
        have h4 := wid_le kind
        have hl : wlen x ≤ 40 := by
          cases x with
          | nums l => exact hx
          | text l => exact Nat.le_trans hx (by decide)
          | pieces l => exact Nat.le_trans hx.1 (by decide)
          | chains l => exact Nat.le_trans hx.1 (by decide)
        exact Nat.mul_le_mul h4 hl
      · rw [if_neg hc]
        cases x with
        | nums l => exact ⟨Nat.le_trans hx (by decide), Nat.le_refl _⟩
        | text l => exact ⟨hx, Nat.le_refl _⟩
        | pieces l => exact ⟨hx, Nat.le_refl _⟩
        | chains l =>
          refine ⟨⟨by rw [List.length_map]; exact hx.1, fun y hy => ?_⟩, ?_⟩
          · obtain ⟨z, hz, rfl⟩ := List.mem_map.mp hy
            exact (sm_raw d z (hx.2 z hz)).1
          · show ((l.map (rawC kn d)).map (nT d)).sum ≤ (l.map (nT d)).sum
            rw [List.map_map]
            exact sum_mono fun z hz => (sm_raw d z (hx.2 z hz)).2
    constructor
    · intro t ht
      obtain ⟨u, hu, rfl⟩ := List.mem_map.mp ht
      have g := q u hu
      refine ⟨by rw [List.length_map]; exact g.1, fun e he => ?_⟩
      obtain ⟨x, hx, rfl⟩ := List.mem_map.mp he
      exact (hw _ _ _ (g.2 x hx)).1
    · show (((show List (List (Ent (Ch d))) from c).map (List.map (rawE kn (rawC kn d)))).map (nTt (nT d))).sum ≤ ((show List (List (Ent (Ch d))) from c).map (nTt (nT d))).sum
      rw [List.map_map]
      refine sum_mono fun t ht => ?_
      show 1 + ((t.map (rawE kn (rawC kn d))).map fun e => nTw (nT d) e.w).sum ≤ 1 + (t.map fun e => nTw (nT d) e.w).sum
      rw [List.map_map]
      exact Nat.add_le_add_left (sum_mono fun e he => (hw _ _ _ ((q t ht).2 e he)).2) 1
/-! ### how long the lines are -/
theorem sum_le_len {α : Type} {f : α → Nat} {b : Nat} : ∀ {l : List α}, (∀ x ∈ l, f x ≤ b) → (l.map f).sum ≤ l.length * b
  | [], _ => Nat.zero_le _
  | x :: l, h => by
    have h1 := h x (List.mem_cons_self ..)
    have h2 := sum_le_len fun y hy => h y (List.mem_cons_of_mem _ hy)
    rw [List.map_cons, List.sum_cons, List.length_cons, Nat.add_mul]
    omega
theorem sum_add {α : Type} (f g : α → Nat) : ∀ l : List α, (l.map fun x => f x + g x).sum = (l.map f).sum + (l.map g).sum
  | [] => rfl
  | x :: l => by rw [List.map_cons, List.map_cons, List.map_cons, List.sum_cons, List.sum_cons, List.sum_cons, sum_add f g l]; omega
theorem mu_ent {α : Type} {lc : α → Ls} {kn : List Nat} {g sa : α → Prop} {na : α → Nat} {e : Ent α} (ge : GEnt kn g e) (hs : smWo 160 sa e.w) (hl : ∀ c, g c → sa c → mu (lc c) ≤ 9100 * na c) : mu (lEnt lc e) ≤ 1800 + 9100 * nTw na e.w := by
  obtain ⟨tag, kind, x⟩ := e
  have gw := ge.w
  have ht : (TL.numL tag).length ≤ 5 := TL.numL_len (by decide) (Nat.lt_of_le_of_lt ge.tag (by decide))
  cases x with
  | nums ns =>
    have hs : ns.length ≤ 160 := hs
    have hlt : ∀ n ∈ tag :: kind :: ns, n < 10 ^ 10 := fun n hn => by
      rcases List.mem_cons.mp hn with rfl | hn
      · exact Nat.lt_of_le_of_lt ge.tag (by decide)
      · rcases List.mem_cons.mp hn with rfl | hn
        · exact Nat.lt_of_le_of_lt ge.kind (by decide)
        · rcases gw with ⟨_, _, _, h⟩ | ⟨_, _, _, h⟩
          · exact Nat.lt_of_lt_of_le (h n hn) (Nat.le_trans (lim_le _) (by decide))
          · exact Nat.lt_trans (h n hn) (by decide)
    have h1 := ntext_le (b := 10) (by decide) hlt
    rw [List.length_cons, List.length_cons] at h1
    show mu [ln (co "entry") (tag :: kind :: ns)] ≤ 1800 + 9100 * 0
    rw [mu_cons, mu_nil, ln_ntext, List.length_append]
    have : (co "entry").length = 5 := rfl
    omega
  | text t =>
    have hs : t.length ≤ 10 := hs
    show mu [co "text " ++ TL.numL tag ++ 32 :: t] ≤ 1800 + 9100 * 0
    rw [mu_cons, mu_nil, List.length_append, List.length_append, List.length_cons]
    have : (co "text ").length = 5 := rfl
    omega
  | pieces ps =>
    have h1 : mu (ps.flatMap fun p => [ln (co "piece") p]) ≤ ps.length * 40 := by
      rw [mu_flatMap]
      refine sum_le_len fun p hp => ?_
      have h2 := ntext_le (b := 3) (by decide) (ns := p) fun n hn => Nat.lt_trans ((gw.2.2.2 p hp).2 n hn) (by decide)
      have h3 := hs.2 p hp
      rw [mu_cons, mu_nil, ln_ntext, List.length_append]
      have : (co "piece").length = 5 := rfl
      omega
    have h2 : ps.map (ln (co "piece")) = ps.flatMap fun p => [ln (co "piece") p] := by
      clear hs gw ge h1
      induction ps with
      | nil => rfl
      | cons p ps ih => rw [List.map_cons, List.flatMap_cons, ih]; rfl
    have h3 := hs.1
    show mu ((co "pieces " ++ TL.numL tag) :: (ps.map (ln (co "piece")) ++ [co "end"])) ≤ 1800 + 9100 * 0
    rw [mu_cons, mu_append, List.length_append, h2]
    have h7 : (co "pieces ").length = 7 := rfl
    have h8 : mu [co "end"] = 4 := rfl
    omega
  | chains cs =>
    have h1 : mu (cs.flatMap fun c => co "chain" :: (lc c ++ [co "done"])) ≤ cs.length * 11 + 9100 * (cs.map na).sum := by
      rw [mu_flatMap, ← sum_mul]
      refine Nat.le_trans (sum_mono (g := fun c => 11 + 9100 * na c) fun c hc => ?_) ?_
      · have h2 := hl c (gw.2.2.2 c hc) (hs.2 c hc)
        rw [mu_cons, mu_append]
        have h5 : (co "chain").length = 5 := rfl
        have h6 : mu [co "done"] = 5 := rfl
        omega
      · rw [sum_add]
        refine Nat.add_le_add_right (sum_le_len fun _ _ => Nat.le_refl _) _
    have h3 := hs.1
    show mu ((co "chains " ++ TL.numL tag) :: ((cs.flatMap fun c => co "chain" :: (lc c ++ [co "done"])) ++ [co "end"])) ≤ 1800 + 9100 * (cs.map na).sum
    rw [mu_cons, mu_append, List.length_append]
    have h7 : (co "chains ").length = 7 := rfl
    have h8 : mu [co "end"] = 4 := rfl
    omega
theorem mu_ch (kn : List Nat) : ∀ (d : Nat) (c : Ch d), gCh kn d c → smCh 160 d c → mu (lCh d c) ≤ 9100 * nT d c
  | 0, _, _, _ => Nat.le_refl _
  | d + 1, c, g, q => by
    have g' : GCha kn (gCh kn d) c := g
    show mu ((show List (List (Ent (Ch d))) from c).flatMap (lTab (lCh d))) ≤ 9100 * ((show List (List (Ent (Ch d))) from c).map (nTt (nT d))).sum
    rw [mu_flatMap, ← sum_mul]
    refine sum_mono fun t ht => ?_
    have gt := g'.all t ht
    have st := q t ht
    have h1 : mu (t.flatMap (lEnt (lCh d))) ≤ t.length * 1800 + 9100 * (t.map fun e => nTw (nT d) e.w).sum := by
      rw [mu_flatMap, ← sum_mul]
      refine Nat.le_trans (sum_mono (g := fun e => 1800 + 9100 * nTw (nT d) e.w) fun e he => mu_ent (gt.all e he) (st.2 e he) (mu_ch kn d)) ?_
      rw [sum_add]
      exact Nat.add_le_add_right (sum_le_len fun _ _ => Nat.le_refl _) _
    have h2 := st.1
    unfold lTab nTt
    rw [mu_cons, mu_append]
    have h7 : (co "table").length = 5 := rfl
    have h8 : mu [co "end"] = 4 := rfl
    omega
end K82
set_option maxRecDepth 100000
set_option maxHeartbeats 1000000
namespace K82
open PySem PySem.Spec PyProof.Rows L2 Evl MB
section
variable {P : Program} {w : World} {K : PySem.W.Frag} {mg : Str → Option Value} {base : Heap} {aKn aWi aOw aLi aOn aOt : Addr}
/-- a def that is never called keeps any promise that asks the impossible -/
theorem fn_never {k : Nat} {f : Addr} {fd : FuncData} {ps : List Str} : FnOk P w K mg base CX0 k f fd ps (fun _ _ _ _ => False) := ⟨fun _ _ _ _ h => h.elim, fun _ _ _ _ _ _ _ _ _ _ _ _ _ h => h.elim⟩
section
variable {α : Type} {te tl : TE} {σ : L2.St} {H : Hp} {ds' : List PyData}
/-- a new list of such data -/
def EvAcc (K : PySem.W.Frag) (te : TE) (σ : L2.St) (H : Hp) (ds' : List PyData) : Prop := ∀ H1, Ex H H1 → ∀ Q : VK, (∀ p H2, H1 p = none → Ex H1 H2 → (∃ vs, H2 p = some (.lst vs) ∧ DpAll K H2 vs ds') → Q (.ref p) H2) → te σ H1 Q
theorem evd_tuple (h : EvAcc K te σ H ds') : EvD K (tCB (rTupleK K) (tCons te tNil)) σ H (.tuple ds') := fun H1 e Q q =>
  h H1 e _ fun p H2 hp e2 ⟨vs, h1, h2⟩ => ⟨p, vs, rfl, .inl ⟨sq_of h1, fun l hl => q _ _ (e2.trans (Ex.new hl)) (.tup (st_of upd_same) (dpAll_ex (Ex.new hl) _ _ h2))⟩⟩
/-- [te for x in a tuple], each turn some data -/
theorem el_lcD {j : Nat} {vs : List Nat} {ds : List α} (f : α → V) (dv : α → PyData) (ht : ∀ x, tupd (dv x) = true) (h : EvTp K tl σ H (ds.map f)) (hz : ds.length ≤ 1000000) (hw : ∀ x, wipe ((wipe σ vs).set j (some x)) vs = wipe σ vs)
    (he : ∀ d ∈ ds, EvD K te ((wipe σ vs).set j (some (f d))) H (dv d)) : EvAcc K (tLc (iTup K tl) (gName j) tYes te vs) σ H (ds.map dv) := fun H0 e Q q =>
  h H0 e _ fun a H1 e1 ha => ⟨a, rfl, ⟨_, ha⟩, fun Dl hD =>
    lc_tup (xs := ds.map f) (fun i H' => Ex H1 H' ∧ ∃ ws : List V, H' Dl = some (.lst ws) ∧ ws.length = i ∧ DpAll K H' ws ((ds.take i).map dv)) ⟨Ex.new hD, [], upd_same, rfl, .nil⟩ (fun i H' _ p => ex_t p.1 ha) (fun i x H' hi p => by
      rw [List.getElem?_map, Option.map_eq_some_iff] at hi
      obtain ⟨d, hd, rfl⟩ := hi
      have hm : d ∈ ds := List.mem_of_getElem? hd
      have hlt := (List.getElem?_eq_some_iff.mp hd).1
      obtain ⟨p1, ws, p2, p3, p4⟩ := p
      refine ⟨hw _, t_yes (he d hm H' ((e.trans e1).trans p1) _ fun v H4 e4 hv => ⟨ws, e4 _ _ p2, ?_, Ex.mut (p1.trans e4) hD, ws ++ [v], upd_same, by rw [List.length_append, p3]; rfl, ?_⟩)⟩
      · have : (1000000 : Nat) < sizeLine := by decide
        omega
      · have hb : But Dl H4 (L2.upd H4 Dl (.lst (ws ++ [v]))) := fun b o hb ho => by rw [upd_ne hb]; exact ho
        have hn := NoTup.lst (e4 _ _ p2)
        rw [List.take_succ, hd, List.map_append]
        exact dpAll_snoc (dpAll_but hn hb _ _ (tupdAll_map ht _) (dpAll_ex e4 _ _ p4)) (dp_but hn hb _ _ (ht d) hv)) (fun H' p => by
      obtain ⟨p1, ws, p2, p3, p4⟩ := p
      rw [List.length_map, List.take_length] at p4
      exact q Dl H' (fresh_back e1 hD) (e1.trans p1) ⟨ws, p2, p4⟩)⟩
theorem dpAll_len : ∀ {vs : List V} {ds : List PyData}, DpAll K H vs ds → vs.length = ds.length
  | _, _, .nil => rfl
  | _, _, .cons _ h => by rw [List.length_cons, List.length_cons, dpAll_len h]
theorem s_asgD {d : PyData} {i : Nat} {D : Ends} (h : EvD K te σ H d) (k : ∀ v H1, Ex H H1 → Dp K H1 v d → D.nx (σ.set i (some v)) H1) : tAsg te (gName i) D σ H := h H (Ex.refl H) _ k
theorem q_asgD {d : PyData} {i : Nat} {D : Ends} {tz : TS} (h : EvD K te σ H d) (k : ∀ v H1, Ex H H1 → Dp K H1 v d → tz D (σ.set i (some v)) H1) : tSeq (tAsg te (gName i)) tz D σ H := h H (Ex.refl H) _ k
theorem s_retD {d : PyData} {D : Ends} (h : EvD K te σ H d) (k : ∀ v H1, Ex H H1 → Dp K H1 v d → D.rt v H1) : tRet te D σ H := h H (Ex.refl H) _ k
theorem rc_lenW {f : α → PyData} {v : V} {x : Wo α} (h : Dp K H v (dWo f x)) (hl : wlen x ≤ 1000000) : RC (rLenA K) [v] H (.int (wlen x : Int)) := by
  have tupc : ∀ {ds : List PyData} {n : Nat}, Dp K H v (.tuple ds) → ds.length = n → RC (rLenA K) [v] H (.int (n : Int)) := fun {ds n} h hn => by
    obtain ⟨a, xs, rfl, hs, hd⟩ := dp_tup h
    have e := dpAll_len hd
    have := rc_lenT (K := K) hs
    rw [e, hn] at this
    exact this
  cases x with
  | nums l => exact tupc h (List.length_map _)
  | pieces l => exact tupc h (List.length_map _)
  | chains l => exact tupc h (List.length_map _)
  | text t =>
    cases h
    exact rc_lenS (Nat.le_trans hl (by decide))
end
/-! ### _law_rawed -/
def sp_rawed (K : PySem.W.Frag) (d : Nat) : Sp := fun vs H Q _ => ∃ (x y : V) (c : Ch d) (kn : List Nat), vs = [x, y] ∧ Dp K H x (dCh d c) ∧ KnAt K H y kn ∧ gCh ALL d c ∧ ∀ v H', Ex H H' → Dp K H' v (dCh d (rawC kn d c)) → Q v H'
theorem wid_at {k : Nat} (h : k ∈ ALL) : atI ([V.int 1, V.int 2, V.int 4, V.int 1, V.int 4, V.int 4] : List V) (((k - 1 : Nat) : Int)) = some (iv (wid k)) := by
  have : k = 1 ∨ k = 2 ∨ k = 3 ∨ k = 4 ∨ k = 5 ∨ k = 6 := by simpa using h
  rcases this with rfl | rfl | rfl | rfl | rfl | rfl <;> rfl
theorem ok_law_rawed0 {sp : Sp} {f : Addr} {fd : FuncData} (F : Fun K "_law_rawed" "_law_rawed" s_law_rawed f fd) (T : T0 K mg aKn aWi aOw aLi aOn aOt) (c_law_rawed : MB.Cl P w K mg base 1 "_law_rawed" sp) : FnOk P w K mg base CX0 2 f fd p_law_rawed (sp_rawed K 0) := by
  refine F.ok sc_law_rawed (fun vs H Q E h => ?_) (fun cdv A outer s H vs Q E hr h => ?_)
  · obtain ⟨x, y, c, kn, rfl, _⟩ := h
    rfl
  · obtain ⟨x, y, c, kn, rfl, hx, hy, g, k⟩ := h
    obtain ⟨a, xs, rfl, hs, hd⟩ := dp_tup (show Dp K H x (.tuple []) from hx)
    cases hd
    have hu64 := hu64 hr
    refine ⟨_, (pss_cons (ps_set (i := 2) sc_law_rawed.nd rfl (Or.inl rfl) (pe_lst pa_nil))
      (pss_cons (ps_for PassesOwn.never rfl (MB.pi_tupK (K := K) rfl (pv 0)) (pg_name (i := 3) sc_law_rawed.nd rfl (.inl rfl))
      (pss_cons (ps_set (i := 4) sc_law_rawed.nd rfl (Or.inl rfl) (pe_lst pa_nil))
      (pss_cons (ps_for PassesOwn.never rfl (MB.pi_tupK (K := K) rfl (pv 3)) (MB.pg_tupK (K := K) (n := 3) rfl rfl (pgs_cons (pg_name (i := 5) sc_law_rawed.nd rfl (.inr rfl)) (pgs_cons (pg_name (i := 6) sc_law_rawed.nd rfl (.inl rfl)) (pgs_cons (pg_name (i := 7) sc_law_rawed.nd rfl (.inl rfl)) pgs_nil))))
      (Evl.pss_cut (ps_if (PW.pt (pw_and (pt_cmpR (MB.op_inK (K := K) rfl) (pv 6) (pe_tup (pa_cons pe_int (pa_cons pe_int (pa_cons pe_int (pa_cons pe_int (pa_cons pe_int (pa_cons pe_int pa_nil))))))) rfl) (pw_and1 (pt_cmpR (MB.op_niK (K := K) rfl) (pv 6) (pv 1) rfl)))) (pss_cons (ps_set (i := 8) sc_law_rawed.nd rfl (Or.inl rfl) (pe_ix (MB.ix_K (K := K) rfl) (pe_lst (pa_cons pe_int (pa_cons pe_int (pa_cons pe_int (pa_cons pe_int (pa_cons pe_int (pa_cons pe_int pa_nil))))))) (pe_op op_sub (pv 6) pe_int) (fun _ _ => rfl)))
      (pss_one (ps_set (i := 7) sc_law_rawed.nd rfl (Or.inl rfl) (pe_callTy (MB.call_tupleK (K := K) rfl) (by rfl) T.n_tuple MB.bo_tuple (pa_cons (pe_lc (own := [("_law_k", 9)]) (by rfl) sc_law_rawed.nd (pi_range1 (by rfl) T.n_range (pa_cons (pe_op (MB.op_mulK (K := K) rfl) (pv 8) (pe_callB (MB.call_lenK (K := K) rfl) (by rfl) T.n_len MB.bo_len (pa_cons (pv 7) pa_nil))) pa_nil)) (blkOk_by (own := [("_law_k", 9)]) (N := n_law_rawed) (sc := defScope s_law_rawed) (by decide +kernel)) (fun _ _ _ _ _ => (pg_name (i := 9) sc_law_rawed.nd rfl (.inl rfl))) (fun _ _ _ _ _ => pts_nil) (fun _ _ _ _ _ => (pe_op op_mod (pe_op (MB.op_addK (K := K) rfl) (pe_op (MB.op_mulK (K := K) rfl) pe_int (pv 9)) (pv 5)) pe_int))) pa_nil))))) (pss_one (ps_if (pt_cmpR (MB.op_eqK (K := K) rfl hu64) (pv 6) pe_int (nomark _)) (pss_one (ps_set (i := 7) sc_law_rawed.nd rfl (Or.inl rfl) (pe_callTy (MB.call_tupleK (K := K) rfl) (by rfl) T.n_tuple MB.bo_tuple (pa_cons (pe_lc (own := [("_law_inner", 10)]) (by rfl) sc_law_rawed.nd (MB.pi_tupK (K := K) rfl (pv 7)) (blkOk_by (own := [("_law_inner", 10)]) (N := n_law_rawed) (sc := defScope s_law_rawed) (by decide +kernel)) (fun _ _ _ _ _ => (pg_name (i := 10) sc_law_rawed.nd rfl (.inl rfl))) (fun _ _ _ _ _ => pts_nil) (fun _ _ _ _ _ => (MB.pe_cl c_law_rawed hr (by omega) (by rfl) passL (pa_cons (pv 10) (pa_cons (pv 1) pa_nil))))) pa_nil)))) pss_nil)))
      (pss_one (ps_expr (pe_bm PySem.F.plainAttrs_list PySem.F.slot_list_append PySem.F.type_list_append mt_append (pv 4) (pa_cons (pe_tup (pa_cons (pv 5) (pa_cons (pv 6) (pa_cons (pv 7) pa_nil)))) pa_nil))))))
      (pss_one (ps_expr (pe_bm PySem.F.plainAttrs_list PySem.F.slot_list_append PySem.F.type_list_append mt_append (pv 2) (pa_cons (pe_callTy (MB.call_tupleK (K := K) rfl) (by rfl) T.n_tuple MB.bo_tuple (pa_cons (pv 4) pa_nil)) pa_nil)))))))
      (pss_one (ps_ret (pe_callTy (MB.call_tupleK (K := K) rfl) (by rfl) T.n_tuple MB.bo_tuple (pa_cons (pv 2) pa_nil)))))), ?_⟩
    refine q_asgL (el_lst ea_nil (by decide)) fun fl H1 hfl e1 h1 => ?_
    refine q_forT (ev_var rfl) (ex_t e1 hs) (fun i σ' H' => i = 0 ∧ σ' = (start n_law_rawed [.ref a, y]).set 2 (some (.ref fl)) ∧ Ex H1 H') (fun H2 e2 => ⟨rfl, rfl, e2⟩) (fun i σ' H' _ h => ex_t (e1.trans h.2.2) hs) (fun i x σ' H' hi h => absurd hi (by simp)) fun σ' H' h => ?_
    obtain ⟨_, rfl, e2⟩ := h
    exact s_retTup (ev_var rfl) (e2 _ _ h1) fun q H3 hq e3 h3 => k _ H3 ((e1.trans e2).trans e3) (.tup (st_of h3) .nil)
theorem ok_law_rawedS {d : Nat} {f : Addr} {fd : FuncData} (F : Fun K "_law_rawed" "_law_rawed" s_law_rawed f fd) (T : T0 K mg aKn aWi aOw aLi aOn aOt) (c_law_rawed : MB.Cl P w K mg base (d + 2) "_law_rawed" (sp_rawed K d)) : FnOk P w K mg base CX0 (d + 3) f fd p_law_rawed (sp_rawed K (d + 1)) := by
  refine F.ok sc_law_rawed (fun vs H Q E h => ?_) (fun cdv A outer s H vs Q E hr h => ?_)
  · obtain ⟨x, y, c, kn, rfl, _⟩ := h
    rfl
  · obtain ⟨x, y, (c : List (Tab d)), kn, rfl, hx, hy, (g : GCha ALL (gCh ALL d) c), k⟩ := h
    have k : ∀ v H', Ex H H' → Dp K H' v (.tuple ((c.map (List.map (rawE kn (rawC kn d)))).map (dTab (dCh d)))) → Q v H' := k
    obtain ⟨a, zs, rfl, hs, rfl, hz⟩ := dp_zip (show Dp K H x (.tuple (c.map (dTab (dCh d)))) from hx)
    have hu64 := hu64 hr
    have hzl : zs.length ≤ 10 := by have := g.few; rw [List.length_map] at this; exact this
    refine ⟨_, (pss_cons (ps_set (i := 2) sc_law_rawed.nd rfl (Or.inl rfl) (pe_lst pa_nil))
      (pss_cons (ps_for PassesOwn.never rfl (MB.pi_tupK (K := K) rfl (pv 0)) (pg_name (i := 3) sc_law_rawed.nd rfl (.inl rfl))
      (pss_cons (ps_set (i := 4) sc_law_rawed.nd rfl (Or.inl rfl) (pe_lst pa_nil))
      (pss_cons (ps_for PassesOwn.never rfl (MB.pi_tupK (K := K) rfl (pv 3)) (MB.pg_tupK (K := K) (n := 3) rfl rfl (pgs_cons (pg_name (i := 5) sc_law_rawed.nd rfl (.inr rfl)) (pgs_cons (pg_name (i := 6) sc_law_rawed.nd rfl (.inl rfl)) (pgs_cons (pg_name (i := 7) sc_law_rawed.nd rfl (.inl rfl)) pgs_nil))))
      (Evl.pss_cut (ps_if (PW.pt (pw_and (pt_cmpR (MB.op_inK (K := K) rfl) (pv 6) (pe_tup (pa_cons pe_int (pa_cons pe_int (pa_cons pe_int (pa_cons pe_int (pa_cons pe_int (pa_cons pe_int pa_nil))))))) rfl) (pw_and1 (pt_cmpR (MB.op_niK (K := K) rfl) (pv 6) (pv 1) rfl)))) (pss_cons (ps_set (i := 8) sc_law_rawed.nd rfl (Or.inl rfl) (pe_ix (MB.ix_K (K := K) rfl) (pe_lst (pa_cons pe_int (pa_cons pe_int (pa_cons pe_int (pa_cons pe_int (pa_cons pe_int (pa_cons pe_int pa_nil))))))) (pe_op op_sub (pv 6) pe_int) (fun _ _ => rfl)))
      (pss_one (ps_set (i := 7) sc_law_rawed.nd rfl (Or.inl rfl) (pe_callTy (MB.call_tupleK (K := K) rfl) (by rfl) T.n_tuple MB.bo_tuple (pa_cons (pe_lc (own := [("_law_k", 9)]) (by rfl) sc_law_rawed.nd (pi_range1 (by rfl) T.n_range (pa_cons (pe_op (MB.op_mulK (K := K) rfl) (pv 8) (pe_callB (MB.call_lenK (K := K) rfl) (by rfl) T.n_len MB.bo_len (pa_cons (pv 7) pa_nil))) pa_nil)) (blkOk_by (own := [("_law_k", 9)]) (N := n_law_rawed) (sc := defScope s_law_rawed) (by decide +kernel)) (fun _ _ _ _ _ => (pg_name (i := 9) sc_law_rawed.nd rfl (.inl rfl))) (fun _ _ _ _ _ => pts_nil) (fun _ _ _ _ _ => (pe_op op_mod (pe_op (MB.op_addK (K := K) rfl) (pe_op (MB.op_mulK (K := K) rfl) pe_int (pv 9)) (pv 5)) pe_int))) pa_nil))))) (pss_one (ps_if (pt_cmpR (MB.op_eqK (K := K) rfl hu64) (pv 6) pe_int (nomark _)) (pss_one (ps_set (i := 7) sc_law_rawed.nd rfl (Or.inl rfl) (pe_callTy (MB.call_tupleK (K := K) rfl) (by rfl) T.n_tuple MB.bo_tuple (pa_cons (pe_lc (own := [("_law_inner", 10)]) (by rfl) sc_law_rawed.nd (MB.pi_tupK (K := K) rfl (pv 7)) (blkOk_by (own := [("_law_inner", 10)]) (N := n_law_rawed) (sc := defScope s_law_rawed) (by decide +kernel)) (fun _ _ _ _ _ => (pg_name (i := 10) sc_law_rawed.nd rfl (.inl rfl))) (fun _ _ _ _ _ => pts_nil) (fun _ _ _ _ _ => (MB.pe_cl c_law_rawed hr (by omega) (by rfl) passL (pa_cons (pv 10) (pa_cons (pv 1) pa_nil))))) pa_nil)))) pss_nil)))
      (pss_one (ps_expr (pe_bm PySem.F.plainAttrs_list PySem.F.slot_list_append PySem.F.type_list_append mt_append (pv 4) (pa_cons (pe_tup (pa_cons (pv 5) (pa_cons (pv 6) (pa_cons (pv 7) pa_nil)))) pa_nil))))))
      (pss_one (ps_expr (pe_bm PySem.F.plainAttrs_list PySem.F.slot_list_append PySem.F.type_list_append mt_append (pv 2) (pa_cons (pe_callTy (MB.call_tupleK (K := K) rfl) (by rfl) T.n_tuple MB.bo_tuple (pa_cons (pv 4) pa_nil)) pa_nil)))))))
      (pss_one (ps_ret (pe_callTy (MB.call_tupleK (K := K) rfl) (by rfl) T.n_tuple MB.bo_tuple (pa_cons (pv 2) pa_nil)))))), ?_⟩
    let rt : List (Ent (Ch d)) → List (Ent (Ch d)) := List.map (rawE kn (rawC kn d))
    have htt : ∀ t, tupd (dTab (dCh d) t) = true := tupd_tab (tupd_ch d)
    have hte : ∀ e, tupd (dEnt (dCh d) e) = true := tupd_ent (tupd_ch d)
    refine q_asgL (el_lst ea_nil (by decide)) fun fl H1 hfl e1 h1 => ?_
    refine q_forT (ev_var rfl) (ex_t e1 hs) (fun i σ' H' => ∃ u3 u4 u5 u6 u7 u8, σ' = [some (.ref a), some y, some (.ref fl), u3, u4, u5, u6, u7, u8, none, none] ∧ Ex H H' ∧ Acc K H' fl (dTab (dCh d)) (((zs.take i).map (·.2)).map rt)) (fun H2 e2 => ⟨none, none, none, none, none, none, rfl, e1.trans e2, (Acc.nil (h1)).ex e2⟩) (fun i σ' H' _ h => by obtain ⟨_, _, _, _, _, _, _, h, _⟩ := h; exact ex_t h hs) (fun i x σ' H' hi h => ?_) fun σ' H' h => ?_
    · obtain ⟨u3, u4, u5, u6, u7, u8, rfl, e2, hacc⟩ := h
      rw [List.getElem?_map, Option.map_eq_some_iff] at hi
      obtain ⟨z, hzi, rfl⟩ := hi
      have hmz : z ∈ zs := List.mem_of_getElem? hzi
      have hit : i < zs.length := (List.getElem?_eq_some_iff.mp hzi).1
      obtain ⟨b, ws, hb, hws, hw2, hwz⟩ := dp_zip (show Dp K H z.1 (.tuple (z.2.map (dEnt (dCh d)))) from hz z hmz)
      have g1 := g.all z.2 (List.mem_map_of_mem hmz)
      have hwl : ws.length ≤ 40 := by have := g1.few; rw [← hw2, List.length_map] at this; exact this
      refine q_asgL (el_lst ea_nil (by decide)) fun rl H3 hrl e3 h3 => ?_
      have hrlH : H rl = none := fresh_back e2 hrl
      have hne : fl ≠ rl := fun z => by
        obtain ⟨vs, hv, _⟩ := hacc
        rw [z, hrl] at hv
        cases hv
      have hacc3 := hacc.ex e3
      have e23 := e2.trans e3
      refine q_forT (xs := ws.map (·.1)) (ev_is (ev_var rfl) hb) (ex_t e23 hws) (fun j σ' H' => ∃ u5 u6 u7 u8, σ' = [some (.ref a), some y, some (.ref fl), some z.1, some (.ref rl), u5, u6, u7, u8, none, none] ∧ Ex H H' ∧ Acc K H' fl (dTab (dCh d)) (((zs.take i).map (·.2)).map rt) ∧ Acc K H' rl (dEnt (dCh d)) (((ws.take j).map (·.2)).map (rawE kn (rawC kn d)))) (fun H5 e5 => ⟨u5, u6, u7, u8, rfl, e23.trans e5, hacc3.ex e5, (Acc.nil h3).ex e5⟩) (fun j σ' H' _ h => by obtain ⟨_, _, _, _, _, h, _⟩ := h; exact ex_t h hws) (fun j x σ' H' hj h => ?_) fun σ' H' h => ?_
      · obtain ⟨u5, u6, u7, u8, rfl, e5, hA, hB⟩ := h
        rw [List.getElem?_map, Option.map_eq_some_iff] at hj
        obtain ⟨en, hen, rfl⟩ := hj
        have hme : en ∈ ws := List.mem_of_getElem? hen
        have hjt : j < ws.length := (List.getElem?_eq_some_iff.mp hen).1
        have ge := g1.all en.2 (by rw [← hw2]; exact List.mem_map_of_mem hme)
        obtain ⟨ea, ev, hee, hes, hev⟩ := dp_ent (dp_ex e5 _ _ (hwz en hme))
        obtain ⟨env, ⟨tag, kind, wo⟩⟩ := en
        obtain rfl : env = .ref ea := hee
        have hev : Dp K H' ev (dWo (dCh d) wo) := hev
        have gw : gWo ALL (gCh ALL d) kind wo := ge.w
        have hy5 := hy.ex e5
        have hlw := wlen_le gw
        refine ⟨ea, [iv tag, iv kind, ev], rfl, hes, rfl, _, _, rfl, _, _, rfl, _, _, rfl, rfl, ?_⟩
        refine q_cut (M := fun σ' H2 => ∃ v u8, σ' = [some (.ref a), some y, some (.ref fl), some z.1, some (.ref rl), some (iv tag), some (iv kind), some v, u8, none, none] ∧ Ex H' H2 ∧ Dp K H2 v (dWo (dCh d) (rawW kn (rawC kn d) tag kind wo))) ?_ fun σ2 H2 h2 => ?_
        · refine s_if (b := decide (kind ∈ ALL) && !decide (kind ∈ kn)) (et_and (et_B (ev_opU (xs := ALL.map iv) (ev_var rfl) (eu_tup (ea_cons ev_c (ea_cons ev_c (ea_cons ev_c (ea_cons ev_c (ea_cons ev_c (ea_cons ev_c ea_nil)))))) (by show 6 ≤ 100000; decide)) fun p H3 hp e => rv_inK (st_of hp))) fun _ => et_B (ev_op (ev_var rfl) (ev_var rfl) (rv_niY hy5))) (fun hb2 H6 e6 => ?_) fun hb2 H6 e6 => ?_
          · rw [Bool.and_eq_true, decide_eq_true_eq, Bool.not_eq_true', decide_eq_false_iff_not] at hb2
            have hin := hb2.1
            have hk1 : 1 ≤ kind := by
              have : kind = 1 ∨ kind = 2 ∨ kind = 3 ∨ kind = 4 ∨ kind = 5 ∨ kind = 6 := by simpa using hin
              omega
            have h300 := hlw.2 hin
            have h4 := wid_le kind
            have hmul : wid kind * wlen wo ≤ 1200 := Nat.le_trans (Nat.mul_le_mul h4 h300) (by decide)
            refine q_asg (v := iv (wid kind)) (ev_opLs (xs := [V.int 1, V.int 2, V.int 4, V.int 1, V.int 4, V.int 4]) (els_new (el_lst (ea_cons ev_c (ea_cons ev_c (ea_cons ev_c (ea_cons ev_c (ea_cons ev_c (ea_cons ev_c ea_nil)))))) (by show 6 ≤ 100000; decide))) (ev_is (ev_op (ev_var rfl) ev_c rv_I0) (w := .int ((kind - 1 : Nat) : Int)) (congrArg V.int (by omega))) fun p H7 hp e => rv_xL hp (wid_at hin)) fun H7 e7 => ?_
            refine s_asgD (K := K) (d := dT ((List.range (wid kind * wlen wo)).map fun k => (37 * k + tag) % 256)) ?_ fun v H8 e8 hv => ⟨v, some (iv (wid kind)), rfl, (e6.trans e7).trans e8, ?_⟩
            · intro H8 e8 Q q
              refine (etp_tuple (xs := ((List.range (wid kind * wlen wo)).map fun k => (37 * k + tag) % 256).map iv) (els_new (el_is (el_all (el_lcR (n := ((wid kind * wlen wo : Nat) : Int)) (fun _ => true) (fun k => iv ((37 * k + tag) % 256)) (ea_cons (ev_is (ev_op (ev_var rfl) (ev_cb1 (ev_var rfl) (rc_lenW (dp_ex (e6.trans e7) _ _ hev) (by omega))) (rv_mulI (.inl ⟨by omega, by omega⟩))) (w := .int ((wid kind * wlen wo : Nat) : Int)) (congrArg V.int (by rw [Int.natCast_mul]))) ea_nil) (by omega) (fun _ => by rfl) (fun _ _ => ety) fun n hn _ => ?_)) ?_))) H8 e8 _ fun p H9 e9 hp => q _ H9 e9 (dp_nums hp)
              · refine ev_is (ev_op (ev_op (ev_op ev_c (ev_var rfl) (rv_mulI (.inl (by decide)))) (ev_var rfl) rv_addI) ev_c (rv_I (by show (0 : Int) < 256; decide))) (congrArg V.int ?_)
                rw [Int.natCast_emod, Int.natCast_add, Int.natCast_mul]
                rfl
              · rw [Int.toNat_natCast, List.map_map]
                rfl
            · unfold rawW
              rw [if_pos hb2]
              exact hv
          · have hno : ¬ (kind ∈ ALL ∧ kind ∉ kn) := fun z => by
              rw [decide_eq_true z.1, decide_eq_false z.2] at hb2
              cases hb2
            refine s_ifN (b := decide (kind = 5)) (et_B (ev_is (ev_op (ev_var rfl) ev_c rv_eqI) (congrArg V.bl (decide_eq_decide.mpr (by omega))))) (fun hb3 H7 e7 => ?_) fun hb3 H7 e7 => ?_
            · have h5 := of_decide_eq_true hb3
              subst h5
              cases wo with
              | nums l => exact absurd gw (by rintro (⟨_, z, _⟩ | ⟨z, _⟩); exact absurd z (by decide); exact z (by decide))
              | text t => exact absurd gw.1 (by decide)
              | pieces l => exact absurd gw.1 (by decide)
              | chains cs =>
                have e67 := e6.trans e7
                obtain ⟨q0, ys, rfl, hq0, rfl, hyz⟩ := dp_zip (show Dp K H' ev (.tuple (cs.map (dCh d))) from hev)
                have hcl : ys.length ≤ 300 := by have := gw.2.2.1; rw [List.length_map] at this; exact this
                refine s_asgD (K := K) (evd_tuple (el_lcD (ds := ys) (fun z => z.1) (fun z => dCh d (rawC kn d z.2)) (fun z => tupd_ch d _) (etp_val (ev_var rfl) (ex_t e67 hq0)) (by omega) (fun _ => by rfl) fun z hz2 => ?_)) fun v H8 e8 hv => ⟨v, u8, rfl, e67.trans e8, ?_⟩
                · intro H8 e8 Q q
                  refine (ea_cons (ev_var rfl) (ea_cons (ev_var rfl) ea_nil) : EvA _ _ H7 _) H8 e8 _ fun H9 e9 => ⟨z.1, y, z.2, kn, rfl, dp_ex ((e67.trans e8).trans e9) _ _ (hyz z hz2), hy5.ex ((e67.trans e8).trans e9), gw.2.2.2 _ (List.mem_map_of_mem hz2), fun v H10 e10 hd => q v H10 (e9.trans e10) hd⟩
                · unfold rawW
                  rw [if_neg hno]
                  show Dp K H8 v (.tuple (((ys.map (·.2)).map (rawC kn d)).map (dCh d)))
                  rw [List.map_map, List.map_map]
                  exact hv
            · refine ⟨ev, u8, rfl, e6.trans e7, ?_⟩
              unfold rawW
              rw [if_neg hno]
              cases wo with
              | chains cs => exact absurd gw.1 (of_decide_eq_false hb3)
              | nums l => exact dp_ex (e6.trans e7) _ _ hev
              | text l => exact dp_ex (e6.trans e7) _ _ hev
              | pieces l => exact dp_ex (e6.trans e7) _ _ hev
        · obtain ⟨v, u8', rfl, e6, hv⟩ := h2
          obtain ⟨rvs, r1, r2, r3⟩ := hB.ex e6
          have hrl2 : rvs.length ≤ 40 := by rw [r2, List.length_map, List.length_map, List.length_take]; omega
          refine s_appU r1 (ev_var rfl) (eu_tup (ea_cons (ev_var rfl) (ea_cons (ev_var rfl) (ea_cons (ev_var rfl) ea_nil))) (by show 3 ≤ 100000; decide)) (by omega) fun q H7 hq e7 h7 => ?_
          have e57 := (e5.trans e6).trans e7
          refine ⟨_, _, _, _, rfl, Ex.mut e57 hrlH, ?_, ?_⟩
          · exact (hA.ex (e6.trans e7)).but htt (NoTup.lst (e7 _ _ r1)) hne fun b o hb ho => by rw [upd_ne hb]; exact ho
          · rw [List.take_succ, hen, List.map_append, List.map_append]
            exact Acc.app (x := rawE kn (rawC kn d) ⟨tag, kind, wo⟩) hte (e7 _ _ r1) r2 (dpAll_ex e7 _ _ r3) (dp_ent3 (st_of h7) (dp_ex e7 _ _ hv))
      · obtain ⟨u5, u6, u7, u8, rfl, e5, hA, hB⟩ := h
        rw [List.length_map, List.take_length, hw2] at hB
        obtain ⟨rvs, r1, r2, r3⟩ := hB
        obtain ⟨fvs, f1, f2, f3⟩ := hA
        have hfl2 : fvs.length ≤ 10 := by rw [f2, List.length_map, List.length_map, List.length_take]; omega
        refine ⟨_, rfl, .inl ⟨rfl, fvs, sq_of f1⟩, ?_⟩
        refine ⟨_, rfl, rl, rvs, rfl, .inl ⟨sq_of r1, fun q hq => ?_⟩⟩
        refine ⟨fl, fvs, .ref q, rfl, rfl, Ex.new hq _ _ f1, sz_lt (by omega), ?_⟩
        refine ⟨_, _, _, _, _, _, rfl, Ex.mut (e5.trans (Ex.new hq)) hfl, ?_⟩
        rw [List.take_succ, hzi, List.map_append, List.map_append]
        exact Acc.app (x := rt z.2) htt (Ex.new hq _ _ f1) f2 (dpAll_ex (Ex.new hq) _ _ f3) (.tup (st_of upd_same) (dpAll_ex (Ex.new hq) _ _ r3))
    · obtain ⟨u3, u4, u5, u6, u7, u8, rfl, e2, hacc⟩ := h
      rw [List.length_map, List.take_length] at hacc
      obtain ⟨fvs, f1, f2, f3⟩ := hacc
      exact s_retTup (ev_var rfl) f1 fun q H3 hq e3 h3 => k _ H3 (e2.trans e3) (.tup (st_of h3) (dpAll_ex e3 _ _ f3))
end
end K82
set_option maxRecDepth 100000
set_option maxHeartbeats 1000000
namespace K82
open PySem PySem.Spec PyProof.Rows L2 Evl MB
theorem NoTup.pen {H : Hp} {p lc : Addr} {n : Nat} {tb : Option Int} (h : PenX H p lc n tb) : NoTup H p := by
  obtain ⟨kvs, hk⟩ := h.dict
  exact ⟨_, hk, fun _ z => (nomatch z), fun _ _ z => (nomatch z)⟩
/-! ### numbers that are drawn -/
section
variable {K : PySem.W.Frag} {σ : L2.St} {p lc : Addr}
/-- a number up to B, dn draws at most -/
def DrE (te : TE) (σ : L2.St) (p lc : Addr) (dn B : Nat) : Prop := ∀ H n tb, PenX H p lc n tb → n + dn ≤ 1000000 → ∀ Q : VK, (∀ (x : Nat) H', x ≤ B → PenX H' p lc (n + dn) tb → But p H H' → Q (iv x) H') → te σ H Q
def DrB (ta : TA) (σ : L2.St) (p lc : Addr) (dn L B : Nat) : Prop := ∀ H n tb, PenX H p lc n tb → n + dn ≤ 1000000 → ∀ Q : List V → Hp → Prop, (∀ (xs : List Nat) H', xs.length = L → (∀ x ∈ xs, x ≤ B) → PenX H' p lc (n + dn) tb → But p H H' → Q (xs.map iv) H') → ta σ H Q
theorem dre_ev {te : TE} {B x : Nat} (h : ∀ H, Ev te σ H (iv x)) (hx : x ≤ B) : DrE te σ p lc 0 B := fun H n tb hp hn Q q => h H H (Ex.refl H) _ fun H1 e1 => q x H1 hx (hp.ex e1) (But.of e1)
theorem dre_c {B x : Nat} (hx : x ≤ B) : DrE (tC (.int (x : Int))) σ p lc 0 B := dre_ev (fun _ => ev_c) hx
theorem dre_draw {E : XK} {i m B : Nat} (h0 : σ[i]? = some (some (.ref p))) (hm0 : 0 < m) (hm1 : m ≤ 4294967296) (hB : m ≤ B + 1) : DrE (tCall spDrawX [] E (tCons (tVar i) (tCons (tC (.int (m : Int))) tNil))) σ p lc 1 B := fun H n tb hp hn Q q =>
  ev_drawX (ev_var h0) ev_c (by omega) (by omega) hp (by omega) fun r H' r0 r1 hp' hb => by
    obtain ⟨x, rfl⟩ : ∃ x : Nat, r = (x : Int) := ⟨r.toNat, by omega⟩
    exact q x H' (by omega) hp' hb
theorem dre_add {ta tb : TE} {d1 d2 B1 B2 : Nat} (h1 : DrE ta σ p lc d1 B1) (h2 : DrE tb σ p lc d2 B2) : DrE (tOp (rAddA K) ta tb) σ p lc (d1 + d2) (B1 + B2) := fun H n tt hp hn Q q =>
  h1 H n tt hp (by omega) _ fun x H1 hx hp1 hb1 => h2 H1 (n + d1) tt hp1 (by omega) _ fun y H2 hy hp2 hb2 => .inl ⟨_, _, rfl, rfl, q (x + y) H2 (by omega) (hp2.le (by omega)) (hb1.trans hb2)⟩
theorem drb_nil {B : Nat} : DrB tNil σ p lc 0 0 B := fun H n tb hp hn Q q => q [] H rfl (fun x hx => absurd hx List.not_mem_nil) hp (But.refl p H)
theorem drb_cons {te : TE} {tr : TA} {d1 d2 L B : Nat} (h1 : DrE te σ p lc d1 B) (h2 : DrB tr σ p lc d2 L B) : DrB (tCons te tr) σ p lc (d1 + d2) (L + 1) B := fun H n tb hp hn Q q =>
  h1 H n tb hp (by omega) _ fun x H1 hx hp1 hb1 => h2 H1 (n + d1) tb hp1 (by omega) _ fun xs H2 hl hxs hp2 hb2 => q (x :: xs) H2 (by rw [List.length_cons, hl]) (fun y hy => by
    rcases List.mem_cons.mp hy with rfl | hy
    · exact hx
    · exact hxs y hy) (hp2.le (by omega)) (hb1.trans hb2)
/-- [..][draw] -/
theorem dre_pick {E : XK} {ta : TA} {i d L B : Nat} (h : DrB ta σ p lc d L B) (h0 : σ[i]? = some (some (.ref p))) (hL : 0 < L) (hL2 : L ≤ 1000) : DrE (tOp (rIx K) (tLst ta) (tCall spDrawX [] E (tCons (tVar i) (tCons (tC (.int (L : Int))) tNil)))) σ p lc (d + 1) B := fun H n tb hp hn Q q =>
  h H n tb hp (by omega) _ fun xs H1 hl hxs hp1 hb1 => ⟨by rw [List.length_map, hl]; exact Nat.le_trans hL2 (by decide), fun l hl0 => by
    have hp2 : PenX (upd H1 l (.lst (xs.map iv))) p lc (n + d) tb := hp1.ex (Ex.new hl0)
    refine dre_draw (B := L - 1) h0 hL (by omega) (by omega) _ (n + d) tb hp2 (by omega) _ fun r H2 hr hp3 hb3 => ?_
    have hlt : r < xs.length := by omega
    have hl2 : H2 l = some (.lst (xs.map iv)) := hb3 _ _ (hp2.ne upd_same) upd_same
    exact .inl ⟨l, _, _, _, rfl, rfl, sq_of hl2, MB.atI_nat (by rw [List.getElem?_map, List.getElem?_eq_getElem hlt]; rfl), q xs[r] H2 (hxs _ (List.getElem_mem hlt)) (hp3.le (by omega)) (hb1.trans ((But.of (Ex.new hl0)).trans hb3))⟩⟩
theorem q_dre {te : TE} {dn B i n : Nat} {H : Hp} {tb : Option Int} {tz : TS} {D : Ends} (h : DrE te σ p lc dn B) (hp : PenX H p lc n tb) (hn : n + dn ≤ 1000000) (k : ∀ (x : Nat) H', x ≤ B → PenX H' p lc (n + dn) tb → But p H H' → tz D (σ.set i (some (iv x))) H') : tSeq (tAsg te (gName i)) tz D σ H :=
  h H n tb hp hn _ fun x H' hx hp' hb => k x H' hx hp' hb
end
/-! ### comprehensions whose turns draw -/
section
variable {α β : Type} {K : PySem.W.Frag} {te : TE} {σ : L2.St} {vs : List Nat} {j : Nat} {H : Hp} {p lc : Addr} {n0 : Nat} {t0 : Option Int}
/-- ahead of a turn: acc is drawn, cond tells what it has cost -/
structure Drawn (K : PySem.W.Frag) (dv : α → PyData) (cond : List α → Nat → Option Int → Prop) (H0 : Hp) (p lc Dl : Addr) (i : Nat) (H' : Hp) : Prop where
  ex : ∃ (acc : List α) (ws : List V) (n : Nat) (t : Option Int), acc.length = i ∧ cond acc n t ∧ PenX H' p lc n t ∧ But p H0 H' ∧ H' Dl = some (.lst ws) ∧ DpAll K H' ws (acc.map dv)
theorem drawn_step {dv : α → PyData} (ht : ∀ x, tupd (dv x) = true) {cond : List α → Nat → Option Int → Prop} {H0 : Hp} {Dl : Addr} {i : Nat} {H' : Hp} {σ2 : L2.St} (hD : H0 Dl = none) (hpd : Dl ≠ p ∧ Dl ≠ lc) (hi : i < 100000) (h : Drawn K dv cond H0 p lc Dl i H')
    (hs : ∀ acc n t, acc.length = i → cond acc n t → PenX H' p lc n t → But p H0 H' → ∀ Q : VK, (∀ v x n2 t2 H2, cond (acc ++ [x]) n2 t2 → PenX H2 p lc n2 t2 → But p H' H2 → Dp K H2 v (dv x) → Q v H2) → te σ2 H' Q) :
    te σ2 H' fun y H4 => ∃ acc, H4 Dl = some (.lst acc) ∧ acc.length < sizeLine ∧ Drawn K dv cond H0 p lc Dl (i + 1) (upd H4 Dl (.lst (acc ++ [y]))) := by
  obtain ⟨acc, ws, n, t, h1, h2, h3, h4, h5, h6⟩ := h
  refine hs acc n t h1 h2 h3 h4 _ fun v x n2 t2 H2 c2 p2 b2 d2 => ?_
  have hw : H2 Dl = some (.lst ws) := b2 _ _ hpd.1 h5
  have h62 := dpAll_but (NoTup.pen h3) b2 _ _ (tupdAll_map ht acc) h6
  have hb : But Dl H2 (upd H2 Dl (.lst (ws ++ [v]))) := fun b o hb ho => by rw [upd_ne hb]; exact ho
  have hn := NoTup.lst hw
  have hl := dpAll_len h6
  rw [List.length_map, h1] at hl
  refine ⟨ws, hw, by rw [hl]; exact sz_lt hi, acc ++ [x], ws ++ [v], n2, t2, by rw [List.length_append, h1]; rfl, c2, p2.upd hpd.1 hpd.2, (h4.trans b2).mut hD, upd_same, ?_⟩
  rw [List.map_append]
  exact dpAll_snoc (dpAll_but hn hb _ _ (tupdAll_map ht acc) h62) (dp_but hn hb _ _ (ht x) d2)
theorem lc_rngP {ta : TA} {m : Nat} (dv : α → PyData) (ht : ∀ x, tupd (dv x) = true) (cond : List α → Nat → Option Int → Prop) (h : EvA ta σ H [.int (m : Int)]) (hm : m ≤ 10000) (hw : ∀ x, wipe ((wipe σ vs).set j (some x)) vs = wipe σ vs) (hp : PenX H p lc n0 t0) (h0 : cond [] n0 t0)
    (hs : ∀ acc n t H', acc.length < m → cond acc n t → PenX H' p lc n t → But p H H' → ∀ Q : VK, (∀ v x n2 t2 H2, cond (acc ++ [x]) n2 t2 → PenX H2 p lc n2 t2 → But p H' H2 → Dp K H2 v (dv x) → Q v H2) → te ((wipe σ vs).set j (some (.int (acc.length : Int)))) H' Q)
    {Q : VK} (k : ∀ q xs n2 t2 H2 ws, xs.length = m → cond xs n2 t2 → PenX H2 p lc n2 t2 → But p H H2 → H q = none → H2 q = some (.lst ws) → DpAll K H2 ws (xs.map dv) → Q (.ref q) H2) : tLc (iRng1 ta) (gName j) tYes te vs σ H Q :=
  h H (Ex.refl H) _ fun H1 e1 => ⟨(m : Int), rfl, by omega, by omega, fun Dl hD => by
    have hp1 := hp.ex e1
    have hpd := hp1.off hD
    refine lc_range (lo := 0) (n := (m : Int).toNat) (Drawn K dv cond H1 p lc Dl) ⟨[], [], n0, t0, rfl, h0, hp1.ex (Ex.new hD), But.of (Ex.new hD), upd_same, .nil⟩ (fun i H2 hi hd => ?_) fun H2 hd => ?_
    · rw [Int.toNat_natCast] at hi
      refine ⟨hw _, t_yes (drawn_step ht hD hpd (by omega) hd fun acc n t a1 a2 a3 a4 Q q => ?_)⟩
      have := hs acc n t H2 (by omega) a2 a3 ((But.of e1).trans a4) Q q
      rw [a1] at this
      rw [Int.zero_add]
      exact this
    · rw [Int.toNat_natCast] at hd
      obtain ⟨acc, ws, n, t, a1, a2, a3, a4, a5, a6⟩ := hd
      exact k Dl acc n t H2 ws a1 a2 a3 ((But.of e1).trans a4) (fresh_back e1 hD) a5 a6⟩
theorem lc_lstP {tl : TE} {ds : List β} (f : β → V) (dv : α → PyData) (ht : ∀ x, tupd (dv x) = true) (cond : List α → Nat → Option Int → Prop) (h : EvP tl σ H (ds.map f)) (hm : ds.length ≤ 10000) (hw : ∀ x, wipe ((wipe σ vs).set j (some x)) vs = wipe σ vs) (hp : PenX H p lc n0 t0) (h0 : cond [] n0 t0)
    (hs : ∀ acc n t H' d, ds[acc.length]? = some d → cond acc n t → PenX H' p lc n t → But p H H' → ∀ Q : VK, (∀ v x n2 t2 H2, cond (acc ++ [x]) n2 t2 → PenX H2 p lc n2 t2 → But p H' H2 → Dp K H2 v (dv x) → Q v H2) → te ((wipe σ vs).set j (some (f d))) H' Q)
    {Q : VK} (k : ∀ q xs n2 t2 H2 ws, xs.length = ds.length → cond xs n2 t2 → PenX H2 p lc n2 t2 → But p H H2 → H q = none → H2 q = some (.lst ws) → DpAll K H2 ws (xs.map dv) → Q (.ref q) H2) : tLc (iList K tl) (gName j) tYes te vs σ H Q :=
  h H (Ex.refl H) _ fun a H1 e1 ha => ⟨a, rfl, ⟨_, sq_of ha⟩, fun Dl hD => by
    have hp1 := hp.ex e1
    have hpd := hp1.off hD
    have hap := hp1.ne ha
    refine lc_list (xs := ds.map f) (Drawn K dv cond H1 p lc Dl) ⟨[], [], n0, t0, rfl, h0, hp1.ex (Ex.new hD), But.of (Ex.new hD), upd_same, .nil⟩ (fun i H2 hi hd => ?_) (fun i x H2 hi hd => ?_) fun H2 hd => ?_
    · obtain ⟨acc, ws, n, t, a1, a2, a3, a4, a5, a6⟩ := hd
      exact sq_of (a4 _ _ hap ha)
    · rw [List.getElem?_map, Option.map_eq_some_iff] at hi
      obtain ⟨d, hdd, rfl⟩ := hi
      have hlt := (List.getElem?_eq_some_iff.mp hdd).1
      exact ⟨hw _, t_yes (drawn_step ht hD hpd (by omega) hd fun acc n t a1 a2 a3 a4 Q q => hs acc n t H2 d (by rw [a1]; exact hdd) a2 a3 ((But.of e1).trans a4) Q q)⟩
    · rw [List.length_map] at hd
      obtain ⟨acc, ws, n, t, a1, a2, a3, a4, a5, a6⟩ := hd
      exact k Dl acc n t H2 ws a1 a2 a3 ((But.of e1).trans a4) (fresh_back e1 hD) a5 a6⟩
end
section
variable {P : Program} {w : World} {K : PySem.W.Frag} {mg : Str → Option Value} {base : Heap} {aKn aWi aOw aLi aOn aOt : Addr}
/-! ### _law_text -/
def sp_text : Sp := fun vs H Q _ => ∃ (p lc : Addr) (many n : Nat) (tb : Option Int), vs = [.ref p, iv many] ∧ many ≤ 10 ∧ PenX H p lc n tb ∧ n + 10 ≤ 1000000 ∧ ∀ (t : List Nat) H', t.length = many → (∀ c ∈ t, c ∈ SIGNS) → PenX H' p lc (n + 10) tb → But p H H' → Q (tv t) H'
theorem dpAll_signs {H : Hp} : ∀ {cs : List Nat} {ws : List V}, DpAll K H ws (cs.map fun c => PyData.str (SX.S [c])) → ws = cs.map fun c => V.str (SX.S [c])
  | [], _, h => by cases h; rfl
  | c :: cs, _, h => by
    cases h with
    | cons h1 h2 =>
      cases h1
      rw [dpAll_signs h2]
      rfl
theorem joinL_ones : ∀ cs : List Nat, TL.joinL [] (cs.map fun c => [c]) = cs
  | [] => rfl
  | [c] => rfl
  | c :: d :: cs => by
    have h := joinL_ones (d :: cs)
    show [c] ++ ([] ++ TL.joinL [] ((d :: cs).map fun c => [c])) = _
    rw [h]
    rfl
theorem drawn_signs : ∀ r : Nat, r < 9 → ∃ c, (co " azAZ09.-")[r]? = some c ∧ c ∈ SIGNS := by decide
theorem ok_law_text {f : Addr} {fd : FuncData} (F : Fun K "_law_text" "_law_text" s_law_text f fd) (T : T0 K mg aKn aWi aOw aLi aOn aOt) (c_law_draw : MB.Cl P w K mg base 1 "_law_draw" spDrawX) : FnOk P w K mg base CX0 2 f fd p_law_text sp_text := by
  refine F.ok sc_law_text (fun vs H Q E h => ?_) (fun cdv A outer s H vs Q E hr h => ?_)
  · obtain ⟨p, lc, many, n, tb, rfl, _⟩ := h
    rfl
  · obtain ⟨p, lc, many, n, tb, rfl, hm, hp, hn, k⟩ := h
    refine ⟨_, (pss_cons (ps_set (i := 2) sc_law_text.nd rfl (Or.inr rfl) pe_str)
      (pss_one (ps_ret (MB.pe_joinK (K := K) rfl pe_str (pe_lc (own := [("_law_k", 3)]) (by rfl) sc_law_text.nd (pi_range1 (by rfl) T.n_range (pa_cons (pv 1) pa_nil)) (blkOk_by (own := [("_law_k", 3)]) (N := n_law_text) (sc := defScope s_law_text) (by decide +kernel)) (fun _ _ _ _ _ => (pg_name (i := 3) sc_law_text.nd rfl (.inl rfl))) (fun _ _ _ _ _ => pts_nil) (fun _ _ _ _ _ => (pe_ix (MB.ix_K (K := K) rfl) (pv 2) (MB.pe_cl c_law_draw hr (by decide) (by rfl) passL (pa_cons (pv 0) (pa_cons pe_int pa_nil))) (fun _ _ => rfl)))))))), ?_⟩
    refine q_asg (v := tv (co " azAZ09.-")) (ev_is ev_c (congrArg V.str (of_S " azAZ09.-"))) fun H1 e1 => ?_
    refine ⟨⟨_, rfl⟩, ?_⟩
    refine lc_rngP (α := Nat) (K := K) (p := p) (lc := lc) (m := many) (fun c => .str (SX.S [c])) (fun _ => rfl) (fun acc n' t' => n' ≤ n + acc.length ∧ t' = tb ∧ ∀ c ∈ acc, c ∈ SIGNS) (ea_cons (ev_var rfl) ea_nil) (by omega) (fun _ => by rfl) (hp.ex e1) ⟨Nat.le_refl _, rfl, fun c hc => absurd hc List.not_mem_nil⟩ (fun acc n' t' H2 hlt c2 p2 b2 Q2 q2 => ?_) fun q xs n2 t2 H2 ws hl c2 p2 b2 hq hw hd => ?_
    · obtain ⟨c21, rfl, c23⟩ := c2
      refine ⟨_, rfl, ev_drawX (m := 9) (ev_var rfl) ev_c (by decide) (by decide) p2 (by omega) fun r H3 r0 r1 p3 b3 => ?_⟩
      obtain ⟨x, rfl⟩ : ∃ x : Nat, r = (x : Int) := ⟨r.toNat, by omega⟩
      obtain ⟨c, hc1, hc2⟩ := drawn_signs x (by omega)
      refine .inr (.inr ⟨_, _, c, rfl, rfl, by decide, MB.atI_nat hc1, q2 _ c _ _ H3 ⟨?_, rfl, ?_⟩ p3 b3 (.str _)⟩)
      · rw [List.length_append, List.length_singleton]
        omega
      · intro y hy
        rcases List.mem_append.mp hy with hy | hy
        · exact c23 y hy
        · rw [List.mem_singleton] at hy
          rw [hy]
          exact hc2
    · obtain ⟨c21, rfl, c23⟩ := c2
      have hws := dpAll_signs hd
      subst hws
      refine ⟨SX.S [], q, (xs.map fun c => [c]).map SX.S, of_S "" ▸ rfl, rfl, .inl ?_, ?_, ?_⟩
      · rw [List.map_map, List.map_map]
        exact sq_of hw
      · rw [List.map_map, List.map_map, List.length_map, List.length_map, SX.S_len]
        refine Nat.le_trans (Nat.add_le_add_right (sum_le_len (b := 1) fun x _ => by show (SX.S [x]).length ≤ 1; rw [SX.S_len]; exact Nat.le_refl _) _) ?_
        rw [List.length_nil]
        omega
      · rw [SX.join_S, joinL_ones]
        exact k xs H2 hl c23 (p2.le (by omega)) ((But.of e1).trans b2)
/-! ### _law_tags -/
def sp_tags : Sp := fun vs H Q _ => ∃ (p lc : Addr) (many n : Nat) (tb : Option Int), vs = [.ref p, iv many] ∧ many ≤ 5 ∧ PenX H p lc n tb ∧ n + 12 ≤ 1000000 ∧ ∀ (ns : List Nat) q H', ns.length = many → (∀ x ∈ ns, x ≤ 65535) → ns.Pairwise (· < ·) → H q = none → H' q = some (.lst (ns.map iv)) → PenX H' p lc (n + 12) tb → But p H H' → Q (.ref q) H'
theorem ok_law_tags {f : Addr} {fd : FuncData} (F : Fun K "_law_tags" "_law_tags" s_law_tags f fd) (T : T0 K mg aKn aWi aOw aLi aOn aOt) (c_law_draw : MB.Cl P w K mg base 1 "_law_draw" spDrawX) : FnOk P w K mg base CX0 2 f fd p_law_tags sp_tags := by
  refine F.ok sc_law_tags (fun vs H Q E h => ?_) (fun cdv A outer s H vs Q E hr h => ?_)
  · obtain ⟨p, lc, many, n, tb, rfl, _⟩ := h
    rfl
  · obtain ⟨p, lc, many, n, tb, rfl, hm, hp, hn, k⟩ := h
    refine ⟨_, (pss_cons (ps_set (i := 2) sc_law_tags.nd rfl (Or.inl rfl) (pe_lst pa_nil))
      (pss_cons (ps_set (i := 3) sc_law_tags.nd rfl (Or.inl rfl) (pe_ix (MB.ix_K (K := K) rfl) (pe_lst (pa_cons pe_int (pa_cons pe_int (pa_cons (MB.pe_cl c_law_draw hr (by decide) (by rfl) passL (pa_cons (pv 0) (pa_cons pe_int pa_nil))) (pa_cons (pe_op op_sub pe_int (pe_op (MB.op_mulK (K := K) rfl) pe_int (pv 1))) pa_nil))))) (MB.pe_cl c_law_draw hr (by decide) (by rfl) passL (pa_cons (pv 0) (pa_cons pe_int pa_nil))) (fun _ _ => rfl)))
      (pss_cons (ps_for PassesOwn.never rfl (pi_range1 (by rfl) T.n_range (pa_cons (pv 1) pa_nil)) (pg_name (i := 4) sc_law_tags.nd rfl (.inl rfl))
      (pss_cons (ps_expr (pe_bm PySem.F.plainAttrs_list PySem.F.slot_list_append PySem.F.type_list_append mt_append (pv 2) (pa_cons (pv 3) pa_nil)))
      (pss_one (ps_set (i := 3) sc_law_tags.nd rfl (Or.inl rfl) (pe_op (MB.op_addK (K := K) rfl) (pe_op (MB.op_addK (K := K) rfl) (pv 3) pe_int) (pe_ix (MB.ix_K (K := K) rfl) (pe_lst (pa_cons pe_int (pa_cons pe_int (pa_cons (MB.pe_cl c_law_draw hr (by decide) (by rfl) passL (pa_cons (pv 0) (pa_cons pe_int pa_nil))) pa_nil)))) (MB.pe_cl c_law_draw hr (by decide) (by rfl) passL (pa_cons (pv 0) (pa_cons pe_int pa_nil))) (fun _ _ => rfl)))))))
      (pss_one (ps_ret (pv 2)))))), ?_⟩
    refine q_asgL (el_lst ea_nil (by decide)) fun fl H1 hfl e1 h1 => ?_
    have hp1 := hp.ex e1
    have hpd := hp.off hfl
    refine q_dre (p := p) (lc := lc) (B := 65535 - 40 * many) (dre_pick (L := 4) (drb_cons (dre_c (x := 0) (by omega)) (drb_cons (dre_c (x := 0) (by omega)) (drb_cons (dre_draw (m := 60000) rfl (by decide) (by decide) (by omega)) (drb_cons (dre_ev (x := 65535 - 40 * many) (fun H => ev_is (ev_op ev_c (ev_op ev_c (ev_var rfl) (rv_mulI (.inl (by decide)))) rv_I0) (congrArg V.int (by omega))) (Nat.le_refl _)) drb_nil)))) rfl (by decide) (by decide)) hp1 (by omega) fun tg H2 htg hp2 hb2 => ?_
    have h2 := hb2 _ _ hpd.1 h1
    refine q_forR1 (n := (many : Int)) (ea_cons (ev_var rfl) ea_nil) (by omega) (fun i σ' H' => ∃ (ns : List Nat) (tg : Nat) (z : Option V), σ' = [some (.ref p), some (iv many), some (.ref fl), some (iv tg), z] ∧ ns.length = i ∧ (∀ x ∈ ns, x < tg) ∧ ns.Pairwise (· < ·) ∧ tg ≤ 65535 - 40 * many + 30 * i ∧ H' fl = some (.lst (ns.map iv)) ∧ PenX H' p lc (n + 2 + 2 * i) tb ∧ But p H H') (fun H3 e3 => ⟨[], tg, none, rfl, rfl, fun x hx => absurd hx List.not_mem_nil, List.Pairwise.nil, by omega, e3 _ _ h2, hp2.ex e3, (But.of e1).trans (hb2.trans (But.of e3))⟩) (fun i σ' H' hi h => ?_) fun σ' H' h => ?_
    · obtain ⟨ns, tg, z, rfl, hl, hlt, hpw, hle, hf, hp3, hb3⟩ := h
      have hi' : i < many := by omega
      refine q_app hf (ev_var rfl) (ev_var rfl) (by rw [List.length_map]; omega) fun H4 e4 => ?_
      have hp4 : PenX (upd H4 fl (.lst (ns.map iv ++ [iv tg]))) p lc (n + 2 + 2 * i) tb := (hp3.ex e4).upd hpd.1 hpd.2
      have hf4 : upd H4 fl (.lst (ns.map iv ++ [iv tg])) fl = some (.lst ((ns ++ [tg]).map iv)) := by rw [upd_same, List.map_append]; rfl
      have hb4 : But p H (upd H4 fl (.lst (ns.map iv ++ [iv tg]))) := (hb3.trans (But.of e4)).mut hfl
      generalize upd H4 fl (.lst (ns.map iv ++ [iv tg])) = H5 at hp4 hf4 hb4
      refine ⟨_, rfl, .inl ⟨_, _, rfl, rfl, ?_⟩⟩
      refine (dre_pick (L := 3) (drb_cons (dre_c (x := 0) (by omega)) (drb_cons (dre_c (x := 0) (by omega)) (drb_cons (dre_draw (m := 30) rfl (by decide) (by decide) (by omega)) drb_nil))) rfl (by decide) (by decide) : DrE _ _ p lc 2 29) H5 _ tb hp4 (by omega) _ fun x H6 hx hp6 hb6 => .inl ⟨_, _, rfl, rfl, ?_⟩
      refine ⟨ns ++ [tg], tg + 1 + x, some (iv i), rfl, by rw [List.length_append, hl]; rfl, fun y hy => ?_, ?_, by omega, hb6 _ _ hpd.1 hf4, hp6.le (by omega), hb4.trans hb6⟩
      · rcases List.mem_append.mp hy with hy | hy
        · have := hlt y hy
          omega
        · rw [List.mem_singleton] at hy
          omega
      · rw [List.pairwise_append]
        refine ⟨hpw, List.pairwise_singleton _ _, fun y hy z hz => ?_⟩
        rw [List.mem_singleton] at hz
        rw [hz]
        exact hlt y hy
    · obtain ⟨ns, tg, z, rfl, hl, hlt, hpw, hle, hf, hp3, hb3⟩ := h
      rw [Int.toNat_natCast] at hl hp3 hle
      exact s_ret (ev_var rfl) fun H4 e4 => k ns fl H4 hl (fun x hx => by have := hlt x hx; omega) hpw hfl (e4 _ _ hf) ((hp3.ex e4).le (by omega)) (hb3.trans (But.of e4))
end
end K82
set_option maxRecDepth 100000
set_option maxHeartbeats 1000000
namespace K82
open PySem PySem.Spec PyProof.Rows L2 Evl MB
section
variable {P : Program} {w : World} {K : PySem.W.Frag} {mg : Str → Option Value} {base : Heap} {aKn aWi aOw aLi aOn aOt : Addr}
section
variable {te : TE} {ta tr : TA} {σ : L2.St} {H : Hp} {Q : VK} {D : Ends} {tz : TS} {i : Nat} {E : XK} {sp : Sp} {dvs vs : List V}
theorem o_seqAsg (h : te σ H fun v H1 => tz D (σ.set i (some v)) H1) : tSeq (tAsg te (gName i)) tz D σ H := h
theorem o_asg (h : te σ H fun v H1 => D.nx (σ.set i (some v)) H1) : tAsg te (gName i) D σ H := h
theorem o_ret (h : te σ H D.rt) : tRet te D σ H := h
theorem o_cb {r : List V → Hp → VK → Prop} (h : ta σ H fun vs H1 => r vs H1 Q) : tCB r ta σ H Q := h
theorem o_cons {Q : List V → Hp → Prop} (h : te σ H fun v H1 => tr σ H1 fun vs H2 => Q (v :: vs) H2) : tCons te tr σ H Q := h
theorem o_tup (h : ta σ H fun vs H1 => vs.length ≤ sizeLine ∧ ∀ p, H1 p = none → Q (.ref p) (upd H1 p (.tup vs))) : tTup ta σ H Q := h
theorem o_call (h : ta σ H fun vs H1 => sp (vs ++ dvs) H1 Q E) : tCall sp dvs E ta σ H Q := h
theorem o_drop (h : te σ H fun _ H1 => D.nx σ H1) : tDrop te D σ H := h
theorem o_var {j : Nat} {v : V} (hj : σ[j]? = some (some v)) (h : Q v H) : tVar j σ H Q := ⟨v, hj, h⟩
theorem o_c {v : V} (h : Q v H) : tC v σ H Q := h
theorem c_call (h : EvA ta σ H vs) (k : ∀ H1, Ex H H1 → sp (vs ++ dvs) H1 Q E) : tCall sp dvs E ta σ H Q := h H (Ex.refl H) _ k
end
/-! ### _law_plain -/
/-- the kinds that are drawn -/
def kindOk (k : Nat) : Prop := k ≤ 65535
/-- worths without chains -/
def plainOk (kind : Nat) : Wo Unit → Prop
  | .chains _ => False
  | x => gWo ALL (fun _ => True) kind x ∧ smWo 40 (fun _ => True) x
def sp_plain (K : PySem.W.Frag) : Sp := fun vs H Q _ => ∃ (p lc : Addr) (kind n : Nat) (tb : Option Int), vs = [.ref p, iv kind] ∧ kind ≠ 5 ∧ PenX H p lc n tb ∧ n + 140 ≤ 1000000 ∧
  ∀ (x : Wo Unit) v H', plainOk kind x → Dp K H' v (dWo (fun _ => .none) x) → PenX H' p lc (n + 140) tb → But p H H' → Q v H'
theorem ev_numbers {σ : L2.St} {H : Hp} {E : XK} {t1 t2 t3 : TE} {p lc : Addr} {many lim n : Nat} {tb : Option Int} {Q : VK} (h1 : Ev t1 σ H (.ref p)) (h2 : Ev t2 σ H (iv many)) (h3 : Ev t3 σ H (iv lim)) (hm : many ≤ 40) (hl : 2 ≤ lim) (hl2 : lim ≤ 4294967296) (hp : PenX H p lc n tb) (hn : n + 3 * many ≤ 1000000)
    (k : ∀ (ns : List Nat) q H', ns.length = many → (∀ x ∈ ns, x < lim) → SqT K H' q (ns.map iv) → PenX H' p lc (n + 3 * many) tb → But p H H' → Q (.ref q) H') : tCall spNumbersX [] E (tCons t1 (tCons t2 (tCons t3 tNil))) σ H Q :=
  (ea_cons h1 (ea_cons h2 (ea_cons h3 ea_nil)) : EvA _ σ H _) H (Ex.refl H) _ fun H1 e1 => ⟨p, lc, many, (lim : Int), n, tb, rfl, by omega, by omega, by omega, hp.ex e1, hn, fun ns q H2 hl hx _ hq hp2 hb2 => k ns q H2 hl (fun x hxm => by have := hx x hxm; omega) (st_of hq) hp2 ((But.of e1).trans hb2)⟩
theorem ok_law_plain {f : Addr} {fd : FuncData} (F : Fun K "_law_plain" "_law_plain" s_law_plain f fd) (T : T0 K mg aKn aWi aOw aLi aOn aOt) (c_law_draw : MB.Cl P w K mg base 1 "_law_draw" spDrawX) (c_law_text : MB.Cl P w K mg base 2 "_law_text" sp_text) (c_law_numbers : MB.Cl P w K mg base 2 "_law_numbers" spNumbersX) : FnOk P w K mg base CX0 3 f fd p_law_plain (sp_plain K) := by
  refine F.ok sc_law_plain (fun vs H Q E h => ?_) (fun cdv A outer s H vs Q E hr h => ?_)
  · obtain ⟨p, lc, kind, n, tb, rfl, _⟩ := h
    rfl
  · obtain ⟨p, lc, kind, n, tb, rfl, hk5, hp, hn, k⟩ := h
    have hu64 := hu64 hr
    refine ⟨_, (pss_cons (ps_set (i := 2) sc_law_plain.nd rfl (Or.inl rfl) (pe_ix (MB.ix_K (K := K) rfl) (pe_lst (pa_cons pe_int (pa_cons pe_int (pa_cons pe_int (pa_cons pe_int (pa_cons pe_int (pa_cons pe_int (pa_cons pe_int (pa_cons (pe_op (MB.op_addK (K := K) rfl) pe_int (MB.pe_cl c_law_draw hr (by decide) (by rfl) passL (pa_cons (pv 0) (pa_cons pe_int pa_nil)))) pa_nil))))))))) (MB.pe_cl c_law_draw hr (by decide) (by rfl) passL (pa_cons (pv 0) (pa_cons pe_int pa_nil))) (fun _ _ => rfl)))
      (pss_cons (ps_if (pt_cmpR (MB.op_eqK (K := K) rfl hu64) (pv 1) pe_int (nomark _)) (pss_one (ps_ret (MB.pe_cl c_law_text hr (by decide) (by rfl) passL (pa_cons (pv 0) (pa_cons (pv 2) pa_nil))))) pss_nil)
      (pss_cons (ps_if (pt_cmpR (MB.op_eqK (K := K) rfl hu64) (pv 1) pe_int (nomark _)) (pss_cons (ps_setLc (i := 3) (own := [("_law_k", 4)]) (by rfl) sc_law_plain.nd rfl rfl (sw_true rfl rfl rfl (by decide +kernel)) (pi_range1 (by rfl) T.n_range (pa_cons (pe_op op_mod (pv 2) pe_int) pa_nil)) (blkOk_by (own := [("_law_k", 4)]) (N := n_law_plain) (sc := defScope s_law_plain) (by decide +kernel)) (fun _ _ _ _ _ => (pg_name (i := 4) sc_law_plain.nd rfl (.inl rfl))) (fun _ _ _ _ _ => pts_nil) (fun _ _ _ _ _ => (pe_ix (MB.ix_K (K := K) rfl) (pe_lst (pa_cons pe_int (pa_cons pe_int (pa_cons pe_int (pa_cons pe_int (pa_cons (MB.pe_cl c_law_draw hr (by decide) (by rfl) passL (pa_cons (pv 0) (pa_cons pe_int pa_nil))) pa_nil)))))) (MB.pe_cl c_law_draw hr (by decide) (by rfl) passL (pa_cons (pv 0) (pa_cons pe_int pa_nil))) (fun _ _ => rfl))))
      (pss_one (ps_ret (pe_callTy (MB.call_tupleK (K := K) rfl) (by rfl) T.n_tuple MB.bo_tuple (pa_cons (pe_lc (own := [("_law_size", 5)]) (by rfl) sc_law_plain.nd (MB.pi_listK (K := K) rfl (pv 3)) (blkOk_by (own := [("_law_size", 5)]) (N := n_law_plain) (sc := defScope s_law_plain) (by decide +kernel)) (fun _ _ _ _ _ => (pg_name (i := 5) sc_law_plain.nd rfl (.inl rfl))) (fun _ _ _ _ _ => pts_nil) (fun _ _ _ _ _ => (MB.pe_cl c_law_numbers hr (by decide) (by rfl) passL (pa_cons (pv 0) (pa_cons (pv 5) (pa_cons pe_int pa_nil)))))) pa_nil))))) pss_nil)
      (pss_cons (ps_if (pt_cmpR (MB.op_inK (K := K) rfl) (pv 1) (pe_tup (pa_cons pe_int (pa_cons pe_int (pa_cons pe_int pa_nil)))) rfl) (pss_one (ps_ret (MB.pe_cl c_law_numbers hr (by decide) (by rfl) passL (pa_cons (pv 0) (pa_cons (pv 2) (pa_cons (pe_ix (MB.ix_K (K := K) rfl) (pe_lst (pa_cons pe_int (pa_cons pe_int (pa_cons (pe_op op_pow pe_int pe_int) pa_nil)))) (pe_op op_sub (pv 1) pe_int) (fun _ _ => rfl)) pa_nil)))))) pss_nil)
      (pss_one (ps_ret (MB.pe_cl c_law_numbers hr (by decide) (by rfl) passL (pa_cons (pv 0) (pa_cons (pe_op (MB.op_mulK (K := K) rfl) (pv 2) (pe_ix (MB.ix_K (K := K) rfl) (pe_lst (pa_cons pe_int (pa_cons pe_int (pa_cons pe_int pa_nil)))) (pe_op op_mod (pv 1) pe_int) (fun _ _ => rfl))) (pa_cons pe_int pa_nil)))))))))), ?_⟩
    refine q_dre (p := p) (lc := lc) (B := 10) (dre_pick (L := 8) (drb_cons (dre_c (x := 0) (by omega)) (drb_cons (dre_c (x := 1) (by omega)) (drb_cons (dre_c (x := 1) (by omega)) (drb_cons (dre_c (x := 2) (by omega)) (drb_cons (dre_c (x := 3) (by omega)) (drb_cons (dre_c (x := 4) (by omega)) (drb_cons (dre_c (x := 5) (by omega)) (drb_cons (dre_add (B1 := 2) (B2 := 8) (dre_c (x := 2) (by omega)) (dre_draw (m := 9) rfl (by decide) (by decide) (by decide))) drb_nil)))))))) rfl (by decide) (by decide)) hp (by omega) fun many H1 hm hp1 hb1 => ?_
    refine q_ifN (b := decide (kind = 4)) (et_test (ev_is (ev_op (ev_var rfl) ev_c rv_eqI) (congrArg V.bl (decide_eq_decide.mpr (by omega))))) (fun hb H2 e2 => ?_) fun hb H2 e2 => ?_
    · obtain rfl := of_decide_eq_true hb
      refine s_retC (ea_cons (ev_var rfl) (ea_cons (ev_var rfl) ea_nil)) fun H3 e3 => ⟨p, lc, many, _, tb, rfl, hm, (hp1.ex (e2.trans e3)), by omega, fun t H4 ht hs hp4 hb4 => ?_⟩
      exact k (.text t) _ H4 ⟨⟨rfl, by decide, by omega, hs⟩, by show t.length ≤ 10; omega⟩ (.str _) (hp4.le (by omega)) (hb1.trans ((But.of (e2.trans e3)).trans hb4))
    have hk4 := of_decide_eq_false hb
    refine q_ifN (b := decide (kind = 6)) (et_test (ev_is (ev_op (ev_var rfl) ev_c rv_eqI) (congrArg V.bl (decide_eq_decide.mpr (by omega))))) (fun hb H3 e3 => ?_) fun hb H3 e3 => ?_
    · obtain rfl := of_decide_eq_true hb
      have e23 := e2.trans e3
      have hp3 := hp1.ex e23
      refine o_seqAsg (lc_rngP (α := Nat) (K := K) (p := p) (lc := lc) (m := many % 4) (fun c => .int (c : Int)) (fun _ => rfl) (fun acc n' t' => n' ≤ n + 2 + 2 * acc.length ∧ t' = tb ∧ ∀ c ∈ acc, c ≤ 8) (ea_cons (ev_is (ev_op (ev_var rfl) ev_c (rv_I (by show (0 : Int) < 4; decide))) (w := .int ((many % 4 : Nat) : Int)) (congrArg V.int (by omega))) ea_nil) (by omega) (fun _ => by rfl) hp3 ⟨by simp, rfl, fun c hc => absurd hc List.not_mem_nil⟩ (fun acc n' t' H2 hlt c2 p2 b2 Q2 q2 => ?_) fun q xs n2 t2 H4 ws hl c2 p2 b2 hq hw hd => ?_)
      · obtain ⟨c21, rfl, c23⟩ := c2
        refine (dre_pick (B := 8) (L := 5) (drb_cons (dre_c (x := 0) (by omega)) (drb_cons (dre_c (x := 1) (by omega)) (drb_cons (dre_c (x := 4) (by omega)) (drb_cons (dre_c (x := 5) (by omega)) (drb_cons (dre_draw (m := 9) rfl (by decide) (by decide) (by decide)) drb_nil))))) rfl (by decide) (by decide) : DrE _ _ p lc 2 8) H2 n' _ p2 (by omega) _ fun x H5 hx hp5 hb5 => q2 _ x _ _ H5 ⟨?_, rfl, ?_⟩ hp5 hb5 (.int _)
        · rw [List.length_append, List.length_singleton]
          omega
        · intro y hy
          rcases List.mem_append.mp hy with hy | hy
          · exact c23 y hy
          · rw [List.mem_singleton] at hy
            omega
      · obtain ⟨c21, rfl, c23⟩ := c2
        have hws := dpAll_ints hd
        subst hws
        refine o_ret (o_cb (o_cons (lc_lstP (α := List Nat) (β := Nat) (K := K) (p := p) (lc := lc) (ds := xs) iv dT tupd_dT (fun acc n' t' => n' ≤ n2 + 24 * acc.length ∧ t' = t2 ∧ ∀ c ∈ acc, c.length ≤ 8 ∧ ∀ y ∈ c, y < 256) (ep_val (ev_var rfl) hw) (by omega) (fun _ => by rfl) p2 ⟨by simp, rfl, fun c hc => absurd hc List.not_mem_nil⟩ (fun acc n' t' H5 dd hdd c5 p5 b5 Q2 q5 => ?_) fun q5 ys n5 t5 H5 ws5 hl5 c5 p5 b5 hq5 hw5 hd5 => ?_)))
        · obtain ⟨c51, rfl, c53⟩ := c5
          have h8 := c23 dd (List.mem_of_getElem? hdd)
          have hal := (List.getElem?_eq_some_iff.mp hdd).1
          refine ev_numbers (K := K) (many := dd) (lim := 256) (ev_var rfl) (ev_var rfl) ev_c (by omega) (by decide) (by decide) p5 (by omega) fun ns q H6 hnl hns hqt hp6 hb6 => q5 _ ns _ _ H6 ⟨?_, rfl, ?_⟩ hp6 hb6 (dp_nums hqt)
          · rw [List.length_append, List.length_singleton]
            omega
          · intro y hy
            rcases List.mem_append.mp hy with hy | hy
            · exact c53 y hy
            · rw [List.mem_singleton] at hy
              subst hy
              exact ⟨by omega, hns⟩
        · obtain ⟨c51, rfl, c53⟩ := c5
          refine ⟨q5, ws5, rfl, .inl ⟨sq_of hw5, fun r hr => ?_⟩⟩
          refine k (.pieces ys) _ _ ⟨⟨rfl, by decide, by omega, fun y hy => ⟨by have := (c53 y hy).1; omega, (c53 y hy).2⟩⟩, by show ys.length ≤ 3 ∧ _; exact ⟨by omega, fun y hy => (c53 y hy).1⟩⟩ (.tup (st_of upd_same) (dpAll_ex (Ex.new hr) _ _ hd5)) ((p5.ex (Ex.new hr)).le (by omega)) (hb1.trans ((But.of e23).trans (b2.trans (b5.trans (But.of (Ex.new hr))))))
    have hk6 := of_decide_eq_false hb
    have e23 := e2.trans e3
    refine q_ifN (b := decide (kind ∈ [1, 2, 3])) (et_test (ev_opU (xs := [1, 2, 3].map iv) (ev_var rfl) (eu_tup (ea_cons ev_c (ea_cons ev_c (ea_cons ev_c ea_nil))) (by show 3 ≤ 100000; decide)) fun p H3 hp e => rv_inK (st_of hp))) (fun hb H4 e4 => ?_) fun hb H4 e4 => ?_
    · have hin : kind = 1 ∨ kind = 2 ∨ kind = 3 := by simpa using of_decide_eq_true hb
      have hlim : 256 ≤ lim kind ∧ lim kind ≤ 4294967296 := ⟨by rcases hin with rfl | rfl | rfl <;> decide, lim_le kind⟩
      have hat : atI ([V.int 256, V.int 65536, V.int (2 ^ (32 : Int).toNat)] : List V) (((kind - 1 : Nat) : Int)) = some (iv (lim kind)) := by
        rcases hin with rfl | rfl | rfl <;> rfl
      refine o_ret (ev_numbers (K := K) (many := many) (lim := lim kind) (ev_var rfl) (ev_var rfl) (ev_opLs (xs := [V.int 256, V.int 65536, V.int (2 ^ (32 : Int).toNat)]) (els_new (el_lst (ea_cons ev_c (ea_cons ev_c (ea_cons (ev_op ev_c ev_c (rv_I ⟨by decide, by decide, by decide⟩)) ea_nil))) (by show 3 ≤ 100000; decide))) (ev_is (ev_op (ev_var rfl) ev_c rv_I0) (w := .int ((kind - 1 : Nat) : Int)) (congrArg V.int (by omega))) fun q H5 hq e => rv_xL hq hat) (by omega) (by omega) hlim.2 (hp1.ex (e23.trans e4)) (by omega) fun ns q H5 hnl hns hqt hp5 hb5 => ?_)
      refine k (.nums ns) _ H5 ⟨.inl ⟨by rcases hin with rfl | rfl | rfl <;> decide, by omega, by omega, hns⟩, by show ns.length ≤ 40; omega⟩ (dp_nums hqt) (hp5.le (by omega)) (hb1.trans ((But.of (e23.trans e4)).trans hb5))
    · have hnin : ¬ (kind = 1 ∨ kind = 2 ∨ kind = 3) := fun z => of_decide_eq_false hb (by simpa using z)
      have hall : kind ∉ ALL := fun z => by
        have : kind = 1 ∨ kind = 2 ∨ kind = 3 ∨ kind = 4 ∨ kind = 5 ∨ kind = 6 := by simpa using z
        omega
      have hat : atI ([V.int 1, V.int 2, V.int 4] : List V) (((kind % 3 : Nat) : Int)) = some (iv (wid kind)) := by
        have h := wid_out hall
        have : kind % 3 = 0 ∨ kind % 3 = 1 ∨ kind % 3 = 2 := by omega
        rcases this with e | e | e <;> rw [e] at h ⊢ <;> (injection h with h; rw [← h]; rfl)
      have h4 := wid_le kind
      have hmul : many * wid kind ≤ 40 := Nat.le_trans (Nat.mul_le_mul hm h4) (by decide)
      refine o_ret (ev_numbers (K := K) (many := many * wid kind) (lim := 256) (ev_var rfl) (ev_is (ev_op (ev_var rfl) (ev_opLs (xs := [V.int 1, V.int 2, V.int 4]) (els_new (el_lst (ea_cons ev_c (ea_cons ev_c (ea_cons ev_c ea_nil))) (by show 3 ≤ 100000; decide))) (ev_is (ev_op (ev_var rfl) ev_c (rv_I (by show (0 : Int) < 3; decide))) (w := .int ((kind % 3 : Nat) : Int)) (congrArg V.int (by omega))) fun q H5 hq e => rv_xL hq hat) (rv_mulI (.inl ⟨by omega, by omega⟩))) (w := iv (many * wid kind)) (congrArg V.int (by rw [Int.natCast_mul]))) ev_c hmul (by decide) (by decide) (hp1.ex (e23.trans e4)) (by omega) fun ns q H5 hnl hns hqt hp5 hb5 => ?_)
      refine k (.nums ns) _ H5 ⟨.inr ⟨hall, ?_, by rw [hnl]; exact Nat.mul_mod_left _ _, hns⟩, by show ns.length ≤ 40; omega⟩ (dp_nums hqt) (hp5.le (by omega)) (hb1.trans ((But.of (e23.trans e4)).trans hb5))
      rw [hnl]
      exact Nat.mul_le_mul_right _ (by omega)
/-! ### _law_entry, _law_table, _law_chain -/
/-- the list of kinds to draw from -/
def KsAt (H : Hp) (kl : Addr) (ks : List Nat) : Prop := H kl = some (.lst (ks.map iv)) ∧ ks ≠ [] ∧ ks.length ≤ 8 ∧ ∀ x ∈ ks, x ≤ 65535
theorem KsAt.but {H H' : Hp} {p kl lc : Addr} {n : Nat} {tb : Option Int} {ks : List Nat} (h : KsAt H kl ks) (hp : PenX H p lc n tb) (e : But p H H') : KsAt H' kl ks := ⟨e _ _ (hp.ne h.1) h.1, h.2⟩
theorem KsAt.ex {H H' : Hp} {kl : Addr} {ks : List Nat} (h : KsAt H kl ks) (e : Ex H H') : KsAt H' kl ks := ⟨e _ _ h.1, h.2⟩
structure EntOk (d : Nat) (tag : Nat) (t t' : Nat) (e : Ent (Ch d)) : Prop where
  tg : e.tag = tag
  g : GEnt ALL (gCh ALL d) e
  s : smWo 40 (smCh 40 d) e.w
  n : t' + nTw (nT d) e.w = t
def sp_entry (K : PySem.W.Frag) (d : Nat) : Sp := fun vs H Q _ => ∃ (p lc kl : Addr) (tag n t : Nat) (ks : List Nat), vs = [.ref p, iv tag, iv d, .ref kl] ∧ tag ≤ 65535 ∧ PenX H p lc n (some (t : Int)) ∧ KsAt H kl ks ∧ n + 150 + 1300 * t ≤ 1000000 ∧
  ∀ (e : Ent (Ch d)) (t' : Nat) v H', EntOk d tag t t' e → Dp K H' v (dEnt (dCh d) e) → PenX H' p lc (n + 150 + 1300 * (t - t')) (some (t' : Int)) → But p H H' → Q v H'
structure TabOk (d : Nat) (t t' : Nat) (x : Tab d) : Prop where
  g : GTab ALL (gCh ALL d) x
  s : smTab 40 (smCh 40 d) x
  n : t' + (x.map fun e => nTw (nT d) e.w).sum = t
def sp_table (K : PySem.W.Frag) (d : Nat) : Sp := fun vs H Q _ => ∃ (p lc kl : Addr) (n t : Nat) (ks : List Nat), vs = [.ref p, iv d, .ref kl] ∧ PenX H p lc n (some (t : Int)) ∧ KsAt H kl ks ∧ n + 800 + 1300 * t ≤ 1000000 ∧
  ∀ (x : Tab d) (t' : Nat) v H', TabOk d t t' x → Dp K H' v (dTab (dCh d) x) → PenX H' p lc (n + 800 + 1300 * (t - t')) (some (t' : Int)) → But p H H' → Q v H'
structure ChaOk (d : Nat) (t t' : Nat) (c : Ch d) : Prop where
  g : gCh ALL d c
  s : smCh 40 d c
  n : t' + nT d c = t
def sp_chain (K : PySem.W.Frag) (d : Nat) : Sp := fun vs H Q _ => ∃ (p lc kl : Addr) (most n t : Nat) (ks : List Nat), vs = [.ref p, iv d, iv most, .ref kl] ∧ most ≤ 3 ∧ PenX H p lc n (some (t : Int)) ∧ KsAt H kl ks ∧ n + 5 + 1300 * t ≤ 1000000 ∧
  ∀ (c : Ch (d + 1)) (t' : Nat) v H', ChaOk (d + 1) t t' c → Dp K H' v (dCh (d + 1) c) → PenX H' p lc (n + 5 + 1300 * (t - t')) (some (t' : Int)) → But p H H' → Q v H'
theorem plain_ent {d tag t kind : Nat} {x : Wo Unit} (h : plainOk kind x) (htag : tag ≤ 65535) (hk : kind ≤ 65535) : ∃ y : Wo (Ch d), EntOk d tag t t ⟨tag, kind, y⟩ ∧ dWo (dCh d) y = dWo (fun _ => .none) x := by
  cases x with
  | nums l => exact ⟨.nums l, ⟨rfl, ⟨htag, hk, h.1⟩, h.2, rfl⟩, rfl⟩
  | text l => exact ⟨.text l, ⟨rfl, ⟨htag, hk, h.1⟩, h.2, rfl⟩, rfl⟩
  | pieces l => exact ⟨.pieces l, ⟨rfl, ⟨htag, hk, h.1⟩, h.2, rfl⟩, rfl⟩
  | chains l => exact h.elim
/-- the kind that is drawn -/
theorem q_kind {σ : L2.St} {H : Hp} {E : XK} {D : Ends} {tz : TS} {p lc kl : Addr} {n i j m : Nat} {tb : Option Int} {ks : List Nat} (h0 : σ[i]? = some (some (.ref p))) (h1 : σ[j]? = some (some (.ref kl))) (hp : PenX H p lc n tb) (hk : KsAt H kl ks) (hn : n + 1 ≤ 1000000)
    (k : ∀ (x : Nat) H', x ≤ 65535 → PenX H' p lc (n + 1) tb → But p H H' → tz D (σ.set m (some (iv x))) H') :
    tSeq (tAsg (tOp (rIx K) (tVar j) (tCall spDrawX [] E (tCons (tVar i) (tCons (tCB (rLenA K) (tCons (tVar j) tNil)) tNil)))) (gName m)) tz D σ H := by
  obtain ⟨k1, k2, k3, k4⟩ := hk
  have hpos : 0 < ks.length := List.length_pos_iff.mpr k2
  refine ⟨_, h1, ev_drawX (m := (ks.length : Int)) (ev_var h0) (ev_is (ev_cb1 (ev_var h1) (rc_lenL (sq_of k1))) (congrArg V.int (by rw [List.length_map]))) (by omega) (by omega) hp (by omega) fun r H2 r0 r1 p2 b2 => ?_⟩
  obtain ⟨x, rfl⟩ : ∃ x : Nat, r = (x : Int) := ⟨r.toNat, by omega⟩
  have hlt : x < ks.length := by omega
  exact .inl ⟨kl, _, _, _, rfl, rfl, sq_of (b2 _ _ (hp.ne k1) k1), MB.atI_nat (by rw [List.getElem?_map, List.getElem?_eq_getElem hlt]; rfl), k _ H2 (k4 _ (List.getElem_mem hlt)) p2 b2⟩
/-- an entry of a plain kind -/
theorem r_plain {d : Nat} {σ : L2.St} {H : Hp} {E : XK} {p lc : Addr} {tag kind n t i1 i2 i3 : Nat} {Q : VK} (h0 : σ[i1]? = some (some (.ref p))) (h1 : σ[i2]? = some (some (iv tag))) (h2 : σ[i3]? = some (some (iv kind))) (hk5 : kind ≠ 5) (hk : kind ≤ 65535) (ht : tag ≤ 65535) (hp : PenX H p lc n (some (t : Int))) (hn : n + 140 ≤ 1000000)
    (k : ∀ (e : Ent (Ch d)) v H', EntOk d tag t t e → Dp K H' v (dEnt (dCh d) e) → PenX H' p lc (n + 140) (some (t : Int)) → But p H H' → Q v H') :
    tTup (tCons (tVar i2) (tCons (tVar i3) (tCons (tCall (sp_plain K) [] E (tCons (tVar i1) (tCons (tVar i3) tNil))) tNil))) σ H Q := by
  refine o_tup (o_cons (o_var h1 (o_cons (o_var h2 (o_cons (o_call (o_cons (o_var h0 (o_cons (o_var h2 ?_)))))))))) 
  refine ⟨p, lc, kind, n, _, rfl, hk5, hp, hn, fun x v H2 hx hd p2 b2 => ⟨by show 3 ≤ sizeLine; decide, fun q hq => ?_⟩⟩
  obtain ⟨y, hy1, hy2⟩ := plain_ent (d := d) (tag := tag) (t := t) hx ht hk
  rw [← hy2] at hd
  exact k _ _ _ hy1 (dp_ent3 (st_of upd_same) (dp_ex (Ex.new hq) _ _ hd)) (p2.ex (Ex.new hq)) (b2.trans (But.of (Ex.new hq)))
theorem ok_law_entry0 {sp : Sp} {f : Addr} {fd : FuncData} (F : Fun K "_law_entry" "_law_entry" s_law_entry f fd) (T : T0 K mg aKn aWi aOw aLi aOn aOt) (c_law_draw : MB.Cl P w K mg base 1 "_law_draw" spDrawX) (c_law_plain : MB.Cl P w K mg base 3 "_law_plain" (sp_plain K)) (c_law_chain : MB.Cl P w K mg base 1 "_law_chain" sp) : FnOk P w K mg base CX0 4 f fd p_law_entry (sp_entry K 0) := by
  refine F.ok sc_law_entry (fun vs H Q E h => ?_) (fun cdv A outer s H vs Q E hr h => ?_)
  · obtain ⟨p, lc, kl, tag, n, t, ks, rfl, _⟩ := h
    rfl
  · obtain ⟨p, lc, kl, tag, n, t, ks, rfl, ht, hp, hk, hn, k⟩ := h
    have hu64 := hu64 hr
    refine ⟨_, (pss_cons (ps_set (i := 4) sc_law_entry.nd rfl (Or.inl rfl) (pe_ix (MB.ix_K (K := K) rfl) (pv 3) (MB.pe_cl c_law_draw hr (by decide) (by rfl) passL (pa_cons (pv 0) (pa_cons (pe_callB (MB.call_lenK (K := K) rfl) (by rfl) T.n_len MB.bo_len (pa_cons (pv 3) pa_nil)) pa_nil))) (fun _ _ => rfl)))
      (pss_cons (ps_if (pt_cmpR (MB.op_neK (K := K) rfl hu64) (pv 4) pe_int (nomark _)) (pss_one (ps_ret (pe_tup (pa_cons (pv 1) (pa_cons (pv 4) (pa_cons (MB.pe_cl c_law_plain hr (by decide) (by rfl) passL (pa_cons (pv 0) (pa_cons (pv 4) pa_nil))) pa_nil)))))) pss_nil)
      (pss_cons (ps_set (i := 5) sc_law_entry.nd rfl (Or.inl rfl) (pe_ix (MB.ix_K (K := K) rfl) (pe_lst (pa_cons pe_int (pa_cons pe_int (pa_cons pe_int (pa_cons pe_int pa_nil))))) (MB.pe_cl c_law_draw hr (by decide) (by rfl) passL (pa_cons (pv 0) (pa_cons pe_int pa_nil))) (fun _ _ => rfl)))
      (pss_cons (ps_if (pt_cmpR (MB.op_eqK (K := K) rfl hu64) (pv 2) pe_int (nomark _)) (pss_one (ps_set (i := 5) sc_law_entry.nd rfl (Or.inl rfl) pe_int)) pss_nil)
      (pss_one (ps_ret (pe_tup (pa_cons (pv 1) (pa_cons pe_int (pa_cons (pe_callTy (MB.call_tupleK (K := K) rfl) (by rfl) T.n_tuple MB.bo_tuple (pa_cons (pe_lc (own := [("_law_k", 6)]) (by rfl) sc_law_entry.nd (pi_range1 (by rfl) T.n_range (pa_cons (pv 5) pa_nil)) (blkOk_by (own := [("_law_k", 6)]) (N := n_law_entry) (sc := defScope s_law_entry) (by decide +kernel)) (fun _ _ _ _ _ => (pg_name (i := 6) sc_law_entry.nd rfl (.inl rfl))) (fun _ _ _ _ _ => pts_nil) (fun _ _ _ _ _ => (MB.pe_cl c_law_chain hr (by decide) (by rfl) passL (pa_cons (pv 0) (pa_cons (pe_op op_sub (pv 2) pe_int) (pa_cons pe_int (pa_cons (pv 3) pa_nil))))))) pa_nil)) pa_nil)))))))))), ?_⟩
    refine q_kind rfl rfl hp hk (by omega) fun kind H1 hkd hp1 hb1 => ?_
    refine q_ifN (b := !decide (kind = 5)) (et_test (ev_is (ev_op (ev_var rfl) ev_c rv_neI) (congrArg V.bl (by rw [decide_eq_decide.mpr (show (kind : Int) = 5 ↔ kind = 5 by omega)])))) (fun hb H2 e2 => ?_) fun hb H2 e2 => ?_
    · refine o_ret ?_
      exact r_plain (d := 0) (t := t) rfl rfl rfl (by simpa using hb) hkd ht (hp1.ex e2) (by omega) fun e v H3 he hd p3 b3 => k e t v H3 he hd (p3.le (by omega)) (hb1.trans ((But.of e2).trans b3))
    · have h5 : kind = 5 := by simpa using hb
      subst h5
      refine q_dre (p := p) (lc := lc) (B := 2) (dre_pick (L := 4) (drb_cons (dre_c (x := 0) (by omega)) (drb_cons (dre_c (x := 1) (by omega)) (drb_cons (dre_c (x := 1) (by omega)) (drb_cons (dre_c (x := 2) (by omega)) drb_nil)))) rfl (by decide) (by decide)) (hp1.ex e2) (by omega) fun many H3 hm hp3 hb3 => ?_
      refine q_ifN (b := true) (et_test (ev_is (ev_op (ev_var rfl) ev_c rv_eqI) rfl)) (fun _ H4 e4 => ?_) fun h => by cases h
      refine s_asg (v := iv 0) ev_c fun H5 e5 => ?_
      have e35 := e4.trans e5
      refine o_ret (o_tup (o_cons (o_var rfl (o_cons (o_c (o_cons (o_cb (o_cons ?_))))))))
      refine lc_rngP (α := Unit) (K := K) (p := p) (lc := lc) (m := 0) (fun _ => .none) (fun _ => rfl) (fun acc n' t' => acc = [] ∧ n' = n + 2 ∧ t' = some (t : Int)) (ea_cons (ev_var rfl) ea_nil) (by omega) (fun _ => by rfl) ((hp3.ex e35).le (m := n + 2) (by omega)) ⟨rfl, rfl, rfl⟩ (fun acc n' t' H2 hlt c2 p2 b2 Q2 q2 => absurd hlt (Nat.not_lt_zero _)) fun q xs n2 t2 H6 ws hl c2 p2 b2 hq hw hd => ?_
      obtain ⟨rfl, rfl, rfl⟩ := c2
      cases hd
      refine ⟨q, [], rfl, .inl ⟨sq_of hw, fun r hr => ⟨by show 3 ≤ sizeLine; decide, fun q2 hq2 => ?_⟩⟩⟩
      have e6 := (Ex.new (o := .tup []) hr).trans (Ex.new (o := .tup [iv tag, iv 5, .ref r]) hq2)
      refine k ⟨tag, 5, .chains []⟩ t _ _ ⟨rfl, ⟨ht, by show 5 ≤ 65535; decide, rfl, by decide, by show 0 ≤ 300; decide, fun c hc => absurd hc List.not_mem_nil⟩, ⟨by show 0 ≤ 2; decide, fun c hc => absurd hc List.not_mem_nil⟩, rfl⟩ (dp_ent3 (st_of upd_same) (.tup (st_of (Ex.new hq2 _ _ upd_same)) .nil)) ((p2.ex e6).le (by omega)) (hb1.trans ((But.of e2).trans (hb3.trans ((But.of e35).trans (b2.trans (But.of e6))))))
theorem ok_law_entryS {d : Nat} {f : Addr} {fd : FuncData} (F : Fun K "_law_entry" "_law_entry" s_law_entry f fd) (T : T0 K mg aKn aWi aOw aLi aOn aOt) (c_law_draw : MB.Cl P w K mg base 1 "_law_draw" spDrawX) (c_law_plain : MB.Cl P w K mg base 3 "_law_plain" (sp_plain K)) (c_law_chain : MB.Cl P w K mg base (3 * d + 6) "_law_chain" (sp_chain K d)) : FnOk P w K mg base CX0 (3 * d + 7) f fd p_law_entry (sp_entry K (d + 1)) := by
  refine F.ok sc_law_entry (fun vs H Q E h => ?_) (fun cdv A outer s H vs Q E hr h => ?_)
  · obtain ⟨p, lc, kl, tag, n, t, ks, rfl, _⟩ := h
    rfl
  · obtain ⟨p, lc, kl, tag, n, t, ks, rfl, ht, hp, hk, hn, k⟩ := h
    have hu64 := hu64 hr
    refine ⟨_, (pss_cons (ps_set (i := 4) sc_law_entry.nd rfl (Or.inl rfl) (pe_ix (MB.ix_K (K := K) rfl) (pv 3) (MB.pe_cl c_law_draw hr (by omega) (by rfl) passL (pa_cons (pv 0) (pa_cons (pe_callB (MB.call_lenK (K := K) rfl) (by rfl) T.n_len MB.bo_len (pa_cons (pv 3) pa_nil)) pa_nil))) (fun _ _ => rfl)))
      (pss_cons (ps_if (pt_cmpR (MB.op_neK (K := K) rfl hu64) (pv 4) pe_int (nomark _)) (pss_one (ps_ret (pe_tup (pa_cons (pv 1) (pa_cons (pv 4) (pa_cons (MB.pe_cl c_law_plain hr (by omega) (by rfl) passL (pa_cons (pv 0) (pa_cons (pv 4) pa_nil))) pa_nil)))))) pss_nil)
      (pss_cons (ps_set (i := 5) sc_law_entry.nd rfl (Or.inl rfl) (pe_ix (MB.ix_K (K := K) rfl) (pe_lst (pa_cons pe_int (pa_cons pe_int (pa_cons pe_int (pa_cons pe_int pa_nil))))) (MB.pe_cl c_law_draw hr (by omega) (by rfl) passL (pa_cons (pv 0) (pa_cons pe_int pa_nil))) (fun _ _ => rfl)))
      (pss_cons (ps_if (pt_cmpR (MB.op_eqK (K := K) rfl hu64) (pv 2) pe_int (nomark _)) (pss_one (ps_set (i := 5) sc_law_entry.nd rfl (Or.inl rfl) pe_int)) pss_nil)
      (pss_one (ps_ret (pe_tup (pa_cons (pv 1) (pa_cons pe_int (pa_cons (pe_callTy (MB.call_tupleK (K := K) rfl) (by rfl) T.n_tuple MB.bo_tuple (pa_cons (pe_lc (own := [("_law_k", 6)]) (by rfl) sc_law_entry.nd (pi_range1 (by rfl) T.n_range (pa_cons (pv 5) pa_nil)) (blkOk_by (own := [("_law_k", 6)]) (N := n_law_entry) (sc := defScope s_law_entry) (by decide +kernel)) (fun _ _ _ _ _ => (pg_name (i := 6) sc_law_entry.nd rfl (.inl rfl))) (fun _ _ _ _ _ => pts_nil) (fun _ _ _ _ _ => (MB.pe_cl c_law_chain hr (by omega) (by rfl) passL (pa_cons (pv 0) (pa_cons (pe_op op_sub (pv 2) pe_int) (pa_cons pe_int (pa_cons (pv 3) pa_nil))))))) pa_nil)) pa_nil)))))))))), ?_⟩
    refine q_kind rfl rfl hp hk (by omega) fun kind H1 hkd hp1 hb1 => ?_
    have hk1 := hk.but hp hb1
    refine q_ifN (b := !decide (kind = 5)) (et_test (ev_is (ev_op (ev_var rfl) ev_c rv_neI) (congrArg V.bl (by rw [decide_eq_decide.mpr (show (kind : Int) = 5 ↔ kind = 5 by omega)])))) (fun hb H2 e2 => ?_) fun hb H2 e2 => ?_
    · refine o_ret ?_
      exact r_plain (d := d + 1) (t := t) rfl rfl rfl (by simpa using hb) hkd ht (hp1.ex e2) (by omega) fun e v H3 he hd p3 b3 => k e t v H3 he hd (p3.le (by omega)) (hb1.trans ((But.of e2).trans b3))
    · have h5 : kind = 5 := by simpa using hb
      subst h5
      have hp2 := hp1.ex e2
      refine q_dre (p := p) (lc := lc) (B := 2) (dre_pick (L := 4) (drb_cons (dre_c (x := 0) (by omega)) (drb_cons (dre_c (x := 1) (by omega)) (drb_cons (dre_c (x := 1) (by omega)) (drb_cons (dre_c (x := 2) (by omega)) drb_nil)))) rfl (by decide) (by decide)) hp2 (by omega) fun many H3 hm hp3 hb3 => ?_
      have hk3 := (hk1.ex e2).but hp2 hb3
      refine q_ifN (b := false) (et_test (ev_is (ev_op (ev_var rfl) ev_c rv_eqI) (congrArg V.bl (decide_eq_false (by omega))))) (fun h => by cases h) fun _ H4 e4 => ?_
      have hp4 := hp3.ex e4
      have hk4 := hk3.ex e4
      refine o_ret (o_tup (o_cons (o_var rfl (o_cons (o_c (o_cons (o_cb (o_cons ?_))))))))
      refine lc_rngP (α := Ch (d + 1)) (K := K) (p := p) (lc := lc) (m := many) (dCh (d + 1)) (tupd_ch (d + 1)) (fun acc n' tb' => ∃ t' : Nat, tb' = some (t' : Int) ∧ n' ≤ n + 2 + 5 * acc.length + 1300 * (t - t') ∧ t' + (acc.map (nT (d + 1))).sum = t ∧ ∀ c ∈ acc, gCh ALL (d + 1) c ∧ smCh 40 (d + 1) c) (ea_cons (ev_var rfl) ea_nil) (by omega) (fun _ => by rfl) (hp4.le (m := n + 2) (by omega)) ⟨t, rfl, by simp, by simp, fun c hc => absurd hc List.not_mem_nil⟩ (fun acc n' tb' H5 hlt c2 p5 b5 Q2 q2 => ?_) fun q xs n2 tb2 H6 ws hl c2 p2 b2 hq hw hd => ?_
      · obtain ⟨t', rfl, c21, c22, c23⟩ := c2
        refine c_call (ea_cons (ev_var rfl) (ea_cons (ev_is (ev_op (ev_var rfl) ev_c rv_I0) (w := iv d) (congrArg V.int (by omega))) (ea_cons ev_c (ea_cons (ev_var rfl) ea_nil)))) fun H6 e6 => ⟨p, lc, kl, 2, n', t', ks, rfl, by decide, p5.ex e6, (hk4.but hp4 b5).ex e6, by omega, fun c t2 v H7 hc hd p7 b7 => ?_⟩
        refine q2 v c _ _ H7 ⟨t2, rfl, ?_, ?_, ?_⟩ p7 ((But.of e6).trans b7) hd
        · rw [List.length_append, List.length_singleton]
          have := hc.n
          omega
        · rw [List.map_append, List.sum_append]
          have := hc.n
          simp
          omega
        · intro y hy
          rcases List.mem_append.mp hy with hy | hy
          · exact c23 y hy
          · rw [List.mem_singleton] at hy
            subst hy
            exact ⟨hc.g, hc.s⟩
      · obtain ⟨t', rfl, c21, c22, c23⟩ := c2
        refine ⟨q, ws, rfl, .inl ⟨sq_of hw, fun r hr => ⟨by show 3 ≤ sizeLine; decide, fun q2 hq2 => ?_⟩⟩⟩
        have e6 := (Ex.new (o := .tup ws) hr).trans (Ex.new (o := .tup [iv tag, iv 5, .ref r]) hq2)
        refine k ⟨tag, 5, .chains xs⟩ t' _ _ ⟨rfl, ⟨ht, by show 5 ≤ 65535; decide, rfl, by decide, by omega, fun c hc => (c23 c hc).1⟩, ⟨by omega, fun c hc => (c23 c hc).2⟩, c22⟩ (dp_ent3 (st_of upd_same) (.tup (st_of (Ex.new hq2 _ _ upd_same)) (dpAll_ex e6 _ _ hd))) ((p2.ex e6).le (by omega)) (hb1.trans ((But.of e2).trans (hb3.trans ((But.of e4).trans (b2.trans (But.of e6))))))
theorem ok_law_table {d : Nat} {f : Addr} {fd : FuncData} (F : Fun K "_law_table" "_law_table" s_law_table f fd) (T : T0 K mg aKn aWi aOw aLi aOn aOt) (c_law_draw : MB.Cl P w K mg base 1 "_law_draw" spDrawX) (c_law_tags : MB.Cl P w K mg base 2 "_law_tags" sp_tags) (c_law_entry : MB.Cl P w K mg base (3 * d + 4) "_law_entry" (sp_entry K d)) : FnOk P w K mg base CX0 (3 * d + 5) f fd p_law_table (sp_table K d) := by
  refine F.ok sc_law_table (fun vs H Q E h => ?_) (fun cdv A outer s H vs Q E hr h => ?_)
  · obtain ⟨p, lc, kl, n, t, ks, rfl, _⟩ := h
    rfl
  · obtain ⟨p, lc, kl, n, t, ks, rfl, hp, hk, hn, k⟩ := h
    refine ⟨_, (pss_cons (ps_set (i := 3) sc_law_table.nd rfl (Or.inl rfl) (MB.pe_cl c_law_tags hr (by omega) (by rfl) passL (pa_cons (pv 0) (pa_cons (pe_ix (MB.ix_K (K := K) rfl) (pe_lst (pa_cons pe_int (pa_cons pe_int (pa_cons pe_int (pa_cons pe_int (pa_cons (MB.pe_cl c_law_draw hr (by omega) (by rfl) passL (pa_cons (pv 0) (pa_cons pe_int pa_nil))) pa_nil)))))) (MB.pe_cl c_law_draw hr (by omega) (by rfl) passL (pa_cons (pv 0) (pa_cons pe_int pa_nil))) (fun _ _ => rfl)) pa_nil))))
      (pss_one (ps_ret (pe_callTy (MB.call_tupleK (K := K) rfl) (by rfl) T.n_tuple MB.bo_tuple (pa_cons (pe_lc (own := [("_law_tag", 4)]) (by rfl) sc_law_table.nd (MB.pi_listK (K := K) rfl (pv 3)) (blkOk_by (own := [("_law_tag", 4)]) (N := n_law_table) (sc := defScope s_law_table) (by decide +kernel)) (fun _ _ _ _ _ => (pg_name (i := 4) sc_law_table.nd rfl (.inl rfl))) (fun _ _ _ _ _ => pts_nil) (fun _ _ _ _ _ => (MB.pe_cl c_law_entry hr (by omega) (by rfl) passL (pa_cons (pv 0) (pa_cons (pv 4) (pa_cons (pv 1) (pa_cons (pv 2) pa_nil))))))) pa_nil))))), ?_⟩
    refine o_seqAsg (o_call (o_cons (o_var rfl (o_cons ?_))))
    refine (dre_pick (B := 5) (L := 5) (drb_cons (dre_c (x := 0) (by omega)) (drb_cons (dre_c (x := 1) (by omega)) (drb_cons (dre_c (x := 2) (by omega)) (drb_cons (dre_c (x := 3) (by omega)) (drb_cons (dre_draw (m := 6) rfl (by decide) (by decide) (by decide)) drb_nil))))) rfl (by decide) (by decide) : DrE _ _ p lc 2 5) H n _ hp (by omega) _ fun many H1 hm hp1 hb1 => ?_
    have hk1 := hk.but hp hb1
    refine ⟨p, lc, many, n + 2, _, rfl, hm, hp1, by omega, fun ns tl H2 hnl hns hpw htl0 htl hp2 hb2 => ?_⟩
    have hk2 := hk1.but hp1 hb2
    refine o_ret (o_cb (o_cons ?_))
    refine lc_lstP (α := Ent (Ch d)) (β := Nat) (K := K) (p := p) (lc := lc) (ds := ns) iv (dEnt (dCh d)) (tupd_ent (tupd_ch d)) (fun acc n' tb' => ∃ t' : Nat, tb' = some (t' : Int) ∧ n' ≤ n + 14 + 150 * acc.length + 1300 * (t - t') ∧ t' + (acc.map fun e => nTw (nT d) e.w).sum = t ∧ acc.map (fun e => e.tag) = ns.take acc.length ∧ ∀ e ∈ acc, GEnt ALL (gCh ALL d) e ∧ smWo 40 (smCh 40 d) e.w) (ep_val (ev_var rfl) htl) (by omega) (fun _ => by rfl) (hp2.le (m := n + 14) (by omega)) ⟨t, rfl, by simp, by simp, by simp, fun c hc => absurd hc List.not_mem_nil⟩ (fun acc n' tb' H5 dd hdd c2 p5 b5 Q2 q2 => ?_) fun q xs n2 tb2 H6 ws hl c2 p2 b2 hq hw hd => ?_
    · obtain ⟨t', rfl, c21, c22, c23, c24⟩ := c2
      have hal := (List.getElem?_eq_some_iff.mp hdd).1
      refine c_call (ea_cons (ev_var rfl) (ea_cons (ev_var rfl) (ea_cons (ev_var rfl) (ea_cons (ev_var rfl) ea_nil)))) fun H6 e6 => ⟨p, lc, kl, dd, n', t', ks, rfl, hns dd (List.mem_of_getElem? hdd), p5.ex e6, (hk2.but hp2 b5).ex e6, by omega, fun e t2 v H7 he hd p7 b7 => ?_⟩
      refine q2 v e _ _ H7 ⟨t2, rfl, ?_, ?_, ?_, ?_⟩ p7 ((But.of e6).trans b7) hd
      · rw [List.length_append, List.length_singleton]
        have := he.n
        omega
      · rw [List.map_append, List.sum_append]
        have := he.n
        simp
        omega
      · rw [List.map_append, c23, List.length_append, List.length_singleton, List.take_succ, hdd]
        simp [he.tg]
      · intro y hy
        rcases List.mem_append.mp hy with hy | hy
        · exact c24 y hy
        · rw [List.mem_singleton] at hy
          subst hy
          exact ⟨he.g, he.s⟩
    · obtain ⟨t', rfl, c21, c22, c23, c24⟩ := c2
      refine ⟨q, ws, rfl, .inl ⟨sq_of hw, fun r hr => ?_⟩⟩
      rw [hl, List.take_length] at c23
      have hup : xs.Pairwise fun a b => a.tag < b.tag := by
        have := hpw
        rw [← c23, List.pairwise_map] at this
        exact this
      exact k xs t' _ _ ⟨⟨by omega, fun e he => (c24 e he).1, hup⟩, ⟨by omega, fun e he => (c24 e he).2⟩, c22⟩ (.tup (st_of upd_same) (dpAll_ex (Ex.new hr) _ _ hd)) ((p2.ex (Ex.new hr)).le (by omega)) (hb1.trans (hb2.trans (b2.trans (But.of (Ex.new hr)))))
end
end K82
set_option maxRecDepth 100000
set_option maxHeartbeats 1000000
namespace K82
open PySem PySem.Spec PyProof.Rows L2 Evl MB
section
variable {P : Program} {w : World} {K : PySem.W.Frag} {mg : Str → Option Value} {base : Heap} {aKn aWi aOw aLi aOn aOt : Addr}
/-! ### _law_chain -/
def ForR (g : TG) (tb : TS) (D : Ends) (j : Int) (σ : L2.St) (H1 : Hp) : Prop := ∃ W : Nat → Nat → L2.St → Hp → Prop, (∃ m, W 0 m σ H1) ∧ ∀ i m σ H, W i m σ H →
      ((Itr 0 j.toNat).stop i H ∧ D.nx σ H) ∨ ((Itr 0 j.toNat).go i H ∧ ∃ N : L2.St → Hp → Prop, (∀ σ' H', N σ' H' → ∃ m', m' < m ∧ W (i + 1) m' σ' H') ∧ ∀ x H', (Itr 0 j.toNat).yld i H x H' → g x σ H' fun σ2 H2 => tb { D with nx := N, ct := N, bk := D.nx } σ2 H2)
theorem forR_of {g : TG} {tb : TS} {D : Ends} {j : Int} {σ : L2.St} {H1 : Hp} (Pv : Nat → L2.St → Hp → Prop) (h0 : Pv 0 σ H1) (hs : ∀ (i : Nat) σ H, i < j.toNat → Pv i σ H → g (.int (i : Int)) σ H fun σ2 H2 => tb { D with nx := Pv (i + 1), ct := Pv (i + 1), bk := D.nx } σ2 H2) (hd : ∀ σ H, Pv j.toNat σ H → D.nx σ H) : ForR g tb D j σ H1 :=
  for_range (lo := 0) (n := j.toNat) Pv h0 (fun i σ H hi h => by rw [Int.zero_add]; exact hs i σ H hi h) hd
theorem o_forR1 {ta : TA} {g : TG} {tb tz : TS} {D : Ends} {σ : L2.St} {H : Hp} (h : ta σ H fun vs H1 => ∃ j : Int, vs = [.int j] ∧ -(2 ^ 62) ≤ j ∧ j < 2 ^ 62 ∧ ForR g tb { D with nx := tz D } j σ H1) : tSeq (tFor (iRng1 ta) g tb) tz D σ H := h
/-- the pen's tables are set -/
theorem q_setTab {σ : L2.St} {H : Hp} {tv : TE} {tz : TS} {D : Ends} {p lc : Addr} {n i : Nat} {t : Int} {tb : Option Int} (h0 : σ[i]? = some (some (.ref p))) (hv : Ev tv σ H (.int t)) (hp : PenX H p lc n tb) (k : ∀ H1, PenX H1 p lc n (some t) → But p H H1 → tz D σ H1) : tSeq (sDPut (tVar i) (tC (kV (.inr "tables"))) tv) tz D σ H := by
  obtain ⟨cs, a, l, ⟨h1, h2, h3, h4, h5⟩, h6⟩ := hp
  have hne : lc ≠ p := fun z => by rw [z, h1] at h2; cases h2
  refine q_dput (.inr "tables") hv (ev_var h0) h1 (penX_len ..) fun H1 e1 => ?_
  rw [putX_tab]
  refine k _ ⟨cs, a, l, ⟨upd_same, ?_, h3, h4, h5⟩, h6⟩ fun b o hb ho => ?_
  · rw [upd_ne hne]
    exact e1 _ _ h2
  · rw [upd_ne hb]
    exact e1 _ _ ho
theorem ev_getTab {σ : L2.St} {H : Hp} {p lc : Addr} {n i : Nat} {t : Int} (h0 : σ[i]? = some (some (.ref p))) (hp : PenX H p lc n (some t)) : Ev (tDGet (tVar i) (tC (kV (.inr "tables")))) σ H (.int t) := by
  obtain ⟨cs, a, l, ⟨h1, h2, h3, h4, h5⟩, h6⟩ := hp
  exact ev_dget (.inr "tables") (ev_var h0) h1 (penX_tab lc a l t)
theorem ok_law_chain {d : Nat} {f : Addr} {fd : FuncData} (F : Fun K "_law_chain" "_law_chain" s_law_chain f fd) (T : T0 K mg aKn aWi aOw aLi aOn aOt) (c_law_draw : MB.Cl P w K mg base 1 "_law_draw" spDrawX) (c_law_table : MB.Cl P w K mg base (3 * d + 5) "_law_table" (sp_table K d)) : FnOk P w K mg base CX0 (3 * d + 6) f fd p_law_chain (sp_chain K d) := by
  refine F.ok sc_law_chain (fun vs H Q E h => ?_) (fun cdv A outer s H vs Q E hr h => ?_)
  · obtain ⟨p, lc, kl, most, n, t, ks, rfl, _⟩ := h
    rfl
  · obtain ⟨p, lc, kl, most, n, t, ks, rfl, hmost, hp, hk, hn, k⟩ := h
    have hu := hu_of hr
    refine ⟨_, (pss_cons (ps_set (i := 4) sc_law_chain.nd rfl (Or.inl rfl) (pe_lst pa_nil))
      (pss_cons (ps_for PassesOwn.never rfl (pi_range1 (by rfl) T.n_range (pa_cons (MB.pe_cl c_law_draw hr (by omega) (by rfl) passL (pa_cons (pv 0) (pa_cons (pe_op (MB.op_addK (K := K) rfl) (pv 2) pe_int) pa_nil))) pa_nil)) (pg_name (i := 5) sc_law_chain.nd rfl (.inl rfl))
      (pss_one (ps_if (pt_cmpR op_gt (pe_dget hu (pv 0) pe_str (fun _ _ => rfl)) pe_int (nomark _)) (pss_cons (ps_dput hu (pv 0) pe_str (pe_op op_sub (pe_dget hu (pv 0) pe_str (fun _ _ => rfl)) pe_int) rfl)
      (pss_one (ps_expr (pe_bm PySem.F.plainAttrs_list PySem.F.slot_list_append PySem.F.type_list_append mt_append (pv 4) (pa_cons (MB.pe_cl c_law_table hr (by omega) (by rfl) passL (pa_cons (pv 0) (pa_cons (pv 1) (pa_cons (pv 3) pa_nil)))) pa_nil))))) pss_nil)))
      (pss_one (ps_ret (pe_callTy (MB.call_tupleK (K := K) rfl) (by rfl) T.n_tuple MB.bo_tuple (pa_cons (pv 4) pa_nil)))))), ?_⟩
    have htt : ∀ x, tupd (dTab (dCh d) x) = true := tupd_tab (tupd_ch d)
    refine q_asgL (el_lst ea_nil (by decide)) fun fl H1 hfl e1 h1 => ?_
    have hp1 := hp.ex e1
    have hk1 := hk.ex e1
    have hpd := hp.off hfl
    refine o_forR1 (o_cons (ev_drawX (m := ((most + 1 : Nat) : Int)) (ev_var rfl) (ev_is (ev_op (ev_var rfl) ev_c rv_addI) (congrArg V.int (by omega))) (by omega) (by omega) hp1 (by omega) fun r H2 r0 r1 p2 b2 => ?_))
    obtain ⟨m, rfl⟩ : ∃ m : Nat, r = (m : Int) := ⟨r.toNat, by omega⟩
    refine ⟨_, rfl, by omega, by omega, ?_⟩
    have h2 := b2 _ _ hpd.1 h1
    have hk2 := hk1.but hp1 b2
    refine forR_of (fun i σ' H' => ∃ (acc : List (Tab d)) (t' n' : Nat) (z : Option V), σ' = [some (.ref p), some (iv d), some (iv most), some (.ref kl), some (.ref fl), z] ∧ acc.length ≤ i ∧ PenX H' p lc n' (some (t' : Int)) ∧ n' ≤ n + 1 + 1300 * (t - t') ∧ t' + (acc.map (nTt (nT d))).sum = t ∧ But p H H' ∧ Acc K H' fl (dTab (dCh d)) acc ∧ ∀ x ∈ acc, GTab ALL (gCh ALL d) x ∧ smTab 40 (smCh 40 d) x)
      ⟨[], t, n + 1, none, rfl, by simp, p2, by omega, by simp, (But.of e1).trans b2, Acc.nil h2, fun x hx => absurd hx List.not_mem_nil⟩ (fun i σ' H' hi h => ?_) fun σ' H' h => ?_
    · rw [Int.toNat_natCast] at hi
      obtain ⟨acc, t', n', z, rfl, hl, hp3, hn3, ht3, hb3, hacc, hall⟩ := h
      refine s_ifN (b := decide (0 < t')) (et_test (ev_is (ev_op (ev_getTab rfl hp3) ev_c rv_I0) (congrArg V.bl (decide_eq_decide.mpr (by omega))))) (fun hb H4 e4 => ?_) fun hb H4 e4 => ?_
      · have hpos := of_decide_eq_true hb
        have hp4 := hp3.ex e4
        have hk4 := (hk.but hp hb3).ex e4
        have hacc4 := hacc.ex e4
        refine q_setTab (p := p) (lc := lc) (t := ((t' - 1 : Nat) : Int)) rfl (ev_is (ev_op (ev_getTab rfl hp4) ev_c rv_I0) (congrArg V.int (by omega))) hp4 fun H5 hp5 hb5 => ?_
        have hacc5 := hacc4.but htt (NoTup.pen hp4) hpd.1 hb5
        obtain ⟨vs, v1, v2, v3⟩ := hacc5
        refine o_drop ⟨_, rfl, .inl ⟨rfl, vs, sq_of v1⟩, o_cons (c_call (ea_cons (ev_var rfl) (ea_cons (ev_var rfl) (ea_cons (ev_var rfl) ea_nil))) fun H6 e6 => ⟨p, lc, kl, n', t' - 1, ks, rfl, hp5.ex e6, (hk4.but hp4 hb5).ex e6, by omega, fun x t2 v H7 hx hd hp7 hb7 => ?_⟩)⟩
        have hp6 := hp5.ex e6
        have w1 := hb7 _ _ hpd.1 (e6 _ _ v1)
        have w3 := dpAll_but (NoTup.pen hp6) hb7 _ _ (tupdAll_map htt acc) (dpAll_ex e6 _ _ v3)
        refine ⟨fl, vs, v, rfl, rfl, w1, sz_lt (by omega), acc ++ [x], t2, n' + 800 + 1300 * (t' - 1 - t2), some (.int (i : Int)), rfl, by rw [List.length_append, List.length_singleton]; omega, hp7.upd hpd.1 hpd.2, ?_, ?_, ?_, Acc.app htt w1 v2 w3 hd, ?_⟩
        · have := hx.n
          omega
        · have := hx.n
          rw [List.map_append, List.sum_append]
          show t2 + (_ + (nTt (nT d) x + 0)) = t
          unfold nTt
          unfold nTt at ht3
          omega
        · exact (hb3.trans ((But.of e4).trans (hb5.trans ((But.of e6).trans hb7)))).mut hfl
        · intro y hy
          rcases List.mem_append.mp hy with hy | hy
          · exact hall y hy
          · rw [List.mem_singleton] at hy
            subst hy
            exact ⟨hx.g, hx.s⟩
      · exact ⟨acc, t', n', some (.int (i : Int)), rfl, by omega, hp3.ex e4, hn3, ht3, hb3.trans (But.of e4), hacc.ex e4, hall⟩
    · rw [Int.toNat_natCast] at h
      obtain ⟨acc, t', n', z, rfl, hl, hp3, hn3, ht3, hb3, ⟨vs, v1, v2, v3⟩, hall⟩ := h
      refine s_retTup (ev_var rfl) v1 fun q H4 hq e4 h4 => ?_
      exact k (show List (List (Ent (Ch d))) from acc) t' (.ref q) H4 ⟨(⟨by omega, fun x hx => (hall x hx).1⟩ : GCha ALL (gCh ALL d) acc), fun x hx => (hall x hx).2, ht3⟩ (.tup (st_of h4) (dpAll_ex e4 _ _ v3)) ((hp3.ex e4).le (by omega)) (hb3.trans (But.of e4))
end
end K82
set_option maxRecDepth 100000
set_option maxHeartbeats 1000000
namespace K82
open PySem PySem.Spec PyProof.Rows L2 Evl MB
/-! ### displays, by the data that they make -/
section
variable {K : PySem.W.Frag} {σ : L2.St} {H : Hp} {ta tr : TA} {te tb : TE} {d : PyData} {ds es : List PyData}
def EvDs (K : PySem.W.Frag) (ta : TA) (σ : L2.St) (H : Hp) (ds : List PyData) : Prop := ∀ H1, Ex H H1 → ∀ Q : List V → Hp → Prop, (∀ vs H2, Ex H1 H2 → DpAll K H2 vs ds → Q vs H2) → ta σ H1 Q
theorem eds_nil : EvDs K tNil σ H [] := fun H1 _ Q q => q [] H1 (Ex.refl H1) .nil
theorem eds_cons (h : EvD K te σ H d) (hr : EvDs K tr σ H ds) : EvDs K (tCons te tr) σ H (d :: ds) := fun H1 e Q q =>
  h H1 e _ fun v H2 e2 hv => hr H2 (e.trans e2) _ fun vs H3 e3 hvs => q (v :: vs) H3 (e2.trans e3) (.cons (dp_ex e3 _ _ hv) hvs)
theorem evd_ev {v : V} (h : Ev te σ H v) (hd : Dp K H v d) : EvD K te σ H d := fun H1 e Q q => h H1 e _ fun H2 e2 => q v H2 e2 (dp_ex (e.trans e2) _ _ hd)
theorem evd_i {i : Int} : EvD K (tC (.int i)) σ H (.int i) := evd_ev ev_c (.int i)
theorem evd_s {s : String} : EvD K (tC (.str (Str.ofString s))) σ H (.str (SX.S (co s))) := evd_ev (ev_is ev_c (congrArg V.str (of_S s))) (.str _)
theorem evd_tup (h : EvDs K ta σ H ds) (hz : ds.length ≤ 100000) : EvD K (tTup ta) σ H (.tuple ds) := fun H1 e Q q =>
  h H1 e _ fun vs H2 e2 hvs => ⟨by rw [dpAll_len hvs]; exact Nat.le_trans hz (by decide), fun p hp => q _ _ (e2.trans (Ex.new hp)) (.tup (st_of upd_same) (dpAll_ex (Ex.new hp) _ _ hvs))⟩
theorem eva_lst (h : EvDs K ta σ H ds) (hz : ds.length ≤ 100000) : EvAcc K (tLst ta) σ H ds := fun H1 e Q q =>
  h H1 e _ fun vs H2 e2 hvs => ⟨by rw [dpAll_len hvs]; exact Nat.le_trans hz (by decide), fun p hp => q p _ (fresh_back e2 hp) (e2.trans (Ex.new hp)) ⟨vs, upd_same, dpAll_ex (Ex.new hp) _ _ hvs⟩⟩
theorem dpAll_app : ∀ {vs ws : List V} {ds es : List PyData}, DpAll K H vs ds → DpAll K H ws es → DpAll K H (vs ++ ws) (ds ++ es)
  | _, _, _, _, .nil, h => h
  | _, _, _, _, .cons h1 h2, h => .cons h1 (dpAll_app h2 h)
/-- list + list -/
theorem eva_cat {a : Addr} {vs : List V} (h1 : Ev te σ H (.ref a)) (ha : H a = some (.lst vs)) (hd : DpAll K H vs ds) (h2 : EvAcc K tb σ H es) (hz : ds.length + es.length ≤ 1000000) : EvAcc K (tOp (rAddA K) te tb) σ H (ds ++ es) := fun H1 e Q q =>
  h1 H1 e _ fun H2 e2 => h2 H2 (e.trans e2) _ fun p H3 hp e3 ⟨ws, h3, hw⟩ => .inr (.inr (.inl ⟨a, p, vs, ws, rfl, rfl, ((e.trans e2).trans e3) _ _ ha, h3, by rw [dpAll_len hd, dpAll_len hw]; exact Nat.le_trans hz (by decide), fun r hr => q r _ (fresh_back (e2.trans e3) hr) ((e2.trans e3).trans (Ex.new hr)) ⟨_, upd_same, dpAll_ex (Ex.new hr) _ _ (dpAll_app (dpAll_ex ((e.trans e2).trans e3) _ _ hd) hw)⟩⟩))
/-- tuple + tuple -/
theorem evd_cat (h1 : EvD K te σ H (.tuple ds)) (h2 : EvD K tb σ H (.tuple es)) (hz : ds.length + es.length ≤ 1000000) : EvD K (tOp (rAddA K) te tb) σ H (.tuple (ds ++ es)) := fun H1 e Q q =>
  h1 H1 e _ fun v H2 e2 hv => h2 H2 (e.trans e2) _ fun w H3 e3 hw => by
    obtain ⟨a, xs, rfl, ha, hxs⟩ := dp_tup hv
    obtain ⟨b, ys, rfl, hb, hys⟩ := dp_tup hw
    have hx3 := dpAll_ex e3 _ _ hxs
    refine .inr (.inr (.inr ⟨a, b, xs, ys, rfl, rfl, ex_t e3 ha, hb, by rw [dpAll_len hxs, dpAll_len hys]; exact Nat.le_trans hz (by decide), fun h => ?_, fun _ h => ?_, fun _ _ r hr => q _ _ ((e2.trans e3).trans (Ex.new hr)) (.tup (st_of upd_same) (dpAll_ex (Ex.new hr) _ _ (dpAll_app hx3 hys)))⟩))
    · subst h
      cases hxs
      exact q _ H3 (e2.trans e3) (.tup hb hys)
    · subst h
      cases hys
      exact q _ H3 (e2.trans e3) (.tup (ex_t e3 ha) (by rw [List.append_nil]; exact hx3))
theorem dpAll_rep {vs : List V} (h : DpAll K H vs ds) : ∀ n : Nat, DpAll K H (List.replicate n vs).flatten (List.replicate n ds).flatten
  | 0 => .nil
  | n + 1 => by rw [List.replicate_succ, List.replicate_succ, List.flatten_cons, List.flatten_cons]; exact dpAll_app h (dpAll_rep h n)
/-- tuple * n -/
theorem evd_rep {n : Nat} (h : EvD K te σ H (.tuple ds)) (hn : 2 ≤ n) (hn2 : n ≤ 1000) (h0 : ds ≠ []) (hz : ds.length ≤ 1000) : EvD K (tOp (rMulB K) te (tC (.int (n : Int)))) σ H (.tuple (List.replicate n ds).flatten) := fun H1 e Q q =>
  h H1 e _ fun v H2 e2 hv => by
    obtain ⟨a, xs, rfl, ha, hxs⟩ := dp_tup hv
    refine .inr (.inr (.inr ⟨a, (n : Int), xs, rfl, rfl, ha, fun z => ?_, by omega, by omega, by rw [dpAll_len hxs]; exact hz, fun r hr => q _ _ (e2.trans (Ex.new hr)) (.tup (st_of upd_same) ?_)⟩))
    · subst z
      cases hxs
      exact h0 rfl
    · rw [Int.toNat_natCast]
      exact dpAll_ex (Ex.new hr) _ _ (dpAll_rep hxs n)
theorem s_asgAcc {i : Nat} {D : Ends} (h : EvAcc K te σ H ds) (k : ∀ p vs H1, H p = none → Ex H H1 → H1 p = some (.lst vs) → DpAll K H1 vs ds → D.nx (σ.set i (some (.ref p))) H1) : tAsg te (gName i) D σ H := h H (Ex.refl H) _ fun p H1 hp e ⟨vs, h1, h2⟩ => k p vs H1 hp e h1 h2
theorem q_asgAcc {i : Nat} {D : Ends} {tz : TS} (h : EvAcc K te σ H ds) (k : ∀ p vs H1, H p = none → Ex H H1 → H1 p = some (.lst vs) → DpAll K H1 vs ds → tz D (σ.set i (some (.ref p))) H1) : tSeq (tAsg te (gName i)) tz D σ H := h H (Ex.refl H) _ fun p H1 hp e ⟨vs, h1, h2⟩ => k p vs H1 hp e h1 h2
theorem evd_tupleV {a : Addr} {vs : List V} (h : Ev te σ H (.ref a)) (ha : H a = some (.lst vs)) (hd : DpAll K H vs ds) : EvD K (tCB (rTupleK K) (tCons te tNil)) σ H (.tuple ds) := fun H1 e Q q =>
  h H1 e _ fun H2 e2 => ⟨a, vs, rfl, .inl ⟨sq_of ((e.trans e2) _ _ ha), fun l hl => q _ _ (e2.trans (Ex.new hl)) (.tup (st_of upd_same) (dpAll_ex ((e.trans e2).trans (Ex.new hl)) _ _ hd))⟩⟩
/-- [te for k in range(n)], each turn some data -/
theorem el_rngD {j : Nat} {vs : List Nat} {n : Nat} (dv : Nat → PyData) (ht : ∀ x, tupd (dv x) = true) (h : EvA ta σ H [.int (n : Int)]) (hz : n ≤ 100000) (hw : ∀ x, wipe ((wipe σ vs).set j (some x)) vs = wipe σ vs)
    (he : ∀ i, i < n → EvD K te ((wipe σ vs).set j (some (.int (i : Int)))) H (dv i)) : EvAcc K (tLc (iRng1 ta) (gName j) tYes te vs) σ H ((List.range n).map dv) := fun H0 e Q q =>
  h H0 e _ fun H1 e1 => ⟨(n : Int), rfl, by omega, by omega, fun Dl hD => by
    refine lc_range (lo := 0) (n := (n : Int).toNat) (fun i H' => Ex H1 H' ∧ ∃ ws : List V, H' Dl = some (.lst ws) ∧ ws.length = i ∧ DpAll K H' ws ((List.range i).map dv)) ⟨Ex.new hD, [], upd_same, rfl, .nil⟩ (fun i H' hi p => ?_) (fun H' p => ?_)
    · rw [Int.toNat_natCast] at hi
      obtain ⟨p1, ws, p2, p3, p4⟩ := p
      rw [Int.zero_add]
      refine ⟨hw _, t_yes (he i hi H' ((e.trans e1).trans p1) _ fun v H4 e4 hv => ⟨ws, e4 _ _ p2, sz_lt (by omega), Ex.mut (p1.trans e4) hD, ws ++ [v], upd_same, by rw [List.length_append, p3]; rfl, ?_⟩)⟩
      have hb : But Dl H4 (L2.upd H4 Dl (.lst (ws ++ [v]))) := fun b o hb ho => by rw [upd_ne hb]; exact ho
      have hn := NoTup.lst (e4 _ _ p2)
      rw [List.range_succ, List.map_append]
      exact dpAll_snoc (dpAll_but hn hb _ _ (tupdAll_map ht _) (dpAll_ex e4 _ _ p4)) (dp_but hn hb _ _ (ht i) hv)
    · rw [Int.toNat_natCast] at p
      obtain ⟨p1, ws, p2, p3, p4⟩ := p
      exact q Dl H' (fresh_back e1 hD) (e1.trans p1) ⟨ws, p2, p4⟩⟩
end
/-! ### the great tree -/
def eCh : (d : Nat) → Ch d
  | 0 => ()
  | d + 1 => (show List (List (Ent (Ch d))) from [])
theorem eCh_d (d : Nat) : dCh d (eCh d) = .tuple [] := by cases d <;> rfl
theorem eCh_g (d : Nat) : gCh ALL d (eCh d) := by
  cases d with
  | zero => trivial
  | succ d => exact ⟨Nat.zero_le _, fun t ht => absurd ht List.not_mem_nil⟩
def mubW {α : Type} (mb : α → Nat) : Wo α → Nat
  | .nums l => 40 + 11 * l.length
  | .text t => 40 + t.length
  | .pieces ps => 40 + (ps.map fun p => 6 + 11 * p.length).sum
  | .chains cs => 40 + (cs.map fun c => 11 + mb c).sum
def mubT {α : Type} (mb : α → Nat) (t : List (Ent α)) : Nat := 10 + (t.map fun e => mubW mb e.w).sum
def mub : (d : Nat) → Ch d → Nat
  | 0, _ => 0
  | d + 1, c => ((show List (List (Ent (Ch d))) from c).map (mubT (mub d))).sum
theorem eCh_m (d : Nat) : mub d (eCh d) = 0 := by cases d <;> rfl
theorem mub_ent {α : Type} {lc : α → Ls} {kn : List Nat} {g : α → Prop} {mb : α → Nat} {e : Ent α} (ge : GEnt kn g e) (hl : ∀ c, g c → mu (lc c) ≤ mb c) : mu (lEnt lc e) ≤ mubW mb e.w := by
  obtain ⟨tag, kind, x⟩ := e
  have gw := ge.w
  have ht : (TL.numL tag).length ≤ 5 := TL.numL_len (by decide) (Nat.lt_of_le_of_lt ge.tag (by decide))
  cases x with
  | nums ns =>
    have hlt : ∀ n ∈ tag :: kind :: ns, n < 10 ^ 10 := fun n hn => by
      rcases List.mem_cons.mp hn with rfl | hn
      · exact Nat.lt_of_le_of_lt ge.tag (by decide)
      · rcases List.mem_cons.mp hn with rfl | hn
        · exact Nat.lt_of_le_of_lt ge.kind (by decide)
        · rcases gw with ⟨_, _, _, h⟩ | ⟨_, _, _, h⟩
          · exact Nat.lt_of_lt_of_le (h n hn) (Nat.le_trans (lim_le _) (by decide))
          · exact Nat.lt_trans (h n hn) (by decide)
    have h1 := ntext_le (b := 10) (by decide) hlt
    rw [List.length_cons, List.length_cons] at h1
    show mu [ln (co "entry") (tag :: kind :: ns)] ≤ 40 + 11 * ns.length
    rw [mu_cons, mu_nil, ln_ntext, List.length_append]
    have : (co "entry").length = 5 := rfl
    omega
  | text t =>
    show mu [co "text " ++ TL.numL tag ++ 32 :: t] ≤ 40 + t.length
    rw [mu_cons, mu_nil, List.length_append, List.length_append, List.length_cons]
    have : (co "text ").length = 5 := rfl
    omega
  | pieces ps =>
    have h1 : mu (ps.flatMap fun p => [ln (co "piece") p]) ≤ (ps.map fun p => 6 + 11 * p.length).sum := by
      rw [mu_flatMap]
      refine sum_mono fun p hp => ?_
      have h2 := ntext_le (b := 10) (by decide) (ns := p) fun n hn => Nat.lt_trans ((gw.2.2.2 p hp).2 n hn) (by decide)
      rw [mu_cons, mu_nil, ln_ntext, List.length_append]
      have : (co "piece").length = 5 := rfl
      omega
    have h2 : ps.map (ln (co "piece")) = ps.flatMap fun p => [ln (co "piece") p] := by
      clear gw ge h1
      induction ps with
      | nil => rfl
      | cons p ps ih => rw [List.map_cons, List.flatMap_cons, ih]; rfl
    show mu ((co "pieces " ++ TL.numL tag) :: (ps.map (ln (co "piece")) ++ [co "end"])) ≤ 40 + (ps.map fun p => 6 + 11 * p.length).sum
    rw [mu_cons, mu_append, List.length_append, h2]
    have h7 : (co "pieces ").length = 7 := rfl
    have h8 : mu [co "end"] = 4 := rfl
    omega
  | chains cs =>
    have h1 : mu (cs.flatMap fun c => co "chain" :: (lc c ++ [co "done"])) ≤ (cs.map fun c => 11 + mb c).sum := by
      rw [mu_flatMap]
      refine sum_mono fun c hc => ?_
      have h2 := hl c (gw.2.2.2 c hc)
      rw [mu_cons, mu_append]
      have h5 : (co "chain").length = 5 := rfl
      have h6 : mu [co "done"] = 5 := rfl
      omega
    show mu ((co "chains " ++ TL.numL tag) :: ((cs.flatMap fun c => co "chain" :: (lc c ++ [co "done"])) ++ [co "end"])) ≤ 40 + (cs.map fun c => 11 + mb c).sum
    rw [mu_cons, mu_append, List.length_append]
    have h7 : (co "chains ").length = 7 := rfl
    have h8 : mu [co "end"] = 4 := rfl
    omega
theorem mu_mub (kn : List Nat) : ∀ (d : Nat) (c : Ch d), gCh kn d c → mu (lCh d c) ≤ mub d c
  | 0, _, _ => Nat.le_refl _
  | d + 1, c, g => by
    have g' : GCha kn (gCh kn d) c := g
    show mu ((show List (List (Ent (Ch d))) from c).flatMap (lTab (lCh d))) ≤ ((show List (List (Ent (Ch d))) from c).map (mubT (mub d))).sum
    rw [mu_flatMap]
    refine sum_mono fun t ht => ?_
    have h1 : mu (t.flatMap (lEnt (lCh d))) ≤ (t.map fun e => mubW (mub d) e.w).sum := by
      rw [mu_flatMap]
      exact sum_mono fun e he => mub_ent ((g'.all t ht).all e he) (mu_mub kn d)
    unfold lTab mubT
    rw [mu_cons, mu_append]
    have h7 : (co "table").length = 5 := rfl
    have h8 : mu [co "end"] = 4 := rfl
    omega
/-- a chain of one table of one entry: this chain and an empty one -/
def nest (d : Nat) (tag : Nat) (c : Ch d) : Ch (d + 1) := (show List (List (Ent (Ch d))) from [[⟨tag, 5, .chains [c, eCh d]⟩]])
theorem nest_g {d tag : Nat} {c : Ch d} (ht : tag ≤ 65535) (h : gCh ALL d c) : gCh ALL (d + 1) (nest d tag c) := by
  refine (⟨by show 1 ≤ 10; decide, fun t ht' => ?_⟩ : GCha ALL (gCh ALL d) [[⟨tag, 5, .chains [c, eCh d]⟩]])
  obtain rfl := List.mem_singleton.mp ht'
  refine ⟨by show 1 ≤ 40; decide, fun e he => ?_, List.pairwise_singleton _ _⟩
  obtain rfl := List.mem_singleton.mp he
  refine ⟨ht, by show 5 ≤ 65535; decide, rfl, by decide, by show 2 ≤ 300; decide, fun x hx => ?_⟩
  simp only [List.mem_cons, List.not_mem_nil, or_false] at hx
  rcases hx with rfl | rfl
  · exact h
  · exact eCh_g d
theorem nest_m (d tag : Nat) (c : Ch d) : mub (d + 1) (nest d tag c) = mub d c + 72 := by
  show (10 + ((40 + ((11 + mub d c) + ((11 + mub d (eCh d)) + 0))) + 0)) + 0 = _
  rw [eCh_m]
  omega
theorem nest_d (d tag : Nat) (c : Ch d) : dCh (d + 1) (nest d tag c) = .tuple [.tuple [.tuple [.int (tag : Int), .int 5, .tuple [dCh d c, .tuple []]]]] := by
  show PyData.tuple [.tuple [.tuple [.int (tag : Int), .int 5, .tuple [dCh d c, dCh d (eCh d)]]]] = _
  rw [eCh_d]
def gMany : Tab 3 := ((List.range 38).map fun k => ⟨k, 1, .nums [k]⟩) ++ [⟨65534, 3, .nums [4294967295, 0]⟩, ⟨65535, 65535, .nums (List.replicate 300 255)⟩]
def gText : List Nat := SIGNS ++ (SIGNS ++ (SIGNS ++ SIGNS)) ++ [32]
def gPairs : List Nat := (List.replicate 150 [0, 255]).flatten
def gWide (c : Ch 3) : Tab 3 := [⟨0, 4, .text gText⟩, ⟨7, 1, .nums gPairs⟩, ⟨9, 6, .pieces [List.replicate 300 255, []]⟩, ⟨10, 5, .chains [c]⟩]
def great (c : Ch 3) : Ch 4 := (show List (List (Ent (Ch 3))) from [gMany, gWide c] ++ List.replicate 8 [])
theorem great_g {c : Ch 3} (h : gCh ALL 3 c) : gCh ALL 4 (great c) := by
  refine (⟨by show 10 ≤ 10; decide, fun t ht => ?_⟩ : GCha ALL (gCh ALL 3) ([gMany, gWide c] ++ List.replicate 8 []))
  simp only [List.mem_append, List.mem_cons, List.not_mem_nil, or_false, List.mem_replicate] at ht
  rcases ht with (rfl | rfl) | ⟨_, rfl⟩
  · refine ⟨by decide, fun e he => ?_, ?_⟩
    · rcases List.mem_append.mp he with he | he
      · obtain ⟨k, hk, rfl⟩ := List.mem_map.mp he
        rw [List.mem_range] at hk
        refine ⟨by show k ≤ 65535; omega, by show 1 ≤ 65535; decide, .inl ⟨by show 1 ∈ ALL; decide, by show 1 < 4; decide, by show 1 ≤ 300; decide, fun n hn => ?_⟩⟩
        obtain rfl := List.mem_singleton.mp hn
        show n < 256
        omega
      · simp only [List.mem_cons, List.not_mem_nil, or_false] at he
        rcases he with rfl | rfl
        · exact ⟨by show 65534 ≤ 65535; decide, by show 3 ≤ 65535; decide, .inl ⟨by show 3 ∈ ALL; decide, by show 3 < 4; decide, by show 2 ≤ 300; decide, by show ∀ n ∈ [4294967295, 0], n < 4294967296; decide⟩⟩
        · refine ⟨by show 65535 ≤ 65535; decide, by show 65535 ≤ 65535; decide, .inr ⟨by show 65535 ∉ ALL; decide, by rw [List.length_replicate]; show 300 ≤ 300 * 1; decide, by rw [List.length_replicate]; decide, fun n hn => ?_⟩⟩
          rw [List.eq_of_mem_replicate hn]
          decide
    · unfold gMany
      rw [List.pairwise_append]
      refine ⟨?_, ?_, fun a ha b hb => ?_⟩
      · rw [List.pairwise_map]
        exact List.pairwise_lt_range
      · exact List.pairwise_cons.mpr ⟨fun b hb => by obtain rfl := List.mem_singleton.mp hb; show 65534 < 65535; decide, List.pairwise_singleton _ _⟩
      · obtain ⟨k, hk, rfl⟩ := List.mem_map.mp ha
        rw [List.mem_range] at hk
        simp only [List.mem_cons, List.not_mem_nil, or_false] at hb
        rcases hb with rfl | rfl
        · show k < 65534; omega
        · show k < 65535; omega
  · refine ⟨by show 4 ≤ 40; decide, fun e he => ?_, ?_⟩
    · simp only [gWide, List.mem_cons, List.not_mem_nil, or_false] at he
      rcases he with rfl | rfl | rfl | rfl
      · exact ⟨by show 0 ≤ 65535; decide, by show 4 ≤ 65535; decide, rfl, by decide, by show gText.length ≤ 300; decide, by show ∀ c ∈ gText, c ∈ SIGNS; decide +kernel⟩
      · exact ⟨by show 7 ≤ 65535; decide, by show 1 ≤ 65535; decide, .inl ⟨by show 1 ∈ ALL; decide, by show 1 < 4; decide, by show gPairs.length ≤ 300; decide +kernel, by show ∀ n ∈ gPairs, n < 256; decide +kernel⟩⟩
      · refine ⟨by show 9 ≤ 65535; decide, by show 6 ≤ 65535; decide, rfl, by decide, by show 2 ≤ 300; decide, fun p hp => ?_⟩
        simp only [List.mem_cons, List.not_mem_nil, or_false] at hp
        rcases hp with rfl | rfl
        · refine ⟨by rw [List.length_replicate]; exact Nat.le_refl _, fun n hn => ?_⟩
          rw [List.eq_of_mem_replicate hn]
          decide
        · exact ⟨Nat.zero_le _, fun n hn => absurd hn List.not_mem_nil⟩
      · refine ⟨by show 10 ≤ 65535; decide, by show 5 ≤ 65535; decide, rfl, by decide, by show 1 ≤ 300; decide, fun x hx => ?_⟩
        obtain rfl := List.mem_singleton.mp hx
        exact h
    · unfold gWide
      simp only [List.pairwise_cons, List.mem_cons, List.not_mem_nil, or_false, forall_eq_or_imp, forall_eq, List.Pairwise.nil, and_true, false_implies, implies_true]
      decide
  · exact ⟨Nat.zero_le _, fun e he => absurd he List.not_mem_nil, List.Pairwise.nil⟩
theorem great_m (c : Ch 3) (h : mub 3 c ≤ 300) : mub 4 (great c) ≤ 61000 := by
  have e1 : mubT (mub 3) gMany = 38 * 51 + (62 + 3340) + 10 := by rfl
  have e2 : mubT (mub 3) (gWide c) = 10 + ((40 + gText.length) + ((40 + 11 * gPairs.length) + ((40 + ((6 + 11 * 300) + ((6 + 11 * 0) + 0))) + ((40 + ((11 + mub 3 c) + 0)) + 0)))) := by
    show 10 + ((40 + gText.length) + ((40 + 11 * gPairs.length) + ((40 + ((6 + 11 * (List.replicate 300 255).length) + ((6 + 11 * 0) + 0))) + ((40 + ((11 + mub 3 c) + 0)) + 0)))) = _
    rw [List.length_replicate]
  have e3 : gText.length = 261 := by decide
  have e4 : gPairs.length = 300 := by decide +kernel
  show (([gMany, gWide c] ++ List.replicate 8 []).map (mubT (mub 3))).sum ≤ 61000
  rw [List.map_append, List.map_cons, List.map_cons, e1, e2, e3, e4, List.map_nil, List.sum_append, List.map_replicate, List.sum_replicate_nat]
  show _ + 8 * 10 ≤ _
  simp only [List.sum_cons, List.sum_nil]
  omega
end K82
set_option maxRecDepth 100000
set_option maxHeartbeats 1000000
namespace K82
open PySem PySem.Spec PyProof.Rows L2 Evl MB
section
variable {P : Program} {w : World} {K : PySem.W.Frag} {mg : Str → Option Value} {base : Heap} {aKn aWi aOw aLi aOn aOt : Addr}
/-! ### _law_tree -/
def sp_chainAny (K : PySem.W.Frag) : Sp := fun vs H Q E => ∃ d, d ≤ 3 ∧ sp_chain K d vs H Q E
theorem fn_any {k : Nat} {f : Addr} {fd : FuncData} {ps : List Str} (F : ∀ d, d ≤ 3 → FnOk P w K mg base CX0 k f fd ps (sp_chain K d)) : FnOk P w K mg base CX0 k f fd ps (sp_chainAny K) :=
  ⟨fun vs H Q E ⟨d, hd, h⟩ => (F d hd).len vs H Q E h, fun A outer s H args us vs Q E hr e0 hb r ⟨d, hd, h⟩ => (F d hd).run A outer s H args us vs Q E hr e0 hb r h⟩
theorem lift4 : ∀ (d : Nat), d ≤ 3 → ∀ (c : Ch (d + 1)), gCh ALL (d + 1) c → smCh 40 (d + 1) c → ∃ c4 : Ch 4, dCh 4 c4 = dCh (d + 1) c ∧ gCh ALL 4 c4 ∧ smCh 40 4 c4 ∧ nT 4 c4 = nT (d + 1) c
  | 0, _, c, h1, h2 => ⟨lift 3 (lift 2 (lift 1 c)), by rw [dCh_lift, dCh_lift, dCh_lift], gCh_lift _ _ _ (gCh_lift _ _ _ (gCh_lift _ _ _ h1)), smCh_lift _ _ _ (smCh_lift _ _ _ (smCh_lift _ _ _ h2)), by rw [nT_lift, nT_lift, nT_lift]⟩
  | 1, _, c, h1, h2 => ⟨lift 3 (lift 2 c), by rw [dCh_lift, dCh_lift], gCh_lift _ _ _ (gCh_lift _ _ _ h1), smCh_lift _ _ _ (smCh_lift _ _ _ h2), by rw [nT_lift, nT_lift]⟩
  | 2, _, c, h1, h2 => ⟨lift 3 c, by rw [dCh_lift], gCh_lift _ _ _ h1, smCh_lift _ _ _ h2, by rw [nT_lift]⟩
  | 3, _, c, h1, h2 => ⟨c, rfl, h1, h2, rfl⟩
structure TreeOk (o : List Nat) (c : Ch 4) : Prop where
  o : orderOk o = true
  g : gCh ALL 4 c
  s : smCh 40 4 c
  n : nT 4 c ≤ 6
def sp_tree (K : PySem.W.Frag) : Sp := fun vs H Q _ => ∃ (p lc kl : Addr) (n : Nat) (tb : Option Int) (ks : List Nat), vs = [.ref p, .ref kl] ∧ PenX H p lc n tb ∧ KsAt H kl ks ∧ n + 8000 ≤ 1000000 ∧
  ∀ (o : List Nat) (c : Ch 4) (tb' : Option Int) v H', TreeOk o c → Dp K H' v (dTree o c) → PenX H' p lc (n + 8000) tb' → But p H H' → Q v H'
theorem ok_law_tree {f : Addr} {fd : FuncData} (F : Fun K "_law_tree" "_law_tree" s_law_tree f fd) (T : T0 K mg aKn aWi aOw aLi aOn aOt) (c_law_draw : MB.Cl P w K mg base 1 "_law_draw" spDrawX) (c_law_chain : MB.Cl P w K mg base 15 "_law_chain" (sp_chainAny K)) : FnOk P w K mg base CX0 16 f fd p_law_tree (sp_tree K) := by
  refine F.ok sc_law_tree (fun vs H Q E h => ?_) (fun cdv A outer s H vs Q E hr h => ?_)
  · obtain ⟨p, lc, kl, n, tb, ks, rfl, _⟩ := h
    rfl
  · obtain ⟨p, lc, kl, n, tb, ks, rfl, hp, hk, hn, k⟩ := h
    have hu := hu_of hr
    refine ⟨_, (pss_cons (ps_dput hu (pv 0) pe_str pe_int rfl)
      (pss_cons (ps_set (i := 2) sc_law_tree.nd rfl (Or.inl rfl) (pe_ix (MB.ix_K (K := K) rfl) (pe_lst (pa_cons pe_str (pa_cons pe_str pa_nil))) (MB.pe_cl c_law_draw hr (by decide) (by rfl) passL (pa_cons (pv 0) (pa_cons pe_int pa_nil))) (fun _ _ => rfl)))
      (pss_one (ps_ret (pe_tup (pa_cons (pv 2) (pa_cons (MB.pe_cl c_law_chain hr (by decide) (by rfl) passL (pa_cons (pv 0) (pa_cons (pe_ix (MB.ix_K (K := K) rfl) (pe_lst (pa_cons pe_int (pa_cons pe_int (pa_cons pe_int (pa_cons pe_int pa_nil))))) (MB.pe_cl c_law_draw hr (by decide) (by rfl) passL (pa_cons (pv 0) (pa_cons pe_int pa_nil))) (fun _ _ => rfl)) (pa_cons pe_int (pa_cons (pv 1) pa_nil))))) pa_nil))))))), ?_⟩
    refine q_setTab (p := p) (lc := lc) (t := ((6 : Nat) : Int)) rfl ev_c hp fun H1 hp1 hb1 => ?_
    have hk1 := hk.but hp hb1
    refine o_seqAsg ⟨by show 2 ≤ sizeLine; decide, fun l hl => ?_⟩
    have hp2 := hp1.ex (Ex.new (o := .lst [V.str "small", V.str "great"]) hl)
    refine ev_drawX (m := 2) (ev_var rfl) ev_c (by decide) (by decide) hp2 (by omega) fun r H3 r0 r1 hp3 hb3 => ?_
    have hl3 : H3 l = some (.lst [V.str "small", V.str "great"]) := hb3 _ _ (hp2.ne upd_same) upd_same
    have hord : ∃ o, orderOk o = true ∧ atI ([V.str "small", V.str "great"] : List V) r = some (tv o) := by
      have : r = 0 ∨ r = 1 := by omega
      rcases this with rfl | rfl
      · exact ⟨co "small", by decide, congrArg some (congrArg V.str (of_S "small"))⟩
      · exact ⟨co "great", by decide, congrArg some (congrArg V.str (of_S "great"))⟩
    obtain ⟨o, ho, hat⟩ := hord
    refine .inl ⟨l, _, r, _, rfl, rfl, sq_of hl3, hat, ?_⟩
    have hb13 : But p H H3 := hb1.trans ((But.of (Ex.new hl)).trans hb3)
    have hk3 := hk.but hp hb13
    refine o_ret (o_tup (o_cons (o_var rfl (o_cons (o_call (o_cons (o_var rfl (o_cons ?_))))))))
    refine (dre_pick (B := 3) (L := 4) (drb_cons (dre_c (x := 0) (by omega)) (drb_cons (dre_c (x := 1) (by omega)) (drb_cons (dre_c (x := 1) (by omega)) (drb_cons (dre_c (x := 3) (by omega)) drb_nil)))) rfl (by decide) (by decide) : DrE _ _ p lc 1 3) H3 (n + 1) _ hp3 (by omega) _ fun d H4 hd hp4 hb4 => ?_
    refine o_cons (o_c (o_cons (o_var rfl ⟨d, hd, p, lc, kl, 3, n + 2, 6, ks, rfl, by decide, hp4, hk3.but hp3 hb4, by omega, fun c t' v H5 hc hdv hp5 hb5 => ⟨by show 2 ≤ sizeLine; decide, fun q hq => ?_⟩⟩)))
    obtain ⟨c4, e1, e2, e3, e4⟩ := lift4 d hd c hc.g hc.s
    have hn6 := hc.n
    refine k o c4 _ _ _ ⟨ho, e2, e3, by omega⟩ (.tup (st_of upd_same) (.cons (.str _) (.cons ?_ .nil))) ((hp5.ex (Ex.new hq)).le (by omega)) (hb13.trans (hb4.trans (hb5.trans (But.of (Ex.new hq)))))
    rw [e1]
    exact dp_ex (Ex.new hq) _ _ hdv
/-! ### _law_some_kinds, _law_kinds_known -/
def sp_kinds : Sp := fun vs H Q _ => ∃ (p lc : Addr) (n : Nat) (tb : Option Int), vs = [.ref p] ∧ PenX H p lc n tb ∧ n + 3 ≤ 1000000 ∧ ∀ kl ks H', KsAt H' kl ks → PenX H' p lc (n + 3) tb → But p H H' → Q (.ref kl) H'
theorem o_lst {ta : TA} {σ : L2.St} {H : Hp} {Q : VK} (h : ta σ H fun vs H1 => vs.length ≤ sizeLine ∧ ∀ p, H1 p = none → Q (.ref p) (upd H1 p (.lst vs))) : tLst ta σ H Q := h
theorem o_op {r : R2} {ta tb : TE} {σ : L2.St} {H : Hp} {Q : VK} (h : ta σ H fun x H1 => tb σ H1 fun y H2 => r x y H2 Q) : tOp r ta tb σ H Q := h
theorem ok_law_some_kinds {f : Addr} {fd : FuncData} (F : Fun K "_law_some_kinds" "_law_some_kinds" s_law_some_kinds f fd) (T : T0 K mg aKn aWi aOw aLi aOn aOt) (c_law_draw : MB.Cl P w K mg base 1 "_law_draw" spDrawX) : FnOk P w K mg base CX0 2 f fd p_law_some_kinds sp_kinds := by
  refine F.ok sc_law_some_kinds (fun vs H Q E h => ?_) (fun cdv A outer s H vs Q E hr h => ?_)
  · obtain ⟨p, lc, n, tb, rfl, _⟩ := h
    rfl
  · obtain ⟨p, lc, n, tb, rfl, hp, hn, k⟩ := h
    refine ⟨_, (pss_cons (ps_set (i := 1) sc_law_some_kinds.nd rfl (Or.inl rfl) (pe_lst (pa_cons pe_int (pa_cons pe_int (pa_cons pe_int (pa_cons pe_int (pa_cons (pe_op (MB.op_addK (K := K) rfl) pe_int (MB.pe_cl c_law_draw hr (by decide) (by rfl) passL (pa_cons (pv 0) (pa_cons pe_int pa_nil)))) (pa_cons pe_int pa_nil))))))))
      (pss_cons (ps_set (i := 2) sc_law_some_kinds.nd rfl (Or.inl rfl) (pe_lst (pa_cons pe_int (pa_cons pe_int (pa_cons pe_int (pa_cons pe_int (pa_cons pe_int (pa_cons pe_int (pa_cons pe_int pa_nil)))))))))
      (pss_one (ps_ret (pe_ix (MB.ix_K (K := K) rfl) (pe_lst (pa_cons (pv 2) (pa_cons (pv 2) (pa_cons (pe_op (MB.op_addK (K := K) rfl) (pv 2) (pe_lst (pa_cons (pe_ix (MB.ix_K (K := K) rfl) (pv 1) (MB.pe_cl c_law_draw hr (by decide) (by rfl) passL (pa_cons (pv 0) (pa_cons pe_int pa_nil))) (fun _ _ => rfl)) pa_nil))) pa_nil)))) (MB.pe_cl c_law_draw hr (by decide) (by rfl) passL (pa_cons (pv 0) (pa_cons pe_int pa_nil))) (fun _ _ => rfl)))))), ?_⟩
    refine o_seqAsg (o_lst ?_)
    refine (drb_cons (dre_c (x := 0) (by omega)) (drb_cons (dre_c (x := 7) (by omega)) (drb_cons (dre_c (x := 8) (by omega)) (drb_cons (dre_c (x := 9) (by omega)) (drb_cons (dre_add (B1 := 10) (B2 := 65525) (dre_c (x := 10) (by omega)) (dre_draw (m := 65000) rfl (by decide) (by decide) (by decide))) (drb_cons (dre_c (x := 65535) (by omega)) drb_nil))))) : DrB _ _ p lc 1 6 65535) H n _ hp (by omega) _ fun xs H1 hxl hxs hp1 hb1 => ⟨by rw [List.length_map, hxl]; decide, fun rl hrl => ?_⟩
    have hp2 := hp1.ex (Ex.new (o := .lst (xs.map iv)) hrl)
    have hr2 : upd H1 rl (.lst (xs.map iv)) rl = some (.lst (xs.map iv)) := upd_same
    have hb2 : But p H (upd H1 rl (.lst (xs.map iv))) := hb1.trans (But.of (Ex.new hrl))
    generalize upd H1 rl (.lst (xs.map iv)) = H2 at hp2 hr2 hb2
    refine q_asgL (xs := [1, 2, 3, 4, 5, 5, 6].map iv) (el_lst (ea_cons ev_c (ea_cons ev_c (ea_cons ev_c (ea_cons ev_c (ea_cons ev_c (ea_cons ev_c (ea_cons ev_c ea_nil))))))) (by show 7 ≤ 100000; decide)) fun kl H3 hkl e3 hk3 => ?_
    have hp3 := hp2.ex e3
    have hr3 := e3 _ _ hr2
    refine o_ret (o_op (o_lst (o_cons (o_var rfl (o_cons (o_var rfl (o_cons (o_op (o_var rfl (o_lst (o_cons (o_op (o_var rfl ?_))))))))))))) 
    refine ev_drawX (m := 6) (ev_var rfl) ev_c (by decide) (by decide) hp3 (by omega) fun r H4 r0 r1 hp4 hb4 => ?_
    obtain ⟨x, rfl⟩ : ∃ x : Nat, r = (x : Int) := ⟨r.toNat, by omega⟩
    have hlt : x < xs.length := by omega
    refine .inl ⟨rl, _, _, _, rfl, rfl, sq_of (hb4 _ _ (hp3.ne hr3) hr3), MB.atI_nat (by rw [List.getElem?_map, List.getElem?_eq_getElem hlt]; rfl), by show 1 ≤ sizeLine; decide, fun l1 hl1 => ?_⟩
    have hk4 := hb4 _ _ (hp3.ne hk3) hk3
    refine .inr (.inr (.inl ⟨kl, l1, _, _, rfl, rfl, Ex.new hl1 _ _ hk4, upd_same, by show 7 + 1 ≤ sizeLine; decide, fun l2 hl2 => ⟨by show 3 ≤ sizeLine; decide, fun l3 hl3 => ?_⟩⟩))
    have e5 := ((Ex.new (o := .lst [iv xs[x]]) hl1).trans (Ex.new (o := .lst ([1, 2, 3, 4, 5, 5, 6].map iv ++ [iv xs[x]])) hl2)).trans (Ex.new (o := .lst [.ref kl, .ref kl, .ref l2]) hl3)
    have h2 : (upd (upd (upd H4 l1 (.lst [iv xs[x]])) l2 (.lst ([1, 2, 3, 4, 5, 5, 6].map iv ++ [iv xs[x]]))) l3 (.lst [.ref kl, .ref kl, .ref l2])) l2 = some (.lst (([1, 2, 3, 4, 5, 5, 6] ++ [xs[x]]).map iv)) := Ex.new hl3 _ _ (by rw [upd_same, List.map_append]; rfl)
    have h3 : (upd (upd (upd H4 l1 (.lst [iv xs[x]])) l2 (.lst ([1, 2, 3, 4, 5, 5, 6].map iv ++ [iv xs[x]]))) l3 (.lst [.ref kl, .ref kl, .ref l2])) l3 = some (.lst [.ref kl, .ref kl, .ref l2]) := upd_same
    change tCall spDrawX [] _ _ _ (upd (upd (upd H4 l1 (.lst [iv xs[x]])) l2 (.lst ([1, 2, 3, 4, 5, 5, 6].map iv ++ [iv xs[x]]))) l3 (.lst [.ref kl, .ref kl, .ref l2])) _
    generalize (upd (upd (upd H4 l1 (.lst [iv xs[x]])) l2 (.lst ([1, 2, 3, 4, 5, 5, 6].map iv ++ [iv xs[x]]))) l3 (.lst [.ref kl, .ref kl, .ref l2])) = H5 at e5 h2 h3
    have hp5 := hp4.ex e5
    refine ev_drawX (m := 3) (ev_var rfl) ev_c (by decide) (by decide) hp5 (by omega) fun r2 H6 s0 s1 hp6 hb6 => ?_
    have hk6 := hb6 _ _ (hp5.ne (e5 _ _ hk4)) (e5 _ _ hk4)
    have h26 := hb6 _ _ (hp5.ne h2) h2
    have h36 := hb6 _ _ (hp5.ne h3) h3
    have hb : But p H H6 := hb2.trans ((But.of e3).trans (hb4.trans ((But.of e5).trans hb6)))
    have fin : ∀ kl' ks, atI ([.ref kl, .ref kl, .ref l2] : List V) r2 = some (.ref kl') → KsAt H6 kl' ks → rIx K (.ref l3) (.int r2) H6 Q := fun kl' ks hat hks => .inl ⟨l3, _, r2, _, rfl, rfl, sq_of h36, hat, k kl' ks H6 hks (hp6.le (by omega)) hb⟩
    have c1 : KsAt H6 kl [1, 2, 3, 4, 5, 5, 6] := ⟨hk6, by decide, by decide, by decide⟩
    have : r2 = 0 ∨ r2 = 1 ∨ r2 = 2 := by omega
    rcases this with rfl | rfl | rfl
    · exact fin kl _ rfl c1
    · exact fin kl _ rfl c1
    · refine fin l2 _ rfl ⟨h26, by simp, by simp, fun y hy => ?_⟩
      rcases List.mem_append.mp hy with hy | hy
      · exact (show ∀ y ∈ [1, 2, 3, 4, 5, 5, 6], y ≤ 65535 by decide) y hy
      · rw [List.mem_singleton] at hy
        rw [hy]
        exact hxs _ (List.getElem_mem hlt)
def KNL : List (List Nat) := [[1, 2, 3, 4, 5, 6], [1, 2, 3, 4, 5, 6], [4, 5], [1, 5, 6], [2, 3], [], [5], [1, 2, 3, 4]]
theorem knl_ok : ∀ kn ∈ KNL, (∀ k ∈ kn, 1 ≤ k ∧ k ≤ 6) ∧ kn.length ≤ 6 := by decide
def sp_known (K : PySem.W.Frag) : Sp := fun vs H Q _ => ∃ (p lc : Addr) (n : Nat) (tb : Option Int), vs = [.ref p] ∧ PenX H p lc n tb ∧ n + 1 ≤ 1000000 ∧ ∀ y kn H', KnAt K H' y kn → PenX H' p lc (n + 1) tb → But p H H' → Q y H'
theorem evd_nums {σ : L2.St} {H : Hp} {te : TE} {ns : List Nat} (h : EvU te σ H (ns.map iv)) : EvD K te σ H (dT ns) := fun H1 e Q q => h H1 e _ fun p H2 _ e2 hp => q _ H2 e2 (dp_nums (st_of hp))
theorem ok_law_kinds_known {f : Addr} {fd : FuncData} (F : Fun K "_law_kinds_known" "_law_kinds_known" s_law_kinds_known f fd) (T : T0 K mg aKn aWi aOw aLi aOn aOt) (c_law_draw : MB.Cl P w K mg base 1 "_law_draw" spDrawX) : FnOk P w K mg base CX0 2 f fd p_law_kinds_known (sp_known K) := by
  refine F.ok sc_law_kinds_known (fun vs H Q E h => ?_) (fun cdv A outer s H vs Q E hr h => ?_)
  · obtain ⟨p, lc, n, tb, rfl, _⟩ := h
    rfl
  · obtain ⟨p, lc, n, tb, rfl, hp, hn, k⟩ := h
    refine ⟨_, (pss_cons (ps_set (i := 1) sc_law_kinds_known.nd rfl (Or.inl rfl) (pe_lst (pa_cons (pe_tup (pa_cons pe_int (pa_cons pe_int (pa_cons pe_int (pa_cons pe_int (pa_cons pe_int (pa_cons pe_int pa_nil))))))) (pa_cons (pe_tup (pa_cons pe_int (pa_cons pe_int (pa_cons pe_int (pa_cons pe_int (pa_cons pe_int (pa_cons pe_int pa_nil))))))) (pa_cons (pe_tup (pa_cons pe_int (pa_cons pe_int pa_nil))) (pa_cons (pe_tup (pa_cons pe_int (pa_cons pe_int (pa_cons pe_int pa_nil)))) (pa_cons (pe_tup (pa_cons pe_int (pa_cons pe_int pa_nil))) (pa_cons (pe_tup pa_nil) (pa_cons (pe_tup (pa_cons pe_int pa_nil)) (pa_cons (pe_tup (pa_cons pe_int (pa_cons pe_int (pa_cons pe_int (pa_cons pe_int pa_nil))))) pa_nil))))))))))
      (pss_one (ps_ret (pe_ix (MB.ix_K (K := K) rfl) (pv 1) (MB.pe_cl c_law_draw hr (by decide) (by rfl) passL (pa_cons (pv 0) (pa_cons pe_int pa_nil))) (fun _ _ => rfl))))), ?_⟩
    refine q_asgAcc (K := K) (ds := KNL.map dT) (eva_lst (eds_cons (evd_nums (ns := [1, 2, 3, 4, 5, 6]) (eu_tup (ea_cons ev_c (ea_cons ev_c (ea_cons ev_c (ea_cons ev_c (ea_cons ev_c (ea_cons ev_c ea_nil)))))) (by show 6 ≤ 100000; decide))) (eds_cons (evd_nums (ns := [1, 2, 3, 4, 5, 6]) (eu_tup (ea_cons ev_c (ea_cons ev_c (ea_cons ev_c (ea_cons ev_c (ea_cons ev_c (ea_cons ev_c ea_nil)))))) (by show 6 ≤ 100000; decide))) (eds_cons (evd_nums (ns := [4, 5]) (eu_tup (ea_cons ev_c (ea_cons ev_c ea_nil)) (by show 2 ≤ 100000; decide))) (eds_cons (evd_nums (ns := [1, 5, 6]) (eu_tup (ea_cons ev_c (ea_cons ev_c (ea_cons ev_c ea_nil))) (by show 3 ≤ 100000; decide))) (eds_cons (evd_nums (ns := [2, 3]) (eu_tup (ea_cons ev_c (ea_cons ev_c ea_nil)) (by show 2 ≤ 100000; decide))) (eds_cons (evd_nums (ns := []) (eu_tup ea_nil (by show 0 ≤ 100000; decide))) (eds_cons (evd_nums (ns := [5]) (eu_tup (ea_cons ev_c ea_nil) (by show 1 ≤ 100000; decide))) (eds_cons (evd_nums (ns := [1, 2, 3, 4]) (eu_tup (ea_cons ev_c (ea_cons ev_c (ea_cons ev_c (ea_cons ev_c ea_nil)))) (by show 4 ≤ 100000; decide))) eds_nil)))))))) (by decide)) fun l vs H1 hl e1 h1 hd => ?_
    have hp1 := hp.ex e1
    refine o_ret (o_op (o_var rfl ?_))
    refine ev_drawX (m := 8) (ev_var rfl) ev_c (by decide) (by decide) hp1 (by omega) fun r H2 r0 r1 hp2 hb2 => ?_
    obtain ⟨x, rfl⟩ : ∃ x : Nat, r = (x : Int) := ⟨r.toNat, by omega⟩
    have hd2 := dpAll_but (NoTup.pen hp1) hb2 _ _ (tupdAll_map tupd_dT KNL) hd
    obtain ⟨zs, z1, z2, z3⟩ := dpAll_zip hd2
    have hzl : zs.length = 8 := by
      have := congrArg List.length z2
      rw [List.length_map] at this
      exact this
    have hlt : x < zs.length := by omega
    have hz := z3 zs[x] (List.getElem_mem hlt)
    obtain ⟨a, ea, hs⟩ := dp_dT hz
    have hk := knl_ok zs[x].2 (by rw [← z2]; exact List.mem_map_of_mem (List.getElem_mem hlt))
    refine .inl ⟨l, vs, _, zs[x].1, rfl, rfl, sq_of (hb2 _ _ (hp1.ne h1) h1), MB.atI_nat (by rw [← z1, List.getElem?_map, List.getElem?_eq_getElem hlt]; rfl), ?_⟩
    exact k _ zs[x].2 H2 ⟨a, ea, hs, ⟨hk.1, hk.2⟩⟩ hp2 ((But.of e1).trans hb2)
end
end K82
set_option maxRecDepth 100000
set_option maxHeartbeats 1000000
namespace K82
open PySem PySem.Spec PyProof.Rows L2 Evl MB
def fB (n : Nat) : Nat := 8 * n + 40
def tv' (w : List Nat) : V := .str (SX.S w)
section
variable {P : Program} {w : World} {K : PySem.W.Frag} {mg : Str → Option Value} {base : Heap} {aKn aWi aOw aLi aOn aOt : Addr}
/-! ### _law_sign_bent -/
theorem ok_law_sign_bent {f : Addr} {fd : FuncData} (F : Fun K "_law_sign_bent" "_law_sign_bent" s_law_sign_bent f fd) (T : T0 K mg aKn aWi aOw aLi aOn aOt) (c_law_draw : MB.Cl P w K mg base 1 "_law_draw" spDrawX) : FnOk P w K mg base CX0 2 f fd p_law_sign_bent (spBentX 0 fB) := by
  refine F.ok sc_law_sign_bent (fun vs H Q E h => ?_) (fun cdv A outer s H vs Q E hr h => ?_)
  · obtain ⟨p, lc, t, n, tt, more, rfl, hm, _⟩ := h
    rw [List.length_cons, List.length_cons, hm]
    rfl
  · obtain ⟨p, lc, t, n, tt, more, rfl, hm, hp, hn, ht, _, k⟩ := h
    obtain rfl : more = [] := List.length_eq_zero_iff.mp hm
    refine ⟨_, (pss_cons (ps_set (i := 2) sc_law_sign_bent.nd rfl (Or.inl rfl) pe_str)
      (pss_cons (ps_set (i := 3) sc_law_sign_bent.nd rfl (Or.inl rfl) (pe_ix (MB.ix_K (K := K) rfl) (pv 2) (MB.pe_cl c_law_draw hr (by decide) (by rfl) passL (pa_cons (pv 0) (pa_cons (pe_callB (MB.call_lenK (K := K) rfl) (by rfl) T.n_len MB.bo_len (pa_cons (pv 2) pa_nil)) pa_nil))) (fun _ _ => rfl)))
      (pss_cons (ps_set (i := 4) sc_law_sign_bent.nd rfl (Or.inl rfl) (MB.pe_cl c_law_draw hr (by decide) (by rfl) passL (pa_cons (pv 0) (pa_cons (pe_op (MB.op_addK (K := K) rfl) (pe_callB (MB.call_lenK (K := K) rfl) (by rfl) T.n_len MB.bo_len (pa_cons (pv 1) pa_nil)) pe_int) pa_nil))))
      (pss_cons (ps_set (i := 5) sc_law_sign_bent.nd rfl (Or.inl rfl) (MB.pe_cl c_law_draw hr (by decide) (by rfl) passL (pa_cons (pv 0) (pa_cons pe_int pa_nil))))
      (pss_one (ps_ret (pe_op (MB.op_addK (K := K) rfl) (pe_op (MB.op_addK (K := K) rfl) (pe_slice (MB.sl_K (K := K) rfl) (pv 1) po_none (po_some (pv 4))) (pe_ix (MB.ix_K (K := K) rfl) (pe_lst (pa_cons (pv 3) (pa_cons (pv 3) (pa_cons pe_str (pa_cons (pe_op (MB.op_mulK (K := K) rfl) (pe_slice (MB.sl_K (K := K) rfl) (pv 1) (po_some (pv 4)) (po_some (pe_op (MB.op_addK (K := K) rfl) (pv 4) pe_int))) pe_int) pa_nil))))) (pv 5) (fun _ _ => rfl))) (pe_slice (MB.sl_K (K := K) rfl) (pv 1) (po_some (pe_op (MB.op_addK (K := K) rfl) (pv 4) (pe_callTy MB.call_intA (by rfl) T.n_int MB.bo_int (pa_cons (pe_cmpR op_gt (pv 5) pe_int (nomark _)) pa_nil)))) po_none)))))))), ?_⟩
    refine q_asg ev_c fun H1 e1 => ?_
    refine ⟨_, rfl, ev_drawX (ev_var rfl) (ev_cb1 (ev_var rfl) (rc_lenStr (by decide +kernel))) (by decide +kernel) (by decide +kernel) (hp.ex e1) (by omega) fun r H2 r0 r1 hp2 hb2 => ?_⟩
    obtain ⟨c, _, hat⟩ := atI_in (i := r) (by omega) (show r < _ by exact r1)
    refine .inr (.inr ⟨_, r, c, rfl, rfl, by decide +kernel, hat, ?_⟩)
    refine q_drawX (m := (t.length : Int) + 1) (ev_var rfl) (ev_op (ev_cb1 (ev_var rfl) (rc_lenStr (by omega))) ev_c rv_addI) (by omega) (by omega) hp2 (by omega) fun at1 H3 a0 a1 hp3 hb3 => ?_
    refine q_drawX (m := 4) (ev_var rfl) ev_c (by decide) (by decide) hp3 (by omega) fun way H4 w0 w1 hp4 hb4 => ?_
    have ht8 : t.length ≤ 8000000 := by omega
    have hc1 := cutS_le t (some at1) (some (at1 + 1))
    have hmul : (Txt.mul (cutS t (some at1) (some (at1 + 1))) 2).length ≤ t.length * 2 := len_mul_leN hc1 (by decide)
    obtain ⟨v, hv, hatw⟩ := atI_in (l := [V.str ⟨#[c]⟩, V.str ⟨#[c]⟩, V.str (Str.ofString ""), V.str (Txt.mul (cutS t (some at1) (some (at1 + 1))) 2)]) (i := way) (by show -(4 : Int) ≤ _; omega) (by show _ < (4 : Int); exact w1)
    have hv2 : ∃ u : Str, v = .str u ∧ u.length ≤ t.length * 2 + 1 := by
      simp only [List.mem_cons, List.not_mem_nil, or_false] at hv
      rcases hv with rfl | rfl | rfl | rfl
      · exact ⟨_, rfl, by show 1 ≤ _; omega⟩
      · exact ⟨_, rfl, by show 1 ≤ _; omega⟩
      · exact ⟨_, rfl, by show (0 : Nat) ≤ _; omega⟩
      · exact ⟨_, rfl, by omega⟩
    obtain ⟨u, rfl, hu⟩ := hv2
    have hc2 := cutS_le t none (some at1)
    refine s_ret (ev_op (ev_op (ev_slStr (ev_var rfl) eo_none (eo_some (ev_var rfl)) ht8) (ev_opLs (els_new (el_lst (ea_cons (ev_var rfl) (ea_cons (ev_var rfl) (ea_cons ev_c (ea_cons (ev_op (ev_slStr (ev_var rfl) (eo_some (ev_var rfl)) (eo_some (ev_op (ev_var rfl) ev_c rv_addI)) ht8) ev_c (rv_mulStr (by decide) (by decide) ?_)) ea_nil)))) (by show 4 ≤ 100000; decide))) (ev_var rfl) fun q H1 hq e => rv_xL hq hatw) (rv_addStr ?_))
      (ev_slStr (ev_var rfl) (eo_some (ev_op (ev_var rfl) (ev_cb1 (ev_op (ev_var rfl) ev_c rv_I0) rc_intB) rv_addI)) eo_none ht8) (rv_addStr ?_)) fun H5 e5 => k _ H5 ?_ ((hp4.ex e5).le (by omega)) ((But.of e1).trans (hb2.trans (hb3.trans (hb4.trans (But.of e5)))))
    · show _ * 2 ≤ _
      omega
    · omega
    · rw [PySem.Str.length_append]
      have := cutS_le t (some (at1 + if decide (0 < way) = true then 1 else 0)) none
      omega
    · rw [PySem.Str.length_append, PySem.Str.length_append]
      have := cutS_le t (some (at1 + if decide (0 < way) = true then 1 else 0)) none
      unfold fB
      omega
/-! ### _law_word_bent -/
theorem ok_law_word_bent {f : Addr} {fd : FuncData} (F : Fun K "_law_word_bent" "_law_word_bent" s_law_word_bent f fd) (T : T0 K mg aKn aWi aOw aLi aOn aOt) (c_law_draw : MB.Cl P w K mg base 1 "_law_draw" spDrawX) : FnOk P w K mg base CX0 2 f fd p_law_word_bent (spBentX 1 fB) := by
  refine fun_okT F sc_law_word_bent (by decide +kernel) (by decide) (fun vs H Q E h => ?_) (fun cdv A outer s H vs Q E hr h => ?_)
  · obtain ⟨p, lc, t, n, tt, more, rfl, hm, _⟩ := h
    rw [List.length_cons, List.length_cons, hm]
    rfl
  · obtain ⟨p, lc, t, n, tt, more, rfl, hm, hp, hn, ht, hmore, k⟩ := h
    obtain ⟨v0, rfl⟩ : ∃ v, more = [v] := List.length_eq_one_iff.mp hm
    obtain ⟨l0, ws0, rfl, hl0, hn0, hw0⟩ := hmore _ (List.mem_singleton.mpr rfl)
    refine ⟨_, (psst_cons (MB.pst_set (i := 3) sc_law_word_bent.nd rfl (Or.inl rfl) (MB.pet_m1 PySem.F.slot_str_split PySem.F.type_str_split mt_split (CwR.pet_replC (pv 1)) pe_str))
      (psst_cons (PST.of (ps_set (i := 4) sc_law_word_bent.nd rfl (Or.inl rfl) (MB.pe_cl c_law_draw hr (by decide) (by rfl) passL (pa_cons (pv 0) (pa_cons (pe_callB (MB.call_lenK (K := K) rfl) (by rfl) T.n_len MB.bo_len (pa_cons (pv 3) pa_nil)) pa_nil)))))
      (psst_cons (PST.of (ps_set (i := 5) sc_law_word_bent.nd rfl (Or.inl rfl) (pe_ix (MB.ix_K (K := K) rfl) (pe_op (MB.op_addK (K := K) rfl) (pv 2) (pe_lst (pa_cons (pe_ix (MB.ix_K (K := K) rfl) (pv 3) (pe_op op_sub (pv 4) pe_int) (fun _ _ => rfl)) pa_nil))) (MB.pe_cl c_law_draw hr (by decide) (by rfl) passL (pa_cons (pv 0) (pa_cons (pe_op (MB.op_addK (K := K) rfl) (pe_callB (MB.call_lenK (K := K) rfl) (by rfl) T.n_len MB.bo_len (pa_cons (pv 2) pa_nil)) pe_int) pa_nil))) (fun _ _ => rfl))))
      (psst_cons (PST.of (ps_set (i := 6) sc_law_word_bent.nd rfl (Or.inl rfl) (pe_lst (pa_cons (pe_op (MB.op_addK (K := K) rfl) (pe_slice (MB.sl_K (K := K) rfl) (pv 3) po_none (po_some (pv 4))) (pe_slice (MB.sl_K (K := K) rfl) (pv 3) (po_some (pe_op (MB.op_addK (K := K) rfl) (pv 4) pe_int)) po_none)) (pa_cons (pe_op (MB.op_addK (K := K) rfl) (pe_slice (MB.sl_K (K := K) rfl) (pv 3) po_none (po_some (pe_op (MB.op_addK (K := K) rfl) (pv 4) pe_int))) (pe_slice (MB.sl_K (K := K) rfl) (pv 3) (po_some (pv 4)) po_none)) (pa_cons (pe_op (MB.op_addK (K := K) rfl) (pe_op (MB.op_addK (K := K) rfl) (pe_slice (MB.sl_K (K := K) rfl) (pv 3) po_none (po_some (pv 4))) (pe_lst (pa_cons (pv 5) pa_nil))) (pe_slice (MB.sl_K (K := K) rfl) (pv 3) (po_some (pe_op (MB.op_addK (K := K) rfl) (pv 4) pe_int)) po_none)) pa_nil))))))
      (psst_cons (PST.of (ps_expr (pe_bm PySem.F.plainAttrs_list PySem.F.slot_list_append PySem.F.type_list_append mt_append (pv 6) (pa_cons (pe_op (MB.op_addK (K := K) rfl) (pe_op (MB.op_addK (K := K) rfl) (pe_slice (MB.sl_K (K := K) rfl) (pv 3) po_none (po_some (pv 4))) (pe_lst (pa_cons (pv 5) pa_nil))) (pe_slice (MB.sl_K (K := K) rfl) (pv 3) (po_some (pv 4)) po_none)) pa_nil))))
      (CwR.psst_one (CwR.pst_ret (CwR.pet_replC (MB.pe_joinK (K := K) rfl pe_str (pe_ix (MB.ix_K (K := K) rfl) (pv 6) (MB.pe_cl c_law_draw hr (by decide) (by rfl) passL (pa_cons (pv 0) (pa_cons pe_int pa_nil))) (fun _ _ => rfl))))))))))), ?_⟩
    have hrl := TK.replace_len t (Str.ofString "\n") (Str.ofString " \n ")
    have hz3 : (Str.ofString " \n ").length = 3 := by decide +kernel
    rw [hz3] at hrl
    -- the words
    refine ⟨_, rfl, t, rfl, ?_, ⟨_, rfl⟩, ⟨_, _, rfl, rfl, by decide +kernel, ?_, fun q hq => ?_⟩⟩
    · rw [hz3]
      omega
    · have : (8000000 : Nat) ≤ sizeLine := by decide
      omega
    have e1 : Ex H (upd H q (.lst ((Txt.split (Txt.replace t (Str.ofString "\n") (Str.ofString " \n ")) (Str.ofString " ")).map V.str))) := Ex.new hq
    have h1 : upd H q (.lst ((Txt.split (Txt.replace t (Str.ofString "\n") (Str.ofString " \n ")) (Str.ofString " ")).map V.str)) q = some (.lst ((Txt.split (Txt.replace t (Str.ofString "\n") (Str.ofString " \n ")) (Str.ofString " ")).map V.str)) := upd_same
    revert e1 h1
    generalize hH1 : upd H q (.lst ((Txt.split (Txt.replace t (Str.ofString "\n") (Str.ofString " \n ")) (Str.ofString " ")).map V.str)) = H1
    intro e1 h1
    have hsp : Txt.split (Txt.replace t (Str.ofString "\n") (Str.ofString " \n ")) (Str.ofString " ") = (TL.spl [32] 0 [] (Txt.replace t (Str.ofString "\n") (Str.ofString " \n ")).cps.toList).map SX.S := by
      have := SX.split_S (a := (Txt.replace t (Str.ofString "\n") (Str.ofString " \n ")).cps.toList) (b := [32]) (by decide) (by decide)
      rw [SX.S_tl] at this
      exact this
    rw [hsp, List.map_map] at h1
    have hmu : mu (TL.spl [32] 0 [] (Txt.replace t (Str.ofString "\n") (Str.ofString " \n ")).cps.toList) ≤ 4 * t.length + 4 := by
      rw [mu_spl]
      have : (Txt.replace t (Str.ofString "\n") (Str.ofString " \n ")).cps.toList.length = (Txt.replace t (Str.ofString "\n") (Str.ofString " \n ")).length := by simp [Str.length]
      rw [this, List.length_nil]
      omega
    have hne := spl_ne [32] (Txt.replace t (Str.ofString "\n") (Str.ofString " \n ")).cps.toList 0 []
    revert h1 hmu hne
    generalize TL.spl [32] 0 [] (Txt.replace t (Str.ofString "\n") (Str.ofString " \n ")).cps.toList = W
    intro h1 hmu hne
    change H1 q = some (.lst (W.map tv')) at h1
    have hWl : (W.map tv').length = W.length := List.length_map _
    have hWm := mu_len W
    have hWp : 0 < W.length := List.length_pos_iff.mpr hne
    have hp1 := hp.ex e1
    refine q_drawX (m := (W.length : Int)) (ev_var rfl) (ev_is (ev_cb1 (ev_var rfl) (rc_lenL (sq_of h1))) (by rw [hWl])) (by omega) (by omega) hp1 (by omega) fun r H2 r0 r1 hp2 hb2 => ?_
    obtain ⟨i, rfl⟩ : ∃ i : Nat, r = (i : Int) := ⟨r.toNat, by omega⟩
    have hi : i < W.length := by omega
    have h2 := hb2 _ _ (hp1.ne h1) h1
    have hl2 := hb2 _ _ (hp1.ne (e1 _ _ hl0)) (e1 _ _ hl0)
    -- the new word
    obtain ⟨x1, hx1, hat1⟩ := atI_in (l := W.map tv') (i := (i : Int) - 1) (by rw [hWl]; omega) (by rw [hWl]; omega)
    obtain ⟨wd, hwd, rfl⟩ := List.mem_map.mp hx1
    refine (el_cat (ep_val (ev_var rfl) hl2) (ep_new (el_lst (ea_cons (ev_op (ev_var rfl) (ev_op (ev_var rfl) ev_c rv_I0) (rv_xL (sq_of h2) hat1)) ea_nil) (by show 1 ≤ 100000; decide))) (by rw [List.length_map]; show _ + 1 ≤ _; omega) : EvL _ _ H2 _) H2 (Ex.refl _) _ fun qn H3 _ e3 h3 => ?_
    have hp3 := hp2.ex e3
    have hl0l : (ws0.map fun w => V.str (SX.S w)).length = ws0.length := List.length_map _
    refine ev_drawX (m := (ws0.length : Int) + 1) (ev_var rfl) (ev_op (ev_is (ev_cb1 (ev_var rfl) (rc_lenL (sq_of (e3 _ _ hl2)))) (by rw [hl0l])) ev_c rv_addI) (by omega) (by omega) hp3 (by omega) fun r2 H4 r20 r21 hp4 hb4 => ?_
    obtain ⟨x2, hx2, hat2⟩ := atI_in (l := (ws0.map fun w => V.str (SX.S w)) ++ [tv' wd]) (i := r2) (by omega) (by rw [List.length_append, hl0l]; exact r21)
    have hnw : ∃ nw : List Nat, x2 = tv' nw ∧ nw.length ≤ mu W + 20 := by
      rcases List.mem_append.mp hx2 with hx | hx
      · obtain ⟨u, hu, rfl⟩ := List.mem_map.mp hx
        exact ⟨u, rfl, by have := hw0 u hu; omega⟩
      · rw [List.mem_singleton] at hx
        exact ⟨wd, hx, by have := mu_mem hwd; omega⟩
    obtain ⟨nw, rfl, hnwl⟩ := hnw
    refine .inl ⟨qn, _, r2, _, rfl, rfl, sq_of (hb4 _ _ (hp3.ne h3) h3), hat2, ?_⟩
    have h4 := hb4 _ _ (hp3.ne (e3 _ _ h2)) (e3 _ _ h2)
    have hi1 : ((i : Int) + 1) = ((i + 1 : Nat) : Int) := by omega
    have ht1 : ∀ {σ : L2.St} {H' : Hp}, Ex H4 H' → σ[3]? = some (some (.ref q)) → σ[4]? = some (some (.int (i : Int))) → EvL (tSl (rSl K) (tVar 3) tNoPart (tPart (tVar 4))) σ H' ((W.take i).map tv') := fun e s3 s4 => el_is (els_sl (els_val (ev_var s3) (sq_of (e _ _ h4))) eo_none (eo_some (ev_var s4))) (cut_to _ _ _)
    have ht2 : ∀ {σ : L2.St} {H' : Hp}, Ex H4 H' → σ[3]? = some (some (.ref q)) → σ[4]? = some (some (.int (i : Int))) → EvL (tSl (rSl K) (tVar 3) tNoPart (tPart (tOp (rAddA K) (tVar 4) (tC (.int 1))))) σ H' ((W.take (i + 1)).map tv') := fun e s3 s4 => el_is (els_sl (els_val (ev_var s3) (sq_of (e _ _ h4))) eo_none (eo_some (ev_op (ev_var s4) ev_c rv_addI))) (by rw [hi1, cut_to])
    have ht3 : ∀ {σ : L2.St} {H' : Hp}, Ex H4 H' → σ[3]? = some (some (.ref q)) → σ[4]? = some (some (.int (i : Int))) → EvL (tSl (rSl K) (tVar 3) (tPart (tVar 4)) tNoPart) σ H' ((W.drop i).map tv') := fun e s3 s4 => el_is (els_sl (els_val (ev_var s3) (sq_of (e _ _ h4))) (eo_some (ev_var s4)) eo_none) (cut_from _ _ _)
    have ht4 : ∀ {σ : L2.St} {H' : Hp}, Ex H4 H' → σ[3]? = some (some (.ref q)) → σ[4]? = some (some (.int (i : Int))) → EvL (tSl (rSl K) (tVar 3) (tPart (tOp (rAddA K) (tVar 4) (tC (.int 1)))) tNoPart) σ H' ((W.drop (i + 1)).map tv') := fun e s3 s4 => el_is (els_sl (els_val (ev_var s3) (sq_of (e _ _ h4))) (eo_some (ev_op (ev_var s4) ev_c rv_addI)) eo_none) (by rw [hi1, cut_from])
    have hW8 : W.length ≤ 3500000 := by omega
    have lt : ∀ j, ((W.take j).map tv').length ≤ 3500000 := fun j => by rw [List.length_map, List.length_take]; omega
    have ld : ∀ j, ((W.drop j).map tv').length ≤ 3500000 := fun j => by rw [List.length_map, List.length_drop]; omega
    have l1 : ∀ u : V, ([u] : List V).length = 1 := fun _ => rfl
    refine (el_is (el_cat (ep_new (ht1 (Ex.refl _) rfl rfl)) (ep_new (ht4 (Ex.refl _) rfl rfl)) (by have := lt i; have := ld (i + 1); omega)) List.map_append.symm : EvL _ _ H4 _) H4 (Ex.refl _) _ fun a1 H5 _ e5 g1 => ?_
    refine (el_is (el_cat (ep_new (ht2 e5 rfl rfl)) (ep_new (ht3 e5 rfl rfl)) (by have := lt (i + 1); have := ld i; omega)) List.map_append.symm : EvL _ _ H5 _) H5 (Ex.refl _) _ fun a2 H6 _ e6 g2 => ?_
    have e46 := e5.trans e6
    refine (el_is (el_cat (ep_new (el_cat (ep_new (ht1 e46 rfl rfl)) (ep_new (el_lst (ea_cons (ev_var rfl) ea_nil) (by show 1 ≤ 100000; decide))) (by have := lt i; rw [l1]; omega))) (ep_new (ht4 e46 rfl rfl)) (by have := lt i; have := ld (i + 1); rw [List.length_append, l1]; omega)) (ys := (W.take i ++ [nw] ++ W.drop (i + 1)).map tv') (by rw [List.map_append, List.map_append]; rfl) : EvL _ _ H6 _) H6 (Ex.refl _) _ fun a3 H7 _ e7 g3 => ?_
    refine ⟨by show 3 ≤ sizeLine; decide, fun qs hqs => ?_⟩
    have e47 := e46.trans e7
    have e48 : Ex H4 (upd H7 qs (.lst [.ref a1, .ref a2, .ref a3])) := e47.trans (Ex.new hqs)
    have e78 : Ex H7 (upd H7 qs (.lst [.ref a1, .ref a2, .ref a3])) := Ex.new hqs
    have h8 : upd H7 qs (.lst [.ref a1, .ref a2, .ref a3]) qs = some (.lst [.ref a1, .ref a2, .ref a3]) := upd_same
    have hqs4 := fresh_back e47 hqs
    revert e48 e78 h8
    generalize upd H7 qs (.lst [.ref a1, .ref a2, .ref a3]) = H8
    intro e48 e78 h8
    refine ⟨_, rfl, .inl ⟨rfl, _, sq_of h8⟩, ?_⟩
    refine (el_is (el_cat (ep_new (el_cat (ep_new (ht1 e48 rfl rfl)) (ep_new (el_lst (ea_cons (ev_var rfl) ea_nil) (by show 1 ≤ 100000; decide))) (by have := lt i; rw [l1]; omega))) (ep_new (ht3 e48 rfl rfl)) (by have := lt i; have := ld i; rw [List.length_append, l1]; omega)) (ys := (W.take i ++ [nw] ++ W.drop i).map tv') (by rw [List.map_append, List.map_append]; rfl) : EvL _ _ H8 _) H8 (Ex.refl _) _ fun a4 H9 ha4 e9 g4 => ?_
    refine ⟨qs, _, _, rfl, rfl, e9 _ _ h8, by show 3 < sizeLine; decide, ?_⟩
    have e410 : Ex H4 (upd H9 qs (.lst ([.ref a1, .ref a2, .ref a3] ++ [.ref a4]))) := Ex.mut (e48.trans e9) hqs4
    have ne : ∀ {a : Addr} {xs : List V}, H7 a = some (.lst xs) → a ≠ qs := fun g => ne_of_none g hqs
    have k1 : upd H9 qs (.lst ([.ref a1, .ref a2, .ref a3] ++ [.ref a4])) a1 = some (.lst ((W.take i ++ W.drop (i + 1)).map tv')) := by rw [upd_ne (ne (e7 _ _ (e6 _ _ g1)))]; exact e9 _ _ (e78 _ _ (e7 _ _ (e6 _ _ g1)))
    have k2 : upd H9 qs (.lst ([.ref a1, .ref a2, .ref a3] ++ [.ref a4])) a2 = some (.lst ((W.take (i + 1) ++ W.drop i).map tv')) := by rw [upd_ne (ne (e7 _ _ g2))]; exact e9 _ _ (e78 _ _ (e7 _ _ g2))
    have k3 : upd H9 qs (.lst ([.ref a1, .ref a2, .ref a3] ++ [.ref a4])) a3 = some (.lst ((W.take i ++ [nw] ++ W.drop (i + 1)).map tv')) := by rw [upd_ne (ne g3)]; exact e9 _ _ (e78 _ _ g3)
    have k4 : upd H9 qs (.lst ([.ref a1, .ref a2, .ref a3] ++ [.ref a4])) a4 = some (.lst ((W.take i ++ [nw] ++ W.drop i).map tv')) := by
      rw [upd_ne (Ne.symm (ne_of_none h8 ha4))]
      exact g4
    have kq : upd H9 qs (.lst ([.ref a1, .ref a2, .ref a3] ++ [.ref a4])) qs = some (.lst ([a1, a2, a3, a4].map V.ref)) := upd_same
    have hp10 := hp4.ex e410
    have m1 := mu_take_drop W i
    have m2 := mu_drop1 hi
    have m3 := mu_take1 hi
    have m4 : W[i].length + 1 ≤ mu W := mu_mem (List.getElem_mem hi)
    have m5 : mu [nw] = nw.length + 1 := rfl
    dsimp only [tRet, CwR.tReplC]
    refine join_pickX (M := 2 * mu W + 21) (n := n + 3) (lc := lc) (as := [a1, a2, a3, a4]) (c := 32) rfl rfl kq rfl ?_ (by omega) (hp10.le (by omega)) (by omega) fun ws H11 hm11 hp11 hb11 => ?_
    · intro a ha
      simp only [List.mem_cons, List.not_mem_nil, or_false] at ha
      rcases ha with rfl | rfl | rfl | rfl
      · exact ⟨_, k1, by rw [mu_append]; omega⟩
      · exact ⟨_, k2, by rw [mu_append]; omega⟩
      · exact ⟨_, k3, by rw [mu_append, mu_append]; omega⟩
      · exact ⟨_, k4, by rw [mu_append, mu_append]; omega⟩
    · have hj := mu_join (c := 32) ws
      refine ⟨_, rfl, ?_, ?_⟩
      · have hz1 : (Str.ofString "\n").length = 1 := by decide +kernel
        rw [hz1, SX.S_len]
        omega
      · refine k _ H11 ?_ (hp11.le (by omega)) ((But.of e1).trans (hb2.trans ((But.of e3).trans (hb4.trans ((But.of e410).trans hb11)))))
        have hr := replace_le (x := SX.S (TL.joinL [32] ws)) (y := Str.ofString " \n ") (z := Str.ofString "\n") (by decide +kernel)
        show _ ≤ 8 * t.length + 40
        exact Nat.le_trans hr (by rw [SX.S_len]; omega)
end
end K82
set_option maxRecDepth 100000
set_option maxHeartbeats 1000000
namespace K82
open PySem PySem.Spec PyProof.Rows L2 Evl MB
section
variable {P : Program} {w : World} {K : PySem.W.Frag} {mg : Str → Option Value} {base : Heap} {aKn aWi aOw aLi aOn aOt : Addr}
/-! ### _law_line_bent -/
theorem ok_law_line_bent {f : Addr} {fd : FuncData} (F : Fun K "_law_line_bent" "_law_line_bent" s_law_line_bent f fd) (T : T0 K mg aKn aWi aOw aLi aOn aOt) (c_law_draw : MB.Cl P w K mg base 1 "_law_draw" spDrawX) : FnOk P w K mg base CX0 2 f fd p_law_line_bent (spBentX 1 fB) := by
  refine F.ok sc_law_line_bent (fun vs H Q E h => ?_) (fun cdv A outer s H vs Q E hr h => ?_)
  · obtain ⟨p, lc, t, n, tt, more, rfl, hm, _⟩ := h
    rw [List.length_cons, List.length_cons, hm]
    rfl
  · obtain ⟨p, lc, t, n, tt, more, rfl, hm, hp, hn, ht, hmore, k⟩ := h
    obtain ⟨v0, rfl⟩ : ∃ v, more = [v] := List.length_eq_one_iff.mp hm
    obtain ⟨l0, ws0, rfl, hl0, hn0, hw0⟩ := hmore _ (List.mem_singleton.mpr rfl)
    refine ⟨_, (pss_cons (ps_set (i := 3) sc_law_line_bent.nd rfl (Or.inl rfl) (pe_split (pv 1) pe_str))
      (pss_cons (ps_set (i := 4) sc_law_line_bent.nd rfl (Or.inl rfl) (MB.pe_cl c_law_draw hr (by decide) (by rfl) passL (pa_cons (pv 0) (pa_cons (pe_callB (MB.call_lenK (K := K) rfl) (by rfl) T.n_len MB.bo_len (pa_cons (pv 3) pa_nil)) pa_nil))))
      (pss_cons (ps_set (i := 5) sc_law_line_bent.nd rfl (Or.inl rfl) (MB.pe_cl c_law_draw hr (by decide) (by rfl) passL (pa_cons (pv 0) (pa_cons (pe_callB (MB.call_lenK (K := K) rfl) (by rfl) T.n_len MB.bo_len (pa_cons (pv 3) pa_nil)) pa_nil))))
      (pss_cons (ps_set (i := 6) sc_law_line_bent.nd rfl (Or.inl rfl) (pe_ix (MB.ix_K (K := K) rfl) (pe_op (MB.op_addK (K := K) rfl) (pv 2) (pe_lst (pa_cons (pe_ix (MB.ix_K (K := K) rfl) (pv 3) (pv 5) (fun _ _ => rfl)) pa_nil))) (MB.pe_cl c_law_draw hr (by decide) (by rfl) passL (pa_cons (pv 0) (pa_cons (pe_op (MB.op_addK (K := K) rfl) (pe_callB (MB.call_lenK (K := K) rfl) (by rfl) T.n_len MB.bo_len (pa_cons (pv 2) pa_nil)) pe_int) pa_nil))) (fun _ _ => rfl)))
      (pss_cons (ps_set (i := 7) sc_law_line_bent.nd rfl (Or.inl rfl) (pe_callTy (MB.call_listK (K := K) rfl) (by rfl) T.n_list MB.bo_list (pa_cons (pv 3) pa_nil)))
      (pss_cons (ps_asg (pe_ix (MB.ix_K (K := K) rfl) (pv 3) (pv 5) (fun _ _ => rfl)) (pg_sub (pv 7) (pv 4) set_list))
      (pss_cons (ps_asg (pe_ix (MB.ix_K (K := K) rfl) (pv 3) (pv 4) (fun _ _ => rfl)) (pg_sub (pv 7) (pv 5) set_list))
      (pss_cons (ps_set (i := 8) sc_law_line_bent.nd rfl (Or.inl rfl) (pe_lst (pa_cons (pe_op (MB.op_addK (K := K) rfl) (pe_slice (MB.sl_K (K := K) rfl) (pv 3) po_none (po_some (pv 4))) (pe_slice (MB.sl_K (K := K) rfl) (pv 3) (po_some (pe_op (MB.op_addK (K := K) rfl) (pv 4) pe_int)) po_none)) (pa_cons (pe_op (MB.op_addK (K := K) rfl) (pe_slice (MB.sl_K (K := K) rfl) (pv 3) po_none (po_some (pe_op (MB.op_addK (K := K) rfl) (pv 4) pe_int))) (pe_slice (MB.sl_K (K := K) rfl) (pv 3) (po_some (pv 4)) po_none)) (pa_cons (pv 7) (pa_cons (pe_op (MB.op_addK (K := K) rfl) (pe_op (MB.op_addK (K := K) rfl) (pe_slice (MB.sl_K (K := K) rfl) (pv 3) po_none (po_some (pv 4))) (pe_lst (pa_cons (pv 6) pa_nil))) (pe_slice (MB.sl_K (K := K) rfl) (pv 3) (po_some (pv 4)) po_none)) pa_nil))))))
      (pss_one (ps_ret (MB.pe_joinK (K := K) rfl pe_str (pe_ix (MB.ix_K (K := K) rfl) (pv 8) (MB.pe_cl c_law_draw hr (by decide) (by rfl) passL (pa_cons (pv 0) (pa_cons pe_int pa_nil))) (fun _ _ => rfl))))))))))))), ?_⟩
    obtain ⟨tl, rfl⟩ : ∃ tl, t = SX.S tl := ⟨t.cps.toList, (SX.S_tl t).symm⟩
    rw [SX.S_len] at ht
    refine q_asgL (el_split (w := tl) (sep := [10]) (ev_var rfl) ev_c (by decide) (by decide) (by omega)) fun q H1 hq e1 h1 => ?_
    have hmu : mu (TL.spl [10] 0 [] tl) = tl.length + 1 := by rw [mu_spl, List.length_nil]; omega
    have hne := spl_ne [10] tl 0 []
    revert h1 hmu hne
    generalize TL.spl [10] 0 [] tl = W
    intro h1 hmu hne
    change H1 q = some (.lst (W.map tv')) at h1
    have hWl : (W.map tv').length = W.length := List.length_map _
    have hWm := mu_len W
    have hWp : 0 < W.length := List.length_pos_iff.mpr hne
    have hp1 := hp.ex e1
    refine q_drawX (m := (W.length : Int)) (ev_var rfl) (ev_is (ev_cb1 (ev_var rfl) (rc_lenL (sq_of h1))) (by rw [hWl])) (by omega) (by omega) hp1 (by omega) fun r H2 r0 r1 hp2 hb2 => ?_
    obtain ⟨i, rfl⟩ : ∃ i : Nat, r = (i : Int) := ⟨r.toNat, by omega⟩
    have hi : i < W.length := by omega
    have h2 := hb2 _ _ (hp1.ne h1) h1
    have hl2 := hb2 _ _ (hp1.ne (e1 _ _ hl0)) (e1 _ _ hl0)
    refine q_drawX (m := (W.length : Int)) (ev_var rfl) (ev_is (ev_cb1 (ev_var rfl) (rc_lenL (sq_of h2))) (by rw [hWl])) (by omega) (by omega) hp2 (by omega) fun r' H2' r0' r1' hp2' hb2' => ?_
    obtain ⟨j, rfl⟩ : ∃ i : Nat, r' = (i : Int) := ⟨r'.toNat, by omega⟩
    have hj : j < W.length := by omega
    have h2' := hb2' _ _ (hp2.ne h2) h2
    have hl2' := hb2' _ _ (hp2.ne hl2) hl2
    -- the new line
    have hatj : atI (W.map tv') (j : Int) = some (tv' W[j]) := MB.atI_nat (by rw [List.getElem?_map, List.getElem?_eq_getElem hj]; rfl)
    have hati : atI (W.map tv') (i : Int) = some (tv' W[i]) := MB.atI_nat (by rw [List.getElem?_map, List.getElem?_eq_getElem hi]; rfl)
    refine (el_cat (ep_val (ev_var rfl) hl2') (ep_new (el_lst (ea_cons (ev_op (ev_var rfl) (ev_var rfl) (rv_xL (sq_of h2') hatj)) ea_nil) (by show 1 ≤ 100000; decide))) (by rw [List.length_map]; show _ + 1 ≤ _; omega) : EvL _ _ H2' _) H2' (Ex.refl _) _ fun qn H3 _ e3 h3 => ?_
    have hp3 := hp2'.ex e3
    have hl0l : (ws0.map fun w => V.str (SX.S w)).length = ws0.length := List.length_map _
    refine ev_drawX (m := (ws0.length : Int) + 1) (ev_var rfl) (ev_op (ev_is (ev_cb1 (ev_var rfl) (rc_lenL (sq_of (e3 _ _ hl2')))) (by rw [hl0l])) ev_c rv_addI) (by omega) (by omega) hp3 (by omega) fun r2 H4 r20 r21 hp4 hb4 => ?_
    have hWj : W[j].length + 1 ≤ mu W := mu_mem (List.getElem_mem hj)
    have hWi : W[i].length + 1 ≤ mu W := mu_mem (List.getElem_mem hi)
    obtain ⟨x2, hx2, hat2⟩ := atI_in (l := (ws0.map fun w => V.str (SX.S w)) ++ [tv' W[j]]) (i := r2) (by omega) (by rw [List.length_append, hl0l]; exact r21)
    have hnw : ∃ nw : List Nat, x2 = tv' nw ∧ nw.length ≤ mu W + 20 := by
      rcases List.mem_append.mp hx2 with hx | hx
      · obtain ⟨u, hu, rfl⟩ := List.mem_map.mp hx
        exact ⟨u, rfl, by have := hw0 u hu; omega⟩
      · rw [List.mem_singleton] at hx
        exact ⟨_, hx, by omega⟩
    obtain ⟨nw, rfl, hnwl⟩ := hnw
    refine .inl ⟨qn, _, r2, _, rfl, rfl, sq_of (hb4 _ _ (hp3.ne h3) h3), hat2, ?_⟩
    have h4a := hb4 _ _ (hp3.ne (e3 _ _ h2')) (e3 _ _ h2')
    -- the turned lines
    refine ⟨_, rfl, q, _, rfl, .inl (sq_of h4a), fun tu htu => ?_⟩
    have e4b : Ex H4 (upd H4 tu (.lst (W.map tv'))) := Ex.new htu
    have htu1 : upd H4 tu (.lst (W.map tv')) tu = some (.lst (W.map tv')) := upd_same
    have hqtu : q ≠ tu := ne_of_none h4a htu
    have ix : ∀ m : Nat, m < W.length → ixN (W.map tv').length (m : Int) = some m := fun m hm => ixN_nat (by rw [hWl]; exact hm)
    refine ⟨_, rfl, _, rfl, .inl ⟨q, _, _, _, rfl, rfl, sq_of (e4b _ _ h4a), hatj, _, rfl, _, rfl, tu, _, _, i, rfl, rfl, htu1, ix i hi, ?_⟩⟩
    refine ⟨_, rfl, _, rfl, .inl ⟨q, _, _, _, rfl, rfl, sq_of (by rw [upd_ne hqtu]; exact e4b _ _ h4a), hati, _, rfl, _, rfl, tu, _, _, j, rfl, rfl, upd_same, (by rw [List.length_set]; exact ix j hj), ?_⟩⟩
    have e45 : Ex H4 (upd (upd (upd H4 tu (.lst (W.map tv'))) tu (.lst ((W.map tv').set i (tv' W[j])))) tu (.lst (((W.map tv').set i (tv' W[j])).set j (tv' W[i])))) := Ex.mut (Ex.mut (Ex.mut (Ex.refl _) htu) htu) htu
    have h5t : upd (upd (upd H4 tu (.lst (W.map tv'))) tu (.lst ((W.map tv').set i (tv' W[j])))) tu (.lst (((W.map tv').set i (tv' W[j])).set j (tv' W[i]))) tu = some (.lst (((W.set i W[j]).set j W[i]).map tv')) := by
      rw [upd_same, List.map_set, List.map_set]
    revert e45 h5t
    generalize upd (upd (upd H4 tu (.lst (W.map tv'))) tu (.lst ((W.map tv').set i (tv' W[j])))) tu (.lst (((W.map tv').set i (tv' W[j])).set j (tv' W[i]))) = H5
    intro e45 h5t
    have h5 := e45 _ _ h4a
    have hi1 : ((i : Int) + 1) = ((i + 1 : Nat) : Int) := by omega
    have ht1 : ∀ {σ : L2.St} {H' : Hp}, Ex H5 H' → σ[3]? = some (some (.ref q)) → σ[4]? = some (some (.int (i : Int))) → EvL (tSl (rSl K) (tVar 3) tNoPart (tPart (tVar 4))) σ H' ((W.take i).map tv') := fun e s3 s4 => el_is (els_sl (els_val (ev_var s3) (sq_of (e _ _ h5))) eo_none (eo_some (ev_var s4))) (cut_to _ _ _)
    have ht2 : ∀ {σ : L2.St} {H' : Hp}, Ex H5 H' → σ[3]? = some (some (.ref q)) → σ[4]? = some (some (.int (i : Int))) → EvL (tSl (rSl K) (tVar 3) tNoPart (tPart (tOp (rAddA K) (tVar 4) (tC (.int 1))))) σ H' ((W.take (i + 1)).map tv') := fun e s3 s4 => el_is (els_sl (els_val (ev_var s3) (sq_of (e _ _ h5))) eo_none (eo_some (ev_op (ev_var s4) ev_c rv_addI))) (by rw [hi1, cut_to])
    have ht3 : ∀ {σ : L2.St} {H' : Hp}, Ex H5 H' → σ[3]? = some (some (.ref q)) → σ[4]? = some (some (.int (i : Int))) → EvL (tSl (rSl K) (tVar 3) (tPart (tVar 4)) tNoPart) σ H' ((W.drop i).map tv') := fun e s3 s4 => el_is (els_sl (els_val (ev_var s3) (sq_of (e _ _ h5))) (eo_some (ev_var s4)) eo_none) (cut_from _ _ _)
    have ht4 : ∀ {σ : L2.St} {H' : Hp}, Ex H5 H' → σ[3]? = some (some (.ref q)) → σ[4]? = some (some (.int (i : Int))) → EvL (tSl (rSl K) (tVar 3) (tPart (tOp (rAddA K) (tVar 4) (tC (.int 1)))) tNoPart) σ H' ((W.drop (i + 1)).map tv') := fun e s3 s4 => el_is (els_sl (els_val (ev_var s3) (sq_of (e _ _ h5))) (eo_some (ev_op (ev_var s4) ev_c rv_addI)) eo_none) (by rw [hi1, cut_from])
    have lt : ∀ j, ((W.take j).map tv').length ≤ 3500000 := fun j => by rw [List.length_map, List.length_take]; omega
    have ld : ∀ j, ((W.drop j).map tv').length ≤ 3500000 := fun j => by rw [List.length_map, List.length_drop]; omega
    have l1 : ∀ u : V, ([u] : List V).length = 1 := fun _ => rfl
    refine (el_is (el_cat (ep_new (ht1 (Ex.refl _) rfl rfl)) (ep_new (ht4 (Ex.refl _) rfl rfl)) (by have := lt i; have := ld (i + 1); omega)) List.map_append.symm : EvL _ _ H5 _) H5 (Ex.refl _) _ fun a1 H6 _ e6 g1 => ?_
    refine (el_is (el_cat (ep_new (ht2 e6 rfl rfl)) (ep_new (ht3 e6 rfl rfl)) (by have := lt (i + 1); have := ld i; omega)) List.map_append.symm : EvL _ _ H6 _) H6 (Ex.refl _) _ fun a2 H7 _ e7 g2 => ?_
    have e57 := e6.trans e7
    refine ⟨_, rfl, ?_⟩
    refine (el_is (el_cat (ep_new (el_cat (ep_new (ht1 e57 rfl rfl)) (ep_new (el_lst (ea_cons (ev_var rfl) ea_nil) (by show 1 ≤ 100000; decide))) (by have := lt i; rw [l1]; omega))) (ep_new (ht3 e57 rfl rfl)) (by have := lt i; have := ld i; rw [List.length_append, l1]; omega)) (ys := (W.take i ++ [nw] ++ W.drop i).map tv') (by rw [List.map_append, List.map_append]; rfl) : EvL _ _ H7 _) H7 (Ex.refl _) _ fun a4 H8 _ e8 g4 => ?_
    refine ⟨by show 4 ≤ sizeLine; decide, fun qs hqs => ?_⟩
    have e58 := e57.trans e8
    have e89 : Ex H8 (upd H8 qs (.lst [.ref a1, .ref a2, .ref tu, .ref a4])) := Ex.new hqs
    have kq : upd H8 qs (.lst [.ref a1, .ref a2, .ref tu, .ref a4]) qs = some (.lst ([a1, a2, tu, a4].map V.ref)) := upd_same
    have e49 := (e45.trans e58).trans e89
    have hp10 := hp4.ex e49
    have m1 := mu_take_drop W i
    have m2 := mu_drop1 hi
    have m3 := mu_take1 hi
    have m5 : mu [nw] = nw.length + 1 := rfl
    have m6 := mu_set (W.set i W[j]) j W[i]
    have m7 := mu_set W i W[j]
    dsimp only [tRet]
    refine join_pickX (M := 3 * mu W + 21) (n := n + 4) (lc := lc) (as := [a1, a2, tu, a4]) (c := 10) rfl rfl kq rfl ?_ (by omega) (hp10.le (by omega)) (by omega) fun ws H11 hm11 hp11 hb11 => ?_
    · intro a ha
      simp only [List.mem_cons, List.not_mem_nil, or_false] at ha
      rcases ha with rfl | rfl | rfl | rfl
      · exact ⟨_, e89 _ _ (e8 _ _ (e7 _ _ g1)), by rw [mu_append]; omega⟩
      · exact ⟨_, e89 _ _ (e8 _ _ g2), by rw [mu_append]; omega⟩
      · exact ⟨_, e89 _ _ (e58 _ _ h5t), by omega⟩
      · exact ⟨_, e89 _ _ g4, by rw [mu_append, mu_append]; omega⟩
    · have hj := mu_join (c := 10) ws
      refine k _ H11 ?_ (hp11.le (by omega)) ((But.of e1).trans (hb2.trans (hb2'.trans ((But.of e3).trans (hb4.trans ((But.of e49).trans hb11))))))
      rw [SX.S_len, SX.S_len]
      show _ ≤ 8 * tl.length + 40
      omega
/-! ### _law_bent -/
theorem ok_law_bent {f : Addr} {fd : FuncData} (F : Fun K "_law_bent" "_law_bent" s_law_bent f fd) (T : T0 K mg aKn aWi aOw aLi aOn aOt) (c_law_draw : MB.Cl P w K mg base 1 "_law_draw" spDrawX) (c_law_sign_bent : MB.Cl P w K mg base 2 "_law_sign_bent" (spBentX 0 fB)) (c_law_word_bent : MB.Cl P w K mg base 2 "_law_word_bent" (spBentX 1 fB)) (c_law_line_bent : MB.Cl P w K mg base 2 "_law_line_bent" (spBentX 1 fB)) : FnOk P w K mg base CX0 3 f fd p_law_bent (spBentLX fB) := by
  refine F.ok sc_law_bent (fun vs H Q E h => ?_) (fun cdv A outer s H vs Q E hr h => ?_)
  · obtain ⟨p, lc, t, n, tt, rfl, _⟩ := h
    rfl
  · obtain ⟨p, lc, t, n, tt, rfl, hp, hn, ht, k⟩ := h
    have hu64 := hu64 hr
    refine ⟨_, (pss_cons (ps_set (i := 2) sc_law_bent.nd rfl (Or.inl rfl) (pe_lst (pa_cons pe_str (pa_cons pe_str (pa_cons pe_str (pa_cons pe_str (pa_cons pe_str (pa_cons pe_str (pa_cons pe_str (pa_cons pe_str (pa_cons pe_str (pa_cons pe_str (pa_cons pe_str (pa_cons pe_str (pa_cons pe_str (pa_cons pe_str pa_nil))))))))))))))))
      (pss_cons (ps_set (i := 3) sc_law_bent.nd rfl (Or.inl rfl) (pe_lst (pa_cons pe_str (pa_cons pe_str (pa_cons pe_str (pa_cons pe_str (pa_cons pe_str (pa_cons pe_str (pa_cons pe_str (pa_cons pe_str (pa_cons pe_str (pa_cons pe_str pa_nil))))))))))))
      (pss_cons (ps_set (i := 4) sc_law_bent.nd rfl (Or.inl rfl) (MB.pe_cl c_law_draw hr (by decide) (by rfl) passL (pa_cons (pv 0) (pa_cons pe_int pa_nil))))
      (pss_cons (ps_if (pt_cmpR (MB.op_eqK (K := K) rfl hu64) (pv 4) pe_int (nomark _)) (pss_one (ps_ret (MB.pe_cl c_law_sign_bent hr (by decide) (by rfl) passL (pa_cons (pv 0) (pa_cons (pv 1) pa_nil))))) pss_nil)
      (pss_cons (ps_if (pt_cmpR (MB.op_eqK (K := K) rfl hu64) (pv 4) pe_int (nomark _)) (pss_one (ps_ret (MB.pe_cl c_law_word_bent hr (by decide) (by rfl) passL (pa_cons (pv 0) (pa_cons (pv 1) (pa_cons (pv 2) pa_nil)))))) pss_nil)
      (pss_one (ps_ret (MB.pe_cl c_law_line_bent hr (by decide) (by rfl) passL (pa_cons (pv 0) (pa_cons (pv 1) (pa_cons (pv 3) pa_nil))))))))))), ?_⟩
    refine q_asgL (el_lst (ea_cons ev_c (ea_cons ev_c (ea_cons ev_c (ea_cons ev_c (ea_cons ev_c (ea_cons ev_c (ea_cons ev_c (ea_cons ev_c (ea_cons ev_c (ea_cons ev_c (ea_cons ev_c (ea_cons ev_c (ea_cons ev_c (ea_cons ev_c ea_nil)))))))))))))) (by show 14 ≤ 100000; decide)) fun l1 H1 hl1 e1 h1 => ?_
    refine q_asgL (el_lst (ea_cons ev_c (ea_cons ev_c (ea_cons ev_c (ea_cons ev_c (ea_cons ev_c (ea_cons ev_c (ea_cons ev_c (ea_cons ev_c (ea_cons ev_c (ea_cons ev_c ea_nil)))))))))) (by show 10 ≤ 100000; decide)) fun l2 H2 hl2 e2 h2 => ?_
    refine q_drawX (m := 3) (ev_var rfl) ev_c (by decide) (by decide) (hp.ex (e1.trans e2)) (by omega) fun r H3 r0 r1 hp3 hb3 => ?_
    have e12 := e1.trans e2
    have hl1 : H3 l1 = some (.lst (([Str.ofString "table", Str.ofString "end", Str.ofString "chain", Str.ofString "done", Str.ofString "entry", Str.ofString "text", Str.ofString "pieces", Str.ofString "0", Str.ofString "1", Str.ofString "00", Str.ofString "", Str.ofString "5", Str.ofString "70000", Str.ofString "a"].map fun z => z.cps.toList).map fun w => V.str (SX.S w))) := by
      have := hb3 _ _ ((hp.ex e12).ne (e2 _ _ h1)) (e2 _ _ h1)
      simp only [List.map_cons, List.map_nil, SX.S_tl]
      exact this
    have hl2 : H3 l2 = some (.lst (([Str.ofString "table", Str.ofString "end", Str.ofString "chain", Str.ofString "done", Str.ofString "entry 9 1 7", Str.ofString "chains 70", Str.ofString "pieces 8", Str.ofString "piece 1 2", Str.ofString "", Str.ofString "text 60000 a"].map fun z => z.cps.toList).map fun w => V.str (SX.S w))) := by
      have := hb3 _ _ ((hp.ex e12).ne h2) h2
      simp only [List.map_cons, List.map_nil, SX.S_tl]
      exact this
    have fin : ∀ (t' : Str) H', t'.length ≤ fB t.length → PenX H' p lc (n + 1 + 10) tt → But p H3 H' → Q (.str t') H' := fun t' H' a b c => k t' H' a (b.le (by omega)) ((But.of e12).trans (hb3.trans c))
    refine q_ifN (b := decide (r = 0)) (et_test (ev_op (ev_var rfl) ev_c rv_eqI)) (fun _ H4 e4 => ?_) fun _ H4 e4 => ?_
    · exact s_retC (ea_cons (ev_var rfl) (ea_cons (ev_var rfl) ea_nil)) fun H5 e5 => ⟨p, lc, t, n + 1, tt, [], rfl, rfl, hp3.ex (e4.trans e5), by omega, ht, by simp, fun t' H' a b c => fin t' H' a b ((But.of (e4.trans e5)).trans c)⟩
    refine q_ifN (b := decide (r = 1)) (et_test (ev_op (ev_var rfl) ev_c rv_eqI)) (fun _ H5 e5 => ?_) fun _ H5 e5 => ?_
    · refine s_retC (ea_cons (ev_var rfl) (ea_cons (ev_var rfl) (ea_cons (ev_var rfl) ea_nil))) fun H6 e6 => ⟨p, lc, t, n + 1, tt, [.ref l1], rfl, rfl, hp3.ex ((e4.trans e5).trans e6), by omega, ht, ?_, fun t' H' a b c => fin t' H' a b ((But.of ((e4.trans e5).trans e6)).trans c)⟩
      intro v hv
      rw [List.mem_singleton] at hv
      exact ⟨l1, _, hv, ((e4.trans e5).trans e6) _ _ hl1, by decide +kernel, by decide +kernel⟩
    · refine s_retC (ea_cons (ev_var rfl) (ea_cons (ev_var rfl) (ea_cons (ev_var rfl) ea_nil))) fun H6 e6 => ⟨p, lc, t, n + 1, tt, [.ref l2], rfl, rfl, hp3.ex ((e4.trans e5).trans e6), by omega, ht, ?_, fun t' H' a b c => fin t' H' a b ((But.of ((e4.trans e5).trans e6)).trans c)⟩
      intro v hv
      rw [List.mem_singleton] at hv
      exact ⟨l2, _, hv, ((e4.trans e5).trans e6) _ _ hl2, by decide +kernel, by decide +kernel⟩
end
end K82
set_option maxRecDepth 100000
set_option maxHeartbeats 1000000
namespace K82
open PySem PySem.Spec PyProof.Rows L2 Evl MB
section
variable {P : Program} {w : World} {K : PySem.W.Frag} {mg : Str → Option Value} {base : Heap} {aKn aWi aOw aLi aOn aOt : Addr}
/-! ### _law_number_by -/
def nbI (wd : List Nat) : Int := match numBy wd with
  | some n => (n : Int)
  | none => -1
def sp_nb : Sp := fun vs H Q _ => ∃ wd : List Nat, vs = [tv wd] ∧ wd.length ≤ 3500000 ∧ ∀ H', Ex H H' → Q (.int (nbI wd)) H'
theorem filt_empty {α β : Type} (b : α → Bool) (g : α → β) (l : List α) : (!((l.filter fun c => !b c).map g).isEmpty) = !l.all b := by
  congr 1
  induction l with
  | nil => rfl
  | cons x l ih =>
    rw [List.all_cons]
    cases hb : b x with
    | true =>
      rw [List.filter_cons_of_neg (by rw [hb]; decide), ih, Bool.true_and]
    | false =>
      rw [List.filter_cons_of_pos (by rw [hb]; rfl)]
      rfl
theorem el_notIn {σ : L2.St} {H : Hp} {j : Nat} {vs : List Nat} {wd sg : List Nat} {t1 t2 : TE} {b : Nat → Bool} (h : Ev t1 σ H (tv wd)) (hz : wd.length ≤ 3700000) (hw : ∀ x, wipe ((wipe σ vs).set j (some x)) vs = wipe σ vs) (hj : ∀ x, ((wipe σ vs).set j (some x))[j]? = some (some x))
    (h2 : ∀ x, Ev t2 ((wipe σ vs).set j (some x)) H (tv sg)) (hb : ∀ c, decide (c ∈ sg) = b c) : EvL (tLc (iStr t1) (gName j) (tTest (tOp (rNotInA K) (tVar j) t2)) (tVar j) vs) σ H ((wd.filter fun c => !b c).map fun c => tv [c]) :=
  el_lcS (w := wd) (fun c => !b c) (fun c => tv [c]) h hz hw (fun c hc => et_test (ev_op (ev_var (hj _)) (h2 _) fun H3 _ Q q => .inl ⟨c, _, rfl, rfl, by
    have e : decide (c ∈ (SX.S sg).cps.toList) = b c := hb c
    rw [e]
    exact q H3 (Ex.refl H3)⟩)) fun c hc _ => ev_var (hj _)
theorem ok_law_number_by {f : Addr} {fd : FuncData} (F : Fun K "_law_number_by" "_law_number_by" s_law_number_by f fd) (T : T0 K mg aKn aWi aOw aLi aOn aOt) : FnOk P w K mg base CX0 1 f fd p_law_number_by sp_nb := by
  refine F.ok sc_law_number_by (fun vs H Q E h => ?_) (fun cdv A outer s H vs Q E hr h => ?_)
  · obtain ⟨wd, rfl, _⟩ := h
    rfl
  · obtain ⟨wd, rfl, hl, k⟩ := h
    have hu64 := hu64 hr
    refine ⟨_, (pss_cons (ps_if (PW.pt (pw_or (pt_not (pt_chain op_le op_le pe_int (pe_callB (MB.call_lenK (K := K) rfl) (by rfl) T.n_len MB.bo_len (pa_cons (pv 0) pa_nil)) pe_int)) (pw_or1 (pt_cmpR (MB.op_neNil (K := K) rfl (Nat.lt_of_le_of_lt (Nat.le_add_right _ 64) hu64)) (pe_lc (own := [("_law_sign", 1)]) (by rfl) sc_law_number_by.nd (pi_str (pv 0)) (blkOk_by (own := [("_law_sign", 1)]) (N := n_law_number_by) (sc := defScope s_law_number_by) (by decide +kernel)) (fun _ _ _ _ _ => (pg_name (i := 1) sc_law_number_by.nd rfl (.inl rfl))) (fun _ _ _ _ _ => (pts_one (pt_cmpR (MB.op_niK (K := K) rfl) (pv 1) pe_str rfl))) (fun _ _ _ _ _ => (pv 1))) (pe_lst pa_nil) (nomark _))))) (pss_one (ps_ret (pe_un un_neg pe_int))) pss_nil)
      (pss_cons (ps_if (PW.pt (pw_and (pt_cmpR (MB.op_eqK (K := K) rfl hu64) (pe_ix (MB.ix_K (K := K) rfl) (pv 0) pe_int (fun _ _ => rfl)) pe_str (nomark _)) (pw_and1 (pt_cmpR op_gt (pe_callB (MB.call_lenK (K := K) rfl) (by rfl) T.n_len MB.bo_len (pa_cons (pv 0) pa_nil)) pe_int (nomark _))))) (pss_one (ps_ret (pe_un un_neg pe_int))) pss_nil)
      (pss_one (ps_ret (pe_callTy MB.call_intA (by rfl) T.n_int MB.bo_int (pa_cons (pv 0) pa_nil)))))), ?_⟩
    refine q_ifN (b := !(decide (1 ≤ wd.length) && decide (wd.length ≤ 10)) || !(wd.all fig)) (et_or (et_not (et_test (ev_chain (a := decide (1 ≤ wd.length)) (b := decide (wd.length ≤ 10)) ev_c (ev_cb1 (ev_var rfl) (rc_lenS (by omega))) ev_c ?_ fun _ => ?_))) fun _ => et_test (ev_is (ev_neNil (el_notIn (b := fig) (ev_var rfl) (by omega) (fun _ => by rfl) (fun _ => rfl) (fun _ => ev_is ev_c (congrArg V.str figs_S)) fig_in) (el_lst ea_nil (by decide))) (congrArg V.bl (filt_empty fig _ wd)))) (fun hb H1 e1 => ?_) fun hb H1 e1 => ?_
    · have e : decide (1 ≤ wd.length) = decide ((1 : Int) ≤ (wd.length : Int)) := decide_eq_decide.mpr (by omega)
      rw [e]
      exact rv_I0
    · have e : decide (wd.length ≤ 10) = decide ((wd.length : Int) ≤ (10 : Int)) := decide_eq_decide.mpr (by omega)
      rw [e]
      exact rv_I0
    · have hn : nbI wd = -1 := by
        unfold nbI numBy numOk
        rw [if_neg fun z => ?_]
        rw [Bool.and_eq_true, Bool.and_eq_true] at z
        rw [z.1.1, z.1.2] at hb
        cases hb
      rw [hn] at k
      exact s_ret (ev_un ev_c ru_neg) fun H2 e2 => k H2 (e1.trans e2)
    · rw [Bool.or_eq_false_iff, Bool.not_eq_false', Bool.not_eq_false'] at hb
      have h1 : 1 ≤ wd.length := of_decide_eq_true (Bool.and_eq_true _ _ ▸ hb.1).1
      have h2 : wd.length ≤ 10 := of_decide_eq_true (Bool.and_eq_true _ _ ▸ hb.1).2
      obtain ⟨c, r, rfl⟩ : ∃ c r, wd = c :: r := by
        cases wd with
        | nil => exact absurd h1 (by decide)
        | cons c r => exact ⟨c, r, rfl⟩
      refine q_ifN (b := decide (c = 48) && decide (1 < (c :: r).length)) (et_and (et_B (ev_is (ev_op (ev_op (ev_var rfl) ev_c (rv_xS (w := c :: r) (i := 0) (c := c) (by omega) (MB.atI_nat (i := 0) rfl))) (ev_is ev_c (congrArg V.str (of_S "0"))) rv_eqC) (congrArg V.bl (decide_eq_decide.mpr (by show [c] = [48] ↔ _; simp))))) fun _ => et_B (ev_is (ev_op (ev_cb1 (ev_var rfl) (rc_lenS (by omega))) ev_c rv_I0) (congrArg V.bl (decide_eq_decide.mpr (by omega))))) (fun hb2 H2 e2 => ?_) fun hb2 H2 e2 => ?_
      · have hn : nbI (c :: r) = -1 := by
          unfold nbI numBy numOk
          rw [if_neg fun z => ?_]
          rw [Bool.and_eq_true, Bool.not_eq_true', Bool.and_eq_false_iff] at z
          rw [Bool.and_eq_true] at hb2
          have hc := of_decide_eq_true hb2.1
          have hl2 := of_decide_eq_true hb2.2
          subst hc
          rcases z.2 with z | z
          · exact of_decide_eq_false z rfl
          · rw [Bool.not_eq_false', decide_eq_true_eq] at z
            rw [z] at hl2
            exact absurd hl2 (by decide)
        rw [hn] at k
        exact s_ret (ev_un ev_c ru_neg) fun H3 e3 => k H3 ((e1.trans e2).trans e3)
      · have hn : nbI (c :: r) = (NumText.digitsVal (c :: r) : Nat) := by
          unfold nbI numBy numOk
          rw [if_pos]
          rw [hb.1, hb.2, Bool.true_and, Bool.true_and, Bool.not_eq_true', Bool.and_eq_false_iff]
          rw [Bool.and_eq_false_iff] at hb2
          rcases hb2 with z | z
          · left
            have := of_decide_eq_false z
            exact decide_eq_false fun z => this (by simpa using z)
          · have hz := of_decide_eq_false z
            cases r with
            | nil =>
              by_cases hc : c = 48
              · right
                subst hc
                rfl
              · left
                exact decide_eq_false fun z => hc (by simpa using z)
            | cons a b => exact absurd (by rw [List.length_cons, List.length_cons]; omega) hz
        rw [hn] at k
        refine s_ret (ev_cb1 (ev_var rfl) fun H3 e3 Q q => .inr ⟨_, _, rfl, SX.int_S (a := c :: r) hb.2 (List.cons_ne_nil _ _) (by omega), by rw [SX.S_len]; omega, q H3 (Ex.refl _)⟩) fun H3 e3 => k H3 ((e1.trans e2).trans e3)
/-! ### lists of numbers -/
theorem nb_any : ∀ ws : Ls, (ws.map nbI).any (fun x => decide (x < 0)) = (numsBy ws).isNone
  | [] => rfl
  | x :: ws => by
    rw [List.map_cons, List.any_cons, nb_any ws, numsBy]
    unfold nbI
    cases numBy x with
    | none => rfl
    | some n =>
      have : decide ((n : Int) < 0) = false := decide_eq_false (by omega)
      dsimp only
      rw [this]
      cases numsBy ws with
      | none => rfl
      | some ns => rfl
theorem nb_all : ∀ ws : Ls, (ws.map nbI).all (fun x => decide (0 ≤ x)) = (numsBy ws).isSome
  | [] => rfl
  | x :: ws => by
    rw [List.map_cons, List.all_cons, nb_all ws, numsBy]
    unfold nbI
    cases numBy x with
    | none => rfl
    | some n =>
      have : decide (0 ≤ (n : Int)) = true := decide_eq_true (by omega)
      dsimp only
      rw [this]
      cases numsBy ws with
      | none => rfl
      | some ns => rfl
theorem nb_map : ∀ {ws : Ls} {ns : List Nat}, numsBy ws = some ns → ws.map nbI = ns.map fun (n : Nat) => (n : Int)
  | [], _, h => by cases h; rfl
  | x :: ws, ns, h => by
    rw [numsBy] at h
    cases h1 : numBy x with
    | none => rw [h1] at h; cases h
    | some n =>
      cases h2 : numsBy ws with
      | none => rw [h1, h2] at h; cases h
      | some ms =>
        rw [h1, h2] at h
        cases h
        rw [List.map_cons, nb_map h2]
        unfold nbI
        rw [h1]
        rfl
theorem all_lt (ns : List Nat) (b : Nat) (hb : 0 < b) : (([0] : List Int) ++ ns.map fun (n : Nat) => (n : Int)).all (fun x => decide (x < (b : Int))) = ns.all fun n => decide (n < b) := by
  rw [List.all_append, List.all_map]
  have h1 : ([0] : List Int).all (fun x => decide (x < (b : Int))) = true := by
    rw [List.all_cons, List.all_nil, Bool.and_true]
    exact decide_eq_true (by omega)
  rw [h1, Bool.true_and]
  congr 1
  funext n
  exact decide_eq_decide.mpr (by simp)
theorem el_nbs {σ : L2.St} {H : Hp} {E : XK} {tl : TE} {j : Nat} {vs : List Nat} {ws : Ls} (h : EvLs K tl σ H (ws.map tv)) (hz : ws.length ≤ 3500001) (hl : ∀ x ∈ ws, x.length ≤ 3500000) (hw : ∀ x, wipe ((wipe σ vs).set j (some x)) vs = wipe σ vs) (hj : ∀ x, ((wipe σ vs).set j (some x))[j]? = some (some x)) :
    EvL (tLc (iList K tl) (gName j) tYes (tCall sp_nb [] E (tCons (tVar j) tNil)) vs) σ H ((ws.map nbI).map V.int) := by
  rw [List.map_map]
  exact el_all (el_lcLs (ds := ws) tv (fun _ => true) (fun x => .int (nbI x)) h (by omega) hw (fun _ _ => ety) fun x hm _ => ev_call (ea_cons (ev_var (hj _)) ea_nil) fun H1 e Q q E => ⟨x, rfl, hl x hm, q⟩)
/-! ### _law_piece_stands -/
def sp_pstands (K : PySem.W.Frag) : Sp := fun vs H Q _ => ∃ (l : Addr) (wd : List Nat) (ws : Ls), vs = [.ref l] ∧ SqL K H l ((wd :: ws).map tv) ∧ ws.length ≤ 3500000 ∧ (∀ x ∈ wd :: ws, x.length ≤ 3500000) ∧ ∀ H', Ex H H' → Q (.bl (decide (wd = co "piece") && (pieceBy ws).isSome)) H'
theorem piece_b {ws : Ls} : (decide (ws.length < 301) && ((numsBy ws).isSome && ((numsBy ws).getD []).all fun n => decide (n < 256))) = (pieceBy ws).isSome := by
  unfold pieceBy
  cases h : numsBy ws with
  | none => simp
  | some p =>
    have hl : ws.length = p.length := by
      have := congrArg List.length (nb_map h)
      rw [List.length_map, List.length_map] at this
      exact this
    dsimp only
    rw [hl]
    unfold pieceB
    have e : decide (p.length < 301) = decide (p.length ≤ 300) := decide_eq_decide.mpr (by omega)
    rw [e]
    show (decide (p.length ≤ 300) && (true && (p.all fun n => decide (n < 256)))) = _
    rw [Bool.true_and]
    cases hb : decide (p.length ≤ 300) && p.all fun n => decide (n < 256) with
    | true => rw [if_pos rfl]; rfl
    | false => rw [if_neg (by decide)]; rfl
theorem ok_law_piece_stands {f : Addr} {fd : FuncData} (F : Fun K "_law_piece_stands" "_law_piece_stands" s_law_piece_stands f fd) (T : T0 K mg aKn aWi aOw aLi aOn aOt) (c_law_number_by : MB.Cl P w K mg base 1 "_law_number_by" sp_nb) : FnOk P w K mg base CX0 2 f fd p_law_piece_stands (sp_pstands K) := by
  refine F.ok sc_law_piece_stands (fun vs H Q E h => ?_) (fun cdv A outer s H vs Q E hr h => ?_)
  · obtain ⟨l, wd, ws, rfl, _⟩ := h
    rfl
  · obtain ⟨l, wd, ws, rfl, hs, hz, hl, k⟩ := h
    have hu64 := hu64 hr
    refine ⟨_, (pss_cons (ps_setLc (i := 1) (own := [("_law_word", 2)]) (by rfl) sc_law_piece_stands.nd rfl rfl (sw_true rfl rfl rfl (by decide +kernel)) (MB.pi_listK (K := K) rfl (pe_slice (MB.sl_K (K := K) rfl) (pv 0) (po_some pe_int) po_none)) (blkOk_by (own := [("_law_word", 2)]) (N := n_law_piece_stands) (sc := defScope s_law_piece_stands) (by decide +kernel)) (fun _ _ _ _ _ => (pg_name (i := 2) sc_law_piece_stands.nd rfl (.inl rfl))) (fun _ _ _ _ _ => pts_nil) (fun _ _ _ _ _ => (MB.pe_cl c_law_number_by hr (by decide) (by rfl) passL (pa_cons (pv 2) pa_nil))))
      (pss_one (ps_ret (pe_and (pe_cmpR (MB.op_eqK (K := K) rfl hu64) (pe_ix (MB.ix_K (K := K) rfl) (pv 0) pe_int (fun _ _ => rfl)) pe_str (nomark _)) (pe_and (pe_cmpR op_lt (pe_callB (MB.call_lenK (K := K) rfl) (by rfl) T.n_len MB.bo_len (pa_cons (pv 1) pa_nil)) pe_int (nomark _)) (pe_and (pe_cmpR op_ge (pe_callB (MB.cr_minQ (K := K) rfl rfl) (by rfl) T.n_min MB.bo_min (pa_cons (pe_op (MB.op_addK (K := K) rfl) (pe_lst (pa_cons pe_int pa_nil)) (pv 1)) pa_nil)) pe_int (nomark _)) (pe_one (pe_cmpR op_lt (pe_callB (MB.cr_maxQ (K := K) rfl rfl) (by rfl) T.n_max MB.bo_max (pa_cons (pe_op (MB.op_addK (K := K) rfl) (pe_lst (pa_cons pe_int pa_nil)) (pv 1)) pa_nil)) pe_int (nomark _))))))))), ?_⟩
    refine q_asgL (el_nbs (ws := ws) (els_new (el_is (els_sl (els_val (ev_var rfl) hs) (eo_some ev_c) eo_none) (MB.cut_from (f := tv) (wd :: ws) 1))) (by omega) (fun x hx => hl x (List.mem_cons_of_mem _ hx)) (fun _ => by rfl) (fun _ => rfl)) fun q H1 hq e1 h1 => ?_
    have h1s : SqL K H1 q ((ws.map nbI).map V.int) := sq_of h1
    have hlen : (((ws.map nbI).map V.int).length : Int) = (ws.length : Int) := by rw [List.length_map, List.length_map]
    have hcat : ∀ {σ : L2.St}, σ[1]? = some (some (.ref q)) → EvLs K (tOp (rAddA K) (tLst (tCons (tC (.int 0)) tNil)) (tVar 1)) σ H1 ((([0] : List Int) ++ ws.map nbI).map V.int) := fun h => els_new (el_is (el_cat (ep_new (el_lst (ea_cons ev_c ea_nil) (by show 1 ≤ 100000; decide))) (ep_val (ev_var h) h1) (by rw [List.length_singleton, List.length_map, List.length_map]; omega)) (by rw [List.map_append]; rfl))
    have hpos : 0 < (([0] : List Int) ++ ws.map nbI).length := by rw [List.length_append, List.length_singleton]; omega
    have hs1 := ex_l e1 hs
    refine s_ret (ev_is (ev_andV (a := decide (wd = co "piece")) (b := (pieceBy ws).isSome) (ev_op (ev_op (ev_var rfl) ev_c (rv_xL (v := tv wd) hs1 (MB.atI_nat (i := 0) rfl))) (ev_is ev_c (congrArg V.str (of_S "piece"))) rv_eqC) fun _ => ev_is (ev_andV (a := decide (ws.length < 301)) (ev_is (ev_op (ev_is (ev_cb1 (ev_var rfl) (rc_lenL h1s)) (congrArg V.int hlen)) ev_c rv_I0) (congrArg V.bl (decide_eq_decide.mpr (by omega)))) fun _ => ev_andV (a := (numsBy ws).isSome) (ev_is (ev_minGe (hcat rfl) hpos ev_c) (congrArg V.bl (by
      rw [List.all_append, nb_all]
      rfl))) fun hsome => ev_is (ev_maxLt (hcat rfl) hpos ev_c) (w := .bl (((numsBy ws).getD []).all fun n => decide (n < 256))) (congrArg V.bl (by
      obtain ⟨ns, hns⟩ := Option.isSome_iff_exists.mp hsome
      rw [hns, nb_map hns]
      exact all_lt ns 256 (by decide)))) (congrArg V.bl piece_b)) rfl) fun H2 e2 => k H2 (e1.trans e2)
end
end K82
set_option maxRecDepth 100000
set_option maxHeartbeats 1000000
namespace K82
open PySem PySem.Spec PyProof.Rows L2 Evl MB
section
variable {P : Program} {w : World} {K : PySem.W.Frag} {mg : Str → Option Value} {base : Heap} {aKn aWi aOw aLi aOn aOt : Addr}
/-! ### _law_plain_stands -/
def sp_plstands (K : PySem.W.Frag) : Sp := fun vs H Q _ => ∃ (l : Addr) (ws : Ls) (y : V) (kn : List Nat), vs = [.ref l, y] ∧ SqL K H l (ws.map tv) ∧ KnAt K H y kn ∧ ws.length ≤ 3500000 ∧ (∀ x ∈ ws, x.length ≤ 3500000) ∧ ∀ H', Ex H H' → Q (.bl (plainIn kn true ws).isSome) H'
theorem plain_none {kn : List Nat} {raw : Bool} {ws : Ls} (h : numsBy ws = none ∨ numsBy ws = some []) : (plainIn kn raw ws).isSome = false := by
  unfold plainIn
  rcases h with h | h <;> rw [h] <;> rfl
theorem plain_some {kn : List Nat} {raw : Bool} {ws : Ls} {k : Nat} {ns : List Nat} (h : numsBy ws = some (k :: ns)) : (plainIn kn raw ws).isSome = (plainK kn raw k && worthsB kn k ns) := by
  unfold plainIn
  rw [h]
  dsimp only
  cases hb : plainK kn raw k && worthsB kn k ns with
  | true => rw [if_pos rfl]; rfl
  | false => rw [if_neg (by decide)]; rfl
theorem lim_ge (k : Nat) : 256 ≤ lim k := by
  unfold lim
  repeat' split
  all_goals decide
theorem ok_law_plain_stands {f : Addr} {fd : FuncData} (F : Fun K "_law_plain_stands" "_law_plain_stands" s_law_plain_stands f fd) (T : T0 K mg aKn aWi aOw aLi aOn aOt) (c_law_number_by : MB.Cl P w K mg base 1 "_law_number_by" sp_nb) : FnOk P w K mg base CX0 2 f fd p_law_plain_stands (sp_plstands K) := by
  refine F.ok sc_law_plain_stands (fun vs H Q E h => ?_) (fun cdv A outer s H vs Q E hr h => ?_)
  · obtain ⟨l, ws, y, kn, rfl, _⟩ := h
    rfl
  · obtain ⟨l, ws, y, kn, rfl, hs, hy, hz, hl, k⟩ := h
    have hu64 := hu64 hr
    refine ⟨_, (pss_cons (ps_setLc (i := 2) (own := [("_law_word", 3)]) (by rfl) sc_law_plain_stands.nd rfl rfl (sw_true rfl rfl rfl (by decide +kernel)) (MB.pi_listK (K := K) rfl (pv 0)) (blkOk_by (own := [("_law_word", 3)]) (N := n_law_plain_stands) (sc := defScope s_law_plain_stands) (by decide +kernel)) (fun _ _ _ _ _ => (pg_name (i := 3) sc_law_plain_stands.nd rfl (.inl rfl))) (fun _ _ _ _ _ => pts_nil) (fun _ _ _ _ _ => (MB.pe_cl c_law_number_by hr (by decide) (by rfl) passL (pa_cons (pv 3) pa_nil))))
      (pss_cons (ps_if (PW.pt (pw_or (pt_cmpR (MB.op_eqNil (K := K) rfl (Nat.lt_of_le_of_lt (Nat.le_add_right _ 64) hu64)) (pv 2) (pe_lst pa_nil) (nomark _)) (pw_or (pt_cmpR op_lt (pe_callB (MB.cr_minQ (K := K) rfl rfl) (by rfl) T.n_min MB.bo_min (pa_cons (pv 2) pa_nil)) pe_int (nomark _)) (pw_or1 (pt_cmpR op_gt (pe_ix (MB.ix_K (K := K) rfl) (pv 2) pe_int (fun _ _ => rfl)) pe_int (nomark _)))))) (pss_one (ps_ret pe_bl)) pss_nil)
      (pss_cons (ps_set (i := 4) sc_law_plain_stands.nd rfl (Or.inl rfl) (pe_ix (MB.ix_K (K := K) rfl) (pv 2) pe_int (fun _ _ => rfl)))
      (pss_cons (ps_if (pt_cmpR (MB.op_inK (K := K) rfl) (pv 4) (pv 1) rfl) (pss_one (ps_ret (pe_and (pe_cmpR op_lt (pv 4) pe_int (nomark _)) (pe_and (pe_cmpR op_lt (pe_callB (MB.call_lenK (K := K) rfl) (by rfl) T.n_len MB.bo_len (pa_cons (pv 2) pa_nil)) pe_int (nomark _)) (pe_one (pe_cmpR op_lt (pe_callB (MB.cr_maxQ (K := K) rfl rfl) (by rfl) T.n_max MB.bo_max (pa_cons (pe_op (MB.op_addK (K := K) rfl) (pe_lst (pa_cons pe_int pa_nil)) (pe_slice (MB.sl_K (K := K) rfl) (pv 2) (po_some pe_int) po_none)) pa_nil)) (pe_ix (MB.ix_K (K := K) rfl) (pe_lst (pa_cons pe_int (pa_cons pe_int (pa_cons (pe_op op_pow pe_int pe_int) pa_nil)))) (pe_op op_sub (pe_callB (call_min2 rfl) (by rfl) T.n_min MB.bo_min (pa_cons (pv 4) (pa_cons pe_int pa_nil))) pe_int) (fun _ _ => rfl)) (nomark _))))))) pss_nil)
      (pss_cons (ps_set (i := 5) sc_law_plain_stands.nd rfl (Or.inl rfl) (pe_ix (MB.ix_K (K := K) rfl) (pe_lst (pa_cons pe_int (pa_cons pe_int (pa_cons pe_int pa_nil)))) (pe_op op_mod (pv 4) pe_int) (fun _ _ => rfl)))
      (pss_cons (ps_if (pt_cmpR (MB.op_inK (K := K) rfl) (pv 4) (pe_tup (pa_cons pe_int (pa_cons pe_int (pa_cons pe_int (pa_cons pe_int (pa_cons pe_int (pa_cons pe_int pa_nil))))))) rfl) (pss_one (ps_set (i := 5) sc_law_plain_stands.nd rfl (Or.inl rfl) (pe_ix (MB.ix_K (K := K) rfl) (pe_lst (pa_cons pe_int (pa_cons pe_int (pa_cons pe_int (pa_cons pe_int (pa_cons pe_int (pa_cons pe_int pa_nil))))))) (pe_op op_sub (pv 4) pe_int) (fun _ _ => rfl)))) pss_nil)
      (pss_one (ps_ret (pe_and (pe_cmpR (MB.op_eqK (K := K) rfl hu64) (pe_op op_mod (pe_op op_sub (pe_callB (MB.call_lenK (K := K) rfl) (by rfl) T.n_len MB.bo_len (pa_cons (pv 2) pa_nil)) pe_int) (pv 5)) pe_int (nomark _)) (pe_and (pe_cmpR op_le (pe_op op_sub (pe_callB (MB.call_lenK (K := K) rfl) (by rfl) T.n_len MB.bo_len (pa_cons (pv 2) pa_nil)) pe_int) (pe_op (MB.op_mulK (K := K) rfl) pe_int (pv 5)) (nomark _)) (pe_one (pe_cmpR op_lt (pe_callB (MB.cr_maxQ (K := K) rfl rfl) (by rfl) T.n_max MB.bo_max (pa_cons (pe_op (MB.op_addK (K := K) rfl) (pe_lst (pa_cons pe_int pa_nil)) (pe_slice (MB.sl_K (K := K) rfl) (pv 2) (po_some pe_int) po_none)) pa_nil)) pe_int (nomark _))))))))))))), ?_⟩
    refine q_asgL (el_nbs (ws := ws) (els_val (ev_var rfl) hs) (by omega) hl (fun _ => by rfl) (fun _ => rfl)) fun q H1 hq e1 h1 => ?_
    have hy1 := hy.ex e1
    have hE1 : ∀ {σ : L2.St} {H2 : Hp}, Ex H1 H2 → σ[2]? = some (some (.ref q)) → Ev (tOp (rEqNil K) (tVar 2) (tLst tNil)) σ H2 (.bl ws.isEmpty) := fun e h => ev_is (ev_eqNilL (els_val (ev_var h) (sq_of (e _ _ h1))) (el_lst ea_nil (by show 0 ≤ 100000; decide))) (by cases ws <;> rfl)
    cases hn : numsBy ws with
    | none =>
      have hne : ws ≠ [] := fun z => by rw [z] at hn; cases hn
      have hpos : 0 < (ws.map nbI).length := by rw [List.length_map]; exact List.length_pos_iff.mpr hne
      rw [plain_none (.inl hn)] at k
      refine q_ifN (b := true) (et_is (et_or (a := ws.isEmpty) (b := true) (et_test (hE1 (Ex.refl _) rfl)) fun _ => et_is (et_or (a := true) (b := false) (et_test (ev_is (ev_minLt (els_val (ev_var rfl) (sq_of h1)) hpos ev_c) (congrArg V.bl (by rw [nb_any, hn]; rfl)))) fun z => by cases z) rfl) (Bool.or_true _)) (fun _ H2 e2 => s_ret ev_c fun H3 e3 => k H3 ((e1.trans e2).trans e3)) fun z => by cases z
    | some q0 =>
      cases q0 with
      | nil =>
        have hws : ws = [] := by
          have := congrArg List.length (nb_map hn)
          rw [List.length_map] at this
          exact List.length_eq_zero_iff.mp this
        rw [plain_none (.inr hn)] at k
        refine q_ifN (b := true) (et_is (et_or (a := true) (b := false) (et_test (ev_is (hE1 (Ex.refl _) rfl) (by rw [hws]; rfl))) fun z => by cases z) rfl) (fun _ H2 e2 => s_ret ev_c fun H3 e3 => k H3 ((e1.trans e2).trans e3)) fun z => by cases z
      | cons kd ns =>
        have hmap := nb_map hn
        have hlen : ws.length = ns.length + 1 := by
          have := congrArg List.length hmap
          rw [List.length_map, List.length_map] at this
          exact this
        have hwe : ws.isEmpty = false := by
          cases ws with
          | nil => cases hlen
          | cons _ _ => rfl
        have hpos : 0 < (ws.map nbI).length := by rw [List.length_map]; omega
        have h1s : H1 q = some (.lst ((kd :: ns).map iv)) := by
          rw [h1, hmap, List.map_map]
          rfl
        rw [plain_some hn] at k
        have hix : ∀ {H2 : Hp} {σ : L2.St}, Ex H1 H2 → σ[2]? = some (some (.ref q)) → Ev (tOp (rIx K) (tVar 2) (tC (.int 0))) σ H2 (iv kd) := fun e h => ev_op (ev_var h) ev_c (rv_xL (v := iv kd) (sq_of (e _ _ h1s)) (MB.atI_nat (i := 0) rfl))
        refine q_ifN (b := decide (65535 < kd)) (et_is (et_or (a := false) (b := decide (65535 < kd)) (et_test (ev_is (hE1 (Ex.refl _) rfl) (congrArg V.bl hwe))) fun _ => et_is (et_or (a := false) (b := decide (65535 < kd)) (et_test (ev_is (ev_minLt (els_val (ev_var rfl) (sq_of h1)) hpos ev_c) (congrArg V.bl (by rw [nb_any, hn]; rfl)))) fun _ => et_test (ev_is (ev_op (hix (Ex.refl _) rfl) ev_c rv_I0) (congrArg V.bl (decide_eq_decide.mpr (by omega))))) (Bool.false_or _)) (Bool.false_or _)) (fun hb H2 e2 => ?_) fun hb H2 e2 => ?_
        · have hk : ¬ kd ≤ 65535 := by
            have := of_decide_eq_true hb
            omega
          have : (plainK kn true kd && worthsB kn kd ns) = false := by
            unfold plainK
            rw [decide_eq_false hk]
            rfl
          rw [this] at k
          exact s_ret ev_c fun H3 e3 => k H3 ((e1.trans e2).trans e3)
        · have hk : kd ≤ 65535 := by
            have := of_decide_eq_false hb
            omega
          refine q_asg (hix e2 rfl) fun H3 e3 => ?_
          have e23 := e2.trans e3
          have hy3 := hy1.ex e23
          have h3 := e23 _ _ h1s
          have hcat : ∀ {σ : L2.St} {H4 : Hp}, Ex H3 H4 → σ[2]? = some (some (.ref q)) → EvLs K (tOp (rAddA K) (tLst (tCons (tC (.int 0)) tNil)) (tSl (rSl K) (tVar 2) (tPart (tC (.int 1))) tNoPart)) σ H4 ((([0] : List Int) ++ ns.map fun (n : Nat) => (n : Int)).map V.int) := fun e h => els_new (el_is (el_cat (ep_new (el_lst (ea_cons ev_c ea_nil) (by show 1 ≤ 100000; decide))) (ep_new (el_is (els_sl (els_val (ev_var h) (sq_of (e _ _ h3))) (eo_some ev_c) eo_none) (MB.cut_from (f := iv) (kd :: ns) 1))) (by rw [List.length_singleton, List.length_map, List.drop_one]; show 1 + ns.length ≤ _; omega)) (by rw [List.map_append, List.map_map]; rfl))
          have hcp : 0 < (([0] : List Int) ++ ns.map fun (n : Nat) => (n : Int)).length := by rw [List.length_append, List.length_singleton]; omega
          have hln : ∀ {σ : L2.St} {H4 : Hp}, Ex H3 H4 → σ[2]? = some (some (.ref q)) → Ev (tCB (rLenA K) (tCons (tVar 2) tNil)) σ H4 (.int ((ns.length + 1 : Nat) : Int)) := fun e h => ev_is (ev_cb1 (ev_var h) (rc_lenL (sq_of (e _ _ h3)))) (congrArg V.int (by rw [List.length_map, List.length_cons]))
          refine q_ifN (b := decide (kd ∈ kn)) (et_test (ev_op (ev_var rfl) (ev_var rfl) (rv_inY hy3))) (fun hb2 H4 e4 => ?_) fun hb2 H4 e4 => ?_
          · have hkn := of_decide_eq_true hb2
            have hKn : Kn kn := by
              obtain ⟨_, _, _, h⟩ := hy
              exact h
            have hk1 := (hKn.six kd hkn).1
            have hres : (plainK kn true kd && worthsB kn kd ns) = (decide (kd < 4) && (decide (ns.length ≤ 300) && ns.all fun n => decide (n < lim kd))) := by
              unfold plainK worthsB
              rw [if_pos hkn, decide_eq_true hk, decide_eq_false (show ¬ kd ∉ kn from fun z => z hkn), decide_eq_true hkn]
              rfl
            rw [hres] at k
            refine s_ret (ev_andV (a := decide (kd < 4)) (ev_is (ev_op (ev_var rfl) ev_c rv_I0) (congrArg V.bl (decide_eq_decide.mpr (by omega)))) fun hk4 => ev_andV (a := decide (ns.length ≤ 300)) (ev_is (ev_op (hln e4 rfl) ev_c rv_I0) (congrArg V.bl (decide_eq_decide.mpr (by omega)))) fun _ => ev_is (ev_maxLt (b := (lim kd : Int)) (hcat e4 rfl) hcp ?_) (congrArg V.bl (all_lt ns (lim kd) (Nat.lt_of_lt_of_le (by decide) (lim_ge kd))))) fun H5 e5 => k H5 (((e1.trans e23).trans e4).trans e5)
            have hk4 := of_decide_eq_true hk4
            have hat : atI ([V.int 256, V.int 65536, V.int (2 ^ (32 : Int).toNat)] : List V) (((kd - 1 : Nat) : Int)) = some (iv (lim kd)) := by
              have : kd = 1 ∨ kd = 2 ∨ kd = 3 := by omega
              rcases this with rfl | rfl | rfl <;> rfl
            refine ev_opLs (xs := [V.int 256, V.int 65536, V.int (2 ^ (32 : Int).toNat)]) (els_new (el_lst (ea_cons ev_c (ea_cons ev_c (ea_cons (ev_op ev_c ev_c (rv_I ⟨by decide, by decide, by decide⟩)) ea_nil))) (by show 3 ≤ 100000; decide))) (ev_is (ev_op (ev_cb2 (z := iv kd) (ev_var rfl) ev_c fun H5 e5 Q q => ⟨(kd : Int), 3, rfl, ?_⟩) ev_c rv_I0) (w := .int ((kd - 1 : Nat) : Int)) (congrArg V.int (by omega))) fun q H5 hq e => rv_xL hq hat
            have : (if (3 : Int) < (kd : Int) then (3 : Int) else (kd : Int)) = (kd : Int) := if_neg (by omega)
            rw [this]
            exact q H5 (Ex.refl _)
          · have hkn := of_decide_eq_false hb2
            have hres : (plainK kn true kd && worthsB kn kd ns) = (decide (ns.length % wid kd = 0) && (decide (ns.length ≤ 300 * wid kd) && ns.all fun n => decide (n < 256))) := by
              unfold plainK worthsB
              rw [if_neg hkn, decide_eq_true hk, decide_eq_true hkn]
              rw [Bool.and_true, Bool.true_or, Bool.true_and, Bool.true_and, Bool.and_comm]
            rw [hres] at k
            have e24 := (e1.trans e23).trans e4
            have hwp := wid_pos kd
            -- the end, with the width in its slot
            have fin : ∀ {H5 : Hp} {D : Ends}, Ex H4 H5 → (∀ H', Ex H5 H' → D.rt (.bl (decide (ns.length % wid kd = 0) && (decide (ns.length ≤ 300 * wid kd) && ns.all fun n => decide (n < 256)))) H') → tRet (tAndV (tOp (rEqA K) (tOp (rI (fun _ j => 0 < j) fun i j => .int (i % j)) (tOp (rI0 fun i j => .int (i - j)) (tCB (rLenA K) (tCons (tVar 2) tNil)) (tC (.int 1))) (tVar 5)) (tC (.int 0))) (tAndV (tOp (rI0 fun i j => .bl (decide (i ≤ j))) (tOp (rI0 fun i j => .int (i - j)) (tCB (rLenA K) (tCons (tVar 2) tNil)) (tC (.int 1))) (tOp (rMulB K) (tC (.int 300)) (tVar 5))) (tOp (rI0 fun i j => .bl (decide (i < j))) (tCB (rMax K) (tCons (tOp (rAddA K) (tLst (tCons (tC (.int 0)) tNil)) (tSl (rSl K) (tVar 2) (tPart (tC (.int 1))) tNoPart)) tNil)) (tC (.int 256))))) D [some (.ref l), some y, some (.ref q), none, some (iv kd), some (iv (wid kd))] H5 := by
              intro H5 D e5 kk
              have hm1 : ∀ {σ : L2.St}, σ[2]? = some (some (.ref q)) → Ev (tOp (rI0 fun i j => .int (i - j)) (tCB (rLenA K) (tCons (tVar 2) tNil)) (tC (.int 1))) σ H5 (iv ns.length) := fun h => ev_is (ev_op (hln (e4.trans e5) h) ev_c rv_I0) (congrArg V.int (by omega))
              refine s_ret (ev_andV (a := decide (ns.length % wid kd = 0)) (ev_is (ev_op (ev_is (ev_op (hm1 rfl) (ev_var rfl) (rv_I (by show (0 : Int) < (wid kd : Int); omega))) (w := iv (ns.length % wid kd)) (congrArg V.int (by rw [Int.natCast_emod]))) ev_c rv_eqI) (congrArg V.bl (decide_eq_decide.mpr (by omega)))) fun _ => ev_andV (a := decide (ns.length ≤ 300 * wid kd)) (ev_is (ev_op (hm1 rfl) (ev_is (ev_op ev_c (ev_var rfl) (rv_mulI (.inl ⟨by have := wid_le kd; omega, by have := wid_le kd; omega⟩))) (w := iv (300 * wid kd)) (congrArg V.int (by rw [Int.natCast_mul]; rfl))) rv_I0) (congrArg V.bl (decide_eq_decide.mpr (by omega)))) fun _ => ev_is (ev_maxLt (b := 256) (hcat (e4.trans e5) rfl) hcp ev_c) (congrArg V.bl (all_lt ns 256 (by decide)))) kk
            by_cases hall : kd ∈ ALL
            · have hka : 1 ≤ kd ∧ kd ≤ 6 := by
                have : kd = 1 ∨ kd = 2 ∨ kd = 3 ∨ kd = 4 ∨ kd = 5 ∨ kd = 6 := by simpa using hall
                omega
              have h3m : kd % 3 < 3 := Nat.mod_lt _ (by decide)
              obtain ⟨v0, _, hat0⟩ := MB.atI_in (l := [V.int 1, V.int 2, V.int 4]) (i := ((kd % 3 : Nat) : Int)) (by omega) (by show _ < (3 : Int); omega)
              refine q_asg (v := v0) (ev_opLs (xs := [V.int 1, V.int 2, V.int 4]) (els_new (el_lst (ea_cons ev_c (ea_cons ev_c (ea_cons ev_c ea_nil))) (by show 3 ≤ 100000; decide))) (ev_is (ev_op (ev_var rfl) ev_c (rv_I (by show (0 : Int) < 3; decide))) (w := .int ((kd % 3 : Nat) : Int)) (congrArg V.int (by omega))) fun q H5 hq e => rv_xL hq hat0) fun H5 e5 => ?_
              refine q_ifN (b := true) (et_is (et_test (ev_opU (xs := [1, 2, 3, 4, 5, 6].map iv) (ev_var rfl) (eu_tup (ea_cons ev_c (ea_cons ev_c (ea_cons ev_c (ea_cons ev_c (ea_cons ev_c (ea_cons ev_c ea_nil)))))) (by show 6 ≤ 100000; decide)) fun p H3 hp e => rv_inK (st_of hp))) (decide_eq_true hall)) (fun _ H6 e6 => ?_) fun z => by cases z
              refine s_asg (v := iv (wid kd)) (ev_opLs (xs := [V.int 1, V.int 2, V.int 4, V.int 1, V.int 4, V.int 4]) (els_new (el_lst (ea_cons ev_c (ea_cons ev_c (ea_cons ev_c (ea_cons ev_c (ea_cons ev_c (ea_cons ev_c ea_nil)))))) (by show 6 ≤ 100000; decide))) (ev_is (ev_op (ev_var rfl) ev_c rv_I0) (w := .int ((kd - 1 : Nat) : Int)) (congrArg V.int (by omega))) fun q H5 hq e => rv_xL hq (wid_at hall)) fun H7 e7 => ?_
              exact fin ((e5.trans e6).trans e7) fun H' e' => k H' (e24.trans (((e5.trans e6).trans e7).trans e'))
            · have hat0 : atI ([V.int 1, V.int 2, V.int 4] : List V) (((kd % 3 : Nat) : Int)) = some (iv (wid kd)) := by
                have h := wid_out hall
                have : kd % 3 = 0 ∨ kd % 3 = 1 ∨ kd % 3 = 2 := by omega
                rcases this with e | e | e <;> rw [e] at h ⊢ <;> (injection h with h; rw [← h]; rfl)
              refine q_asg (v := iv (wid kd)) (ev_opLs (xs := [V.int 1, V.int 2, V.int 4]) (els_new (el_lst (ea_cons ev_c (ea_cons ev_c (ea_cons ev_c ea_nil))) (by show 3 ≤ 100000; decide))) (ev_is (ev_op (ev_var rfl) ev_c (rv_I (by show (0 : Int) < 3; decide))) (w := .int ((kd % 3 : Nat) : Int)) (congrArg V.int (by omega))) fun q H5 hq e => rv_xL hq hat0) fun H5 e5 => ?_
              refine q_ifN (b := false) (et_is (et_test (ev_opU (xs := [1, 2, 3, 4, 5, 6].map iv) (ev_var rfl) (eu_tup (ea_cons ev_c (ea_cons ev_c (ea_cons ev_c (ea_cons ev_c (ea_cons ev_c (ea_cons ev_c ea_nil)))))) (by show 6 ≤ 100000; decide)) fun p H3 hp e => rv_inK (st_of hp))) (decide_eq_false hall)) (fun z => by cases z) fun _ H6 e6 => ?_
              exact fin (e5.trans e6) fun H' e' => k H' (e24.trans ((e5.trans e6).trans e'))
end
end K82
set_option maxRecDepth 100000
set_option maxHeartbeats 1000000
namespace K82
open PySem PySem.Spec PyProof.Rows L2 Evl MB
/-! ### the stack in the heap -/
def fv : Fr → List (Key × V)
  | .table m last deep most => [(.inr "sort", .str "table"), (.inr "many", iv m), (.inr "last", .int last), (.inr "deep", iv deep), (.inr "most", iv most)]
  | .chain m deep most last => [(.inr "sort", .str "chain"), (.inr "many", iv m), (.inr "deep", iv deep), (.inr "most", iv most), (.inr "last", if last = true then .str "done" else .non)]
  | .chains m deep => [(.inr "sort", .str "chains"), (.inr "many", iv m), (.inr "deep", iv deep)]
  | .pieces m => [(.inr "sort", .str "pieces"), (.inr "many", iv m)]
theorem fv_len (f : Fr) : (fv f).length ≤ 1000 := by cases f <;> simp [fv]
def okF : Fr → Prop
  | .table _ last _ _ => -1 ≤ last
  | _ => True
def Frs (H : Hp) : List Addr → List Fr → Prop
  | [], [] => True
  | a :: as, f :: S => H a = some (.dK (fv f)) ∧ okF f ∧ a ∉ as ∧ Frs H as S
  | [], _ :: _ => False
  | _ :: _, [] => False
theorem Frs.ex {H H' : Hp} (e : Ex H H') : ∀ {as : List Addr} {S : List Fr}, Frs H as S → Frs H' as S
  | [], [], _ => trivial
  | _ :: _, _ :: _, ⟨h1, h2, h3, h4⟩ => ⟨e _ _ h1, h2, h3, h4.ex e⟩
  | [], _ :: _, h => h.elim
  | _ :: _, [], h => h.elim
theorem Frs.upd {H : Hp} {b : Addr} {o : HO} : ∀ {as : List Addr} {S : List Fr}, b ∉ as → Frs H as S → Frs (L2.upd H b o) as S
  | [], [], _, _ => trivial
  | a :: as, _ :: _, hb, ⟨h1, h2, h3, h4⟩ => ⟨by rw [upd_ne fun z : a = b => hb (by rw [← z]; exact List.mem_cons_self ..)]; exact h1, h2, h3, h4.upd fun z => hb (List.mem_cons_of_mem _ z)⟩
  | [], _ :: _, _, h => h.elim
  | _ :: _, [], _, h => h.elim
theorem Frs.mem {H : Hp} {b : Addr} : ∀ {as : List Addr} {S : List Fr}, Frs H as S → b ∈ as → ∃ kvs, H b = some (.dK kvs)
  | [], [], _, hb => absurd hb List.not_mem_nil
  | a :: as, _ :: _, ⟨h1, h2, h3, h4⟩, hb => by
    rcases List.mem_cons.mp hb with rfl | hb
    · exact ⟨_, h1⟩
    · exact h4.mem hb
  | [], _ :: _, h, _ => h.elim
  | _ :: _, [], h, _ => h.elim
theorem Frs.len {H : Hp} : ∀ {as : List Addr} {S : List Fr}, Frs H as S → as.length = S.length
  | [], [], _ => rfl
  | a :: as, _ :: _, ⟨h1, h2, h3, h4⟩ => by rw [List.length_cons, List.length_cons, h4.len]
  | [], _ :: _, h => h.elim
  | _ :: _, [], h => h.elim
/-- the list at p holds the frames at as, the top first; H0 knows none of them -/
structure Stk (H0 H : Hp) (p : Addr) (as : List Addr) (S : List Fr) : Prop where
  l : H p = some (.lst (as.reverse.map V.ref))
  f : Frs H as S
  n : ∀ a ∈ as, H0 a = none
  np : H0 p = none
  e : Ex H0 H
section
variable {H0 H H' : Hp} {p a b : Addr} {as : List Addr} {f f' : Fr} {S : List Fr}
theorem Stk.ex (h : Stk H0 H p as S) (e : Ex H H') : Stk H0 H' p as S := ⟨e _ _ h.l, h.f.ex e, h.n, h.np, h.e.trans e⟩
theorem Stk.pn (h : Stk H0 H p as S) : p ∉ as := fun z => by
  obtain ⟨kvs, hk⟩ := h.f.mem z
  rw [h.l] at hk
  cases hk
theorem Stk.top (h : Stk H0 H p (a :: as) (f :: S)) : H a = some (.dK (fv f)) := h.f.1
theorem Stk.put (h : Stk H0 H p (a :: as) (f :: S)) (ok : okF f') : Stk H0 (upd H a (.dK (fv f'))) p (a :: as) (f' :: S) := by
  obtain ⟨h1, h2, h3, h4⟩ := h.f
  exact ⟨by rw [upd_ne fun z => h.pn (by rw [z]; exact List.mem_cons_self ..)]; exact h.l, ⟨upd_same, ok, h3, h4.upd h3⟩, h.n, h.np, h.e.mut (h.n a (List.mem_cons_self ..))⟩
theorem Stk.push (h : Stk H0 H p as S) (hb : H b = some (.dK (fv f))) (hn : H0 b = none) (hx : b ∉ as) (ok : okF f) : Stk H0 (upd H p (.lst (as.reverse.map V.ref ++ [.ref b]))) p (b :: as) (f :: S) := by
  have hpb : p ≠ b := fun z => by
    have := h.l
    rw [z, hb] at this
    cases this
  refine ⟨by rw [upd_same, List.reverse_cons, List.map_append]; rfl, ⟨by rw [upd_ne (Ne.symm hpb)]; exact hb, ok, hx, h.f.upd h.pn⟩, fun x hx => ?_, h.np, h.e.mut h.np⟩
  rcases List.mem_cons.mp hx with rfl | hx
  · exact hn
  · exact h.n x hx
theorem Stk.pop (h : Stk H0 H p (a :: as) (f :: S)) : Stk H0 (upd H p (.lst (((a :: as).reverse.map V.ref).dropLast))) p as S := by
  obtain ⟨h1, h2, h3, h4⟩ := h.f
  refine ⟨by rw [upd_same, List.reverse_cons, List.map_append, List.map_singleton, List.dropLast_concat], h4.upd fun z => h.pn (List.mem_cons_of_mem _ z), fun x hx => h.n x (List.mem_cons_of_mem _ hx), h.np, h.e.mut h.np⟩
end
theorem atI_last {xs : List V} {x : V} : atI (xs ++ [x]) (-1) = some x := by
  unfold atI ixN
  rw [if_neg (by decide), if_pos (by rw [List.length_append, List.length_singleton]; omega)]
  have : (-1 + ((xs ++ [x]).length : Int)).toNat = xs.length := by
    rw [List.length_append, List.length_singleton]
    omega
  show (xs ++ [x])[(-1 + ((xs ++ [x]).length : Int)).toNat]? = some x
  rw [this, List.getElem?_append_right (Nat.le_refl _), Nat.sub_self]
  rfl
section
variable {K : PySem.W.Frag} {H0 H : Hp} {p a : Addr} {as : List Addr} {f f' : Fr} {S : List Fr} {σ : L2.St} {D : Ends} {tz : TS} {td tv te : TE} {i : Nat} {v : V}
theorem ev_top (h0 : Ev te σ H (.ref p)) (st : Stk H0 H p (a :: as) (f :: S)) : Ev (tOp (rIx K) te (tUn (rU fun i => .int (-i)) (tC (.int 1)))) σ H (.ref a) :=
  ev_op h0 (ev_un ev_c ru_neg) (rv_xL (sq_of st.l) (by
    rw [List.reverse_cons, List.map_append]
    exact atI_last))
/-- stack[-1][key] = v -/
theorem q_fput (k : Key) (st : Stk H0 H p (a :: as) (f :: S)) (hv : Ev tv σ H v) (ho : Ev td σ H (.ref a)) (hf : putK (fv f) k v = fv f') (ok : okF f') (q : ∀ H1, Stk H0 H1 p (a :: as) (f' :: S) → But a H H1 → tz D σ H1) : tSeq (sDPut td (tC (kV k)) tv) tz D σ H :=
  q_dput k hv ho st.top (fv_len f) fun H1 e1 => by
    rw [hf]
    exact q _ ((st.ex e1).put ok) fun b o hb hs => by
      rw [upd_ne hb]
      exact e1 _ _ hs
/-- what a display holds -/
def PairsTo (trs : List (TE × TE)) (σ : L2.St) (H : Hp) (kvs : List (Key × V)) : Prop := ∀ H1, Ex H H1 → ∀ Q : List (V × V) → Hp → Prop, (∀ H2, Ex H1 H2 → Q (kvs.map fun kv => (kV kv.1, kv.2)) H2) → tPairs trs σ H1 Q
theorem prs_nil : PairsTo [] σ H [] := fun H1 _ Q q => q H1 (Ex.refl H1)
theorem prs_cons {trs : List (TE × TE)} {kvs : List (Key × V)} (k : Key) (hv : Ev tv σ H v) (r : PairsTo trs σ H kvs) : PairsTo ((tC (kV k), tv) :: trs) σ H ((k, v) :: kvs) := fun H1 e Q q =>
  hv H1 e _ fun H2 e2 => r H2 (e.trans e2) _ fun H3 e3 => q H3 (e2.trans e3)
/-- stack.append({..}) -/
theorem q_push {trs : List (TE × TE)} {kvs : List (Key × V)} (h0 : σ[i]? = some (some (.ref p))) (st : Stk H0 H p as S) (hl : as.length ≤ 4000001) (hp : PairsTo trs σ H kvs) (h15 : kvs.length ≤ 15) (hm : mergeK [] kvs = fv f) (ok : okF f) (k : ∀ b H1, Stk H0 H1 p (b :: as) (f :: S) → But p H H1 → tz D σ H1) :
    tSeq (tDrop (tBM K "list" rAppend (tVar i) (tCons (tDisp trs) tNil))) tz D σ H := by
  refine (o_drop (show tBM K "list" rAppend (tVar i) _ _ _ _ from o_var h0 ⟨Or.inl ⟨rfl, _, sq_of st.l⟩, o_cons ?_⟩) : tDrop (tBM K "list" rAppend (tVar i) (tCons (tDisp trs) tNil)) { D with nx := tz D } σ H)
  intro b hb
  refine hp _ (Ex.new hb) _ fun H2 e2 => ⟨e2 _ _ upd_same, kvs, rfl, h15, ?_⟩
  have e3 : Ex H (upd H2 b (.dK (mergeK [] kvs))) := ((Ex.new hb).trans e2).mut hb
  have hbk : upd H2 b (.dK (mergeK [] kvs)) b = some (.dK (fv f)) := by rw [upd_same, hm]
  have hnb : b ∉ as := fun z => by
    obtain ⟨kvs, hk⟩ := st.f.mem z
    rw [hb] at hk
    cases hk
  have st3 := st.ex e3
  refine ⟨p, _, _, rfl, rfl, st3.l, ?_, ?_⟩
  · rw [List.length_map, List.length_reverse]
    have : (5000000 : Nat) < sizeLine := by decide
    omega
  · exact k b _ (st3.push hbk (fresh_back st.e hb) hnb ok) fun x o hx hs => by
      rw [upd_ne hx]
      exact e3 _ _ hs
/-- stack.pop() -/
theorem q_pop (h0 : σ[i]? = some (some (.ref p))) (st : Stk H0 H p (a :: as) (f :: S)) (k : ∀ H1, Stk H0 H1 p as S → But p H H1 → tz D σ H1) :
    tSeq (tDrop (tBM0 K "list" rPop (tVar i))) tz D σ H := by
  refine (o_drop (show tBM0 K "list" rPop (tVar i) _ _ _ from o_var h0 ⟨Or.inl ⟨rfl, _, sq_of st.l⟩, p, _, .ref a, rfl, rfl, st.l, ?_, ?_⟩) : tDrop (tBM0 K "list" rPop (tVar i)) { D with nx := tz D } σ H)
  · rw [List.reverse_cons, List.map_append, List.length_append]
    show (List.map V.ref as.reverse ++ [V.ref a])[(List.map V.ref as.reverse).length + 1 - 1]? = _
    rw [Nat.add_sub_cancel, List.getElem?_append_right (Nat.le_refl _), Nat.sub_self]
    rfl
  · exact k _ st.pop fun x o hx hs => by
      rw [upd_ne hx]
      exact hs
end
section
variable {P : Program} {w : World} {K : PySem.W.Frag} {mg : Str → Option Value} {base : Heap} {aKn aWi aOw aLi aOn aOt : Addr}
/-! ### _law_entry_stands -/
def sp_est (K : PySem.W.Frag) : Sp := fun vs H Q _ => ∃ (H0 : Hp) (p a : Addr) (as : List Addr) (m : Nat) (last : Int) (deep most : Nat) (S : List Fr) (l : List Nat) (y : V) (kn : List Nat), vs = [.ref p, tv l, y] ∧ Stk H0 H p (a :: as) (.table m last deep most :: S) ∧ KnAt K H0 y kn ∧ l.length ≤ 3500000 ∧ S.length ≤ 4000000 ∧
  ∀ H', Ex H0 H' → (∀ S', entS kn true m last deep most S l = some S' → ∃ as', Stk H0 H' p as' S') → Q (.bl (entS kn true m last deep most S l).isSome) H'
theorem ok_law_entry_stands {f : Addr} {fd : FuncData} (F : Fun K "_law_entry_stands" "_law_entry_stands" s_law_entry_stands f fd) (T : T0 K mg aKn aWi aOw aLi aOn aOt) (c_law_number_by : MB.Cl P w K mg base 1 "_law_number_by" sp_nb) (c_law_plain_stands : MB.Cl P w K mg base 2 "_law_plain_stands" (sp_plstands K)) : FnOk P w K mg base CX0 3 f fd p_law_entry_stands (sp_est K) := by
  refine F.ok sc_law_entry_stands (fun vs H Q E h => ?_) (fun cdv A outer s H vs Q E hr h => ?_)
  · obtain ⟨H0, p, a, as, m, last, deep, most, S, l, y, kn, rfl, _⟩ := h
    rfl
  · obtain ⟨H0, p, a, as, m, last, deep, most, S, l, y, kn, rfl, st, hy0, hl, hS, k⟩ := h
    have hu64 := hu64 hr
    have hu := hu_of hr
    refine ⟨_, (pss_cons (ps_set (i := 3) sc_law_entry_stands.nd rfl (Or.inl rfl) (pe_ix (MB.ix_K (K := K) rfl) (pv 0) (pe_un un_neg pe_int) (fun _ _ => rfl)))
      (pss_cons (ps_set (i := 4) sc_law_entry_stands.nd rfl (Or.inl rfl) (pe_split (pv 1) pe_str))
      (pss_cons (ps_set (i := 5) sc_law_entry_stands.nd rfl (Or.inl rfl) (pe_un un_neg pe_int))
      (pss_cons (ps_if (pt_cmpR op_gt (pe_callB (MB.call_lenK (K := K) rfl) (by rfl) T.n_len MB.bo_len (pa_cons (pv 4) pa_nil)) pe_int (nomark _)) (pss_one (ps_set (i := 5) sc_law_entry_stands.nd rfl (Or.inl rfl) (MB.pe_cl c_law_number_by hr (by decide) (by rfl) passL (pa_cons (pe_ix (MB.ix_K (K := K) rfl) (pv 4) pe_int (fun _ _ => rfl)) pa_nil)))) pss_nil)
      (pss_cons (ps_if (PW.pt (pw_or (pt_cmpR (MB.op_eqK (K := K) rfl hu64) (pe_dget hu (pv 3) pe_str (fun _ _ => rfl)) (pe_dget hu (pv 3) pe_str (fun _ _ => rfl)) (nomark _)) (pw_or (pt_cmpR op_le (pv 5) (pe_dget hu (pv 3) pe_str (fun _ _ => rfl)) (nomark _)) (pw_or1 (pt_cmpR op_gt (pv 5) pe_int (nomark _)))))) (pss_one (ps_ret pe_bl)) pss_nil)
      (pss_cons (ps_dput hu (pv 3) pe_str (pe_op (MB.op_addK (K := K) rfl) (pe_dget hu (pv 3) pe_str (fun _ _ => rfl)) pe_int) rfl)
      (pss_cons (ps_dput hu (pv 3) pe_str (pv 5) rfl)
      (pss_cons (ps_if (pt_cmpR (MB.op_eqK (K := K) rfl hu64) (pe_ix (MB.ix_K (K := K) rfl) (pv 4) pe_int (fun _ _ => rfl)) pe_str (nomark _)) (pss_one (ps_ret (MB.pe_cl c_law_plain_stands hr (by decide) (by rfl) passL (pa_cons (pe_slice (MB.sl_K (K := K) rfl) (pv 4) (po_some pe_int) po_none) (pa_cons (pv 2) pa_nil))))) pss_nil)
      (pss_cons (ps_if (pt_cmpR (MB.op_eqK (K := K) rfl hu64) (pe_ix (MB.ix_K (K := K) rfl) (pv 4) pe_int (fun _ _ => rfl)) pe_str (nomark _)) (pss_cons (ps_set (i := 6) sc_law_entry_stands.nd rfl (Or.inr rfl) pe_str)
      (pss_cons (ps_set (i := 7) sc_law_entry_stands.nd rfl (Or.inl rfl) (pe_slice (MB.sl_K (K := K) rfl) (pv 1) (po_some (pe_op (MB.op_addK (K := K) rfl) pe_int (pe_callB (MB.call_lenK (K := K) rfl) (by rfl) T.n_len MB.bo_len (pa_cons (pe_ix (MB.ix_K (K := K) rfl) (pv 4) pe_int (fun _ _ => rfl)) pa_nil)))) po_none))
      (pss_one (ps_ret (pe_and (pe_cmpR (MB.op_inK (K := K) rfl) pe_int (pv 2) rfl) (pe_and (pe_cmpR op_gt (pe_callB (MB.call_lenK (K := K) rfl) (by rfl) T.n_len MB.bo_len (pa_cons (pv 4) pa_nil)) pe_int (nomark _)) (pe_and (pe_cmpR op_lt (pe_callB (MB.call_lenK (K := K) rfl) (by rfl) T.n_len MB.bo_len (pa_cons (pv 7) pa_nil)) pe_int (nomark _)) (pe_one (pe_cmpR (MB.op_eqNil (K := K) rfl (Nat.lt_of_le_of_lt (Nat.le_add_right _ 64) hu64)) (pe_lc (own := [("_law_one", 8)]) (by rfl) sc_law_entry_stands.nd (pi_str (pv 7)) (blkOk_by (own := [("_law_one", 8)]) (N := n_law_entry_stands) (sc := defScope s_law_entry_stands) (by decide +kernel)) (fun _ _ _ _ _ => (pg_name (i := 8) sc_law_entry_stands.nd rfl (.inl rfl))) (fun _ _ _ _ _ => (pts_one (pt_cmpR (MB.op_niK (K := K) rfl) (pv 8) (pv 6) rfl))) (fun _ _ _ _ _ => (pv 8))) (pe_lst pa_nil) (nomark _)))))))))) pss_nil)
      (pss_cons (ps_if (PW.pt (pw_and (pt_cmpR (MB.op_eqK (K := K) rfl hu64) (pe_ix (MB.ix_K (K := K) rfl) (pv 4) pe_int (fun _ _ => rfl)) pe_str (nomark _)) (pw_and (pt_cmpR (MB.op_eqK (K := K) rfl hu64) (pe_callB (MB.call_lenK (K := K) rfl) (by rfl) T.n_len MB.bo_len (pa_cons (pv 4) pa_nil)) pe_int (nomark _)) (pw_and1 (pt_cmpR (MB.op_inK (K := K) rfl) pe_int (pv 2) rfl))))) (pss_cons (ps_expr (pe_bm PySem.F.plainAttrs_list PySem.F.slot_list_append PySem.F.type_list_append mt_append (pv 0) (pa_cons (pe_disp (pps_cons pe_str pe_str (pps_cons pe_str pe_int (pps_cons pe_str (pe_op (MB.op_addK (K := K) rfl) (pe_dget hu (pv 3) pe_str (fun _ _ => rfl)) pe_int) pps_nil))) (by rfl) (by rfl) (fun z => by cases z) (by decide)) pa_nil)))
      (pss_one (ps_ret pe_bl))) pss_nil)
      (pss_cons (ps_expr (pe_bm PySem.F.plainAttrs_list PySem.F.slot_list_append PySem.F.type_list_append mt_append (pv 0) (pa_cons (pe_disp (pps_cons pe_str pe_str (pps_cons pe_str pe_int pps_nil)) (by rfl) (by rfl) (fun z => by cases z) (by decide)) pa_nil)))
      (pss_one (ps_ret (pe_and (pe_cmpR (MB.op_eqK (K := K) rfl hu64) (pe_ix (MB.ix_K (K := K) rfl) (pv 4) pe_int (fun _ _ => rfl)) pe_str (nomark _)) (pe_and (pe_cmpR (MB.op_eqK (K := K) rfl hu64) (pe_callB (MB.call_lenK (K := K) rfl) (by rfl) T.n_len MB.bo_len (pa_cons (pv 4) pa_nil)) pe_int (nomark _)) (pe_one (pe_cmpR (MB.op_inK (K := K) rfl) pe_int (pv 2) rfl))))))))))))))))), ?_⟩
    refine q_asg (ev_top (ev_var rfl) st) fun H1 e1 => ?_
    refine q_asgL (el_split (w := l) (sep := [32]) (ev_var rfl) ev_c (by decide) (by decide) (by omega)) fun q H2 hq e2 h2 => ?_
    have st2 := (st.ex e1).ex e2
    have hqa : q ≠ a := fun z => by
      rw [z, st2.top] at h2
      cases h2
    have hqp : q ≠ p := fun z => by
      have := (st.ex e1).l
      rw [← z, hq] at this
      cases this
    have hwl : ∀ x ∈ wordsL l, x.length ≤ 3500000 := fun x h => by have := spl_mem _ _ _ _ _ h; rw [List.length_nil] at this; omega
    have hwn : (wordsL l).length ≤ 3500001 := Nat.le_trans (spl_length _ _ _ _) (by omega)
    change H2 q = some (.lst ((wordsL l).map tv)) at h2
    have hlen2 : (((wordsL l).map tv).length : Int) = ((wordsL l).length : Int) := by rw [List.length_map]
    refine q_asg (ev_un ev_c ru_neg) fun H3 e3 => ?_
    have st3 := st2.ex e3
    have h3 := e3 _ _ h2
    have hlast : -1 ≤ last := st.f.2.1
    -- a line that is refused at once
    have refuse : ∀ {H' : Hp}, Ex H0 H' → entS kn true m last deep most S l = none → Q (.bl false) H' := fun e h => by
      have := k _ e fun S' hS' => by rw [h] at hS'; cases hS'
      rw [h] at this
      exact this
    have test : ∀ {σ : L2.St} {H4 : Hp} {t : Int}, Stk H0 H4 p (a :: as) (.table m last deep most :: S) → σ[3]? = some (some (.ref a)) → σ[5]? = some (some (.int t)) → EvT (tOr (tTest (tOp (rEqA K) (tDGet (tVar 3) (tC (.str "many"))) (tDGet (tVar 3) (tC (.str "most"))))) (tOr (tTest (tOp (rI0 fun i j => .bl (decide (i ≤ j))) (tVar 5) (tDGet (tVar 3) (tC (.str "last"))))) (tTest (tOp (rI0 fun i j => .bl (decide (j < i))) (tVar 5) (tC (.int 65535)))))) σ H4 (decide (m = most) || (decide (t ≤ last) || decide (65535 < t))) := fun st h1 h2 =>
      et_or (et_test (ev_is (ev_op (ev_dget (.inr "many") (ev_var h1) st.top rfl) (ev_dget (.inr "most") (ev_var h1) st.top rfl) rv_eqI) (congrArg V.bl (decide_eq_decide.mpr (by omega))))) fun _ => et_or (et_test (ev_op (ev_var h2) (ev_dget (.inr "last") (ev_var h1) st.top rfl) rv_I0)) fun _ => et_test (ev_op (ev_var h2) ev_c rv_I0)
    cases hw : wordsL l with
    | nil => exact absurd hw (MB.spl_ne _ _ _ _)
    | cons w0 t0 =>
      rw [hw] at h3 hlen2 hwl hwn
      cases t0 with
      | nil =>
        refine q_ifN (b := false) (et_is (et_test (ev_op (ev_is (ev_cb1 (ev_var rfl) (rc_lenL (sq_of h3))) (congrArg V.int hlen2)) ev_c rv_I0)) rfl) (fun z => by cases z) fun _ H4 e4 => ?_
        refine q_ifN (b := true) (et_is (test (t := -1) (st3.ex e4) rfl rfl) (by rw [decide_eq_true hlast, Bool.true_or, Bool.or_true])) (fun _ H5 e5 => s_ret ev_c fun H6 e6 => refuse (((st3.ex e4).ex e5).ex e6).e (by unfold entS; rw [hw])) fun z => by cases z
      | cons r rest =>
        refine q_ifN (b := true) (et_is (et_test (ev_op (ev_is (ev_cb1 (ev_var rfl) (rc_lenL (sq_of h3))) (congrArg V.int hlen2)) ev_c rv_I0)) (decide_eq_true (by rw [List.length_cons, List.length_cons]; omega))) (fun _ H4 e4 => ?_) fun z => by cases z
        have h4 := e4 _ _ h3
        refine s_asg (v := .int (nbI r)) (ev_call (ea_cons (ev_op (ev_var rfl) ev_c (rv_xL (v := tv r) (sq_of h4) (MB.atI_nat (i := 1) rfl))) ea_nil) fun H5 e5 Q q E => ⟨r, rfl, hwl r (by simp), q⟩) fun H5 e5 => ?_
        have st5 := (st3.ex e4).ex e5
        have h5 := e5 _ _ h4
        have hent : entS kn true m last deep most S l = match tagBy r with
            | none => none
            | some tag =>
              if m = most ∨ (tag : Int) ≤ last then none
              else if w0 = co "entry" then (if (plainIn kn true rest).isSome = true then some (.table (m + 1) tag deep most :: S) else none)
              else if w0 = co "text" then (if 4 ∈ kn ∧ rest ≠ [] ∧ textB (l.drop (w0.length + r.length + 2)) = true then some (.table (m + 1) tag deep most :: S) else none)
              else if rest = [] ∧ w0 = co "chains" ∧ 5 ∈ kn then some (.chains 0 (deep + 1) :: .table (m + 1) tag deep most :: S)
              else if rest = [] ∧ w0 = co "pieces" ∧ 6 ∈ kn then some (.pieces 0 :: .table (m + 1) tag deep most :: S)
              else none := by
          unfold entS
          rewrite [hw]
          rfl
        cases htg : tagBy r with
        | none =>
          rw [htg] at hent
          have hnb : (decide (nbI r ≤ last) || decide (65535 < nbI r)) = true := by
            unfold tagBy at htg
            unfold nbI
            cases hn : numBy r with
            | none =>
              dsimp only
              rw [decide_eq_true hlast]
              rfl
            | some n =>
              rw [hn] at htg
              dsimp only at htg ⊢
              split at htg
              · cases htg
              · rw [decide_eq_true (show (65535 : Int) < (n : Int) by omega), Bool.or_true]
          refine q_ifN (b := true) (et_is (test st5 rfl rfl) (by rw [hnb, Bool.or_true])) (fun _ H6 e6 => s_ret ev_c fun H7 e7 => refuse ((st5.ex e6).ex e7).e hent) fun z => by cases z
        | some tag =>
          rw [htg] at hent
          dsimp only at hent
          have hnt : nbI r = (tag : Int) ∧ tag ≤ 65535 := by
            unfold tagBy at htg
            unfold nbI
            cases hn : numBy r with
            | none => rw [hn] at htg; cases htg
            | some n =>
              rw [hn] at htg
              dsimp only at htg ⊢
              split at htg
              · injection htg with htg
                subst htg
                exact ⟨rfl, by assumption⟩
              · cases htg
          rw [hnt.1]
          by_cases hno : m = most ∨ (tag : Int) ≤ last
          · rw [if_pos hno] at hent
            refine q_ifN (b := true) (et_is (test st5 rfl rfl) (by
              rcases hno with h | h
              · rw [decide_eq_true h]; rfl
              · rw [decide_eq_true h, Bool.true_or, Bool.or_true])) (fun _ H6 e6 => s_ret ev_c fun H7 e7 => refuse ((st5.ex e6).ex e7).e hent) fun z => by cases z
          · rw [if_neg hno] at hent
            refine q_ifN (b := false) (et_is (test st5 rfl rfl) (by
              rw [decide_eq_false (fun z => hno (.inl z)), decide_eq_false (fun z => hno (.inr z)), decide_eq_false (by omega)]
              rfl)) (fun z => by cases z) fun _ H6 e6 => ?_
            have st6 := st5.ex e6
            refine q_fput (f' := .table (m + 1) last deep most) (.inr "many") st6 (ev_is (ev_op (ev_dget (.inr "many") (ev_var rfl) st6.top rfl) ev_c rv_addI) (w := iv (m + 1)) (congrArg V.int (by omega))) (ev_var rfl) rfl hlast fun H7 st7 b7 => ?_
            refine q_fput (f' := .table (m + 1) tag deep most) (.inr "last") st7 (ev_var rfl) (ev_var rfl) rfl (by show (-1 : Int) ≤ (tag : Int); omega) fun H8 st8 b8 => ?_
            have h8 := b8 _ _ hqa (b7 _ _ hqa (e6 _ _ h5))
            have hw0 : ∀ {σ : L2.St} {H9 : Hp}, Ex H8 H9 → σ[4]? = some (some (.ref q)) → Ev (tOp (rIx K) (tVar 4) (tC (.int 0))) σ H9 (tv w0) := fun e h => ev_op (ev_var h) ev_c (rv_xL (v := tv w0) (sq_of (e _ _ h8)) (MB.atI_nat (i := 0) rfl))
            have hln : ∀ {σ : L2.St} {H9 : Hp}, Ex H8 H9 → σ[4]? = some (some (.ref q)) → Ev (tCB (rLenA K) (tCons (tVar 4) tNil)) σ H9 (.int ((rest.length + 2 : Nat) : Int)) := fun e h => ev_is (ev_cb1 (ev_var h) (rc_lenL (sq_of (e _ _ h8)))) (congrArg V.int (by rw [List.length_map, List.length_cons, List.length_cons]))
            have hy8 := hy0.ex st8.e
            refine q_ifN (b := decide (w0 = co "entry")) (et_test (ev_op (hw0 (Ex.refl _) rfl) (ev_is ev_c (congrArg V.str (of_S "entry"))) rv_eqC)) (fun hb H9 e9 => ?_) fun hb H9 e9 => ?_
            · rw [if_pos (of_decide_eq_true hb)] at hent
              refine o_ret (o_call ?_)
              refine (els_new (el_is (els_sl (els_val (ev_var rfl) (sq_of (e9 _ _ h8))) (eo_some ev_c) eo_none) (MB.cut_from (f := tv) (w0 :: r :: rest) 2)) : EvLs K _ _ H9 _) H9 (Ex.refl _) _ fun p2 H10 e10 h10 => o_cons (o_var rfl ⟨p2, rest, y, kn, rfl, h10, hy8.ex (e9.trans e10), by rw [List.length_cons, List.length_cons] at hwn; omega, fun x hx => hwl x (by simp [hx]), fun H11 e11 => ?_⟩)
              have st11 := ((st8.ex e9).ex e10).ex e11
              have := k H11 st11.e fun S' hS' => ?_
              · rw [hent] at this
                cases hp : (plainIn kn true rest).isSome with
                | true => rw [hp, if_pos rfl] at this; exact this
                | false => rw [hp, if_neg (by decide)] at this; exact this
              · rw [hent] at hS'
                split at hS'
                · injection hS' with hS'
                  subst hS'
                  exact ⟨_, st11⟩
                · cases hS'
            rw [if_neg (of_decide_eq_false hb)] at hent
            refine q_ifN (b := decide (w0 = co "text")) (et_test (ev_op (hw0 e9 rfl) (ev_is ev_c (congrArg V.str (of_S "text"))) rv_eqC)) (fun hb2 H10 e10 => ?_) fun hb2 H10 e10 => ?_
            · have hwt := of_decide_eq_true hb2
              rw [if_pos hwt] at hent
              have e810 := e9.trans e10
              refine q_asg (ev_is ev_c (congrArg V.str signs_S)) fun H11 e11 => ?_
              have h11 := (e810.trans e11) _ _ h8
              have hd6 : l.drop (w0.length + r.length + 2) = l.drop (6 + r.length) := by
                rw [hwt]
                congr 1
                show 4 + r.length + 2 = _
                omega
              rw [hd6] at hent
              refine q_asg (v := tv (l.drop (6 + r.length))) (ev_is (ev_slS (lo := some ((6 + r.length : Nat) : Int)) (hi := none) (w := SX.S l) (ev_var rfl) (eo_some (ev_is (ev_op ev_c (ev_cb1 (ev_op (ev_var rfl) ev_c (rv_xL (v := tv r) (sq_of h11) (MB.atI_nat (i := 1) rfl))) (rc_lenS (w := r) (by have := hwl r (by simp); omega))) rv_addI) (congrArg V.int (by omega)))) eo_none (by rw [SX.S_len]; omega)) (congrArg V.str (cutS_drop _ _))) fun H12 e12 => ?_
              have e812 := (e810.trans e11).trans e12
              generalize htt : l.drop (6 + r.length) = tx at hent
              have htl : tx.length ≤ 3500000 := by rw [← htt, List.length_drop]; omega
              refine s_ret (ev_is (ev_andV (a := decide (4 ∈ kn)) (ev_op ev_c (ev_var rfl) (rv_inY (hy8.ex e812))) fun _ => ev_andV (a := decide (rest ≠ [])) (ev_is (ev_op (hln e812 rfl) ev_c rv_I0) (congrArg V.bl (decide_eq_decide.mpr ?_))) fun _ => ev_andV (a := decide (tx.length ≤ 300)) (b := tx.all fun c => decide (c ∈ SIGNS)) (ev_is (ev_op (ev_cb1 (ev_var rfl) (rc_lenS (by omega))) ev_c rv_I0) (congrArg V.bl (decide_eq_decide.mpr (by omega)))) fun _ => ev_is (ev_eqNilL (els_new (el_notIn (b := fun c => decide (c ∈ SIGNS)) (ev_var rfl) (by omega) (fun _ => by rfl) (fun _ => rfl) (fun _ => ev_var rfl) fun c => rfl)) (el_lst ea_nil (by show 0 ≤ 100000; decide))) (congrArg V.bl ?_)) rfl) fun H13 e13 => ?_
              · cases rest with
                | nil => simp
                | cons x y => simp; omega
              · have := filt_empty (fun c => decide (c ∈ SIGNS)) (fun c => tv [c]) tx
                rw [Bool.not_inj_iff] at this
                exact this
              · have st13 := (st8.ex e812).ex e13
                have := k H13 st13.e fun S' hS' => ?_
                · rw [hent] at this
                  have hB : (decide (4 ∈ kn) && (decide (rest ≠ []) && (decide (tx.length ≤ 300) && tx.all fun c => decide (c ∈ SIGNS)))) = decide (4 ∈ kn ∧ rest ≠ [] ∧ textB tx = true) := by
                    unfold textB
                    rw [Bool.decide_and, Bool.decide_and, Bool.decide_eq_true]
                  rw [hB]
                  by_cases hc : 4 ∈ kn ∧ rest ≠ [] ∧ textB tx = true
                  · rw [if_pos hc] at this
                    rw [decide_eq_true hc]
                    exact this
                  · rw [if_neg hc] at this
                    rw [decide_eq_false hc]
                    exact this
                · rw [hent] at hS'
                  split at hS'
                  · injection hS' with hS'
                    subst hS'
                    exact ⟨_, st13⟩
                  · cases hS'
            rw [if_neg (of_decide_eq_false hb2)] at hent
            have e810 := e9.trans e10
            have st10 := st8.ex e810
            refine q_ifN (b := decide (w0 = co "chains") && (decide (rest = []) && decide (5 ∈ kn))) (et_and (et_test (ev_op (hw0 e810 rfl) (ev_is ev_c (congrArg V.str (of_S "chains"))) rv_eqC)) fun _ => et_and (et_test (ev_is (ev_op (hln e810 rfl) ev_c rv_eqI) (congrArg V.bl (decide_eq_decide.mpr ?_)))) fun _ => et_test (ev_op ev_c (ev_var rfl) (rv_inY (hy8.ex e810)))) (fun hb3 H11 e11 => ?_) fun hb3 H11 e11 => ?_
            · cases rest with
              | nil => simp
              | cons x y => simp; omega
            · have hc : rest = [] ∧ w0 = co "chains" ∧ 5 ∈ kn := by
                simp only [Bool.and_eq_true, decide_eq_true_eq] at hb3
                exact ⟨hb3.2.1, hb3.1, hb3.2.2⟩
              rw [if_pos hc] at hent
              have st11 := st10.ex e11
              refine q_push (f := .chains 0 (deep + 1)) rfl st11 (by have := st11.f.len; rw [List.length_cons, List.length_cons] at this; rw [List.length_cons]; omega) (prs_cons (.inr "sort") ev_c (prs_cons (.inr "many") ev_c (prs_cons (.inr "deep") (ev_is (ev_op (ev_dget (.inr "deep") (ev_var rfl) st11.top rfl) ev_c rv_addI) (w := iv (deep + 1)) (congrArg V.int (by omega))) prs_nil))) (by show 3 ≤ 15; decide) rfl trivial fun b H12 st12 b12 => ?_
              refine s_ret ev_c fun H13 e13 => ?_
              have := k H13 (st12.ex e13).e fun S' hS' => by
                rw [hent] at hS'
                injection hS' with hS'
                subst hS'
                exact ⟨_, st12.ex e13⟩
              rw [hent] at this
              exact this
            · have hc : ¬ (rest = [] ∧ w0 = co "chains" ∧ 5 ∈ kn) := fun z => by
                rw [decide_eq_true z.1, decide_eq_true z.2.1, decide_eq_true z.2.2] at hb3
                cases hb3
              rw [if_neg hc] at hent
              have st11 := st10.ex e11
              refine q_push (f := .pieces 0) rfl st11 (by have := st11.f.len; rw [List.length_cons, List.length_cons] at this; rw [List.length_cons]; omega) (prs_cons (.inr "sort") ev_c (prs_cons (.inr "many") ev_c prs_nil)) (by decide) rfl trivial fun b H12 st12 b12 => ?_
              have h12 := b12 _ _ hqp ((e810.trans e11) _ _ h8)
              have hln12 : ∀ {σ : L2.St} {H9 : Hp}, Ex H12 H9 → σ[4]? = some (some (.ref q)) → Ev (tCB (rLenA K) (tCons (tVar 4) tNil)) σ H9 (.int ((rest.length + 2 : Nat) : Int)) := fun e h => ev_is (ev_cb1 (ev_var h) (rc_lenL (sq_of (e _ _ h12)))) (congrArg V.int (by rw [List.length_map, List.length_cons, List.length_cons]))
              refine s_ret (ev_andV (a := decide (w0 = co "pieces")) (ev_op (ev_op (ev_var rfl) ev_c (rv_xL (v := tv w0) (sq_of h12) (MB.atI_nat (i := 0) rfl))) (ev_is ev_c (congrArg V.str (of_S "pieces"))) rv_eqC) fun _ => ev_andV (a := decide (rest = [])) (ev_is (ev_op (hln12 (Ex.refl _) rfl) ev_c rv_eqI) (congrArg V.bl (decide_eq_decide.mpr ?_))) fun _ => ev_op ev_c (ev_var rfl) (rv_inY (hy0.ex st12.e))) fun H13 e13 => ?_
              · cases rest with
                | nil => simp
                | cons x y => simp; omega
              · have := k H13 (st12.ex e13).e fun S' hS' => ?_
                · rw [hent] at this
                  by_cases hc : rest = [] ∧ w0 = co "pieces" ∧ 6 ∈ kn
                  · rw [if_pos hc] at this
                    rw [decide_eq_true hc.1, decide_eq_true hc.2.1, decide_eq_true hc.2.2]
                    exact this
                  · rw [if_neg hc] at this
                    have hB : (decide (w0 = co "pieces") && (decide (rest = []) && decide (6 ∈ kn))) = false := by
                      cases hbb : (decide (w0 = co "pieces") && (decide (rest = []) && decide (6 ∈ kn))) with
                      | false => rfl
                      | true =>
                        simp only [Bool.and_eq_true, decide_eq_true_eq] at hbb
                        exact absurd ⟨hbb.2.1, hbb.1, hbb.2.2⟩ hc
                    rw [hB]
                    exact this
                · rw [hent] at hS'
                  split at hS'
                  · injection hS' with hS'
                    subst hS'
                    exact ⟨_, st12.ex e13⟩
                  · cases hS'
end
end K82
set_option maxRecDepth 100000
set_option maxHeartbeats 1000000
namespace K82
open PySem PySem.Spec PyProof.Rows L2 Evl MB
section
variable {K : PySem.W.Frag} {H0 H : Hp} {p a : Addr} {as : List Addr} {f f' : Fr} {S : List Fr} {σ : L2.St} {D : Ends} {tz : TS} {td tx te : TE} {i j : Nat} {v z : V}
theorem ev_get2 {kvs : List (Key × V)} (k : Key) (h : Ev td σ H (.ref a)) (hp : H a = some (.dK kvs)) (hz : Ev tx σ H z) : Ev (tDGet2 td (tC (kV k)) tx) σ H ((valV kvs k).getD z) := fun H1 e Q q =>
  h H1 e _ fun H2 e2 => ⟨a, rfl, .inl ⟨kvs, .inl ((e.trans e2) _ _ hp)⟩, hz H2 (e.trans e2) _ fun H3 e3 => ⟨valV kvs k, .inl ⟨kvs, k, .inl (((e.trans e2).trans e3) _ _ hp), rfl, rfl⟩, q H3 (e2.trans e3)⟩⟩
theorem et_sort {s : String} (t : String) (h : σ[j]? = some (some (.ref a))) (ha : H a = some (.dK (fv f))) (hv : valV (fv f) (.inr "sort") = some (.str (Str.ofString s))) : EvT (tTest (tOp (rEqA K) (tDGet (tVar j) (tC (.str "sort"))) (tC (.str (Str.ofString t))))) σ H (decide (co s = co t)) :=
  et_test (ev_op (ev_is (ev_dget (.inr "sort") (ev_var h) ha hv) (congrArg V.str (of_S s))) (ev_is ev_c (congrArg V.str (of_S t))) rv_eqC)
theorem et_line {l : List Nat} (t : String) (h : σ[j]? = some (some (tv l))) : EvT (tTest (tOp (rEqA K) (tVar j) (tC (.str (Str.ofString t))))) σ H (decide (l = co t)) :=
  et_test (ev_op (ev_var h) (ev_is ev_c (congrArg V.str (of_S t))) rv_eqC)
theorem rv_eqNon {l : List Nat} : RV (rEqA K) (tv l) .non H (.bl false) := fun H1 _ _ q => .inl ⟨rfl, by
  have e : decide (tv l = V.non) = false := decide_eq_false fun z => nomatch z
  rw [e]
  exact q H1 (Ex.refl H1)⟩
end
section
variable {P : Program} {w : World} {K : PySem.W.Frag} {mg : Str → Option Value} {base : Heap} {aKn aWi aOw aLi aOn aOt : Addr}
/-! ### _law_stands -/
def sp_stands (K : PySem.W.Frag) : Sp := fun vs H Q _ => ∃ (H0 : Hp) (p : Addr) (as : List Addr) (S : List Fr) (l : List Nat) (y : V) (kn : List Nat), vs = [.ref p, tv l, y] ∧ Stk H0 H p as S ∧ KnAt K H0 y kn ∧ l.length ≤ 3500000 ∧ S.length ≤ 4000000 ∧
  ∀ H', Ex H0 H' → (∀ S', stands kn true S l = some S' → ∃ as', Stk H0 H' p as' S') → Q (.bl (stands kn true S l).isSome) H'
theorem ok_law_stands {f : Addr} {fd : FuncData} (F : Fun K "_law_stands" "_law_stands" s_law_stands f fd) (T : T0 K mg aKn aWi aOw aLi aOn aOt) (c_law_piece_stands : MB.Cl P w K mg base 2 "_law_piece_stands" (sp_pstands K)) (c_law_entry_stands : MB.Cl P w K mg base 3 "_law_entry_stands" (sp_est K)) : FnOk P w K mg base CX0 4 f fd p_law_stands (sp_stands K) := by
  refine F.ok sc_law_stands (fun vs H Q E h => ?_) (fun cdv A outer s H vs Q E hr h => ?_)
  · obtain ⟨H0, p, as, S, l, y, kn, rfl, _⟩ := h
    rfl
  · obtain ⟨H0, p, as, S, l, y, kn, rfl, st, hy0, hl, hS, k⟩ := h
    have hu64 := hu64 hr
    have hu := hu_of hr
    refine ⟨_, (pss_cons (ps_if (pt_cmpR (MB.op_eqNil (K := K) rfl (Nat.lt_of_le_of_lt (Nat.le_add_right _ 64) hu64)) (pv 0) (pe_lst pa_nil) (nomark _)) (pss_one (ps_ret pe_bl)) pss_nil)
      (pss_cons (ps_set (i := 3) sc_law_stands.nd rfl (Or.inl rfl) (pe_ix (MB.ix_K (K := K) rfl) (pv 0) (pe_un un_neg pe_int) (fun _ _ => rfl)))
      (pss_cons (ps_if (pt_cmpR (MB.op_eqK (K := K) rfl hu64) (pe_dget hu (pv 3) pe_str (fun _ _ => rfl)) pe_str (nomark _)) (pss_cons (ps_if (PW.pt (pw_and (pt_cmpR (MB.op_eqK (K := K) rfl hu64) (pv 1) pe_str (nomark _)) (pw_and1 (pt_cmpR (MB.op_eqK (K := K) rfl hu64) (pe_dget hu (pv 3) pe_str (fun _ _ => rfl)) pe_int (nomark _))))) (pss_cons (ps_expr (pe_bm0 PySem.F.plainAttrs_list PySem.F.slot_list_pop PySem.F.type_list_pop mt_pop (pv 0)))
      (pss_one (ps_ret pe_bl))) pss_nil)
      (pss_one (ps_ret (MB.pe_cl c_law_entry_stands hr (by decide) (by rfl) passL (pa_cons (pv 0) (pa_cons (pv 1) (pa_cons (pv 2) pa_nil))))))) pss_nil)
      (pss_cons (ps_if (PW.pt (pw_and (pt_cmpR (MB.op_eqK (K := K) rfl hu64) (pe_dget hu (pv 3) pe_str (fun _ _ => rfl)) pe_str (nomark _)) (pw_and1 (pt_cmpR (MB.op_eqK (K := K) rfl hu64) (pv 1) pe_str (nomark _))))) (pss_cons (ps_dput hu (pv 3) pe_str (pe_op (MB.op_addK (K := K) rfl) (pe_dget hu (pv 3) pe_str (fun _ _ => rfl)) pe_int) rfl)
      (pss_cons (ps_expr (pe_bm PySem.F.plainAttrs_list PySem.F.slot_list_append PySem.F.type_list_append mt_append (pv 0) (pa_cons (pe_disp (pps_cons pe_str pe_str (pps_cons pe_str pe_int (pps_cons pe_str (pe_un un_neg pe_int) (pps_cons pe_str (pe_dget hu (pv 3) pe_str (fun _ _ => rfl)) (pps_cons pe_str pe_int pps_nil))))) (by rfl) (by rfl) (fun z => by cases z) (by decide)) pa_nil)))
      (pss_one (ps_ret (pe_and (pe_cmpR op_lt (pe_dget hu (pv 3) pe_str (fun _ _ => rfl)) (pe_op (MB.op_addK (K := K) rfl) (pe_dget hu (pv 3) pe_str (fun _ _ => rfl)) pe_int) (nomark _)) (pe_one (pe_cmpR op_lt (pe_dget hu (pv 3) pe_str (fun _ _ => rfl)) pe_int (nomark _)))))))) pss_nil)
      (pss_cons (ps_if (PW.pt (pw_and (pt_cmpR (MB.op_eqK (K := K) rfl hu64) (pe_dget hu (pv 3) pe_str (fun _ _ => rfl)) pe_str (nomark _)) (pw_and1 (pt_cmpR (MB.op_eqK (K := K) rfl hu64) (pv 1) pe_str (nomark _))))) (pss_cons (ps_dput hu (pv 3) pe_str (pe_op (MB.op_addK (K := K) rfl) (pe_dget hu (pv 3) pe_str (fun _ _ => rfl)) pe_int) rfl)
      (pss_cons (ps_expr (pe_bm PySem.F.plainAttrs_list PySem.F.slot_list_append PySem.F.type_list_append mt_append (pv 0) (pa_cons (pe_disp (pps_cons pe_str pe_str (pps_cons pe_str pe_int (pps_cons pe_str (pe_dget hu (pv 3) pe_str (fun _ _ => rfl)) (pps_cons pe_str pe_int (pps_cons pe_str pe_str pps_nil))))) (by rfl) (by rfl) (fun z => by cases z) (by decide)) pa_nil)))
      (pss_one (ps_ret (pe_cmpR op_lt (pe_dget hu (pv 3) pe_str (fun _ _ => rfl)) pe_int (nomark _)))))) pss_nil)
      (pss_cons (ps_if (PW.pt (pw_and (pt_cmpR (MB.op_eqK (K := K) rfl hu64) (pe_dget hu (pv 3) pe_str (fun _ _ => rfl)) pe_str (nomark _)) (pw_and1 (pt_cmpR (MB.op_neK (K := K) rfl hu64) (pv 1) pe_str (nomark _))))) (pss_cons (ps_dput hu (pv 3) pe_str (pe_op (MB.op_addK (K := K) rfl) (pe_dget hu (pv 3) pe_str (fun _ _ => rfl)) pe_int) rfl)
      (pss_one (ps_ret (pe_and (pe_cmpR op_lt (pe_dget hu (pv 3) pe_str (fun _ _ => rfl)) pe_int (nomark _)) (pe_one (MB.pe_cl c_law_piece_stands hr (by decide) (by rfl) passL (pa_cons (pe_split (pv 1) pe_str) pa_nil))))))) pss_nil)
      (pss_cons (ps_set (i := 4) sc_law_stands.nd rfl (Or.inl rfl) (pe_dget2 hu (pv 3) pe_str pe_str ⟨rfl, rfl, rfl, rfl⟩))
      (pss_cons (ps_expr (pe_bm0 PySem.F.plainAttrs_list PySem.F.slot_list_pop PySem.F.type_list_pop mt_pop (pv 0)))
      (pss_one (ps_ret (pe_cmpR (MB.op_eqK (K := K) rfl hu64) (pv 1) (pv 4) (nomark _)))))))))))), ?_⟩
    have fin : ∀ {H' : Hp} {b : Bool}, Ex H0 H' → (stands kn true S l).isSome = b → (∀ S', stands kn true S l = some S' → ∃ as', Stk H0 H' p as' S') → Q (.bl b) H' := fun e hb h => by
      have := k _ e h
      rw [hb] at this
      exact this
    cases as with
    | nil =>
      cases S with
      | cons f S => exact st.f.elim
      | nil =>
        refine q_ifN (b := true) (et_test (ev_eqNilL (els_val (ev_var rfl) (sq_of st.l)) (el_lst ea_nil (by show 0 ≤ 100000; decide)))) (fun _ H1 e1 => s_ret ev_c fun H2 e2 => fin ((st.ex e1).ex e2).e rfl fun S' h => by cases h) fun z => by cases z
    | cons a as =>
      cases S with
      | nil => exact st.f.elim
      | cons f S =>
        refine q_ifN (b := false) (et_is (et_test (ev_eqNilL (els_val (ev_var rfl) (sq_of st.l)) (el_lst ea_nil (by show 0 ≤ 100000; decide)))) (by
          rw [List.reverse_cons, List.map_append]
          cases List.map V.ref as.reverse <;> rfl)) (fun z => by cases z) fun _ H1 e1 => ?_
        have st1 := st.ex e1
        refine q_asg (ev_top (ev_var rfl) st1) fun H2 e2 => ?_
        have st2 := st1.ex e2
        have hal : as.length ≤ 4000000 := by
          have := st.f.len
          rw [List.length_cons, List.length_cons] at this
          rw [List.length_cons] at hS
          omega
        have hal1 : (a :: as).length ≤ 4000001 := by rw [List.length_cons]; omega
        -- the last three lines
        have tail : ∀ {H3 : Hp} {D : Ends} (lst : V) (b : Bool), Ex H2 H3 → (valV (fv f) (.inr "last")).getD (V.str (Str.ofString "end")) = lst → (∀ {σ : L2.St} {H5 : Hp}, σ[1]? = some (some (tv l)) → σ[4]? = some (some lst) → Ev (tOp (rEqA K) (tVar 1) (tVar 4)) σ H5 (.bl b)) → D.rt = Q → stands kn true (f :: S) l = (if b = true then some S else none) →
            tSeq (tAsg (tDGet2 (tVar 3) (tC (.str "last")) (tC (.str "end"))) (gName 4)) (tSeq (tDrop (tBM0 K "list" rPop (tVar 0))) (tRet (tOp (rEqA K) (tVar 1) (tVar 4)))) D [some (.ref p), some (tv l), some y, some (.ref a), none] H3 := by
          intro H3 D lst b e3 hg hev hD hst
          have st3 := st2.ex e3
          refine q_asg (v := lst) (ev_is (ev_get2 (.inr "last") (ev_var rfl) st3.top ev_c) hg) fun H4 e4 => ?_
          refine q_pop rfl (st3.ex e4) fun H5 st5 _ => ?_
          refine s_ret (hev rfl rfl) fun H6 e6 => ?_
          rw [hD]
          refine fin (st5.ex e6).e (by rw [hst]; cases b <;> rfl) fun S' h => ?_
          rw [hst] at h
          cases b with
          | true =>
            rw [if_pos rfl] at h
            injection h with h
            subst h
            exact ⟨_, st5.ex e6⟩
          | false => cases h
        have evEnd : ∀ (s : String) {σ : L2.St} {H5 : Hp}, σ[1]? = some (some (tv l)) → σ[4]? = some (some (V.str (Str.ofString s))) → Ev (tOp (rEqA K) (tVar 1) (tVar 4)) σ H5 (.bl (decide (l = co s))) := fun s _ _ h1 h2 => ev_op (ev_var h1) (ev_is (ev_var h2) (congrArg V.str (of_S s))) rv_eqC
        cases f with
        | table m last deep most =>
          refine q_ifN (b := true) (et_sort (s := "table") "table" rfl st2.top rfl) (fun _ H3 e3 => ?_) fun z => absurd z (by decide)
          have st3 := st2.ex e3
          refine q_ifN (b := decide (l = co "end") && decide (most = 40)) (et_and (et_line "end" rfl) fun _ => et_test (ev_is (ev_op (ev_dget (.inr "most") (ev_var rfl) st3.top rfl) ev_c rv_eqI) (congrArg V.bl (decide_eq_decide.mpr (by omega))))) (fun hb H4 e4 => ?_) fun hb H4 e4 => ?_
          · have hc : l = co "end" ∧ most = 40 := by simpa using hb
            refine q_pop rfl (st3.ex e4) fun H5 st5 _ => s_ret ev_c fun H6 e6 => fin (st5.ex e6).e (by rw [st_table, if_pos hc]; rfl) fun S' h => ?_
            rw [st_table, if_pos hc] at h
            injection h with h
            subst h
            exact ⟨_, st5.ex e6⟩
          · have hc : ¬ (l = co "end" ∧ most = 40) := fun z => by
              rw [decide_eq_true z.1, decide_eq_true z.2] at hb
              cases hb
            refine s_retC (ea_cons (ev_var rfl) (ea_cons (ev_var rfl) (ea_cons (ev_var rfl) ea_nil))) fun H5 e5 => ⟨H0, p, a, as, m, last, deep, most, S, l, y, kn, rfl, (st3.ex e4).ex e5, hy0, hl, by rw [List.length_cons] at hS; omega, fun H6 e6 h6 => ?_⟩
            exact fin e6 (by rw [st_table, if_neg hc]) fun S' h => h6 S' (by rw [st_table, if_neg hc] at h; exact h)
        | chain m deep most last =>
          refine q_ifN (b := false) (et_sort (s := "chain") "table" rfl st2.top rfl) (fun z => absurd z (by decide)) fun _ H3 e3 => ?_
          have st3 := st2.ex e3
          refine q_ifN (b := decide (l = co "table")) (et_is (et_and (et_sort (s := "chain") "chain" rfl st3.top rfl) fun _ => et_line "table" rfl) (by rw [decide_eq_true rfl, Bool.true_and])) (fun hb H4 e4 => ?_) fun hb H4 e4 => ?_
          · have hlt := of_decide_eq_true hb
            have st4 := st3.ex e4
            refine q_fput (f' := .chain (m + 1) deep most last) (.inr "many") st4 (ev_is (ev_op (ev_dget (.inr "many") (ev_var rfl) st4.top rfl) ev_c rv_addI) (w := iv (m + 1)) (congrArg V.int (by omega))) (ev_var rfl) rfl trivial fun H5 st5 b5 => ?_
            refine q_push (f := .table 0 (-1) deep 40) rfl st5 hal1 (prs_cons (.inr "sort") ev_c (prs_cons (.inr "many") ev_c (prs_cons (.inr "last") (ev_un ev_c ru_neg) (prs_cons (.inr "deep") (ev_dget (.inr "deep") (ev_var rfl) st5.top rfl) (prs_cons (.inr "most") ev_c prs_nil))))) (by show 5 ≤ 15; decide) rfl (by show (-1 : Int) ≤ -1; decide) fun b H6 st6 b6 => ?_
            have ha6 : H6 a = some (.dK (fv (.chain (m + 1) deep most last))) := st6.f.2.2.2.1
            refine s_ret (ev_andV (a := decide (m < most)) (b := decide (deep < 5)) (ev_is (ev_op (ev_dget (.inr "many") (ev_var rfl) ha6 rfl) (ev_op (ev_dget (.inr "most") (ev_var rfl) ha6 rfl) ev_c rv_addI) rv_I0) (congrArg V.bl (decide_eq_decide.mpr (by omega)))) fun _ => ev_is (ev_op (ev_dget (.inr "deep") (ev_var rfl) ha6 rfl) ev_c rv_I0) (congrArg V.bl (decide_eq_decide.mpr (by omega)))) fun H7 e7 => ?_
            by_cases hc : m < most ∧ deep < 5
            · have hst : stands kn true (.chain m deep most last :: S) l = some (.table 0 (-1) deep 40 :: .chain (m + 1) deep most last :: S) := by rw [st_chain, if_pos hlt, if_pos hc]
              rw [decide_eq_true hc.1, decide_eq_true hc.2]
              refine fin (st6.ex e7).e (by rw [hst]; rfl) fun S' h => ?_
              rw [hst] at h
              injection h with h
              subst h
              exact ⟨_, st6.ex e7⟩
            · have hst : stands kn true (.chain m deep most last :: S) l = none := by rw [st_chain, if_pos hlt, if_neg hc]
              have hB : (decide (m < most) && decide (deep < 5)) = false := by
                rw [← Bool.decide_and]
                exact decide_eq_false hc
              rw [hB]
              exact fin (st6.ex e7).e (by rw [hst]; rfl) fun S' h => by rw [hst] at h; cases h
          · have hlt := of_decide_eq_false hb
            have st4 := st3.ex e4
            refine q_ifN (b := false) (et_is (et_and (a := false) (b := false) (et_is (et_sort (s := "chain") "chains" rfl st4.top rfl) rfl) fun z => by cases z) rfl) (fun z => by cases z) fun _ H5 e5 => ?_
            have st5 := st4.ex e5
            refine q_ifN (b := false) (et_is (et_and (a := false) (b := false) (et_is (et_sort (s := "chain") "pieces" rfl st5.top rfl) rfl) fun z => by cases z) rfl) (fun z => by cases z) fun _ H6 e6 => ?_
            have e36 := ((e3.trans e4).trans e5).trans e6
            cases last with
            | true => exact tail (V.str (Str.ofString "done")) (decide (l = co "done")) e36 rfl (evEnd "done") rfl (by
                rw [st_chain, if_neg hlt]
                by_cases hd : l = co "done"
                · rw [if_pos ⟨rfl, hd⟩, decide_eq_true hd, if_pos rfl]
                · rw [if_neg fun z => hd z.2, decide_eq_false hd, if_neg (by decide)])
            | false => exact tail .non false e36 rfl (fun h1 h2 => ev_op (ev_var h1) (ev_var h2) rv_eqNon) rfl (by
                rw [st_chain, if_neg hlt, if_neg fun z => absurd z.1 (by decide), if_neg (by decide)])
        | chains m deep =>
          refine q_ifN (b := false) (et_sort (s := "chains") "table" rfl st2.top rfl) (fun z => absurd z (by decide)) fun _ H3 e3 => ?_
          have st3 := st2.ex e3
          refine q_ifN (b := false) (et_is (et_and (a := false) (b := false) (et_is (et_sort (s := "chains") "chain" rfl st3.top rfl) rfl) fun z => by cases z) rfl) (fun z => by cases z) fun _ H4 e4 => ?_
          have st4 := st3.ex e4
          refine q_ifN (b := decide (l = co "chain")) (et_is (et_and (et_sort (s := "chains") "chains" rfl st4.top rfl) fun _ => et_line "chain" rfl) (by rw [decide_eq_true rfl, Bool.true_and])) (fun hb H5 e5 => ?_) fun hb H5 e5 => ?_
          · have hlt := of_decide_eq_true hb
            have st5 := st4.ex e5
            refine q_fput (f' := .chains (m + 1) deep) (.inr "many") st5 (ev_is (ev_op (ev_dget (.inr "many") (ev_var rfl) st5.top rfl) ev_c rv_addI) (w := iv (m + 1)) (congrArg V.int (by omega))) (ev_var rfl) rfl trivial fun H6 st6 b6 => ?_
            refine q_push (f := .chain 0 deep 10 true) rfl st6 hal1 (prs_cons (.inr "sort") ev_c (prs_cons (.inr "many") ev_c (prs_cons (.inr "deep") (ev_dget (.inr "deep") (ev_var rfl) st6.top rfl) (prs_cons (.inr "most") ev_c (prs_cons (.inr "last") ev_c prs_nil))))) (by show 5 ≤ 15; decide) rfl trivial fun b H7 st7 b7 => ?_
            have ha7 : H7 a = some (.dK (fv (.chains (m + 1) deep))) := st7.f.2.2.2.1
            refine s_ret (ev_is (ev_op (ev_dget (.inr "many") (ev_var rfl) ha7 rfl) ev_c rv_I0) (w := .bl (decide (m < 300))) (congrArg V.bl (decide_eq_decide.mpr (by omega)))) fun H8 e8 => ?_
            by_cases hc : m < 300
            · have hst : stands kn true (.chains m deep :: S) l = some (.chain 0 deep 10 true :: .chains (m + 1) deep :: S) := by rw [st_chains, if_pos hlt, if_pos hc]
              rw [decide_eq_true hc]
              refine fin (st7.ex e8).e (by rw [hst]; rfl) fun S' h => ?_
              rw [hst] at h
              injection h with h
              subst h
              exact ⟨_, st7.ex e8⟩
            · have hst : stands kn true (.chains m deep :: S) l = none := by rw [st_chains, if_pos hlt, if_neg hc]
              rw [decide_eq_false hc]
              exact fin (st7.ex e8).e (by rw [hst]; rfl) fun S' h => by rw [hst] at h; cases h
          · have hlt := of_decide_eq_false hb
            have st5 := st4.ex e5
            refine q_ifN (b := false) (et_is (et_and (a := false) (b := false) (et_is (et_sort (s := "chains") "pieces" rfl st5.top rfl) rfl) fun z => by cases z) rfl) (fun z => by cases z) fun _ H6 e6 => ?_
            exact tail (V.str (Str.ofString "end")) (decide (l = co "end")) (((e3.trans e4).trans e5).trans e6) rfl (evEnd "end") rfl (by
              rw [st_chains, if_neg hlt]
              by_cases hd : l = co "end"
              · rw [if_pos hd, decide_eq_true hd, if_pos rfl]
              · rw [if_neg hd, decide_eq_false hd, if_neg (by decide)])
        | pieces m =>
          refine q_ifN (b := false) (et_sort (s := "pieces") "table" rfl st2.top rfl) (fun z => absurd z (by decide)) fun _ H3 e3 => ?_
          have st3 := st2.ex e3
          refine q_ifN (b := false) (et_is (et_and (a := false) (b := false) (et_is (et_sort (s := "pieces") "chain" rfl st3.top rfl) rfl) fun z => by cases z) rfl) (fun z => by cases z) fun _ H4 e4 => ?_
          have st4 := st3.ex e4
          refine q_ifN (b := false) (et_is (et_and (a := false) (b := false) (et_is (et_sort (s := "pieces") "chains" rfl st4.top rfl) rfl) fun z => by cases z) rfl) (fun z => by cases z) fun _ H5 e5 => ?_
          have st5 := st4.ex e5
          refine q_ifN (b := !decide (l = co "end")) (et_is (et_and (et_sort (s := "pieces") "pieces" rfl st5.top rfl) fun _ => et_test (ev_op (ev_var rfl) (ev_is ev_c (congrArg V.str (of_S "end"))) rv_neC)) (by rw [decide_eq_true rfl, Bool.true_and])) (fun hb H6 e6 => ?_) fun hb H6 e6 => ?_
          · have hne : l ≠ co "end" := by simpa using hb
            have st6 := st5.ex e6
            refine q_fput (f' := .pieces (m + 1)) (.inr "many") st6 (ev_is (ev_op (ev_dget (.inr "many") (ev_var rfl) st6.top rfl) ev_c rv_addI) (w := iv (m + 1)) (congrArg V.int (by omega))) (ev_var rfl) rfl trivial fun H7 st7 b7 => ?_
            have hwl : ∀ x ∈ wordsL l, x.length ≤ 3500000 := fun x h => by have := spl_mem _ _ _ _ _ h; rw [List.length_nil] at this; omega
            have hwn : (wordsL l).length ≤ 3500001 := Nat.le_trans (spl_length _ _ _ _) (by omega)
            refine s_ret (ev_andV (a := decide (m < 300)) (b := (pieceL l).isSome) (ev_is (ev_op (ev_dget (.inr "many") (ev_var rfl) st7.top rfl) ev_c rv_I0) (congrArg V.bl (decide_eq_decide.mpr (by omega)))) fun _ => ?_) fun H8 e8 => ?_
            · refine fun H8 e8 Q1 q1 => o_call (o_cons ?_)
              refine (el_split (w := l) (sep := [32]) (ev_var rfl) ev_c (by decide) (by decide) (by omega) : EvL _ _ H7 _) H8 e8 _ fun q H9 hq e9 h9 => ?_
              change H9 q = some (.lst ((wordsL l).map tv)) at h9
              cases hw : wordsL l with
              | nil => exact absurd hw (MB.spl_ne _ _ _ _)
              | cons w0 rest =>
                rw [hw] at h9 hwl hwn
                refine ⟨q, w0, rest, rfl, sq_of h9, by rw [List.length_cons] at hwn; omega, hwl, fun H10 e10 => ?_⟩
                have hp : (decide (w0 = co "piece") && (pieceBy rest).isSome) = (pieceL l).isSome := by
                  unfold pieceL
                  rewrite [hw]
                  dsimp only
                  by_cases hc : w0 = co "piece"
                  · rw [decide_eq_true hc, if_pos hc, Bool.true_and]
                  · rw [decide_eq_false hc, if_neg hc]
                    rfl
                rw [hp]
                exact q1 H10 (e9.trans e10)
            by_cases hc : m < 300 ∧ (pieceL l).isSome = true
            · have hst : stands kn true (.pieces m :: S) l = some (.pieces (m + 1) :: S) := by rw [st_pieces, if_neg hne, if_pos hc]
              rw [decide_eq_true hc.1, hc.2]
              refine fin (st7.ex e8).e (by rw [hst]; rfl) fun S' h => ?_
              rw [hst] at h
              injection h with h
              subst h
              exact ⟨_, st7.ex e8⟩
            · have hst : stands kn true (.pieces m :: S) l = none := by rw [st_pieces, if_neg hne, if_neg hc]
              have hB : (decide (m < 300) && (pieceL l).isSome) = false := by
                cases hb2 : (decide (m < 300) && (pieceL l).isSome) with
                | false => rfl
                | true =>
                  rw [Bool.and_eq_true, decide_eq_true_eq] at hb2
                  exact absurd hb2 hc
              rw [hB]
              exact fin (st7.ex e8).e (by rw [hst]; rfl) fun S' h => by rw [hst] at h; cases h
          · have hd : l = co "end" := by simpa using hb
            exact tail (V.str (Str.ofString "end")) (decide (l = co "end")) ((((e3.trans e4).trans e5).trans e6)) rfl (evEnd "end") rfl (by
              rw [st_pieces, if_pos hd, decide_eq_true hd, if_pos rfl])
end
end K82
set_option maxRecDepth 100000
set_option maxHeartbeats 1000000
namespace K82
open PySem PySem.Spec PyProof.Rows L2 Evl MB
theorem if_t {A B : Prop} {b : Bool} (hb : b = true) (h : A) : if b = true then A else B := by rw [if_pos hb]; exact h
theorem if_f {A B : Prop} {b : Bool} (hb : b = false) (h : B) : if b = true then A else B := by rw [hb]; exact h
theorem s_ifNot {sp : Sp} {dvs : List V} {E : XK} {ta : TA} {tu : TS} {D : Ends} {σ : L2.St} {H : Hp} (h : tCall sp dvs E ta σ H fun v H1 => ∃ c, v = .bl c ∧ if (!c) = true then tu D σ H1 else D.nx σ H1) : tIfS (tNot (tB (tCall sp dvs E ta))) tu tNext D σ H := h
theorem run_app {kn : List Nat} {raw : Bool} : ∀ (a : Ls) (S : List Fr) (b : Ls), run kn raw S (a ++ b) = match run kn raw S a with
    | .ok S' => run kn raw S' b
    | .error c => .error (c + b.length)
  | [], S, b => by
    rw [List.nil_append]
    rfl
  | l :: a, S, b => by
    rw [List.cons_append]
    cases h : stands kn raw S l with
    | none =>
      rw [run_none h, run_none h]
      show _ = (.error (a.length + 1 + b.length) : Except Nat (List Fr))
      rw [List.length_append]
      congr 1
      omega
    | some S' =>
      rw [run_some h, run_some h]
      exact run_app a S' b
theorem entS_len {kn : List Nat} {raw : Bool} {m : Nat} {last : Int} {deep most : Nat} {S S' : List Fr} {l : List Nat} (h : entS kn raw m last deep most S l = some S') : S'.length ≤ S.length + 2 := by
  unfold entS at h
  split at h
  · split at h
    · cases h
    · split at h
      · cases h
      · split at h
        · split at h
          · injection h with h
            subst h
            rw [List.length_cons]
            omega
          · cases h
        · split at h
          · split at h
            · injection h with h
              subst h
              rw [List.length_cons]
              omega
            · cases h
          · split at h
            · injection h with h
              subst h
              rw [List.length_cons, List.length_cons]
              omega
            · split at h
              · injection h with h
                subst h
                rw [List.length_cons, List.length_cons]
                omega
              · cases h
  · cases h
theorem stands_len {kn : List Nat} {raw : Bool} {S S' : List Fr} {l : List Nat} (h : stands kn raw S l = some S') : S'.length ≤ S.length + 1 := by
  cases S with
  | nil => cases h
  | cons f S =>
    cases f with
    | table m last deep most =>
      rw [st_table] at h
      split at h
      · injection h with h
        subst h
        rw [List.length_cons]
        omega
      · have := entS_len h
        rw [List.length_cons]
        omega
    | chain m deep most last =>
      rw [st_chain] at h
      split at h
      · split at h
        · injection h with h
          subst h
          rw [List.length_cons, List.length_cons, List.length_cons]
          omega
        · cases h
      · split at h
        · injection h with h
          subst h
          rw [List.length_cons]
          omega
        · cases h
    | chains m deep =>
      rw [st_chains] at h
      split at h
      · split at h
        · injection h with h
          subst h
          rw [List.length_cons, List.length_cons, List.length_cons]
          omega
        · cases h
      · split at h
        · injection h with h
          subst h
          rw [List.length_cons]
          omega
        · cases h
    | pieces m =>
      rw [st_pieces] at h
      split at h
      · injection h with h
        subst h
        rw [List.length_cons]
        omega
      · split at h
        · injection h with h
          subst h
          rw [List.length_cons, List.length_cons]
          omega
        · cases h
theorem inV_order2 (o : List Nat) : inV (tv o) [.str (Str.ofString "order small"), .str (Str.ofString "order great")] = decide (o = co "order small" ∨ o = co "order great") := by
  show ((Str.ofString "order small" == SX.S o) || ((Str.ofString "order great" == SX.S o) || false)) = _
  rw [of_S, of_S, eq_S, eq_S, Bool.or_false, Bool.decide_or]
section
variable {P : Program} {w : World} {K : PySem.W.Frag} {mg : Str → Option Value} {base : Heap} {aKn aWi aOw aLi aOn aOt : Addr}
/-! ### _law_bad_line -/
def badI (kn t : List Nat) : Int := match badLine kn t with
  | some n => (n : Int)
  | none => -1
def sp_bad (K : PySem.W.Frag) : Sp := fun vs H Q _ => ∃ (t : List Nat) (y : V) (kn : List Nat), vs = [tv t, y] ∧ KnAt K H y kn ∧ t.length < 3500000 ∧ ∀ H', Ex H H' → Q (.int (badI kn t)) H'
theorem ok_law_bad_line {f : Addr} {fd : FuncData} (F : Fun K "_law_bad_line" "_law_bad_line" s_law_bad_line f fd) (T : T0 K mg aKn aWi aOw aLi aOn aOt) (c_law_stands : MB.Cl P w K mg base 4 "_law_stands" (sp_stands K)) : FnOk P w K mg base CX0 5 f fd p_law_bad_line (sp_bad K) := by
  refine F.ok sc_law_bad_line (fun vs H Q E h => ?_) (fun cdv A outer s H vs Q E hr h => ?_)
  · obtain ⟨t, y, kn, rfl, _⟩ := h
    rfl
  · obtain ⟨t, y, kn, rfl, hy, ht, k⟩ := h
    have hu64 := hu64 hr
    refine ⟨_, (pss_cons (ps_set (i := 2) sc_law_bad_line.nd rfl (Or.inl rfl) (pe_split (pv 0) pe_str))
      (pss_cons (ps_set (i := 3) sc_law_bad_line.nd rfl (Or.inl rfl) (pe_lst pa_nil))
      (pss_cons (ps_for PassesOwn.never rfl (pi_range1 (by rfl) T.n_range (pa_cons (pe_op op_sub (pe_callB (MB.call_lenK (K := K) rfl) (by rfl) T.n_len MB.bo_len (pa_cons (pv 2) pa_nil)) pe_int) pa_nil)) (pg_name (i := 4) sc_law_bad_line.nd rfl (.inl rfl))
      (pss_one (ps_if (pt_cmpR (MB.op_eqK (K := K) rfl hu64) (pv 4) pe_int (nomark _)) (pss_cons (ps_set (i := 3) sc_law_bad_line.nd rfl (Or.inl rfl) (pe_lst (pa_cons (pe_disp (pps_cons pe_str pe_str (pps_cons pe_str pe_int (pps_cons pe_str pe_int (pps_cons pe_str pe_int (pps_cons pe_str pe_non pps_nil))))) (by rfl) (by rfl) (fun z => by cases z) (by decide)) pa_nil)))
      (pss_one (ps_if (pt_cmpR (MB.op_niK (K := K) rfl) (pe_ix (MB.ix_K (K := K) rfl) (pv 2) pe_int (fun _ _ => rfl)) (pe_tup (pa_cons pe_str (pa_cons pe_str pa_nil))) rfl) (pss_one (ps_ret pe_int)) pss_nil))) (pss_one (ps_if (pt_not (pt_val (MB.pe_cl c_law_stands hr (by decide) (by rfl) passL (pa_cons (pv 3) (pa_cons (pe_ix (MB.ix_K (K := K) rfl) (pv 2) (pv 4) (fun _ _ => rfl)) (pa_cons (pv 1) pa_nil)))))) (pss_one (ps_ret (pv 4))) pss_nil)))))
      (pss_cons (ps_if (PW.pt (pw_or (pt_cmpR (MB.op_neK (K := K) rfl hu64) (pe_ix (MB.ix_K (K := K) rfl) (pv 2) (pe_un un_neg pe_int) (fun _ _ => rfl)) pe_str (nomark _)) (pw_or1 (pt_cmpR (MB.op_neK (K := K) rfl hu64) (pe_callB (MB.call_lenK (K := K) rfl) (by rfl) T.n_len MB.bo_len (pa_cons (pv 3) pa_nil)) pe_int (nomark _))))) (pss_one (ps_ret (pe_op op_sub (pe_callB (MB.call_lenK (K := K) rfl) (by rfl) T.n_len MB.bo_len (pa_cons (pv 2) pa_nil)) pe_int))) pss_nil)
      (pss_one (ps_ret (pe_un un_neg pe_int))))))), ?_⟩
    refine q_asgL (el_split (w := t) (sep := [10]) (ev_var rfl) ev_c (by decide) (by decide) (by omega)) fun q H1 hq e1 h1 => ?_
    change H1 q = some (.lst ((linesL t).map tv)) at h1
    have hL : (linesL t).length ≤ 3500000 := Nat.le_trans (spl_length _ _ _ _) (by omega)
    have hml : ∀ l ∈ linesL t, l.length ≤ 3500000 := fun l h => by have := spl_mem _ _ _ _ _ h; rw [List.length_nil] at this; omega
    rw [lines_split] at h1 hL hml
    have hlen : (rowsL t ++ [restL t]).length = (rowsL t).length + 1 := by rw [List.length_append, List.length_singleton]
    have hbl : ∀ n : Nat, badLine kn t = some n → badI kn t = (n : Int) := fun n h => by unfold badI; rw [h]
    have hbn : badLine kn t = none → badI kn t = -1 := fun h => by unfold badI; rw [h]
    unfold badLine at hbl hbn
    generalize rowsL t = rows at h1 hL hml hlen hbl hbn
    generalize restL t = rest at h1 hL hml hlen hbl hbn
    generalize badI kn t = bI at k hbl hbn
    rw [hlen] at hL
    have hlenL : ∀ {σ : L2.St} {H4 : Hp}, Ex H1 H4 → σ[2]? = some (some (.ref q)) → Ev (tCB (rLenA K) (tCons (tVar 2) tNil)) σ H4 (.int ((rows.length + 1 : Nat) : Int)) := fun e h => ev_is (ev_cb1 (ev_var h) (rc_lenL (sq_of (e _ _ h1)))) (congrArg V.int (by rw [List.length_map, hlen]))
    refine q_asgL (el_lst ea_nil (by show 0 ≤ 100000; decide)) fun p0 H2 hp0 e2 h2 => ?_
    have hy2 := hy.ex (e1.trans e2)
    refine o_forR1 ((ea_cons (ev_is (ev_op (hlenL e2 rfl) ev_c rv_I0) (w := iv rows.length) (congrArg V.int (by omega))) ea_nil : EvA _ _ H2 _) H2 (Ex.refl _) _ fun H3 e3 => ⟨_, rfl, by omega, by omega, forR_of (fun i σ' H' => ∃ (v3 : V) (v4 : Option V), σ' = [some (tv t), some y, some (.ref q), some v3, v4] ∧ Ex H2 H' ∧ (i = 0 → v3 = .ref p0 ∧ H' p0 = some (.lst [])) ∧
      (0 < i → ∃ (H0 : Hp) (p : Addr) (as : List Addr) (S : List Fr) (l0 : List Nat) (ls : Ls), rows = l0 :: ls ∧ (l0 = co "order small" ∨ l0 = co "order great") ∧ Ex H2 H0 ∧ v3 = .ref p ∧ Stk H0 H' p as S ∧ S.length ≤ i ∧ run kn true [.chain 0 1 10 false] (ls.take (i - 1)) = .ok S)) ?_ (fun i σ' H4 hi h => ?_) fun σ' H4 h => ?_⟩)
    · exact ⟨_, none, rfl, e3, fun _ => ⟨rfl, e3 _ _ h2⟩, fun z => absurd z (Nat.lt_irrefl 0)⟩
    · obtain ⟨v3, v4, rfl, e4, hz, hp⟩ := h
      have hi : i < rows.length := by
        have : ((rows.length : Nat) : Int).toNat = rows.length := Int.toNat_natCast _
        omega
      by_cases hi0 : i = 0
      · subst hi0
        obtain ⟨rfl, hp0⟩ := hz rfl
        obtain ⟨l0, ls, rfl⟩ : ∃ l0 ls, rows = l0 :: ls := by
          cases rows with
          | nil => exact absurd hi (Nat.lt_irrefl 0)
          | cons a b => exact ⟨a, b, rfl⟩
        refine s_if (b := true) (et_is (et_test (ev_op (ev_var rfl) ev_c rv_eqI)) rfl) (fun _ H5 e5 => ?_) fun z => by cases z
        refine o_seqAsg (o_lst (o_cons ?_))
        intro b hb
        refine (prs_cons (.inr "sort") ev_c (prs_cons (.inr "many") ev_c (prs_cons (.inr "deep") ev_c (prs_cons (.inr "most") ev_c (prs_cons (.inr "last") ev_c prs_nil)))) : PairsTo _ _ H5 _) _ (Ex.new hb) _ fun H6 e6 => ⟨e6 _ _ upd_same, _, rfl, by show 5 ≤ 15; decide, ?_⟩
        have hbk : upd H6 b (.dK (mergeK [] [(.inr "sort", .str (Str.ofString "chain")), (.inr "many", .int 0), (.inr "deep", .int 1), (.inr "most", .int 10), (.inr "last", .non)])) b = some (.dK (fv (.chain 0 1 10 false))) := by
          rw [upd_same]
          rfl
        have e57 : Ex H5 (upd H6 b (.dK (mergeK [] [(.inr "sort", .str (Str.ofString "chain")), (.inr "many", .int 0), (.inr "deep", .int 1), (.inr "most", .int 10), (.inr "last", .non)]))) := ((Ex.new hb).trans e6).mut hb
        revert hbk e57
        generalize upd H6 b (.dK (mergeK [] [(.inr "sort", .str (Str.ofString "chain")), (.inr "many", .int 0), (.inr "deep", .int 1), (.inr "most", .int 10), (.inr "last", .non)])) = H7
        intro hbk e57
        refine ⟨by show 1 ≤ sizeLine; decide, fun p hp => ?_⟩
        have e78 : Ex H7 (upd H7 p (.lst [.ref b])) := Ex.new hp
        have hpl : upd H7 p (.lst [.ref b]) p = some (.lst [.ref b]) := upd_same
        revert e78 hpl
        generalize upd H7 p (.lst [.ref b]) = H8
        intro e78 hpl
        have st : Stk H5 H8 p [b] [.chain 0 1 10 false] := ⟨hpl, ⟨e78 _ _ hbk, trivial, List.not_mem_nil, trivial⟩, fun x hx => by obtain rfl := List.mem_singleton.mp hx; exact hb, fresh_back e57 hp, e57.trans e78⟩
        have e28 := ((e4.trans e5).trans e57).trans e78
        have h8 := (e2.trans e28) _ _ h1
        refine s_ifN (b := !decide (l0 = co "order small" ∨ l0 = co "order great")) (et_test (ev_opU (xs := [.str (Str.ofString "order small"), .str (Str.ofString "order great")]) (ev_op (ev_var rfl) ev_c (rv_xL (v := tv l0) (sq_of h8) (MB.atI_nat (i := 0) rfl))) (eu_tup (ea_cons ev_c (ea_cons ev_c ea_nil)) (by show 2 ≤ 100000; decide)) fun p2 H9 hp2 e9 => fun H10 e10 Q q => .inr (rv_niT (st_of hp2) rfl rfl H10 e10 Q (by rw [inV_order2]; exact q)))) (fun hb9 H9 e9 => ?_) fun hb9 H9 e9 => ?_
        · have hno : ¬ (l0 = co "order small" ∨ l0 = co "order great") := by
            rw [Bool.not_eq_true', decide_eq_false_iff_not] at hb9
            exact hb9
          refine s_ret ev_c fun H10 e10 => ?_
          have := k H10 ((e1.trans e2).trans ((e28.trans e9).trans e10))
          rw [hbl 0 (by dsimp only; rw [if_neg hno])] at this
          exact this
        · have hno : l0 = co "order small" ∨ l0 = co "order great" := by
            rw [Bool.not_eq_false', decide_eq_true_eq] at hb9
            exact hb9
          exact ⟨.ref p, _, rfl, e28.trans e9, fun z => absurd z (by decide), fun _ => ⟨H5, p, [b], [.chain 0 1 10 false], l0, ls, rfl, hno, e4.trans e5, rfl, st.ex e9, by show 1 ≤ 0 + 1; decide, by rw [List.take_zero]; rfl⟩⟩
      · obtain ⟨H0, p, as, S, l0, ls, rfl, hord, e20, rfl, st, hSl, hrun⟩ := hp (Nat.pos_of_ne_zero hi0)
        obtain ⟨j, rfl⟩ : ∃ j, i = j + 1 := ⟨i - 1, by omega⟩
        rw [List.length_cons] at hi
        have hj : j < ls.length := by omega
        refine s_if (b := false) (et_is (et_test (ev_op (ev_var rfl) ev_c rv_eqI)) (decide_eq_false (by omega))) (fun z => by cases z) fun _ H5 e5 => ?_
        have st5 := st.ex e5
        have h5 := (e2.trans (e4.trans e5)) _ _ h1
        have hat : atI (((l0 :: ls) ++ [rest]).map tv) (((j + 1 : Nat)) : Int) = some (tv ls[j]) := MB.atI_nat (by
          rw [List.getElem?_map, List.cons_append, List.getElem?_cons_succ, List.getElem?_append_left hj, List.getElem?_eq_getElem hj]
          rfl)
        refine s_ifNot (o_call (o_cons (o_var rfl (o_cons ((ev_op (ev_var rfl) (ev_var rfl) (rv_xL (v := tv ls[j]) (sq_of h5) hat) : Ev _ _ H5 _) H5 (Ex.refl _) _ fun H6 e6 => o_cons (o_var rfl ⟨H0, p, as, S, ls[j], y, kn, rfl, st5.ex e6, hy2.ex e20, hml _ (by simp), by rw [List.length_cons] at hL; omega, fun H7 e7 h7 => ⟨_, rfl, ?_⟩⟩))))))
        have hdrop : ls = ls.take j ++ ls[j] :: ls.drop (j + 1) := by
          rw [← List.drop_eq_getElem_cons hj, List.take_append_drop]
        have hrun' : run kn true [.chain 0 1 10 false] (ls.take j) = .ok S := hrun
        cases hst : stands kn true S ls[j] with
        | none =>
          refine if_t rfl (s_ret (ev_var rfl) fun H8 e8 => ?_)
          have hre : run kn true [.chain 0 1 10 false] ls = .error ((ls.drop (j + 1)).length + 1) := by
            rw [hdrop, run_app, hrun']
            dsimp only
            rw [run_none hst, ← hdrop]
          have := k H8 ((e1.trans e2).trans ((e20.trans e7).trans e8))
          rw [hbl (j + 1) (by
            dsimp only
            rw [if_pos hord, hre]
            dsimp only
            rw [List.length_drop]
            congr 1
            omega)] at this
          exact this
        | some S' =>
          obtain ⟨as', st7⟩ := h7 S' hst
          refine if_f rfl ?_
          refine ⟨.ref p, _, rfl, e20.trans e7, fun z => absurd z (by omega), fun _ => ⟨H0, p, as', S', l0, ls, rfl, hord, e20, rfl, st7, ?_, ?_⟩⟩
          · have : S'.length ≤ S.length + 1 := stands_len hst
            omega
          · show run kn true [.chain 0 1 10 false] (ls.take (j + 1)) = .ok S'
            rw [List.take_succ, List.getElem?_eq_getElem hj, run_app, hrun']
            exact run_some hst
    · obtain ⟨v3, v4, rfl, e4, hz, hp⟩ := h
      have hn : ((rows.length : Nat) : Int).toNat = rows.length := Int.toNat_natCast _
      rw [hn] at hz hp
      have h4 := (e2.trans e4) _ _ h1
      have hrest : ∀ {σ : L2.St}, σ[2]? = some (some (.ref q)) → Ev (tOp (rIx K) (tVar 2) (tUn (rU fun i => .int (-i)) (tC (.int 1)))) σ H4 (tv rest) := fun h => ev_op (ev_var h) (ev_un ev_c ru_neg) (rv_xL (sq_of h4) (by rw [List.map_append]; exact atI_last))
      have e04 := (e1.trans e2).trans e4
      cases rows with
      | nil =>
        obtain ⟨rfl, hp0⟩ := hz rfl
        refine q_ifN (b := true) (et_is (et_or (a := !decide (rest = [])) (b := true) (et_test (ev_op (hrest rfl) (ev_is ev_c (congrArg V.str (of_S ""))) rv_neC)) fun _ => et_test (ev_is (ev_op (ev_cb1 (ev_var rfl) (rc_lenL (sq_of hp0))) ev_c rv_neI) rfl)) (Bool.or_true _)) (fun _ H5 e5 => s_ret (ev_is (ev_op (hlenL ((e2.trans e4).trans e5) rfl) ev_c rv_I0) rfl) fun H6 e6 => ?_) fun z => by cases z
        have := k H6 ((e04.trans e5).trans e6)
        rw [hbl 0 rfl] at this
        exact this
      | cons l0 ls =>
        obtain ⟨H0, p, as, S, l0', ls', hrows, hord, e20, rfl, st, hSl, hrun⟩ := hp (by rw [List.length_cons]; omega)
        injection hrows with hr1 hr2
        subst hr1 hr2
        rw [List.length_cons, Nat.add_sub_cancel, List.take_length] at hrun
        have hSn : (((as.reverse.map V.ref).length : Nat) : Int) = (S.length : Int) := by rw [List.length_map, List.length_reverse, st.f.len]
        refine q_ifN (b := !decide (rest = []) || !decide (S.length = 1)) (et_or (et_test (ev_op (hrest rfl) (ev_is ev_c (congrArg V.str (of_S ""))) rv_neC)) fun _ => et_test (ev_is (ev_op (ev_is (ev_cb1 (ev_var rfl) (rc_lenL (sq_of st.l))) (congrArg V.int hSn)) ev_c rv_neI) (congrArg V.bl (congrArg _ (decide_eq_decide.mpr (by omega)))))) (fun hb5 H5 e5 => ?_) fun hb5 H5 e5 => ?_
        · refine s_ret (ev_is (ev_op (hlenL ((e2.trans e4).trans e5) rfl) ev_c rv_I0) (w := iv (ls.length + 1)) (congrArg V.int (by rw [List.length_cons]; omega))) fun H6 e6 => ?_
          have := k H6 ((e04.trans e5).trans e6)
          rw [hbl (ls.length + 1) (by
            dsimp only
            rw [if_pos hord, hrun]
            dsimp only
            rw [if_pos]
            by_cases hr : rest = []
            · right
              rw [decide_eq_true hr] at hb5
              simpa using hb5
            · exact .inl hr)] at this
          exact this
        · refine s_ret (ev_un ev_c ru_neg) fun H6 e6 => ?_
          have := k H6 ((e04.trans e5).trans e6)
          rw [hbn (by
            dsimp only
            rw [if_pos hord, hrun]
            dsimp only
            rw [if_neg]
            rintro (z | z)
            · rw [decide_eq_false z] at hb5
              cases hb5
            · rw [decide_eq_false z] at hb5
              simp at hb5)] at this
          exact this
end
end K82
set_option maxRecDepth 100000
set_option maxHeartbeats 1000000
namespace K82
open PySem PySem.Spec PyProof.Rows L2 Evl MB
/-- the classes that the law's _law_refusal names -/
structure RefT (K : PySem.W.Frag) (mg : Str → Option Value) (C B : Addr) (cs ds : List Addr) : Prop where
  ec : EC K C
  nf : PySem.W.findIn K (.ref C) "line" = some none
  kB : PySem.W.exmOne K (.ref C) (.ref B) = some true
  gB : mg "TornError" = some (.ref B)
  gC : mg "NoText" = some (.ref C)
  k1 : PySem.W.kitAny K (.ref C) (cs.map Value.ref) = some false
  k2 : PySem.W.kitAny K (.ref C) (ds.map Value.ref) = some false
  kV : PySem.W.kitOne K (.ref C) (.type "ValueError") = some true
  kC : PySem.W.kitOne K (.ref C) (.ref C) = some true
  gs : ∃ a1 a2 a3 a4 a5 a6 a7 a8 a9 a10 a11, cs = [a1, a2, a3, a4, a5, a6, a7, a8, a9, a10, a11] ∧ mg "Busy" = some (.ref a1) ∧ mg "NoDeed" = some (.ref a2) ∧ mg "NoGrid" = some (.ref a3) ∧ mg "NoLine" = some (.ref a4) ∧ mg "NoPiece" = some (.ref a5) ∧ mg "NoShare" = some (.ref a6) ∧
    mg "NoTable" = some (.ref a7) ∧ mg "NoTag" = some (.ref a8) ∧ mg "NoWay" = some (.ref a9) ∧ mg "Raw" = some (.ref a10) ∧ mg "Spoilt" = some (.ref a11)
  hs : ∃ a1 a2 a3 a4, ds = [a1, a2, a3, a4] ∧ mg "Taken" = some (.ref a1) ∧ mg "TooDeep" = some (.ref a2) ∧ mg "TooGreat" = some (.ref a3) ∧ mg "TooMany" = some (.ref a4)
/-- what a line may be: None or an int -/
def LineV (v : V) : Prop := v = .non ∨ ∃ i : Int, v = .int i
/-- what _law_refusal makes of what it is asked -/
def TTref (C : Addr) : (XK → Hp → VK → Prop) → Hp → VK → Prop := fun tl H Q => ∀ (E' : XK) (Q' : VK),
  (∀ dd v H', H' dd = some (.xd [("line", v)]) → LineV v → (∀ p H'', Ex H' H'' → H'' p = some (.tup [v]) → Q (.ref p) H'') → E' (.ref C) (some dd) H') → (∀ v H', (∀ p H'', Ex H' H'' → H'' p = some (.lst [v]) → Q (.ref p) H'') → Q' v H') → tl E' H Q'
theorem call_isiXK {X : Cx} {K : PySem.W.Frag} (h : X.K = K) : CallR X (.builtin "isinstance") (rIsiX K) := h ▸ call_isiX
theorem refs_cls : ∀ as : List Addr, Paired ClsV (as.map V.ref) (as.map Value.ref)
  | [] => .nil
  | a :: r => .cons (.own a) (refs_cls r)
theorem ref_gives {X : Cx} {g C B : Addr} {cs ds : List Addr} {cdg : Value} {q : Str} {aKn aWi aOw aLi aOn aOt : Addr} (T : T0 X.K X.mg aKn aWi aOw aLi aOn aOt) (R : RefT X.K X.mg C B cs ds) :
    LamX.GivesTo X n_law_refusal "_law_refusal" (defScope s_law_refusal) g cdg (defBody s_law_refusal) "_law_ask" q (TTref C) := by
  intro f c' s H Q tl act hc h
  obtain ⟨a1, a2, a3, a4, a5, a6, a7, a8, a9, a10, a11, ecs, g1, g2, g3, g4, g5, g6, g7, g8, g9, g10, g11⟩ := R.gs
  obtain ⟨b1, b2, b3, b4, eds, h1, h2, h3, h4⟩ := R.hs
  have ff : ∀ {x : Str} {a : Addr}, X.mg x = some (.ref a) → ∃ u, X.mg x = some u ∧ RelV (.ref a) u := fun h => ⟨_, h, rfl⟩
  let K := X.K
  refine ⟨_, pss_cons (ps_set (i := 1) sc_law_refusal.nd rfl (Or.inl rfl) pe_non) (pss_cons (ps_set (i := 2) sc_law_refusal.nd rfl (Or.inl rfl) pe_non)
    (pss_cons (ps_try_keep (X := (cxOf C8.CX0 X.prog X.w X.K X.mg X.base n_law_refusal "_law_refusal" (defScope s_law_refusal) g cdg X.A X.stack s H C8.E0).nox) (c := .ref B) (i := 3) (j := 1) (Wout := fun _ _ _ _ => False)
        (tb := fun W D σ H => ∃ Ech : XK, (∀ cls d σ' H', Ech cls d H' → W cls d σ' H') ∧ σ[0]? = some (some (.ref f)) ∧ H c' = some (LamX.CodeO c' q) ∧ tl Ech H fun v H1 => D.nx (σ.set 2 (some v)) H1)
        rfl rfl rfl sc_law_refusal.nd rfl rfl rfl rfl ⟨by rfl, by decide, .inl R.gB⟩ takes0 (by decide) (by decide) rfl (fun W pn xe tk ho => ?_))
    (pss_cons (ps_if (pt_cmpR MB.op_isA (pv 1) pe_non (nomark _)) (pss_one (ps_ret (pe_lst (pa_cons (pv 2) pa_nil)))) pss_nil)
    (pss_cons (ps_if (pt_val (pe_callB (call_isiXK (K := X.K) rfl) (by rfl) T.n_isinstance MB.bo_isinstance (pa_cons (pv 1) (pa_cons (pe_tup (pa_cons (pe_gc (by rfl) (ff g1)) (pa_cons (pe_gc (by rfl) (ff g2)) (pa_cons (pe_gc (by rfl) (ff g3)) (pa_cons (pe_gc (by rfl) (ff g4)) (pa_cons (pe_gc (by rfl) (ff g5)) (pa_cons (pe_gc (by rfl) (ff g6)) (pa_cons (pe_gc (by rfl) (ff g7)) (pa_cons (pe_gc (by rfl) (ff g8)) (pa_cons (pe_gc (by rfl) (ff g9)) (pa_cons (pe_gc (by rfl) (ff g10)) (pa_cons (pe_gc (by rfl) (ff g11)) pa_nil)))))))))))) pa_nil)))) (pss_one (ps_ret (pe_tup pa_nil))) pss_nil)
    (pss_cons (ps_if (PW.pt (pw_or (pt_val (pe_callB (call_isiXK (K := X.K) rfl) (by rfl) T.n_isinstance MB.bo_isinstance (pa_cons (pv 1) (pa_cons (pe_tup (pa_cons (pe_gc (by rfl) (ff h1)) (pa_cons (pe_gc (by rfl) (ff h2)) (pa_cons (pe_gc (by rfl) (ff h3)) (pa_cons (pe_gc (by rfl) (ff h4)) pa_nil))))) pa_nil)))) (pw_or1 (pt_not (pt_val (pe_callB (call_isiXK (K := X.K) rfl) (by rfl) T.n_isinstance MB.bo_isinstance (pa_cons (pv 1) (pa_cons (pe_bltn (v := .ty "ValueError") (by rfl) T.n_ValueError MB.bo_ValueError rfl) pa_nil)))))))) (pss_one (ps_ret (pe_tup pa_nil))) pss_nil)
    (pss_cons (ps_if (PW.pt (pw_or (pt_not (pt_val (pe_callB (call_isiXK (K := X.K) rfl) (by rfl) T.n_isinstance MB.bo_isinstance (pa_cons (pv 1) (pa_cons (pe_gc (by rfl) (ff R.gC)) pa_nil))))) (pw_or1 (pt_val (pe_callB (MB.call_isiK (K := X.K) rfl) (by rfl) T.n_isinstance MB.bo_isinstance (pa_cons (pe_xv (pv 1) rfl) (pa_cons (pe_bltn (v := .ty "bool") (by rfl) T.n_bool MB.bo_bool rfl) pa_nil))))))) (pss_one (ps_ret (pe_tup pa_nil))) pss_nil)
    (pss_one (ps_ret (pe_tup (pa_cons (pe_xv (pv 1) rfl) pa_nil)))))))))), ?_⟩
  · refine ⟨fun pins s' σ H' D I h' => ?_⟩
    obtain ⟨Ech, hW, q1, q2, q3⟩ := h'
    exact PSs.run (pss_one (ps_set (i := 2) sc_law_refusal.nd rfl (Or.inl rfl) (act W pn xe Ech _ _ tk hW))) pins s' σ H' D I ⟨q1, q2, q3⟩
  · refine ⟨fun cls d H' => ∀ σ', wKeep X.K (.ref B) 3 1 4 (fun _ _ _ _ => False) _ cls d σ' H', fun cls d σ' H' e => e σ', rfl, hc, h _ _ ?_ ?_⟩
    · -- an exception
      intro dd v H' hdd hv k σ'
      refine ⟨true, R.kB, fun _ a ha hl => ?_, fun z => nomatch z⟩
      have e1 : Ex H' (upd H' a (ExcV a (.ref C) (some dd))) := Ex.new ha
      have hka : upd H' a (ExcV a (.ref C) (some dd)) a = some (ExcV a (.ref C) (some dd)) := upd_same
      have hkd := e1 _ _ hdd
      revert e1 hka hkd
      generalize upd H' a (ExcV a (.ref C) (some dd)) = H1
      intro e1 hka hkd
      have s1 : (((σ'.set 3 (some (V.ref a))).set 1 (some (V.ref a))).set 3 none)[1]? = some (some (.ref a)) := by
        rw [List.getElem?_set_ne (by decide), List.getElem?_set_self (by rw [List.length_set]; omega)]
      have kp : ∀ {H2 : Hp}, Ex H1 H2 → KeptAt H2 a C (some dd) := fun e => ⟨e _ _ hka, fun d2 h2 => by
        cases h2
        exact ⟨_, e _ _ hkd⟩⟩
      have nn : ∀ {H2 : Hp}, RV rIsA (V.ref a) V.non H2 (.bl false) := fun H1 _ _ q => .inl ⟨rfl, by
        have : decide (V.ref a = V.non) = false := decide_eq_false fun z => nomatch z
        rw [this]
        exact q H1 (Ex.refl H1)⟩
      dsimp only
      refine q_ifN (b := false) (et_test (ev_op (ev_var s1) ev_c nn)) (fun z => nomatch z) fun _ H2 e2 => ?_
      have isT : ∀ {H2 : Hp} {ta : TE} {as : List Addr} {σ : L2.St}, Ex H1 H2 → σ[1]? = some (some (.ref a)) → PySem.W.kitAny X.K (.ref C) (as.map Value.ref) = some false → EvU ta σ H2 (as.map V.ref) → Ev (tCB (rIsiX X.K) (tCons (tVar 1) (tCons ta tNil))) σ H2 (.bl false) := fun {H2 ta as σ} e hs hk hu => fun H3 e3 Q q =>
        ⟨_, hs, hu H3 e3 _ fun p H4 _ e4 hp => .inr ⟨a, C, some dd, p, as.map V.ref, as.map Value.ref, false, rfl, kp ((e.trans e3).trans e4), R.ec, hp, refs_cls as, hk, q H4 e4⟩⟩
      refine q_ifN (b := false) (et_B (isT (as := cs) e2 s1 R.k1 (by
        rw [ecs]
        exact eu_tup (ea_cons ev_c (ea_cons ev_c (ea_cons ev_c (ea_cons ev_c (ea_cons ev_c (ea_cons ev_c (ea_cons ev_c (ea_cons ev_c (ea_cons ev_c (ea_cons ev_c (ea_cons ev_c ea_nil))))))))))) (by show 11 ≤ 100000; decide)))) (fun z => nomatch z) fun _ H3 e3 => ?_
      have e13 := e2.trans e3
      refine q_ifN (b := false) (et_or (a := false) (b := false) (et_B (isT (as := ds) e13 s1 R.k2 (by
        rw [eds]
        exact eu_tup (ea_cons ev_c (ea_cons ev_c (ea_cons ev_c (ea_cons ev_c ea_nil)))) (by show 4 ≤ 100000; decide)))) fun _ => et_not (a := true) (et_B (ev_cb2 (ev_var s1) ev_c fun H4 e4 Q q => .inl ⟨a, C, some dd, .ty "ValueError", .type "ValueError", true, rfl, kp (e13.trans e4), R.ec, .ty _, R.kV, q H4 (Ex.refl _)⟩))) (fun z => nomatch z) fun _ H4 e4 => ?_
      have e14 := e13.trans e4
      have evl : ∀ {H2 : Hp} {σ : L2.St}, Ex H1 H2 → σ[1]? = some (some (.ref a)) → Ev (tXV X.K (Str.ofString "line") (tVar 1)) σ H2 v := fun {H2 σ} e hs => fun H3 e3 Q q =>
        ⟨_, hs, a, C, dd, _, v, rfl, (e.trans e3) _ _ hka, R.ec, R.nf, (e.trans e3) _ _ hkd, by simp [List.lookup], q H3 (Ex.refl _)⟩
      refine q_ifN (b := false) (et_or (a := false) (b := false) (et_not (a := true) (et_B (ev_cb2 (ev_var s1) ev_c fun H5 e5 Q q => .inl ⟨a, C, some dd, .ref C, .ref C, true, rfl, kp (e14.trans e5), R.ec, .own C, R.kC, q H5 (Ex.refl _)⟩))) fun _ => et_B (ev_cb2 (evl e14 s1) ev_c ?_)) (fun z => nomatch z) fun _ H5 e5 => ?_
      · rcases hv with rfl | ⟨i, rfl⟩
        · exact rc_isi (.base .non) (by decide +kernel) fun _ _ => .base .non
        · exact rc_isiInt (by decide +kernel)
      have e15 := e14.trans e5
      exact s_retU (eu_tup (ea_cons (evl e15 s1) ea_nil) (by show 1 ≤ 100000; decide)) fun p H6 _ e6 hp => k p H6 ((e1.trans e15).trans e6) hp
    · intro v H' k
      dsimp only
      refine q_ifN (b := true) (et_test (ev_op (ev_var rfl) ev_c fun H1 _ _ q => .inl ⟨rfl, q H1 (Ex.refl H1)⟩)) (fun _ H1 e1 => ?_) (fun z => nomatch z)
      exact s_retL (el_lst (ea_cons (ev_var rfl) ea_nil) (by show 1 ≤ 100000; decide)) fun p H2 _ e2 hp => k p H2 (e1.trans e2) hp
end K82
set_option maxRecDepth 100000
set_option maxHeartbeats 1000000
namespace K82
open PySem PySem.Spec PyProof.Rows L2 Evl MB
/-- _law_refusal, a def that gets a lambda -/
structure RefF (K : PySem.W.Frag) (mg : Str → Option Value) (C B : Addr) (cs ds : List Addr) : Prop where
  R : RefT K mg C B cs ds
  ex : ∃ (g : Addr) (cdg : Value) (oc : Value) (od : Option Addr) (kV doc pm : Value) (an : Option Addr) (ct : Value) (osl : Array (Option Value)), mg "_law_refusal" = some (.ref g) ∧ PySem.W.keepIn K (.ref g) = true ∧
    K.lookup g = some ⟨oc, od, .func (PySem.W.fnOf "_law_refusal" "_law_refusal" (defArgs s_law_refusal) (defBody s_law_refusal) (defScope s_law_refusal) .none kV doc pm an cdg ct), osl⟩ ∧ PySem.W.codeIn K cdg "_law_refusal" = true ∧
    Binds K (PySem.W.fnOf "_law_refusal" "_law_refusal" (defArgs s_law_refusal) (defBody s_law_refusal) (defScope s_law_refusal) .none kV doc pm an cdg ct) ["_law_ask"] []
/-- _law_refusal(lambda: read_tree(x, known=z)), x in slot i, z in slot i2 -/
theorem pe_refusal {X : Cx} {C B c Pt : Addr} {cs ds : List Addr} {TL : List (Addr × Str)} {i i2 j : Nat} {x z : Str} {params : Arguments} {scope : Scope} {p lpos pos q1 q2 q3 q4 q5 : Pos} {aKn aWi aOw aLi aOn aOt : Addr} (T : T0 X.K X.mg aKn aWi aOw aLi aOn aOt) (RF : RefF X.K X.mg C B cs ds)
    (k_read_tree : MB.ClN X.prog X.w X.K X.mg X.base 21 "read_tree" (sp_read_tree X.K C) 1 ["known"] (fun vs zs => vs ++ zs))
    (hg : Gl X "_law_refusal") (TB : LamX.TabB X.base X.mg c Pt) (hcode : X.env.code = .ref c) (hmT : (Pt, X.env.qual ++ "<lambda>") ∈ TL) (hu : ∀ p ∈ TL, p.1 = Pt → p.2 = X.env.qual ++ "<lambda>") (hr : Room j X.A) (hj : 23 ≤ j) (L : LamX.LamS X.env.scope scope) (hdef : defaultsOf params X.env = ([], []))
    (hbind : ∀ (q : Str) (cl : List (Str × Addr)) (pm cv ctv : Value), bindArgs (PySem.W.kla_fn "<lambda>" q params (.Call (.Name "read_tree" q1) [.Name x q2] [⟨some "known", .Name z q4, q5⟩] q3) scope cl pm cv ctv) ⟨[], []⟩ = pure [])
    (hgl : scope.names.lookup ("read_tree" : Str) = some NameKind.globalImplicit) (hx : X.N[i]? = some x) (hv : Vis scope x) (hz : X.N[i2]? = some z) (hvz : Vis scope z) (hd : (x == ("__debug__" : Str)) = false := by decide) (hcd : (x == ("__classdict__" : Str)) = false := by decide) (hdz : (z == ("__debug__" : Str)) = false := by decide) (hcz : (z == ("__classdict__" : Str)) = false := by decide) :
    PE X (.Call (.Name "_law_refusal" p) [.Lambda params (.Call (.Name "read_tree" q1) [.Name x q2] [⟨some "known", .Name z q4, q5⟩] q3) scope lpos] [] pos) (LamX.tLam TL (TTref C) fun E => tCallN 1 1 (sp_read_tree X.K C) (fun vs zs => vs ++ zs) E (tCons (tVar i) tNil) (tCons (tVar i2) tNil)) := by
  obtain ⟨g, cdg, oc, od, kV, doc, pm, an, ct, osl, gm, gk, gl, gc, gb⟩ := RF.ex
  refine LamX.pe_lamcall (k := 21) (Ng := n_law_refusal) hg gm gk gl gc gb sc_law_refusal rfl (.inl rfl) (ref_gives T RF.R) TB hcode hmT hu (hr.mono hj) L hdef hbind (fun A outer s H E f c' hr2 => ?_)
  exact pe_clN (X := LamX.lamCx X A outer s H E scope f c') k_read_tree hr2 (by decide) hgl (passes_call (W := fun cls d _ H => E cls d H) (takes_of rfl rfl rfl rfl) fun _ _ _ _ h => h) (pa_cons (pe_var hx hv hd hcd) pa_nil) (pk_cons (pe_var hz hvz hdz hcz) pk_nil)
theorem PenX.extN {H H' : Hp} {p lc : Addr} {n : Nat} {tt : Option Int} (e : LamX.ExtN H H') (h : PenX H p lc n tt) : PenX H' p lc n tt := by
  obtain ⟨cs, a, l, ⟨h1, h2, h3⟩, h4⟩ := h
  exact ⟨cs, a, l, ⟨e _ _ h1 (fun _ z => nomatch z), e _ _ h2 (fun _ z => nomatch z), h3⟩, h4⟩
theorem sqT_extN {K : PySem.W.Frag} {H H' : Hp} {a : Addr} {xs : List V} (e : LamX.ExtN H H') (h : SqT K H a xs) : SqT K H' a xs := by
  rcases h with (h | ⟨o, h⟩) | h
  · exact .inl (.inl (e _ _ h fun _ z => nomatch z))
  · exact .inl (.inr ⟨o, e _ _ h fun _ z => nomatch z⟩)
  · exact .inr h
theorem KnAt.extN {K : PySem.W.Frag} {H H' : Hp} {y : V} {kn : List Nat} (e : LamX.ExtN H H') (h : KnAt K H y kn) : KnAt K H' y kn := by
  obtain ⟨a, h1, h2, h3⟩ := h
  exact ⟨a, h1, sqT_extN e h2, h3⟩
/-! ### _law_right -/
def sp_right (K : PySem.W.Frag) (TL : List (Addr × Str)) : Sp := fun vs H Q _ => ∃ (t : List Nat) (y : V) (kn : List Nat), vs = [tv t, y] ∧ KnAt K H y kn ∧ t.length < 3500000 ∧ LamX.Tabs TL H ∧ ∀ H', LamX.ExtN H H' → LamX.Tabs TL H' → Q (.bl true) H'
section
variable {P : Program} {w : World} {K : PySem.W.Frag} {mg : Str → Option Value} {base : Heap} {aKn aWi aOw aLi aOn aOt : Addr}
theorem line_data {K : PySem.W.Frag} {H : Hp} {p : Addr} {k : Int} (h : H p = some (.tup [.int k])) : Dp K H (.ref p) (.tuple [.int k]) := .tup (st_of h) (.cons (.int k) .nil)
theorem ok_law_right {C B c Pt : Addr} {cs ds : List Addr} {TL : List (Addr × Str)} {f : Addr} {kV doc pm ct oc : Value} {an od : Option Addr} {osl : Array (Option Value)} (lk : K.lookup f = some ⟨oc, od, .func (PySem.W.fnOf "_law_right" "_law_right" (defArgs s_law_right) (defBody s_law_right) (defScope s_law_right) .none kV doc pm an (.ref c) ct), osl⟩)
    (hcd : PySem.W.codeIn K (.ref c) "_law_right" = true) (T : T0 K mg aKn aWi aOw aLi aOn aOt) (RF : RefF K mg C B cs ds) (k_read_tree : MB.ClN P w K mg base 21 "read_tree" (sp_read_tree K C) 1 ["known"] (fun vs zs => vs ++ zs)) (c_law_bad_line : MB.Cl P w K mg base 5 "_law_bad_line" (sp_bad K)) (k_show_tree : MB.ClN P w K mg base 15 "show_tree" (sp_show_tree K) 1 ["known"] (fun vs zs => vs ++ zs))
    (TB : LamX.TabB base mg c Pt) (hmT : (Pt, Str.ofString "_law_right" ++ Str.ofString ".<locals>." ++ Str.ofString "<lambda>") ∈ TL) (hu : ∀ p ∈ TL, p.1 = Pt → p.2 = Str.ofString "_law_right" ++ Str.ofString ".<locals>." ++ Str.ofString "<lambda>") :
    FnOk P w K mg base CX0 24 f (PySem.W.fnOf "_law_right" "_law_right" (defArgs s_law_right) (defBody s_law_right) (defScope s_law_right) .none kV doc pm an (.ref c) ct) p_law_right (sp_right K TL) := by
  refine fn_of lk hcd sc_law_right (fun vs H Q E h => ?_) (fun A outer s H vs Q E hr h => ?_)
  · obtain ⟨t, y, kn, rfl, _⟩ := h
    rfl
  · obtain ⟨t, y, kn, rfl, hy, ht, hT, k⟩ := h
    have hu64 := hu64 hr
    refine ⟨_, (pss_cons (ps_set (i := 2) sc_law_right.nd rfl (Or.inl rfl) (MB.pe_cl c_law_bad_line hr (by decide) (by rfl) passL (pa_cons (pv 0) (pa_cons (pv 1) pa_nil))))
      (pss_cons (ps_set (i := 3) sc_law_right.nd rfl (Or.inl rfl) (pe_refusal (i := 0) (i2 := 1) T RF k_read_tree (by rfl) TB rfl hmT hu hr (by decide) (LamX.lamS_by (show LamX.lamSB (defScope s_law_right) _ = true by decide +kernel)) rfl (fun _ _ _ _ _ => rfl) (by rfl) (by rfl) (by first | exact .inr (.inl rfl) | exact .inr (.inr rfl)) (by rfl) (by first | exact .inr (.inl rfl) | exact .inr (.inr rfl))))
      (pss_cons (ps_if (pt_cmpR op_ge (pv 2) pe_int (nomark _)) (pss_one (ps_ret (pe_cmpR (MB.op_eqK (K := K) rfl hu64) (pv 3) (pe_tup (pa_cons (pv 2) pa_nil)) (nomark _)))) pss_nil)
      (pss_one (ps_ret (pe_and (pe_cmpR (MB.op_eqK (K := K) rfl hu64) (pe_callB (MB.call_lenK (K := K) rfl) (by rfl) T.n_len MB.bo_len (pa_cons (pv 3) pa_nil)) pe_int (nomark _)) (pe_and (pe_callB (MB.call_isiK (K := K) rfl) (by rfl) T.n_isinstance MB.bo_isinstance (pa_cons (pv 3) (pa_cons (pe_bltn (v := .ty "list") (by rfl) T.n_list MB.bo_list rfl) pa_nil))) (pe_one (pe_cmpR (MB.op_eqK (K := K) rfl hu64) (MB.pe_clN k_show_tree hr (by decide) (by rfl) passL (pa_cons (pe_ix (MB.ix_K (K := K) rfl) (pv 3) pe_int (fun _ _ => rfl)) pa_nil) (pk_cons (pv 1) pk_nil)) (pv 0) (nomark _)))))))))), ?_⟩
    refine q_asg (v := .int (badI kn t)) (ev_call (ea_cons (ev_var rfl) (ea_cons (ev_var rfl) ea_nil)) fun H1 e Q q E => ⟨t, y, kn, rfl, hy.ex e, ht, q⟩) fun H1 e1 => ?_
    refine ⟨hT.ext e1, fun H2 n2 hT2 => ?_⟩
    have hy2 := KnAt.extN n2 (hy.ex e1)
    have fin : ∀ {H' : Hp}, Ex H2 H' → Q (.bl true) H' := fun e => k _ (((LamX.ExtN.of e1).trans n2).trans (LamX.ExtN.of e)) (hT2.ext e)
    intro E' Q' hE hQ
    refine (ea_cons (ev_var rfl) ea_nil : EvA _ _ H2 _) H2 (Ex.refl _) _ fun H2b e2b => (ea_cons (ev_var rfl) ea_nil : EvA _ _ H2b _) H2b (Ex.refl _) _ fun H3 e3b => ⟨rfl, rfl, ?_⟩
    have e3 := e2b.trans e3b
    refine ⟨_, _, rfl, .inl ⟨t, kn, rfl, ht, hy2.ex e3, ?_⟩⟩
    rcases bad_read kn t with ⟨n, hb, _, hrd⟩ | ⟨hb, o, c, hrd, htx, ho, g⟩
    · have hbI : badI kn t = (n : Int) := by unfold badI; rw [hb]
      rw [hrd]
      intro d H4 e4 hd4 hx
      refine hE d _ H4 hx (.inr ⟨_, rfl⟩) fun p H5 e5 hp => ?_
      rw [hbI]
      refine q_ifN (b := decide ((0 : Int) ≤ (n : Int))) (et_test (ev_op (ev_var rfl) ev_c rv_I0)) (fun _ H6 e6 => ?_) fun hf => absurd hf (by simp)
      refine s_ret (ev_is (ev_opU (xs := [.int (n : Int)]) (ev_var rfl) (eu_tup (ea_cons (ev_var rfl) ea_nil) (by show 1 ≤ 100000; decide)) fun q H7 hq e7 => rv_eqD (line_data (e7 _ _ (e6 _ _ hp))) (line_data hq)) ?_) fun H7 e7 => fin ((((e3.trans e4).trans e5).trans e6).trans e7)
      show V.bl ((((n : Int) == (n : Int)) && true)) = V.bl true
      simp
    · have hbI : badI kn t = -1 := by unfold badI; rw [hb]
      have hmu : mu (lTree o c) < 3500000 := by rw [← txt_len, ← htx]; exact ht
      have hmu2 : mu (lCh 4 c) ≤ 3600000 := by
        unfold lTree at hmu
        rw [mu_cons] at hmu
        omega
      rw [hrd]
      intro v H4 e4 hdv
      refine hQ _ H4 fun l H5 e5 hl => ?_
      rw [hbI]
      refine q_ifN (b := false) (et_test (ev_is (ev_op (ev_var rfl) ev_c rv_I0) (w := .bl false) rfl)) (fun z => nomatch z) fun _ H6 e6 => ?_
      have hl6 := e6 _ _ hl
      have hdv6 := dp_ex (e5.trans e6) _ _ hdv
      have hy6 := hy2.ex (((e3.trans e4).trans e5).trans e6)
      refine s_ret (v := .bl true) (ev_is (ev_andV (a := true) (b := true) (ev_is (ev_op (ev_cb1 (ev_var rfl) (rc_lenL (sq_of hl6))) ev_c rv_eqI) rfl) fun _ => ev_is (ev_andV (a := true) (b := true) (ev_cb2 (ev_var rfl) ev_c (rc_isi (.base (.lst hl6)) (by decide +kernel) fun _ e => .base (.lst (e _ _ hl6)))) fun _ =>
        ev_is (ev_op (x := tv (txt (lTree o c))) (y := tv t) (ev_showN (ev_op (ev_var rfl) ev_c (rv_xL (sq_of hl6) rfl)) (ev_var rfl) hdv6 hy6 g (by have := order_len ho; omega) hmu2) (ev_var rfl) rv_eqC) (congrArg V.bl (by rw [← htx]; exact decide_eq_true rfl))) rfl) rfl) fun H7 e7 => fin ((((e3.trans e4).trans e5).trans e6).trans e7)
end
end K82
set_option maxRecDepth 100000
set_option maxHeartbeats 1000000
namespace K82
open PySem PySem.Spec PyProof.Rows L2 Evl MB
theorem ex_but {H H1 H2 : Hp} {p : Addr} (e : Ex H H1) (b : But p H1 H2) (hn : H p = none) : Ex H H2 := fun a o ha => b a o (ne_of_none ha hn) (e a o ha)
section
variable {P : Program} {w : World} {K : PySem.W.Frag} {mg : Str → Option Value} {base : Heap} {aKn aWi aOw aLi aOn aOt : Addr}
theorem ev_plus {σ : L2.St} {H : Hp} {te : TE} {k m : Nat} (h : Ev te σ H (iv m)) : Ev (tOp (rAddA K) (tC (.int (k : Int))) te) σ H (iv (k + m)) := ev_is (ev_op ev_c h rv_addI) (congrArg V.int (by omega))
/-! ### _law_bounds -/
def sp_bounds : Sp := fun vs H Q _ => ∃ r : Nat, vs = [iv r] ∧ r ≤ 1 ∧ ∀ p H', Ex H H' → LZ H' p 40 40300 → Q (.ref p) H'
theorem ok_law_bounds {f : Addr} {fd : FuncData} (F : Fun K "_law_bounds" "_law_bounds" s_law_bounds f fd) (T : T0 K mg aKn aWi aOw aLi aOn aOt) : FnOk P w K mg base CX0 1 f fd p_law_bounds sp_bounds := by
  refine F.ok sc_law_bounds (fun vs H Q E h => ?_) (fun cdv A outer s H vs Q E hr h => ?_)
  · obtain ⟨r, rfl, _⟩ := h
    rfl
  · obtain ⟨r, rfl, hr1, k⟩ := h
    refine ⟨_, (pss_cons (ps_set (i := 1) sc_law_bounds.nd rfl (Or.inl rfl) (pe_op (MB.op_addK (K := K) rfl) pe_int (pv 0)))
      (pss_cons (ps_set (i := 2) sc_law_bounds.nd rfl (Or.inl rfl) (pe_lst (pa_cons (pe_op (MB.op_addK (K := K) rfl) (pe_op (MB.op_addK (K := K) rfl) pe_str (MB.pe_joinK (K := K) rfl pe_str (pe_lc (own := [("_law_k", 3)]) (by rfl) sc_law_bounds.nd (pi_range1 (by rfl) T.n_range (pa_cons (pe_op (MB.op_addK (K := K) rfl) pe_int (pv 1)) pa_nil)) (blkOk_by (own := [("_law_k", 3)]) (N := n_law_bounds) (sc := defScope s_law_bounds) (by decide +kernel)) (fun _ _ _ _ _ => (pg_name (i := 3) sc_law_bounds.nd rfl (.inl rfl))) (fun _ _ _ _ _ => pts_nil) (fun _ _ _ _ _ => (pe_op (MB.op_addK (K := K) rfl) (pe_op (MB.op_addK (K := K) rfl) pe_str (pe_callTy MB.call_strA (by rfl) T.n_str MB.bo_str (pa_cons (pv 3) pa_nil))) pe_str))))) pe_str) pa_nil)))
      (pss_cons (ps_expr (pe_bm PySem.F.plainAttrs_list PySem.F.slot_list_append PySem.F.type_list_append mt_append (pv 2) (pa_cons (pe_op (MB.op_mulK (K := K) rfl) pe_str (pe_op (MB.op_addK (K := K) rfl) pe_int (pv 1))) pa_nil)))
      (pss_cons (ps_set (i := 4) sc_law_bounds.nd rfl (Or.inl rfl) pe_str)
      (pss_cons (ps_for PassesOwn.never rfl (pi_range1 (by rfl) T.n_range (pa_cons (pe_op (MB.op_addK (K := K) rfl) pe_int (pv 1)) pa_nil)) (pg_name (i := 3) sc_law_bounds.nd rfl (.inl rfl))
      (pss_one (ps_set (i := 4) sc_law_bounds.nd rfl (Or.inl rfl) (pe_op (MB.op_addK (K := K) rfl) (pe_op (MB.op_addK (K := K) rfl) pe_str (pv 4)) pe_str))))
      (pss_cons (ps_expr (pe_bm PySem.F.plainAttrs_list PySem.F.slot_list_append PySem.F.type_list_append mt_append (pv 2) (pa_cons (pv 4) pa_nil)))
      (pss_cons (ps_set (i := 5) sc_law_bounds.nd rfl (Or.inl rfl) (pe_lst (pa_cons (pe_op (MB.op_addK (K := K) rfl) pe_str (pe_op (MB.op_mulK (K := K) rfl) pe_str (pe_op (MB.op_addK (K := K) rfl) pe_int (pv 1)))) (pa_cons (pe_op (MB.op_addK (K := K) rfl) pe_str (pe_op (MB.op_mulK (K := K) rfl) pe_str (pe_op (MB.op_addK (K := K) rfl) pe_int (pv 1)))) (pa_cons (pe_op (MB.op_addK (K := K) rfl) pe_str (pe_op (MB.op_mulK (K := K) rfl) pe_str (pe_op (MB.op_addK (K := K) rfl) pe_int (pv 1)))) pa_nil)))))
      (pss_cons (ps_set (i := 5) sc_law_bounds.nd rfl (Or.inl rfl) (pe_op (MB.op_addK (K := K) rfl) (pv 5) (pe_lst (pa_cons (pe_op (MB.op_addK (K := K) rfl) (pe_op (MB.op_addK (K := K) rfl) pe_str (pe_op (MB.op_mulK (K := K) rfl) pe_str (pe_op (MB.op_addK (K := K) rfl) pe_int (pv 1)))) pe_str) (pa_cons (pe_op (MB.op_addK (K := K) rfl) (pe_op (MB.op_addK (K := K) rfl) pe_str (pe_op (MB.op_mulK (K := K) rfl) pe_str (pe_op (MB.op_addK (K := K) rfl) pe_int (pv 1)))) pe_str) pa_nil)))))
      (pss_cons (ps_set (i := 5) sc_law_bounds.nd rfl (Or.inl rfl) (pe_op (MB.op_addK (K := K) rfl) (pv 5) (pe_lst (pa_cons (pe_op (MB.op_addK (K := K) rfl) (pe_op (MB.op_addK (K := K) rfl) pe_str (pe_op (MB.op_mulK (K := K) rfl) pe_str (pe_op (MB.op_addK (K := K) rfl) pe_int (pv 1)))) pe_str) (pa_cons (pe_op (MB.op_addK (K := K) rfl) (pe_op (MB.op_addK (K := K) rfl) pe_str (pe_callTy MB.call_strA (by rfl) T.n_str MB.bo_str (pa_cons (pe_op (MB.op_addK (K := K) rfl) pe_int (pv 1)) pa_nil))) pe_str) pa_nil)))))
      (pss_cons (ps_set (i := 5) sc_law_bounds.nd rfl (Or.inl rfl) (pe_op (MB.op_addK (K := K) rfl) (pv 5) (pe_lst (pa_cons (pe_op (MB.op_addK (K := K) rfl) pe_str (pe_callTy MB.call_strA (by rfl) T.n_str MB.bo_str (pa_cons (pe_op (MB.op_addK (K := K) rfl) pe_int (pv 1)) pa_nil))) (pa_cons (pe_op (MB.op_addK (K := K) rfl) pe_str (pe_callTy MB.call_strA (by rfl) T.n_str MB.bo_str (pa_cons (pe_op (MB.op_addK (K := K) rfl) pe_int (pv 1)) pa_nil))) (pa_cons (pe_op (MB.op_addK (K := K) rfl) pe_str (pe_callTy MB.call_strA (by rfl) T.n_str MB.bo_str (pa_cons (pe_op (MB.op_addK (K := K) rfl) pe_int (pv 1)) pa_nil))) pa_nil))))))
      (pss_cons (ps_set (i := 5) sc_law_bounds.nd rfl (Or.inl rfl) (pe_op (MB.op_addK (K := K) rfl) (pv 5) (pe_lst (pa_cons (pe_op (MB.op_addK (K := K) rfl) pe_str (pe_callTy MB.call_strA (by rfl) T.n_str MB.bo_str (pa_cons (pe_op (MB.op_addK (K := K) rfl) pe_int (pv 1)) pa_nil))) (pa_cons (pe_op (MB.op_addK (K := K) rfl) (pe_op (MB.op_addK (K := K) rfl) pe_str (pe_callTy MB.call_strA (by rfl) T.n_str MB.bo_str (pa_cons (pe_op (MB.op_addK (K := K) rfl) pe_int (pv 1)) pa_nil))) pe_str) pa_nil)))))
      (pss_cons (ps_set (i := 5) sc_law_bounds.nd rfl (Or.inl rfl) (pe_op (MB.op_addK (K := K) rfl) (pv 5) (pe_lst (pa_cons pe_str (pa_cons pe_str (pa_cons pe_str (pa_cons pe_str (pa_cons pe_str (pa_cons pe_str (pa_cons pe_str pa_nil))))))))))
      (pss_cons (ps_expr (pe_bm PySem.F.plainAttrs_list PySem.F.slot_list_append PySem.F.type_list_append mt_append (pv 5) (pa_cons (pe_op (MB.op_addK (K := K) rfl) (pe_op (MB.op_addK (K := K) rfl) pe_str (pe_op (MB.op_mulK (K := K) rfl) pe_str (pe_op (MB.op_addK (K := K) rfl) pe_int (pv 1)))) pe_str) pa_nil)))
      (pss_cons (ps_set (i := 6) sc_law_bounds.nd rfl (Or.inl rfl) (MB.pe_joinK (K := K) rfl pe_str (pe_lc (own := [("_law_k", 3)]) (by rfl) sc_law_bounds.nd (pi_range1 (by rfl) T.n_range (pa_cons (pe_op (MB.op_addK (K := K) rfl) pe_int (pv 1)) pa_nil)) (blkOk_by (own := [("_law_k", 3)]) (N := n_law_bounds) (sc := defScope s_law_bounds) (by decide +kernel)) (fun _ _ _ _ _ => (pg_name (i := 3) sc_law_bounds.nd rfl (.inl rfl))) (fun _ _ _ _ _ => pts_nil) (fun _ _ _ _ _ => (pe_op (MB.op_addK (K := K) rfl) (pe_op (MB.op_addK (K := K) rfl) pe_str (pe_callTy MB.call_strA (by rfl) T.n_str MB.bo_str (pa_cons (pv 3) pa_nil))) pe_str)))))
      (pss_cons (ps_set (i := 5) sc_law_bounds.nd rfl (Or.inl rfl) (pe_op (MB.op_addK (K := K) rfl) (pv 5) (pe_lst (pa_cons (pe_op (MB.op_addK (K := K) rfl) (pe_op (MB.op_addK (K := K) rfl) pe_str (pv 6)) pe_str) (pa_cons pe_str (pa_cons pe_str (pa_cons pe_str pa_nil)))))))
      (pss_cons (ps_set (i := 5) sc_law_bounds.nd rfl (Or.inl rfl) (pe_op (MB.op_addK (K := K) rfl) (pv 5) (pe_lst (pa_cons pe_str (pa_cons pe_str (pa_cons pe_str (pa_cons pe_str (pa_cons pe_str (pa_cons pe_str pa_nil)))))))))
      (pss_one (ps_ret (pe_lc (own := [("_law_one", 7)]) (by rfl) sc_law_bounds.nd (MB.pi_listK (K := K) rfl (pe_op (MB.op_addK (K := K) rfl) (pv 2) (pe_lc (own := [("_law_one", 7)]) (by rfl) sc_law_bounds.nd (MB.pi_listK (K := K) rfl (pv 5)) (blkOk_by (own := [("_law_one", 7)]) (N := n_law_bounds) (sc := defScope s_law_bounds) (by decide +kernel)) (fun _ _ _ _ _ => (pg_name (i := 7) sc_law_bounds.nd rfl (.inl rfl))) (fun _ _ _ _ _ => pts_nil) (fun _ _ _ _ _ => (pe_op (MB.op_addK (K := K) rfl) (pe_op (MB.op_addK (K := K) rfl) pe_str (pv 7)) pe_str))))) (blkOk_by (own := [("_law_one", 7)]) (N := n_law_bounds) (sc := defScope s_law_bounds) (by decide +kernel)) (fun _ _ _ _ _ => (pg_name (i := 7) sc_law_bounds.nd rfl (.inl rfl))) (fun _ _ _ _ _ => pts_nil) (fun _ _ _ _ _ => (pe_op (MB.op_addK (K := K) rfl) pe_str (pv 7)))))))))))))))))))))), ?_⟩
    have c : ∀ {σ : L2.St} {H : Hp} {z : String} (h : (Str.ofString z).length ≤ 100 := by decide +kernel), EvZ (tC (.str (Str.ofString z))) σ H 100 := fun h => evz_c h
    have mul : ∀ {σ : L2.St} {H : Hp} {te : TE} {a j : Nat} (n : Nat), σ[1]? = some (some (iv (1 + r))) → EvZ te σ H a → j + (1 + r) ≤ n → n ≤ 1000 → a * n ≤ 8000000 → EvZ (tOp (rMulB K) te (tOp (rAddA K) (tC (.int (j : Int))) (tVar 1))) σ H (a * n) := fun n h1 hz hj hn hm => evz_mulV hz (ev_plus (ev_var h1)) (by omega) (by omega) hn hm
    have str : ∀ {σ : L2.St} {H : Hp} {j : Nat}, σ[1]? = some (some (iv (1 + r))) → j < 999999999998 → EvZ (tCB rStrA (tCons (tOp (rAddA K) (tC (.int (j : Int))) (tVar 1)) tNil)) σ H 12 := fun h1 hj => evz_str (ev_plus (ev_var h1)) (by omega)
    refine q_asg (v := iv (1 + r)) (ev_plus (k := 1) (ev_var rfl)) fun H1 e1 => ?_
    refine q_asgLZ (elz_lst (n := 1) (b := 40000) (eaz_cons (evz_add (evz_add c (evz_joinR (n := 41) (b := 212) (ea_cons (ev_plus (k := 39) (ev_var rfl)) ea_nil) (by omega) (by omega) (by decide) (by decide) (fun _ => by rfl) fun d hd => (evz_add (evz_add c (evz_str (ev_var rfl) (by omega)) (by decide)) c (by decide))) (by decide)) c (by decide)) eaz_nil)) fun pf H2 hpf e2 z2 => ?_
    have x2 := e1.trans e2
    have npf : H pf = none := fresh_back e1 hpf
    refine q_appZ rfl z2 (EvZ.le (mul (j := 9) 11 rfl c (by omega) (by decide) (by decide))) (by decide) fun H3 z3 b3 => ?_
    have x3 := ex_but x2 b3 npf
    refine q_asgZ' (b := 100) c fun dp H4 hdp e4 => ?_
    refine q_forR1 (n := 2 + (1 + r)) (ea_cons (ev_plus (k := 2) (ev_var rfl)) ea_nil) (by omega) (fun i σ' H' => ∃ (z : Str) (v3 : Option V), σ' = [some (iv r), some (iv (1 + r)), some (.ref pf), v3, some (.str z), none, none, none] ∧ z.length ≤ 100 + 200 * i ∧ Ex H4 H') (fun H5 e5 => ⟨dp, none, rfl, by omega, e5⟩) (fun i σ' H5 hi h => ?_) fun σ' H5 h => ?_
    · obtain ⟨z, v3, rfl, hz, e5⟩ := h
      obtain ⟨z', l', e'⟩ : EvZ (tOp (rAddA K) (tOp (rAddA K) (tC (.str (Str.ofString "table\nchains 7\nchain\n"))) (tVar 4)) (tC (.str (Str.ofString "done\nend\nend\n")))) [some (iv r), some (iv (1 + r)), some (.ref pf), some (.int (i : Int)), some (.str z), none, none, none] H5 (100 + (100 + 200 * i) + 100) := evz_add (evz_add c (evz_var rfl hz) (by omega)) c (by omega)
      exact s_asg e' fun H6 e6 => ⟨z', _, rfl, by omega, e5.trans e6⟩
    obtain ⟨dz, v3, rfl, hdz, e5⟩ := h
    have x5 := (x3.trans e4).trans e5
    refine q_appZ rfl (z3.mono (e4.trans e5)) (EvZ.le (evz_var (b := 1100) rfl (by omega))) (by decide) fun H6 z6 b6 => ?_
    have x6 := ex_but x5 b6 npf
    refine q_asgLZ (elz_lst (n := 3) (b := 40000) (eaz_cons (evz_add c (mul (j := 299) 301 rfl c (by omega) (by decide) (by decide)) (by decide)) (eaz_cons (evz_add c (mul (j := 299) 301 rfl c (by omega) (by decide) (by decide)) (by decide)) (eaz_cons (evz_add c (mul (j := 299) 301 rfl c (by omega) (by decide) (by decide)) (by decide)) eaz_nil)))) fun s0 H7 hs0 e7 y7 => ?_
    refine q_asgLZ (elz_catV (ev_var rfl) y7 (elz_lst (n := 2) (b := 40000) (eaz_cons (evz_add (evz_add c (mul (j := 299) 301 rfl c (by omega) (by decide) (by decide)) (by decide)) c (by decide)) (eaz_cons (evz_add (evz_add c (mul (j := 299) 301 rfl c (by omega) (by decide) (by decide)) (by decide)) c (by decide)) eaz_nil)))) fun s7 H8 hs7 e8 y8 => ?_
    refine q_asgLZ (elz_catV (ev_var rfl) y8 (elz_lst (n := 2) (b := 40000) (eaz_cons (evz_add (evz_add c (mul (j := 299) 301 rfl c (by omega) (by decide) (by decide)) (by decide)) c (by decide)) (eaz_cons (evz_add (evz_add c (str (j := 65534) rfl (by decide)) (by decide)) c (by decide)) eaz_nil)))) fun s8 H9 hs8 e9 y9 => ?_
    refine q_asgLZ (elz_catV (ev_var rfl) y9 (elz_lst (n := 3) (b := 40000) (eaz_cons (evz_add c (str (j := 65534) rfl (by decide)) (by decide)) (eaz_cons (evz_add c (str (j := 254) rfl (by decide)) (by decide)) (eaz_cons (evz_add c (str (j := 65534) rfl (by decide)) (by decide)) eaz_nil))))) fun s9 H10 hs9 e10 y10 => ?_
    refine q_asgLZ (elz_catV (ev_var rfl) y10 (elz_lst (n := 2) (b := 40000) (eaz_cons (evz_add c (str (j := 4294967294) rfl (by decide)) (by decide)) (eaz_cons (evz_add (evz_add c (str (j := 254) rfl (by decide)) (by decide)) c (by decide)) eaz_nil)))) fun s10 H11 hs10 e11 y11 => ?_
    refine q_asgLZ (elz_catV (ev_var rfl) y11 (elz_lst (n := 7) (b := 40000) (eaz_cons c (eaz_cons c (eaz_cons c (eaz_cons c (eaz_cons c (eaz_cons c (eaz_cons c eaz_nil))))))))) fun s11 H12 hs11 e12 y12 => ?_
    have x12 := (((((x6.trans e7).trans e8).trans e9).trans e10).trans e11).trans e12
    have f12 := z6.mono (((((e7.trans e8).trans e9).trans e10).trans e11).trans e12)
    have ns : H s11 = none := fresh_back (((((x6.trans e7).trans e8).trans e9).trans e10).trans e11) hs11
    refine q_appZ rfl y12 (EvZ.le (evz_add (evz_add c (mul (j := 9) 11 rfl c (by omega) (by decide) (by decide)) (by decide)) c (by decide))) (by decide) fun H13 y13 b13 => ?_
    have x13 := ex_but x12 b13 ns
    have f13 := f12.but b13 fun z => (z6.mono ((((e7.trans e8).trans e9).trans e10).trans e11)).not_none (z ▸ hs11)
    refine q_asgZ' (b := 8692) (evz_joinR (n := 41) (b := 212) (ea_cons (ev_plus (k := 39) (ev_var rfl)) ea_nil) (by omega) (by omega) (by decide) (by decide) (fun _ => by rfl) fun d hd => (evz_add (evz_add c (evz_str (ev_var rfl) (by omega)) (by decide)) c (by decide))) fun row H14 hrow e14 => ?_
    have y14 := y13.mono e14
    refine q_asgLZ (elz_catV (ev_var rfl) y14 (elz_lst (n := 4) (b := 40000) (eaz_cons (evz_add (evz_add c (evz_var rfl hrow) (by decide)) c (by decide)) (eaz_cons c (eaz_cons c (eaz_cons c eaz_nil)))))) fun s14 H15 hs14 e15 y15 => ?_
    refine q_asgLZ (elz_catV (ev_var rfl) y15 (elz_lst (n := 6) (b := 40000) (eaz_cons c (eaz_cons c (eaz_cons c (eaz_cons c (eaz_cons c (eaz_cons c eaz_nil)))))))) fun s15 H16 hs15 e16 y16 => ?_
    have f16 := f13.mono ((e14.trans e15).trans e16)
    refine s_retLZ (elz_lc (a := 40200) (b := 40300) (elz_catV (b := 40200) (ev_var rfl) (f16.le (Nat.le_refl _) (by decide)) (elz_lcV (a := 40000) (b := 40200) (ev_var rfl) y16 (by decide) (fun _ => by rfl) fun z hz => evz_add (evz_add c (evz_var (b := 40000) rfl hz) (by decide)) c (by decide))) (by decide) (fun _ => by rfl) fun z hz => evz_add (a := 100) (b := 40200) c (evz_var rfl hz) (by decide)) fun q H17 hq e17 z17 => ?_
    exact k q H17 ((((x13.trans e14).trans e15).trans e16).trans e17) (z17.le (by decide) (Nat.le_refl _))
end
end K82
set_option maxRecDepth 100000
set_option maxHeartbeats 2000000
namespace K82
open PySem PySem.Spec PyProof.Rows L2 Evl MB
/-- all that the law's def asks of what it calls -/
structure Calls (P : Program) (w : World) (K : PySem.W.Frag) (mg : Str → Option Value) (base : Heap) (C : Addr) (TL : List (Addr × Str)) : Prop where
  pen : MB.Cl P w K mg base 1 "_law_pen" (spPenX K)
  draw : MB.Cl P w K mg base 1 "_law_draw" spDrawX
  known : MB.Cl P w K mg base 2 "_law_kinds_known" (sp_known K)
  kinds : MB.Cl P w K mg base 2 "_law_some_kinds" sp_kinds
  tree : MB.Cl P w K mg base 16 "_law_tree" (sp_tree K)
  rawed : MB.Cl P w K mg base 6 "_law_rawed" (sp_rawed K 4)
  show_ : MB.ClN P w K mg base 15 "show_tree" (sp_show_tree K) 1 ["known"] (fun vs zs => vs ++ zs)
  read : MB.ClN P w K mg base 21 "read_tree" (sp_read_tree K C) 1 ["known"] (fun vs zs => vs ++ zs)
  bent : MB.Cl P w K mg base 3 "_law_bent" (spBentLX fB)
  bounds : MB.Cl P w K mg base 1 "_law_bounds" sp_bounds
  right : MB.Cl P w K mg base 24 "_law_right" (sp_right K TL)
theorem tabs_butX {TL : List (Addr × Str)} {H H' : Hp} {p lc : Addr} {n : Nat} {tt : Option Int} (hp : PenX H p lc n tt) (e : But p H H') (t : LamX.Tabs TL H) : LamX.Tabs TL H' := fun x hx => by
  obtain ⟨kvs, hd⟩ := hp.dict
  obtain ⟨ps, h1, h2, h3⟩ := t x hx
  refine ⟨ps, e _ _ (fun z => ?_) h1, h2, fun pos cv hc => ?_⟩
  · rw [z, hd] at h1
    cases h1
  · obtain ⟨c, hc1, hc2⟩ := h3 pos cv hc
    refine ⟨c, hc1, e _ _ (fun z => ?_) hc2⟩
    rw [z, hd] at hc2
    cases hc2
section
variable {K : PySem.W.Frag} {TL : List (Addr × Str)} {H H' : Hp} {y v : V} {kn : List Nat} {d : PyData} {q1 p lc : Addr} {us : List V} {n : Nat} {tt : Option Int}
theorem KnAt.butX (h : KnAt K H y kn) (hp : PenX H p lc n tt) (e : But p H H') : KnAt K H' y kn := by
  obtain ⟨a, h1, h2, h3⟩ := h
  exact ⟨a, h1, but_t (NoTup.pen hp) e h2, h3⟩
mutual
theorem dp_extN (e : LamX.ExtN H H') : ∀ (d : PyData) (v : V), tupd d = true → Dp K H v d → Dp K H' v d
  | .none, _, _, h => by cases h; exact .non
  | .bool b, _, _, h => by cases h; exact .bl b
  | .int i, _, _, h => by cases h; exact .int i
  | .str x, _, _, h => by cases h; exact .str x
  | .list ds, _, t, _ => by cases t
  | .tuple ds, _, t, h => by
    cases h with
    | tup q b => exact .tup (sqT_extN e q) (dpAll_extN e ds _ t b)
  | .dict _, _, _, h => by cases h
theorem dpAll_extN (e : LamX.ExtN H H') : ∀ (ds : List PyData) (vs : List V), tupdAll ds = true → DpAll K H vs ds → DpAll K H' vs ds
  | [], _, _, h => by cases h; exact .nil
  | d :: ds, _, t, h => by
    rw [tupdAll, Bool.and_eq_true] at t
    cases h with
    | cons h1 h2 => exact .cons (dp_extN e d _ t.1 h1) (dpAll_extN e ds _ t.2 h2)
end
theorem tupd_tree (o : List Nat) (c : Ch 4) : tupd (dTree o c) = true := by
  show (tupd (PyData.str (SX.S o)) && (tupd (dCh 4 c) && true)) = true
  rw [tupd_ch]
  rfl
/-- what the law holds all the way -/
structure Keep (K : PySem.W.Frag) (TL : List (Addr × Str)) (H : Hp) (y : V) (kn : List Nat) (q1 : Addr) (us : List V) (d : PyData) : Prop where
  ky : KnAt K H y kn
  tu : H q1 = some (.tup us)
  dv : Dp K H (.ref q1) d
  td : tupd d = true
  tb : LamX.Tabs TL H
theorem Keep.ex (h : Keep K TL H y kn q1 us d) (e : Ex H H') : Keep K TL H' y kn q1 us d := ⟨h.ky.ex e, e _ _ h.tu, dp_ex e _ _ h.dv, h.td, h.tb.ext e⟩
theorem Keep.but (h : Keep K TL H y kn q1 us d) (hp : PenX H p lc n tt) (e : But p H H') : Keep K TL H' y kn q1 us d := ⟨h.ky.butX hp e, e _ _ (hp.neT h.tu) h.tu, dp_but (NoTup.pen hp) e _ _ h.td h.dv, h.td, tabs_butX hp e h.tb⟩
theorem Keep.extN (h : Keep K TL H y kn q1 us d) (e : LamX.ExtN H H') (ht : LamX.Tabs TL H') : Keep K TL H' y kn q1 us d := ⟨KnAt.extN e h.ky, e _ _ h.tu (fun _ z => nomatch z), dp_extN e _ _ h.td h.dv, h.td, ht⟩
def Thing (H : Hp) (x : V) : Prop := x = .non ∨ (∃ b, x = .bl b) ∨ (∃ i, x = .int i) ∨ (∃ a xs, x = .ref a ∧ H a = some (.lst xs)) ∨ (∃ a xs, x = .ref a ∧ H a = some (.tup xs)) ∨ ∃ a kvs, x = .ref a ∧ H a = some (.dK kvs)
theorem Thing.ext {x : V} (e : LamX.ExtN H H') (h : Thing H x) : Thing H' x := by
  rcases h with h | h | h | ⟨a, xs, h, g⟩ | ⟨a, xs, h, g⟩ | ⟨a, xs, h, g⟩
  · exact .inl h
  · exact .inr (.inl h)
  · exact .inr (.inr (.inl h))
  · exact .inr (.inr (.inr (.inl ⟨a, xs, h, e _ _ g fun _ z => nomatch z⟩)))
  · exact .inr (.inr (.inr (.inr (.inl ⟨a, xs, h, e _ _ g fun _ z => nomatch z⟩))))
  · exact .inr (.inr (.inr (.inr (.inr ⟨a, xs, h, e _ _ g fun _ z => nomatch z⟩))))
theorem Thing.not {x : V} (h : Thing H x) : NotStr K H x := fun H' e => by
  rcases h with rfl | ⟨b, rfl⟩ | ⟨i, rfl⟩ | ⟨a, xs, rfl, g⟩ | ⟨a, xs, rfl, g⟩ | ⟨a, xs, rfl, g⟩
  · exact ⟨_, .base .non, by decide +kernel⟩
  · exact ⟨_, .base (.bl b), by decide +kernel⟩
  · exact ⟨_, .base (.int i), by decide +kernel⟩
  · exact ⟨_, .base (.lst (e _ _ g)), by decide +kernel⟩
  · exact ⟨_, .base (.tup (e _ _ g)), by decide +kernel⟩
  · exact ⟨_, .base (.dK (e _ _ g)), by decide +kernel⟩
end
section
variable {P : Program} {w : World} {K : PySem.W.Frag} {mg : Str → Option Value} {base : Heap} {aKn aWi aOw aLi aOn aOt : Addr}
theorem law_body {C B c Pt : Addr} {cs ds : List Addr} {TL : List (Addr × Str)} {f : Addr} {A : Around} {outer : List Env} {s : Shared} {H : Hp} {Q : VK} {E : XK} {a : Addr} {script : List Int} (hgA : A.guards = some []) (hr : Room 24 (A.deeper (envOfC "law" (defScope s_law) s.heap.objs.size f (.ref c))))
    (T : T0 K mg aKn aWi aOw aLi aOn aOt) (RF : RefF K mg C B cs ds) (cl : Calls P w K mg base C TL) (TB : LamX.TabB base mg c Pt) (hmT : (Pt, Str.ofString "law" ++ Str.ofString ".<locals>." ++ Str.ofString "<lambda>") ∈ TL) (hu : ∀ p ∈ TL, p.1 = Pt → p.2 = Str.ofString "law" ++ Str.ofString ".<locals>." ++ Str.ofString "<lambda>")
    (ha : SqL K H a (script.map V.int)) (hT : LamX.Tabs TL H) (k : ∀ H', Q (.bl true) H') :
    ∃ t, PSs (cxOf CX0 P w K mg base n_law "law" (defScope s_law) f (.ref c) A outer s H E).nox (defBody s_law) t ∧ t { nx := fun _ H' => Q .non H', rt := Q } (L2.start n_law [.ref a]) H := by
  have hu64 := hu64 hr
  have hgd : (A.deeper (envOfC "law" (defScope s_law) s.heap.objs.size f (.ref c))).guards = some [] := hgA
  have hu2 := hu64
  have c_law_pen := cl.pen
  have c_law_draw := cl.draw
  have c_law_kinds_known := cl.known
  have c_law_some_kinds := cl.kinds
  have c_law_tree := cl.tree
  have c_law_rawed := cl.rawed
  have k_show_tree := cl.show_
  have k_read_tree := cl.read
  have c_law_bent := cl.bent
  have c_law_bounds := cl.bounds
  have c_law_right := cl.right
  refine ⟨_, (pss_cons (ps_set (i := 1) sc_law.nd rfl (Or.inl rfl) (MB.pe_cl c_law_pen hr (by decide) (by rfl) passL (pa_cons (pv 0) pa_nil)))
      (pss_cons (ps_set (i := 2) sc_law.nd rfl (Or.inr rfl) (MB.pe_cl c_law_kinds_known hr (by decide) (by rfl) passL (pa_cons (pv 1) pa_nil)))
      (pss_cons (ps_set (i := 3) sc_law.nd rfl (Or.inl rfl) (MB.pe_cl c_law_tree hr (by decide) (by rfl) passL (pa_cons (pv 1) (pa_cons (MB.pe_cl c_law_some_kinds hr (by decide) (by rfl) passL (pa_cons (pv 1) pa_nil)) pa_nil))))
      (pss_cons (ps_set (i := 3) sc_law.nd rfl (Or.inl rfl) (pe_tup (pa_cons (pe_ix (MB.ix_K (K := K) rfl) (pv 3) pe_int (fun _ _ => rfl)) (pa_cons (MB.pe_cl c_law_rawed hr (by decide) (by rfl) passL (pa_cons (pe_ix (MB.ix_K (K := K) rfl) (pv 3) pe_int (fun _ _ => rfl)) (pa_cons (pv 2) pa_nil))) pa_nil))))
      (pss_cons (ps_set (i := 4) sc_law.nd rfl (Or.inl rfl) (MB.pe_clN k_show_tree hr (by decide) (by rfl) passL (pa_cons (pv 3) pa_nil) (pk_cons (pv 2) pk_nil)))
      (pss_cons (ps_set (i := 5) sc_law.nd rfl (Or.inl rfl) (pe_lst (pa_cons (pv 4) (pa_cons (pe_slice (MB.sl_K (K := K) rfl) (pv 4) po_none (po_some (pe_un un_neg pe_int))) (pa_cons (pe_op (MB.op_addK (K := K) rfl) (pv 4) pe_str) (pa_cons (pe_op (MB.op_addK (K := K) rfl) (pv 4) pe_str) (pa_cons (pe_op (MB.op_addK (K := K) rfl) (pv 4) pe_str) (pa_cons (pe_op (MB.op_addK (K := K) rfl) (pv 4) pe_str) (pa_cons (pe_op (MB.op_addK (K := K) rfl) pe_str (pv 4)) pa_nil)))))))))
      (pss_cons (ps_set (i := 5) sc_law.nd rfl (Or.inl rfl) (pe_op (MB.op_addK (K := K) rfl) (pv 5) (pe_lst (pa_cons pe_str (pa_cons pe_str (pa_cons pe_str pa_nil))))))
      (pss_cons (ps_for PassesOwn.never rfl (pi_range1 (by rfl) T.n_range (pa_cons pe_int pa_nil)) (pg_name (i := 6) sc_law.nd rfl (.inl rfl))
      (pss_cons (ps_set (i := 7) sc_law.nd rfl (Or.inl rfl) (MB.pe_cl c_law_bent hr (by decide) (by rfl) passL (pa_cons (pv 1) (pa_cons (pv 4) pa_nil))))
      (pss_one (ps_set (i := 5) sc_law.nd rfl (Or.inl rfl) (pe_op (MB.op_addK (K := K) rfl) (pv 5) (pe_lst (pa_cons (pv 7) (pa_cons (MB.pe_cl c_law_bent hr (by decide) (by rfl) passL (pa_cons (pv 1) (pa_cons (pv 7) pa_nil))) pa_nil))))))))
      (pss_cons (ps_for PassesOwn.never rfl (MB.pi_listK (K := K) rfl (pe_op (MB.op_addK (K := K) rfl) (pv 5) (MB.pe_cl c_law_bounds hr (by decide) (by rfl) passL (pa_cons (MB.pe_cl c_law_draw hr (by decide) (by rfl) passL (pa_cons (pv 1) (pa_cons pe_int pa_nil))) pa_nil)))) (pg_name (i := 8) sc_law.nd rfl (.inl rfl))
      (pss_one (ps_if (pt_not (pt_val (MB.pe_cl c_law_right hr (by decide) (by rfl) passL (pa_cons (pv 8) (pa_cons (pv 2) pa_nil))))) (pss_one (ps_ret pe_bl)) pss_nil)))
      (pss_cons (ps_for PassesOwn.never rfl (MB.pi_listK (K := K) rfl (pe_lst (pa_cons pe_non (pa_cons pe_bl (pa_cons pe_int (pa_cons (pe_lst pa_nil) (pa_cons (pe_lst (pa_cons (pv 4) pa_nil)) (pa_cons (pe_tup (pa_cons (pv 4) pa_nil)) (pa_cons pe_dnewK (pa_cons (pv 3) pa_nil)))))))))) (pg_name (i := 9) sc_law.nd rfl (.inr rfl))
      (pss_one (ps_if (pt_cmpR (MB.op_neK (K := K) rfl hu64) (pe_refusal (i := 9) (i2 := 2) T RF k_read_tree (by rfl) TB rfl hmT hu hr (by decide) (LamX.lamS_by (show LamX.lamSB (defScope s_law) _ = true by decide +kernel)) rfl (fun _ _ _ _ _ => rfl) (by rfl) (by rfl) (by first | exact .inr (.inl rfl) | exact .inr (.inr rfl)) (by rfl) (by first | exact .inr (.inl rfl) | exact .inr (.inr rfl))) (pe_tup (pa_cons pe_non pa_nil)) (nomark _)) (pss_one (ps_ret pe_bl)) pss_nil)))
      (pss_one (ps_ret (pe_cmpR (MB.op_eqK (K := K) rfl hu64) (pe_callB (MB.call_reprD hgd hu2) (by rfl) T.n_repr MB.bo_repr (pa_cons (MB.pe_clN k_read_tree hr (by decide) (by rfl) passL (pa_cons (pv 4) pa_nil) (pk_cons (pv 2) pk_nil)) pa_nil)) (pe_callB (MB.call_reprD hgd hu2) (by rfl) T.n_repr MB.bo_repr (pa_cons (pv 3) pa_nil)) (nomark _)))))))))))))), ?_⟩
  refine q_asgC (ea_cons (ev_var rfl) ea_nil) fun H1 e1 => ⟨a, script, rfl, ex_l e1 ha, fun p lc H2 e2 hpn hp2 => ?_⟩
  have hT2 := hT.ext (e1.trans e2)
  refine o_seqAsg (o_call (o_cons (o_var rfl ⟨p, lc, 0, none, rfl, hp2, by decide, fun y kn H3 hy3 hp3 hb3 => ?_⟩)))
  refine o_seqAsg (o_call (o_cons (o_var rfl (o_cons (o_call (o_cons (o_var rfl ⟨p, lc, 0 + 1, none, rfl, hp3, by decide, fun kl ks H4 hks hp4 hb4 => ?_⟩)))))))
  refine ⟨p, lc, kl, 0 + 1 + 3, none, ks, rfl, hp4, hks, by decide, fun o c tb v0 H5 hok hdv hp5 hb5 => ?_⟩
  have hT5 := tabs_butX hp4 hb5 (tabs_butX hp3 hb4 (tabs_butX hp2 hb3 hT2))
  have hy5 : KnAt K H5 y kn := (hy3.butX hp3 hb4).butX hp4 hb5
  obtain ⟨b0, vc, rfl, hb0, hvc⟩ := dp_tree hdv
  refine o_seqAsg (o_tup (o_cons ((ev_op (ev_var rfl) ev_c (rv_xT (v := tv o) hb0 (MB.atI_nat (i := 0) rfl)) : Ev _ _ H5 _) H5 (Ex.refl _) _ fun H6 e6 => o_cons (o_call (o_cons ((ev_op (ev_var rfl) ev_c (rv_xT (v := vc) hb0 (MB.atI_nat (i := 1) rfl)) : Ev _ _ H5 _) H6 e6 _ fun H7 e7 => o_cons (o_var rfl
    ⟨vc, y, c, kn, rfl, dp_ex (e6.trans e7) _ _ hvc, hy5.ex (e6.trans e7), hok.g, fun v' H8 e8 hd8 => ⟨by show 2 ≤ sizeLine; decide, fun q1 hq1 => ?_⟩⟩)))))))
  have hKn : Kn kn := by
    obtain ⟨_, _, _, h⟩ := hy5
    exact h
  have g := gCh_raw hKn 4 _ hok.g
  obtain ⟨s1, s2⟩ := sm_raw (kn := kn) 4 _ hok.s
  have hmu : mu (lCh 4 (rawC kn 4 c)) ≤ 54600 := by
    have := mu_ch kn 4 _ g s1
    have := hok.n
    omega
  have ho := hok.o
  have hol := order_len ho
  have e58 := (e6.trans e7).trans e8
  have e59 := e58.trans (Ex.new (o := .tup [tv o, v']) hq1)
  have kp : Keep K TL (upd H8 q1 (.tup [tv o, v'])) y kn q1 [tv o, v'] (dTree o (rawC kn 4 c)) := ⟨hy5.ex e59, upd_same, .tup (st_of upd_same) (.cons (.str _) (.cons (dp_ex (Ex.new hq1) _ _ hd8) .nil)), tupd_tree _ _, hT5.ext e59⟩
  have hp9 := hp5.ex e59
  clear hd8 s1 s2 hvc hdv hb0
  generalize rawC kn 4 c = c1 at g hmu kp
  generalize upd H8 q1 (.tup [tv o, v']) = H9 at kp hp9
  generalize [tv o, v'] = us at kp
  have hmt : mu (lTree o c1) ≤ 54612 := by
    unfold lTree
    rw [mu_cons, List.length_append]
    show 6 + _ + 1 + _ ≤ _
    omega
  refine q_asg (v := tv (txt (lTree o c1))) (ev_showN (ev_var rfl) (ev_var rfl) kp.dv kp.ky g (by omega) (by omega)) fun H10 e10 => ?_
  have htl : (txt (lTree o c1)).length ≤ 54612 := by rw [txt_len]; exact hmt
  have hread : readT kn (txt (lTree o c1)) = .ok (o, c1) := readT_txt ho g
  have hzl : (SX.S (txt (lTree o c1))).length ≤ 54612 := by rw [SX.S_len]; exact htl
  have ez : ∀ {σ : L2.St} {H : Hp}, σ[4]? = some (some (tv (txt (lTree o c1)))) → EvZ (tVar 4) σ H 54612 := fun h => evz_var h hzl
  have cc : ∀ {σ : L2.St} {H : Hp} {z : String} (h : (Str.ofString z).length ≤ 100 := by decide +kernel), EvZ (tC (.str (Str.ofString z))) σ H 100 := fun h => evz_c h
  refine q_asgLZ (elz_lst (n := 7) (b := 3499999) (eaz_cons (ez rfl) (eaz_cons (evz_sl (ez rfl) eo_none (eo_some (ev_un ev_c ru_neg)) (by decide)) (eaz_cons (evz_add (ez rfl) cc (by decide)) (eaz_cons (evz_add (ez rfl) cc (by decide)) (eaz_cons (evz_add (ez rfl) cc (by decide)) (eaz_cons (evz_add (ez rfl) cc (by decide)) (eaz_cons (evz_add cc (ez rfl) (by decide)) eaz_nil)))))))) fun t1 H11 ht1 e11 z11 => ?_
  refine q_asgLZ (elz_catV (ev_var rfl) z11 (elz_lst (n := 3) (b := 3499999) (eaz_cons cc (eaz_cons cc (eaz_cons cc eaz_nil))))) fun t2 H12 ht2 e12 z12 => ?_
  have e912 := (e10.trans e11).trans e12
  refine q_forR1 (n := 8) (ea_cons ev_c ea_nil) (by decide) (fun i σ' H' => ∃ (pt : Addr) (v6 v7 : Option V), σ' = [some (.ref a), some (.ref p), some y, some (.ref q1), some (tv (txt (lTree o c1))), some (.ref pt), v6, v7, none, none] ∧ PenX H' p lc (9000 + 22 * i) tb ∧ LZ H' pt (10 + 2 * i) 3499999 ∧ Keep K TL H' y kn q1 us (dTree o c1)) (fun H13 e13 => ⟨t2, none, none, rfl, (hp9.ex (e912.trans e13)).le (by omega), z12.mono e13, kp.ex (e912.trans e13)⟩) (fun i σ' H13 hi h => ?_) fun σ' H13 h => ?_
  · obtain ⟨pt, v6, v7, rfl, hp13, z13, kp13⟩ := h
    have hi8 : i < 8 := by omega
    refine q_asgC (ea_cons (ev_var rfl) (ea_cons (ev_var rfl) ea_nil)) fun H14 e14 => ⟨p, lc, SX.S (txt (lTree o c1)), _, tb, rfl, hp13.ex e14, by omega, by omega, fun x1 H15 hx1 hp15 hb15 => ?_⟩
    have hx1b : x1.length ≤ 500000 := by
      have : x1.length ≤ 8 * (SX.S (txt (lTree o c1))).length + 40 := hx1
      omega
    have kp15 := (kp13.ex e14).but (hp13.ex e14) hb15
    obtain ⟨kvs, hdict⟩ := (hp13.ex e14).dict
    have z15 := (z13.mono e14).but hb15 ((z13.mono e14).ne hdict)
    refine ⟨_, rfl, _, rfl, _, rfl, _, rfl, ⟨p, lc, x1, _, tb, rfl, hp15, by omega, hx1b, fun x2 H16 hx2 hp16 hb16 => ⟨by show 2 ≤ sizeLine; decide, fun l hl => ?_⟩⟩⟩
    have kp16 := kp15.but hp15 hb16
    obtain ⟨kvs2, hdict2⟩ := hp15.dict
    have z16 := z15.but hb16 (z15.ne hdict2)
    obtain ⟨zs, hz1, hz2, hz3⟩ := z16.ex
    have e17 : Ex H16 (upd H16 l (.lst [V.str x1, V.str x2])) := Ex.new hl
    refine .inr (.inr (.inl ⟨pt, l, zs.map V.str, [V.str x1, V.str x2], rfl, rfl, e17 _ _ hz1, upd_same, ?_, fun r hr => ?_⟩))
    · rw [List.length_map]
      show _ + 2 ≤ sizeLine
      have : (100000 : Nat) ≤ sizeLine := by decide
      omega
    · have e18 := e17.trans (Ex.new (o := .lst (zs.map V.str ++ [V.str x1, V.str x2])) hr)
      refine ⟨r, _, _, rfl, (hp16.ex e18).le (by omega), ⟨zs ++ [x1, x2], by rw [upd_same, List.map_append]; rfl, by rw [List.length_append]; show _ + 2 ≤ _; omega, fun z hz => ?_⟩, kp16.ex e18⟩
      rcases List.mem_append.mp hz with hz | hz
      · exact hz3 z hz
      · have hx2b : x2.length ≤ 8 * x1.length + 40 := hx2
        have hx1c : x1.length ≤ 8 * (SX.S (txt (lTree o c1))).length + 40 := hx1
        simp only [List.mem_cons, List.not_mem_nil, or_false] at hz
        rcases hz with rfl | rfl <;> omega
  · obtain ⟨pt, v6, v7, rfl, hp13, z13, kp13⟩ := h
    -- every text is judged rightly
    refine ⟨_, rfl, ev_drawX (m := 2) (ev_var rfl) ev_c (by decide) (by decide) hp13 (by omega) fun r H14 r0 r1 hp14 hb14 => ?_⟩
    have kp14 := kp13.but hp13 hb14
    obtain ⟨kvs, hdict⟩ := hp13.dict
    have z14 := z13.but hb14 (z13.ne hdict)
    obtain ⟨j, rfl⟩ : ∃ j : Nat, r = (j : Int) := ⟨r.toNat, by omega⟩
    refine ⟨j, rfl, by omega, fun pb H15 e15 zb => ?_⟩
    have kp15 := kp14.ex e15
    obtain ⟨xs, hx1, hx2, hx3⟩ := (z14.mono e15).ex
    obtain ⟨ys, hy1, hy2, hy3⟩ := zb.ex
    refine .inr (.inr (.inl ⟨pt, pb, xs.map V.str, ys.map V.str, rfl, rfl, hx1, hy1, ?_, fun l hl => ?_⟩))
    · rw [List.length_map, List.length_map]
      have : (100000 : Nat) ≤ sizeLine := by decide
      omega
    have kp16 := kp15.ex (Ex.new (o := .lst (xs.map V.str ++ ys.map V.str)) hl)
    have hl16 : upd H15 l (.lst (xs.map V.str ++ ys.map V.str)) l = some (.lst ((xs ++ ys).map V.str)) := by rw [upd_same, List.map_append]
    have hb16 : ∀ z ∈ xs ++ ys, z.length < 3500000 := fun z hz => by
      rcases List.mem_append.mp hz with h | h
      · have := hx3 z h
        omega
      · have := hy3 z h
        omega
    generalize upd H15 l (.lst (xs.map V.str ++ ys.map V.str)) = H16 at kp16 hl16
    generalize xs ++ ys = zs at hl16 hb16
    refine ⟨l, rfl, ⟨_, sq_of hl16⟩, for_list (xs := zs.map V.str) (fun i σ' H' => (∃ x8, σ' = [some (.ref a), some (.ref p), some y, some (.ref q1), some (tv (txt (lTree o c1))), some (.ref pt), v6, v7, x8, none]) ∧ H' l = some (.lst (zs.map V.str)) ∧ Keep K TL H' y kn q1 us (dTree o c1)) ?_ ?_ ?_ ?_⟩
    · exact ⟨⟨_, rfl⟩, hl16, kp16⟩
    · rintro i σ' H' _ ⟨_, h, _⟩
      exact sq_of h
    · rintro i x σ' H17 hx ⟨⟨x8, rfl⟩, hl17, kp17⟩
      obtain ⟨z, hz, rfl⟩ := List.mem_map.mp (List.mem_of_getElem? hx)
      obtain ⟨tz, rfl⟩ : ∃ tz, z = SX.S tz := ⟨z.cps.toList, (SX.S_tl z).symm⟩
      have hzl := hb16 _ hz
      rw [SX.S_len] at hzl
      exact s_ifNot (o_call (o_cons (o_var rfl (o_cons (o_var rfl ⟨tz, y, kn, rfl, kp17.ky, hzl, kp17.tb, fun H18 n18 hT18 => ⟨_, rfl, if_f rfl ⟨⟨_, rfl⟩, n18 _ _ hl17 (fun _ z => nomatch z), kp17.extN n18 hT18⟩⟩⟩)))))
    · rintro σ' H17 ⟨⟨x8, rfl⟩, hl17, kp17⟩
      -- things that are no texts
      refine ⟨by show 0 ≤ sizeLine; decide, fun l1 hl1 => ?_⟩
      have n1 : Ex H17 (upd H17 l1 (.lst [])) := Ex.new hl1
      have g1 : Thing (upd H17 l1 (.lst [])) (.ref l1) := .inr (.inr (.inr (.inl ⟨l1, _, rfl, upd_same⟩)))
      have kp18 := kp17.ex n1
      generalize upd H17 l1 (.lst []) = H18 at g1 kp18
      refine ⟨_, rfl, by show 1 ≤ sizeLine; decide, fun l2 hl2 => ?_⟩
      have n2 := Ex.new (o := HO.lst [tv (txt (lTree o c1))]) hl2
      have g2 : Thing (upd H18 l2 (.lst [tv (txt (lTree o c1))])) (.ref l2) := .inr (.inr (.inr (.inl ⟨l2, _, rfl, upd_same⟩)))
      have kp19 := kp18.ex n2
      have g1 := g1.ext (LamX.ExtN.of n2)
      generalize upd H18 l2 (.lst [tv (txt (lTree o c1))]) = H19 at g1 g2 kp19
      refine ⟨_, rfl, by show 1 ≤ sizeLine; decide, fun t1 ht1 => ?_⟩
      have n3 := Ex.new (o := HO.tup [tv (txt (lTree o c1))]) ht1
      have g3 : Thing (upd H19 t1 (.tup [tv (txt (lTree o c1))])) (.ref t1) := .inr (.inr (.inr (.inr (.inl ⟨t1, _, rfl, upd_same⟩))))
      have kp20 := kp19.ex n3
      have g1 := g1.ext (LamX.ExtN.of n3)
      have g2 := g2.ext (LamX.ExtN.of n3)
      generalize upd H19 t1 (.tup [tv (txt (lTree o c1))]) = H20 at g1 g2 g3 kp20
      intro d1 hd1
      have n4 := Ex.new (o := HO.dK []) hd1
      have g4 : Thing (upd H20 d1 (.dK [])) (.ref d1) := .inr (.inr (.inr (.inr (.inr ⟨d1, _, rfl, upd_same⟩))))
      have kp21 := kp20.ex n4
      have g1 := g1.ext (LamX.ExtN.of n4)
      have g2 := g2.ext (LamX.ExtN.of n4)
      have g3 := g3.ext (LamX.ExtN.of n4)
      generalize upd H20 d1 (.dK []) = H21 at g1 g2 g3 g4 kp21
      refine ⟨_, rfl, by show 8 ≤ sizeLine; decide, fun pl hpl => ?_⟩
      have n6 := Ex.new (o := HO.lst [V.non, V.bl true, V.int 0, V.ref l1, V.ref l2, V.ref t1, V.ref d1, V.ref q1]) hpl
      have hth : ∀ x ∈ [V.non, V.bl true, V.int 0, V.ref l1, V.ref l2, V.ref t1, V.ref d1, V.ref q1], Thing H21 x := by
        intro x hx
        simp only [List.mem_cons, List.not_mem_nil, or_false] at hx
        rcases hx with rfl | rfl | rfl | rfl | rfl | rfl | rfl | rfl
        · exact .inl rfl
        · exact .inr (.inl ⟨_, rfl⟩)
        · exact .inr (.inr (.inl ⟨_, rfl⟩))
        · exact g1
        · exact g2
        · exact g3
        · exact g4
        · exact .inr (.inr (.inr (.inr (.inl ⟨q1, _, rfl, kp21.tu⟩))))
      have hth2 : ∀ x ∈ [V.non, V.bl true, V.int 0, V.ref l1, V.ref l2, V.ref t1, V.ref d1, V.ref q1], Thing (upd H21 pl (.lst [V.non, V.bl true, V.int 0, V.ref l1, V.ref l2, V.ref t1, V.ref d1, V.ref q1])) x := fun x hx => (hth x hx).ext (LamX.ExtN.of n6)
      have kp22 := kp21.ex n6
      have hpl22 : upd H21 pl (.lst [V.non, V.bl true, V.int 0, V.ref l1, V.ref l2, V.ref t1, V.ref d1, V.ref q1]) pl = some (.lst [V.non, V.bl true, V.int 0, V.ref l1, V.ref l2, V.ref t1, V.ref d1, V.ref q1]) := upd_same
      clear hth g1 g2 g3 g4
      generalize upd H21 pl (.lst [V.non, V.bl true, V.int 0, V.ref l1, V.ref l2, V.ref t1, V.ref d1, V.ref q1]) = H22 at hth2 kp22 hpl22
      generalize [V.non, V.bl true, V.int 0, V.ref l1, V.ref l2, V.ref t1, V.ref d1, V.ref q1] = things at hth2 hpl22 ⊢
      refine ⟨pl, rfl, ⟨_, sq_of hpl22⟩, for_list (xs := things) (fun i σ' H' => (∃ x9, σ' = [some (.ref a), some (.ref p), some y, some (.ref q1), some (tv (txt (lTree o c1))), some (.ref pt), v6, v7, x8, x9]) ∧ H' pl = some (.lst things) ∧ (∀ x ∈ things, Thing H' x) ∧ Keep K TL H' y kn q1 us (dTree o c1)) ?_ ?_ ?_ ?_⟩
      · exact ⟨⟨_, rfl⟩, hpl22, hth2, kp22⟩
      · rintro i σ' H' _ ⟨_, h, _⟩
        exact sq_of h
      · rintro i x σ' H23 hx ⟨⟨x9, rfl⟩, hpl23, hth23, kp23⟩
        have hxm : x ∈ things := List.mem_of_getElem? hx
        refine ⟨kp23.tb, fun H24 n24 hT24 => ?_⟩
        intro E' Q' hE hQ
        refine ⟨_, rfl, _, rfl, rfl, rfl, ?_⟩
        refine ⟨_, _, rfl, .inr ⟨((hth23 x hxm).ext n24).not, fun d H25 e25 hd hdd => hE d .non H25 hdd (.inl rfl) fun p2 H26 e26 hp2 => ?_⟩⟩
        have e46 := e25.trans e26
        refine ⟨by show 1 ≤ sizeLine; decide, fun q hq => .inr ⟨.tuple [.none], .tuple [.none], .tup (st_of ((Ex.new hq) _ _ hp2)) (.cons .non .nil), .tup (st_of upd_same) (.cons .non .nil), rfl, rfl, false, rfl, ?_⟩⟩
        have n : LamX.ExtN H23 (upd H26 q (.tup [V.non])) := n24.trans (LamX.ExtN.of (e46.trans (Ex.new hq)))
        exact ⟨⟨_, rfl⟩, n _ _ hpl23 (fun _ z => nomatch z), fun x hx => (hth23 x hx).ext n, kp23.extN n (hT24.ext (e46.trans (Ex.new hq)))⟩
      · rintro σ' H23 ⟨⟨x9, rfl⟩, hpl23, hth23, kp23⟩
        refine s_ret (ev_op (ev_reprD (evd_readN (ev_var rfl) (ev_var rfl) kp23.ky g ho (by omega)) g ho (by omega)) (ev_cb1 (ev_var rfl) (rc_reprTree kp23.dv g ho (by omega))) rv_eqStr) fun H24 _ => k H24
end
end K82
set_option maxRecDepth 100000
set_option maxHeartbeats 2000000
namespace K82
open PySem PySem.Spec PyProof.Rows L2 Evl MB
section
variable {P : Program} {w : World} {K : PySem.W.Frag} {mg : Str → Option Value} {base : Heap} {aKn aWi aOw aLi aOn aOt : Addr}
theorem fund_mk {x qual : Str} {st : Stmt} {f D : Addr} {oc : Value} {od an : Option Addr} {osl : Array (Option Value)} {doc pm cdv ct u : Value} {n : Str} {v : V} (l : K.lookup f = some ⟨oc, od, .func (PySem.W.fnOf x qual (defArgs st) (defBody st) (defScope st) .none (.ref D) doc pm an cdv ct), osl⟩)
    (c : PySem.W.codeIn K cdv qual = true) (k : PySem.W.keepIn K (.ref f) = true) (hu : PySem.W.nsIn K D n = some (some u)) (hr : RelV v u) : FunD K x qual (defArgs st) (defBody st) (defScope st) [] [(n, v)] f (PySem.W.fnOf x qual (defArgs st) (defBody st) (defScope st) .none (.ref D) doc pm an cdv ct) :=
  ⟨⟨oc, od, .none, .ref D, doc, pm, an, cdv, ct, osl, rfl, l, c, .inl ⟨rfl, rfl⟩, .inr ⟨D, rfl, fun q hq => by
    obtain rfl := List.mem_singleton.mp hq
    exact ⟨u, hu, hr⟩⟩⟩, k⟩
/-- a def, a def with one keyword, a method of Lines: as they stand behind the top -/
structure Df (K : PySem.W.Frag) (mg : Str → Option Value) (x : Str) (st : Stmt) (ps : List Str) : Prop where
  ex : ∃ (f : Addr) (fd : FuncData), Fun K x x st f fd ∧ mg x = some (.ref f) ∧ Binds K fd ps []
structure DfK (K : PySem.W.Frag) (mg : Str → Option Value) (x : Str) (st : Stmt) (n : Str) (v : V) : Prop where
  ex : ∃ (f : Addr) (fd : FuncData), FunD K x x (defArgs st) (defBody st) (defScope st) [] [(n, v)] f fd ∧ mg x = some (.ref f)
structure DfM (K : PySem.W.Frag) (C : Addr) (m q : Str) (st : Stmt) (ps : List Str) : Prop where
  ex : ∃ (f : Addr) (fd : FuncData), Fun K m q st f fd ∧ Meth K C m f ∧ Binds K fd ps []
theorem Df.cl {x : Str} {st : Stmt} {ps : List Str} {k : Nat} {sp : Sp} (D : Df K mg x st ps) (h : ∀ f fd, Fun K x x st f fd → FnOk P w K mg base CX0 k f fd ps sp) : MB.Cl P w K mg base k x sp := by
  obtain ⟨f, fd, F, hm, hb⟩ := D.ex
  exact MB.cl_of (h f fd F) hm F.kp hb
theorem Df.clG {x : Str} {st : Stmt} {ps : List Str} {k : Nat} {sp : Sp} (D : Df K mg x st ps) (h : ∀ f fd, Fun K x x st f fd → MB.RunG P w K mg base k f fd ps sp) : MB.ClG P w K mg base k x sp := by
  obtain ⟨f, fd, F, hm, hb⟩ := D.ex
  exact MB.clG_of (h f fd F) hm F.kp hb
theorem DfM.mt {C : Addr} {m q : Str} {st : Stmt} {ps : List Str} {k : Nat} {sp : Sp} (D : DfM K C m q st ps) (hc : Cls K C) (h : ∀ f fd, Fun K m q st f fd → FnOk P w K mg base (L2.CX P w) k f fd ps sp) : MB.Mt P w K mg base k C m sp := by
  obtain ⟨f, fd, F, hm, hb⟩ := D.ex
  exact ⟨f, fd, ps, h f fd F, hc, hm, hb⟩
theorem DfK.clD {x : Str} {st : Stmt} {n : Str} {v : V} {ps : List Str} {k : Nat} {sp : Sp} (D : DfK K mg x st n v) (h : ∀ f fd, FunD K x x (defArgs st) (defBody st) (defScope st) [] [(n, v)] f fd → FnOk P w K mg base (L2.CX P w) k f fd ps sp)
    (hb : ∀ f fd, FunD K x x (defArgs st) (defBody st) (defScope st) [] [(n, v)] f fd → ∃ ds, Vals [v] ds ∧ Binds K fd ps ds) : MB.ClD P w K mg base k x sp [v] := by
  obtain ⟨f, fd, F, hm⟩ := D.ex
  obtain ⟨ds, h1, h2⟩ := hb f fd F
  exact ⟨f, fd, ps, ds, h f fd F, hm, F.kp, h2, h1⟩
theorem DfK.clN {x : Str} {st : Stmt} {n : Str} {v : V} {ps : List Str} {k m : Nat} {ks : List Str} {gV : List V → List V → List V} {sp : Sp} (D : DfK K mg x st n v) (h : ∀ f fd, FunD K x x (defArgs st) (defBody st) (defScope st) [] [(n, v)] f fd → FnOk P w K mg base (L2.CX P w) k f fd ps sp)
    (hb : ∀ f fd, FunD K x x (defArgs st) (defBody st) (defScope st) [] [(n, v)] f fd → ∃ g, KBn K fd ps m ks g gV) : MB.ClN P w K mg base k x sp m ks gV := by
  obtain ⟨f, fd, F, hm⟩ := D.ex
  obtain ⟨g, h2⟩ := hb f fd F
  exact ⟨f, fd, ps, g, h f fd F, hm, F.kp, h2⟩
theorem tupK_ok {a : Addr} {vs : List V} (h : (match K.lookup a with
  | some ⟨.type c, _, .seq its _, _⟩ => decide (c = "tuple") && (decide (its.size ≤ sizeLine) && He.relAll vs its.toList)
  | _ => false) = true) (H : Hp) : SqT K H a vs := by
  cases q : K.lookup a with
  | none =>
    rw [q] at h
    cases h
  | some o =>
    obtain ⟨oc, od, dt, osl⟩ := o
    rw [q] at h
    cases oc with
    | type c =>
      cases dt with
      | seq its n =>
        obtain ⟨h1, h2⟩ := He.ba (show (decide (c = "tuple") && (decide (its.size ≤ sizeLine) && He.relAll vs its.toList)) = true from h)
        obtain ⟨h3, h4⟩ := He.ba h2
        exact .inr ⟨_, its, n, q, congrArg Value.type (of_decide_eq_true h1), rfl, of_decide_eq_true h3, He.relAll_ok h4⟩
      | _ => cases h
    | _ => cases dt <;> cases h
def tupK (K : PySem.W.Frag) (a : Addr) (vs : List V) : Bool := match K.lookup a with
  | some ⟨.type c, _, .seq its _, _⟩ => decide (c = "tuple") && (decide (its.size ≤ sizeLine) && He.relAll vs its.toList)
  | _ => false
/-! how the calls bind -/
section
variable {f : Addr} {fd : FuncData} {ke : V}
theorem bd_show_tree (F : FunD K "show_tree" "show_tree" (defArgs s_show_tree) (defBody s_show_tree) (defScope s_show_tree) [] [("known", ke)] f fd) : ∃ ds, Vals [ke] ds ∧ Binds K fd p_show_tree ds :=
  F.binds0 1 (List.cons_ne_nil _ _) rfl fun D doc pm an cdv ct us ks h1 h2 => match us, ks, h1, h2 with
    | [_], [_], _, _ => ⟨_, _, _, _, _, _, rfl, rfl, rfl⟩
theorem bd_are_numbers (F : FunD K "are_numbers" "are_numbers" (defArgs s_are_numbers) (defBody s_are_numbers) (defScope s_are_numbers) [] [("most", ke)] f fd) : ∃ ds, Vals [ke] ds ∧ Binds K fd p_are_numbers ds :=
  F.binds0 2 (List.cons_ne_nil _ _) rfl fun D doc pm an cdv ct us ks h1 h2 => match us, ks, h1, h2 with
    | [_, _], [_], _, _ => ⟨_, _, _, _, _, _, rfl, rfl, rfl⟩
theorem bd_read_tree (F : FunD K "read_tree" "read_tree" (defArgs s_read_tree) (defBody s_read_tree) (defScope s_read_tree) [] [("known", ke)] f fd) : ∃ ds, Vals [ke] ds ∧ Binds K fd p_read_tree ds :=
  F.binds0 1 (List.cons_ne_nil _ _) rfl fun D doc pm an cdv ct us ks h1 h2 => match us, ks, h1, h2 with
    | [_], [_], _, _ => ⟨_, _, _, _, _, _, rfl, rfl, rfl⟩
theorem bn_show_tree (F : FunD K "show_tree" "show_tree" (defArgs s_show_tree) (defBody s_show_tree) (defScope s_show_tree) [] [("known", ke)] f fd) : ∃ g, KBn K fd p_show_tree 1 ["known"] g (fun vs zs => vs ++ zs) := by
  obtain ⟨mv, h⟩ := F.kbinds0 (ps := p_show_tree) 1 ["known"] [] (fun vs _ zs => vs ++ zs) (List.cons_ne_nil _ _) (fun _ h => absurd h List.not_mem_nil) (fun h1 _ h3 => h1.append h3) fun D doc pm an cdv ct us mv ws h1 h2 h3 => match us, mv, ws, h1, h2, h3 with
    | [_], [], [_], _, _, _ => rfl
  exact ⟨_, h⟩
theorem bn_are_numbers (F : FunD K "are_numbers" "are_numbers" (defArgs s_are_numbers) (defBody s_are_numbers) (defScope s_are_numbers) [] [("most", ke)] f fd) : ∃ g, KBn K fd p_are_numbers 2 ["most"] g (fun vs zs => vs ++ zs) := by
  obtain ⟨mv, h⟩ := F.kbinds0 (ps := p_are_numbers) 2 ["most"] [] (fun vs _ zs => vs ++ zs) (List.cons_ne_nil _ _) (fun _ h => absurd h List.not_mem_nil) (fun h1 _ h3 => h1.append h3) fun D doc pm an cdv ct us mv ws h1 h2 h3 => match us, mv, ws, h1, h2, h3 with
    | [_, _], [], [_], _, _, _ => rfl
  exact ⟨_, h⟩
theorem bn_is_worths (F : FunD K "is_worths" "is_worths" (defArgs s_is_worths) (defBody s_is_worths) (defScope s_is_worths) [] [("known", ke)] f fd) : ∃ g, KBn K fd p_is_worths 2 ["known"] g (fun vs zs => vs ++ zs) := by
  obtain ⟨mv, h⟩ := F.kbinds0 (ps := p_is_worths) 2 ["known"] [] (fun vs _ zs => vs ++ zs) (List.cons_ne_nil _ _) (fun _ h => absurd h List.not_mem_nil) (fun h1 _ h3 => h1.append h3) fun D doc pm an cdv ct us mv ws h1 h2 h3 => match us, mv, ws, h1, h2, h3 with
    | [_, _], [], [_], _, _, _ => rfl
  exact ⟨_, h⟩
theorem bn_read_tree (F : FunD K "read_tree" "read_tree" (defArgs s_read_tree) (defBody s_read_tree) (defScope s_read_tree) [] [("known", ke)] f fd) : ∃ g, KBn K fd p_read_tree 1 ["known"] g (fun vs zs => vs ++ zs) := by
  obtain ⟨mv, h⟩ := F.kbinds0 (ps := p_read_tree) 1 ["known"] [] (fun vs _ zs => vs ++ zs) (List.cons_ne_nil _ _) (fun _ h => absurd h List.not_mem_nil) (fun h1 _ h3 => h1.append h3) fun D doc pm an cdv ct us mv ws h1 h2 h3 => match us, mv, ws, h1, h2, h3 with
    | [_], [], [_], _, _, _ => rfl
  exact ⟨_, h⟩
theorem bn_line_of (F : FunD K "line_of" "line_of" (defArgs s_line_of) (defBody s_line_of) (defScope s_line_of) [] [("numbers", ke)] f fd) : ∃ g, KBn K fd p_line_of 0 ["word", "parts", "numbers"] g (fun _ zs => zs) := by
  obtain ⟨mv, h⟩ := F.kbinds0 (ps := p_line_of) 0 ["word", "parts", "numbers"] [] (fun _ _ zs => zs) (List.cons_ne_nil _ _) (fun _ h => absurd h List.not_mem_nil) (fun _ _ h3 => h3) fun D doc pm an cdv ct us mv ws h1 h2 h3 => match us, mv, ws, h1, h2, h3 with
    | [], [], [_, _, _], _, _, _ => rfl
  exact ⟨_, h⟩
theorem bd_init (F : FunD K "__init__" "Lines.__init__" (defArgs s_Lines_init__) (defBody s_Lines_init__) (defScope s_Lines_init__) [] [("raw", ke)] f fd) : ∃ ds, Vals [ke] ds ∧ Binds K fd p_Lines_init__ ds :=
  F.binds0 3 (List.cons_ne_nil _ _) rfl fun D doc pm an cdv ct us ks h1 h2 => match us, ks, h1, h2 with
    | [_, _, _], [_], _, _ => ⟨_, _, _, _, _, _, rfl, rfl, rfl⟩
theorem bn_take_tables (F : Fun K "take_tables" "Lines.take_tables" s_Lines_take_tables f fd) : ∃ g, KBn K fd p_Lines_take_tables 2 ["last"] g (fun vs zs => vs ++ zs) := by
  obtain ⟨oc, od, kV, doc, pm, an, cdv, ct, osl, rfl, lk, hcd⟩ := F.ex
  exact ⟨fun us ws => us ++ ws, fun s us ws X h1 h2 => match us, ws, h1, h2 with
    | [_, _], [_], _, _ => .of_eq rfl, fun h1 h2 => h1.append h2⟩
end
/-- all that the top has written -/
structure Facts (K : PySem.W.Frag) (mg : Str → Option Value) (aKn aWi aOw aLi aOn aOt C CN BN fI fL fT : Addr) (eL : V) : Prop where
  T : T0 K mg aKn aWi aOw aLi aOn aOt
  L : LC K C
  is_whole : Df K mg "is_whole" s_is_whole p_is_whole
  width : Df K mg "width" s_width p_width
  entry_lines : Df K mg "entry_lines" s_entry_lines p_entry_lines
  table_lines : Df K mg "table_lines" s_table_lines p_table_lines
  chain_lines : Df K mg "chain_lines" s_chain_lines p_chain_lines
  ended : Df K mg "ended" s_ended p_ended
  is_piece : Df K mg "is_piece" s_is_piece p_is_piece
  number_by : Df K mg "number_by" s_number_by p_number_by
  numbers_by : Df K mg "numbers_by" s_numbers_by p_numbers_by
  law_pen : Df K mg "_law_pen" s_law_pen p_law_pen
  law_draw : Df K mg "_law_draw" s_law_draw p_law_draw
  law_numbers : Df K mg "_law_numbers" s_law_numbers p_law_numbers
  law_text : Df K mg "_law_text" s_law_text p_law_text
  law_plain : Df K mg "_law_plain" s_law_plain p_law_plain
  law_entry : Df K mg "_law_entry" s_law_entry p_law_entry
  law_tags : Df K mg "_law_tags" s_law_tags p_law_tags
  law_table : Df K mg "_law_table" s_law_table p_law_table
  law_chain : Df K mg "_law_chain" s_law_chain p_law_chain
  law_tree : Df K mg "_law_tree" s_law_tree p_law_tree
  law_some_kinds : Df K mg "_law_some_kinds" s_law_some_kinds p_law_some_kinds
  law_rawed : Df K mg "_law_rawed" s_law_rawed p_law_rawed
  law_kinds_known : Df K mg "_law_kinds_known" s_law_kinds_known p_law_kinds_known
  law_sign_bent : Df K mg "_law_sign_bent" s_law_sign_bent p_law_sign_bent
  law_word_bent : Df K mg "_law_word_bent" s_law_word_bent p_law_word_bent
  law_line_bent : Df K mg "_law_line_bent" s_law_line_bent p_law_line_bent
  law_bent : Df K mg "_law_bent" s_law_bent p_law_bent
  law_number_by : Df K mg "_law_number_by" s_law_number_by p_law_number_by
  law_plain_stands : Df K mg "_law_plain_stands" s_law_plain_stands p_law_plain_stands
  law_entry_stands : Df K mg "_law_entry_stands" s_law_entry_stands p_law_entry_stands
  law_piece_stands : Df K mg "_law_piece_stands" s_law_piece_stands p_law_piece_stands
  law_stands : Df K mg "_law_stands" s_law_stands p_law_stands
  law_bad_line : Df K mg "_law_bad_line" s_law_bad_line p_law_bad_line
  law_bounds : Df K mg "_law_bounds" s_law_bounds p_law_bounds
  line_of : DfK K mg "line_of" s_line_of "numbers" (eL)
  show_tree : DfK K mg "show_tree" s_show_tree "known" (.ref aKn)
  are_numbers : DfK K mg "are_numbers" s_are_numbers "most" (.int 300)
  is_worths : DfK K mg "is_worths" s_is_worths "known" (.ref aKn)
  read_tree : DfK K mg "read_tree" s_read_tree "known" (.ref aKn)
  m_needs : DfM K C "needs" "Lines.needs" s_Lines_needs p_Lines_needs
  m_take_line : DfM K C "take_line" "Lines.take_line" s_Lines_take_line p_Lines_take_line
  m_is_over : DfM K C "is_over" "Lines.is_over" s_Lines_is_over p_Lines_is_over
  m_take_table : DfM K C "take_table" "Lines.take_table" s_Lines_take_table p_Lines_take_table
  m_tag_of : DfM K C "tag_of" "Lines.tag_of" s_Lines_tag_of p_Lines_tag_of
  m_take_entry : DfM K C "take_entry" "Lines.take_entry" s_Lines_take_entry p_Lines_take_entry
  m_plain_in : DfM K C "plain_in" "Lines.plain_in" s_Lines_plain_in p_Lines_plain_in
  m_take_chains : DfM K C "take_chains" "Lines.take_chains" s_Lines_take_chains p_Lines_take_chains
  m_take_pieces : DfM K C "take_pieces" "Lines.take_pieces" s_Lines_take_pieces p_Lines_take_pieces
  tts : ∃ fd : FuncData, Fun K "take_tables" "Lines.take_tables" s_Lines_take_tables fT fd ∧ Meth K C "take_tables" fT
  gL : mg "Lines" = some (.ref C)
  mkL : L2.Mk K C fL
  ini : ∃ fd : FuncData, FunD K "__init__" "Lines.__init__" (defArgs s_Lines_init__) (defBody s_Lines_init__) (defScope s_Lines_init__) [] [("raw", .bl true)] fL fd
  N0 : NT0 K mg CN BN (.type "type")
  nI : ∃ fd : FuncData, Fun K "__init__" "NoText.__init__" s_NoText_init__ fI fd ∧ Binds K fd ["self", "line"] []
  iC : PySem.W.findIn K (.ref CN) "__init__" = some (some (.ref fI))
  tI : PySem.W.typeIn K (.ref fI) = some (.type "function")
section
variable {C CN BN fI fL fT : Addr} {eL : V} (X : Facts K mg aKn aWi aOw aLi aOn aOt C CN BN fI fL fT eL)
include X
theorem never {x : Str} {st : Stmt} {ps : List Str} (D : Df K mg x st ps) : MB.Cl P w K mg base 1 x (fun _ _ _ _ => False) := D.cl fun _ _ _ => fn_never
theorem q_line_of : MB.ClN P w K mg base 1 "line_of" (sp_line_of K) 0 ["word", "parts", "numbers"] (fun _ zs => zs) := X.line_of.clN (fun _ _ F => MB.fn_toX (ok_line_of F X.T)) fun _ _ F => bn_line_of F
theorem q_chain_lines : ∀ d, MB.Cl P w K mg base (3 * d + 2) "chain_lines" (sp_chain_lines K d)
  | 0 => X.chain_lines.cl fun _ _ F => ok_chain_lines0 F X.T (never X X.table_lines)
  | d + 1 => X.chain_lines.cl fun _ _ F => ok_chain_linesS F X.T (X.table_lines.cl fun _ _ F => ok_table_lines F X.T (X.entry_lines.cl fun _ _ F => ok_entry_lines F X.T (q_chain_lines d) (q_line_of X)))
theorem q_ended : MB.Cl P w K mg base 1 "ended" (sp_ended K) := X.ended.cl fun _ _ F => ok_ended F X.T
theorem f_show_tree {f : Addr} {fd : FuncData} {ke : V} (F : FunD K "show_tree" "show_tree" (defArgs s_show_tree) (defBody s_show_tree) (defScope s_show_tree) [] [("known", ke)] f fd) : FnOk P w K mg base (L2.CX P w) 15 f fd p_show_tree (sp_show_tree K) := MB.fn_toX (ok_show_tree F X.T (q_chain_lines X 4) (q_ended X))
theorem q_is_whole : MB.Cl P w K mg base 1 "is_whole" sp_is_whole := X.is_whole.cl fun _ _ F => ok_is_whole F X.T
theorem f_are_numbers {f : Addr} {fd : FuncData} {ke : V} (F : FunD K "are_numbers" "are_numbers" (defArgs s_are_numbers) (defBody s_are_numbers) (defScope s_are_numbers) [] [("most", ke)] f fd) : FnOk P w K mg base (L2.CX P w) 2 f fd p_are_numbers (sp_are_numbers K) := MB.fn_toX (ok_are_numbers F X.T (q_is_whole X))
theorem d_are_numbers : MB.ClD P w K mg base 2 "are_numbers" (sp_are_numbers K) [.int 300] := X.are_numbers.clD (fun _ _ F => f_are_numbers X F) fun _ _ F => bd_are_numbers F
theorem q_is_piece : MB.Cl P w K mg base 3 "is_piece" (sp_is_piece K) := X.is_piece.cl fun _ _ F => ok_is_piece F X.T (d_are_numbers X)
theorem k_is_worths : MB.ClN P w K mg base 3 "is_worths" (sp_is_worths K) 2 ["known"] (fun vs zs => vs ++ zs) := X.is_worths.clN (fun _ _ F => MB.fn_toX (ok_is_worths F X.T (X.width.cl fun _ _ F => ok_width F X.T) (d_are_numbers X) (X.are_numbers.clN (fun _ _ F => f_are_numbers X F) fun _ _ F => bn_are_numbers F))) fun _ _ F => bn_is_worths F
theorem q_number_by : MB.Cl P w K mg base 1 "number_by" sp_number_by := X.number_by.cl fun _ _ F => ok_number_by F X.T
theorem q_numbers_by : MB.Cl P w K mg base 2 "numbers_by" (sp_numbers_by K) := X.numbers_by.cl fun _ _ F => ok_numbers_by F X.T (q_number_by X)
theorem q_nt : NT P w K mg base CN := by
  obtain ⟨fd, F, hb⟩ := X.nI
  exact ⟨X.N0.ox, X.N0.gC, fI, fd, MB.fn_toX (ok_nt F X.N0), X.iC, X.tI, hb⟩
theorem m_needs : MB.Mt P w K mg base 3 C "needs" (spNeeds K C CN) := X.m_needs.mt X.L.cl fun _ _ F => ok_Lines_needs F X.T X.L (q_nt X)
theorem m_take_line : MB.Mt P w K mg base 3 C "take_line" (spTake K C CN) := X.m_take_line.mt X.L.cl fun _ _ F => ok_Lines_take_line F X.T X.L (q_nt X)
theorem m_is_over : MB.Mt P w K mg base 1 C "is_over" (spOver K C) := X.m_is_over.mt X.L.cl fun _ _ F => MB.fn_toX (ok_Lines_is_over F X.T X.L)
theorem m_tag_of : MB.Mt P w K mg base 2 C "tag_of" (spTag C) := X.m_tag_of.mt X.L.cl fun _ _ F => MB.fn_toX (ok_Lines_tag_of F X.T (q_number_by X))
theorem m_plain_in : MB.Mt P w K mg base 4 C "plain_in" (spPlain K C CN) := X.m_plain_in.mt X.L.cl fun _ _ F => ok_Lines_plain_in F X.T X.L (q_numbers_by X) (m_needs X) (k_is_worths X)
theorem m_take_pieces : MB.Mt P w K mg base 4 C "take_pieces" (spPieces K C CN) := X.m_take_pieces.mt X.L.cl fun _ _ F => ok_Lines_take_pieces F X.T X.L (q_numbers_by X) (q_is_piece X) (m_needs X) (m_take_line X)
theorem f_take_tables {fd : FuncData} (F : Fun K "take_tables" "Lines.take_tables" s_Lines_take_tables fT fd) (hm : Meth K C "take_tables" fT) : ∀ d, d ≤ 4 → FnOk P w K mg base (L2.CX P w) (4 * d + 4) fT fd p_Lines_take_tables (spTabs K C CN d)
  | 0, _ => ok_Lines_take_tables0 F X.T X.L (m_needs X) (m_take_line X) (m_is_over X) (X.m_take_table.mt (sp := fun _ _ _ _ => False) X.L.cl fun _ _ _ => MB.fn_toX fn_never)
  | d + 1, hd => ok_Lines_take_tablesS (by omega) F X.T X.L (m_needs X) (m_take_line X) (m_is_over X) (X.m_take_table.mt X.L.cl fun _ _ G => ok_Lines_take_table G X.T X.L (m_needs X) (m_take_line X) (m_tag_of X)
      (X.m_take_entry.mt X.L.cl fun _ _ G => ok_Lines_take_entry G X.T X.L (m_needs X) (m_tag_of X) (m_plain_in X) (m_take_pieces X)
        (X.m_take_chains.mt X.L.cl fun _ _ G => ok_Lines_take_chains G X.T X.L (m_needs X) (m_take_line X) ⟨fT, fd, p_Lines_take_tables, (bn_take_tables F).choose, f_take_tables F hm d (by omega), X.L.cl, hm, (bn_take_tables F).choose_spec⟩ (rdCh_len d)) (k_is_worths X)))
theorem n_take_tables : MB.MtN P w K mg base 20 C "take_tables" (spTabs K C CN 4) 1 ["last"] (fun vs zs => vs ++ zs) := by
  obtain ⟨fd, F, hm⟩ := X.tts
  exact ⟨fT, fd, p_Lines_take_tables, (bn_take_tables F).choose, f_take_tables X F hm 4 (Nat.le_refl _), X.L.cl, hm, (bn_take_tables F).choose_spec⟩
theorem mk_Lines : MB.MkD P w K mg base 3 "Lines" C (spInit K C CN) [.bl true] := by
  obtain ⟨fd, F⟩ := X.ini
  obtain ⟨ds, h1, h2⟩ := bd_init F
  exact ⟨fL, fd, p_Lines_init__, ds, ok_Lines_init F X.T X.L (q_nt X), X.gL, X.mkL, h2, h1⟩
theorem f_read_tree {f : Addr} {fd : FuncData} {ke : V} (F : FunD K "read_tree" "read_tree" (defArgs s_read_tree) (defBody s_read_tree) (defScope s_read_tree) [] [("known", ke)] f fd) : FnOk P w K mg base (L2.CX P w) 21 f fd p_read_tree (sp_read_tree K CN) := ok_read_tree F X.T X.L (mk_Lines X) (m_needs X) (m_take_line X) (n_take_tables X)
theorem q_law_draw : MB.Cl P w K mg base 1 "_law_draw" spDrawX := X.law_draw.cl fun _ _ F => ok_law_draw F X.T
theorem q_law_rawed : ∀ d, MB.Cl P w K mg base (d + 2) "_law_rawed" (sp_rawed K d)
  | 0 => X.law_rawed.cl fun _ _ F => ok_law_rawed0 F X.T (never X X.law_rawed)
  | d + 1 => X.law_rawed.cl fun _ _ F => ok_law_rawedS F X.T (q_law_rawed d)
theorem q_law_plain : MB.Cl P w K mg base 3 "_law_plain" (sp_plain K) := X.law_plain.cl fun _ _ F => ok_law_plain F X.T (q_law_draw X) (X.law_text.cl fun _ _ F => ok_law_text F X.T (q_law_draw X)) (X.law_numbers.cl fun _ _ F => ok_law_numbers F X.T (q_law_draw X))
theorem q_law_entry : ∀ d, MB.Cl P w K mg base (3 * d + 4) "_law_entry" (sp_entry K d)
  | 0 => X.law_entry.cl fun _ _ F => ok_law_entry0 F X.T (q_law_draw X) (q_law_plain X) (never X X.law_chain)
  | d + 1 => X.law_entry.cl fun _ _ F => ok_law_entryS F X.T (q_law_draw X) (q_law_plain X) (X.law_chain.cl fun _ _ F => ok_law_chain F X.T (q_law_draw X) (X.law_table.cl fun _ _ F => ok_law_table F X.T (q_law_draw X) (X.law_tags.cl fun _ _ F => ok_law_tags F X.T (q_law_draw X)) (q_law_entry d)))
theorem q_law_chain : MB.Cl P w K mg base 15 "_law_chain" (sp_chainAny K) := X.law_chain.cl fun _ _ F => fn_any fun d hd => (ok_law_chain F X.T (q_law_draw X) (X.law_table.cl fun _ _ F => ok_law_table F X.T (q_law_draw X) (X.law_tags.cl fun _ _ F => ok_law_tags F X.T (q_law_draw X)) (q_law_entry X d))).mono (by omega)
theorem q_law_tree : MB.Cl P w K mg base 16 "_law_tree" (sp_tree K) := X.law_tree.cl fun _ _ F => ok_law_tree F X.T (q_law_draw X) (q_law_chain X)
theorem q_law_bent : MB.Cl P w K mg base 3 "_law_bent" (spBentLX fB) := X.law_bent.cl fun _ _ F => ok_law_bent F X.T (q_law_draw X) (X.law_sign_bent.cl fun _ _ F => ok_law_sign_bent F X.T (q_law_draw X)) (X.law_word_bent.cl fun _ _ F => ok_law_word_bent F X.T (q_law_draw X)) (X.law_line_bent.cl fun _ _ F => ok_law_line_bent F X.T (q_law_draw X))
theorem q_law_number_by : MB.Cl P w K mg base 1 "_law_number_by" sp_nb := X.law_number_by.cl fun _ _ F => ok_law_number_by F X.T
theorem q_law_stands : MB.Cl P w K mg base 4 "_law_stands" (sp_stands K) := X.law_stands.cl fun _ _ F => ok_law_stands F X.T (X.law_piece_stands.cl fun _ _ F => ok_law_piece_stands F X.T (q_law_number_by X)) (X.law_entry_stands.cl fun _ _ F => ok_law_entry_stands F X.T (q_law_number_by X) (X.law_plain_stands.cl fun _ _ F => ok_law_plain_stands F X.T (q_law_number_by X)))
theorem q_law_bad_line : MB.Cl P w K mg base 5 "_law_bad_line" (sp_bad K) := X.law_bad_line.cl fun _ _ F => ok_law_bad_line F X.T (q_law_stands X)
theorem k_show_tree : MB.ClN P w K mg base 15 "show_tree" (sp_show_tree K) 1 ["known"] (fun vs zs => vs ++ zs) := X.show_tree.clN (fun _ _ F => f_show_tree X F) fun _ _ F => bn_show_tree F
theorem k_read_tree : MB.ClN P w K mg base 21 "read_tree" (sp_read_tree K CN) 1 ["known"] (fun vs zs => vs ++ zs) := X.read_tree.clN (fun _ _ F => f_read_tree X F) fun _ _ F => bn_read_tree F
theorem calls_of {TL : List (Addr × Str)} (hR : MB.Cl P w K mg base 24 "_law_right" (sp_right K TL)) : Calls P w K mg base CN TL := ⟨X.law_pen.cl fun _ _ F => ok_law_pen F X.T, q_law_draw X, X.law_kinds_known.cl fun _ _ F => ok_law_kinds_known F X.T (q_law_draw X), X.law_some_kinds.cl fun _ _ F => ok_law_some_kinds F X.T (q_law_draw X), q_law_tree X,
  q_law_rawed X 4, k_show_tree X, k_read_tree X, q_law_bent X, X.law_bounds.cl fun _ _ F => ok_law_bounds F X.T, hR⟩
end
end
end K82
set_option maxRecDepth 100000
set_option maxHeartbeats 2000000
namespace K82
open PySem PySem.Spec PyProof.Rows L2 Evl MB
def LawAtG (l : PySem.W.OpenLaw) (w : World) (K : PySem.W.Frag) (n : Nat) (mg : Str → Option Value) (fa : Addr) (h : Heap) : Prop :=
  ∃ cs : List (Addr × Addr), (∀ b ∈ cs.map (·.2), h.get? b = some { cls := .none, data := .fields #[] }) ∧ (∀ b ∈ cs.map (·.2), K.lookup b = none) ∧ (∀ p ∈ cs, PySem.W.CodeHd h p.1 p.2) ∧
    ∀ (base : Heap) (H : Hp) (s : Shared) (a : Addr) (ns : List Int), ns.length ≤ n → K.In base → base.Ns mainGlobals mg → (∀ p ∈ cs, LamX.TabB base mg p.1 p.2) → Env0 l.prog w K mg base callerA [] s H → (∀ p ∈ cs, H p.2 = some (.tbl #[])) → SqL K H a (ns.map V.int) →
      codeAny (model l.prog w) callerA (.call (.ref fa) ⟨[.ref a], []⟩) (CR C8.CX0 [] l.prog w H s (fun v _ => v = .bl true) fun _ _ _ => False) s
theorem walkG {l : PySem.W.OpenLaw} {n : Nat} {q : Program} {loose : List Str} {XP : (Str → Option Value) → Heap → Prop} {YP : World → Heap → Prop} {d : DefRec} {K : Params → PySem.W.Frag} (hn : l.most = some n) (hn2 : n ≤ sizeLine) (hdf : d.params.defaults = []) (hY : ∀ (w : World) (h : Heap), YP w h → (K w.params).In h)
    (F : ∀ (w : World) (s₀ : Shared) (mg mb : Str → Option Value) (fa : Addr) (h : Heap), PySem.W.Ground q loose [] XP w s₀ mg mb h → YP w h → (K w.params).In h → mg d.name = some (.ref fa) → LawAtG l w (K w.params) n mg fa h) :
    PySem.W.WalkO q loose XP YP l.row.toRowW d [] (fun f vs => PySem.call f vs) := by
  refine Att.attach_callB hn hdf fun w s₀ s₁ mg mb fa o pm cd doc a vs ns G Y ho hd hcd hmg hobj hints hlen hbits hg => ?_
  have KX := hY w _ Y
  obtain ⟨cs, h1, h2, h3, hF⟩ := F w s₀ mg mb fa _ G Y KX hmg
  exact law_callG (cs := cs) ⟨KX, G.T.g, G.T.b, G.T.builtins, G.T.nolimit, hg, h1, h2, h3, G.T.bmain, hobj, hints, Nat.le_trans hlen hn2⟩ fun base H k1 k2 k3 k4 k5 k6 => hF base H s₁ a ns hlen k1 k2 k3 k4 k5 k6
theorem mk82 {l : PySem.W.OpenLaw} {q : Program} {loose : List Str} {XP : (Str → Option Value) → Heap → Prop} {w : World} {s₀ : Shared} {mg mb : Str → Option Value} {K : PySem.W.Frag} {fa : Addr} {h : Heap} (Gr : PySem.W.Ground q loose [] XP w s₀ mg mb h) (X : K.In h) (hfa : mg "law" = some (.ref fa))
    {f_is_whole : Addr} {od_is_whole an_is_whole : Option Addr} {sl_is_whole : Array (Option Value)} {oc_is_whole kV_is_whole dc_is_whole pm_is_whole ct_is_whole cd_is_whole : Value} {f_width : Addr} {od_width an_width : Option Addr} {sl_width : Array (Option Value)} {oc_width kV_width dc_width pm_width ct_width cd_width : Value} {f_entry_lines : Addr} {od_entry_lines an_entry_lines : Option Addr} {sl_entry_lines : Array (Option Value)} {oc_entry_lines kV_entry_lines dc_entry_lines pm_entry_lines ct_entry_lines cd_entry_lines : Value} {f_table_lines : Addr} {od_table_lines an_table_lines : Option Addr} {sl_table_lines : Array (Option Value)} {oc_table_lines kV_table_lines dc_table_lines pm_table_lines ct_table_lines cd_table_lines : Value} {f_chain_lines : Addr} {od_chain_lines an_chain_lines : Option Addr} {sl_chain_lines : Array (Option Value)} {oc_chain_lines kV_chain_lines dc_chain_lines pm_chain_lines ct_chain_lines cd_chain_lines : Value} {f_ended : Addr} {od_ended an_ended : Option Addr} {sl_ended : Array (Option Value)} {oc_ended kV_ended dc_ended pm_ended ct_ended cd_ended : Value} {f_is_piece : Addr} {od_is_piece an_is_piece : Option Addr} {sl_is_piece : Array (Option Value)} {oc_is_piece kV_is_piece dc_is_piece pm_is_piece ct_is_piece cd_is_piece : Value} {f_number_by : Addr} {od_number_by an_number_by : Option Addr} {sl_number_by : Array (Option Value)} {oc_number_by kV_number_by dc_number_by pm_number_by ct_number_by cd_number_by : Value} {f_numbers_by : Addr} {od_numbers_by an_numbers_by : Option Addr} {sl_numbers_by : Array (Option Value)} {oc_numbers_by kV_numbers_by dc_numbers_by pm_numbers_by ct_numbers_by cd_numbers_by : Value} {f_law_pen : Addr} {od_law_pen an_law_pen : Option Addr} {sl_law_pen : Array (Option Value)} {oc_law_pen kV_law_pen dc_law_pen pm_law_pen ct_law_pen cd_law_pen : Value} {f_law_draw : Addr} {od_law_draw an_law_draw : Option Addr} {sl_law_draw : Array (Option Value)} {oc_law_draw kV_law_draw dc_law_draw pm_law_draw ct_law_draw cd_law_draw : Value} {f_law_numbers : Addr} {od_law_numbers an_law_numbers : Option Addr} {sl_law_numbers : Array (Option Value)} {oc_law_numbers kV_law_numbers dc_law_numbers pm_law_numbers ct_law_numbers cd_law_numbers : Value} {f_law_text : Addr} {od_law_text an_law_text : Option Addr} {sl_law_text : Array (Option Value)} {oc_law_text kV_law_text dc_law_text pm_law_text ct_law_text cd_law_text : Value} {f_law_plain : Addr} {od_law_plain an_law_plain : Option Addr} {sl_law_plain : Array (Option Value)} {oc_law_plain kV_law_plain dc_law_plain pm_law_plain ct_law_plain cd_law_plain : Value} {f_law_entry : Addr} {od_law_entry an_law_entry : Option Addr} {sl_law_entry : Array (Option Value)} {oc_law_entry kV_law_entry dc_law_entry pm_law_entry ct_law_entry cd_law_entry : Value} {f_law_tags : Addr} {od_law_tags an_law_tags : Option Addr} {sl_law_tags : Array (Option Value)} {oc_law_tags kV_law_tags dc_law_tags pm_law_tags ct_law_tags cd_law_tags : Value} {f_law_table : Addr} {od_law_table an_law_table : Option Addr} {sl_law_table : Array (Option Value)} {oc_law_table kV_law_table dc_law_table pm_law_table ct_law_table cd_law_table : Value} {f_law_chain : Addr} {od_law_chain an_law_chain : Option Addr} {sl_law_chain : Array (Option Value)} {oc_law_chain kV_law_chain dc_law_chain pm_law_chain ct_law_chain cd_law_chain : Value} {f_law_tree : Addr} {od_law_tree an_law_tree : Option Addr} {sl_law_tree : Array (Option Value)} {oc_law_tree kV_law_tree dc_law_tree pm_law_tree ct_law_tree cd_law_tree : Value} {f_law_some_kinds : Addr} {od_law_some_kinds an_law_some_kinds : Option Addr} {sl_law_some_kinds : Array (Option Value)} {oc_law_some_kinds kV_law_some_kinds dc_law_some_kinds pm_law_some_kinds ct_law_some_kinds cd_law_some_kinds : Value} {f_law_rawed : Addr} {od_law_rawed an_law_rawed : Option Addr} {sl_law_rawed : Array (Option Value)} {oc_law_rawed kV_law_rawed dc_law_rawed pm_law_rawed ct_law_rawed cd_law_rawed : Value} {f_law_kinds_known : Addr} {od_law_kinds_known an_law_kinds_known : Option Addr} {sl_law_kinds_known : Array (Option Value)} {oc_law_kinds_known kV_law_kinds_known dc_law_kinds_known pm_law_kinds_known ct_law_kinds_known cd_law_kinds_known : Value} {f_law_sign_bent : Addr} {od_law_sign_bent an_law_sign_bent : Option Addr} {sl_law_sign_bent : Array (Option Value)} {oc_law_sign_bent kV_law_sign_bent dc_law_sign_bent pm_law_sign_bent ct_law_sign_bent cd_law_sign_bent : Value} {f_law_word_bent : Addr} {od_law_word_bent an_law_word_bent : Option Addr} {sl_law_word_bent : Array (Option Value)} {oc_law_word_bent kV_law_word_bent dc_law_word_bent pm_law_word_bent ct_law_word_bent cd_law_word_bent : Value} {f_law_line_bent : Addr} {od_law_line_bent an_law_line_bent : Option Addr} {sl_law_line_bent : Array (Option Value)} {oc_law_line_bent kV_law_line_bent dc_law_line_bent pm_law_line_bent ct_law_line_bent cd_law_line_bent : Value} {f_law_bent : Addr} {od_law_bent an_law_bent : Option Addr} {sl_law_bent : Array (Option Value)} {oc_law_bent kV_law_bent dc_law_bent pm_law_bent ct_law_bent cd_law_bent : Value} {f_law_number_by : Addr} {od_law_number_by an_law_number_by : Option Addr} {sl_law_number_by : Array (Option Value)} {oc_law_number_by kV_law_number_by dc_law_number_by pm_law_number_by ct_law_number_by cd_law_number_by : Value} {f_law_plain_stands : Addr} {od_law_plain_stands an_law_plain_stands : Option Addr} {sl_law_plain_stands : Array (Option Value)} {oc_law_plain_stands kV_law_plain_stands dc_law_plain_stands pm_law_plain_stands ct_law_plain_stands cd_law_plain_stands : Value} {f_law_entry_stands : Addr} {od_law_entry_stands an_law_entry_stands : Option Addr} {sl_law_entry_stands : Array (Option Value)} {oc_law_entry_stands kV_law_entry_stands dc_law_entry_stands pm_law_entry_stands ct_law_entry_stands cd_law_entry_stands : Value} {f_law_piece_stands : Addr} {od_law_piece_stands an_law_piece_stands : Option Addr} {sl_law_piece_stands : Array (Option Value)} {oc_law_piece_stands kV_law_piece_stands dc_law_piece_stands pm_law_piece_stands ct_law_piece_stands cd_law_piece_stands : Value} {f_law_stands : Addr} {od_law_stands an_law_stands : Option Addr} {sl_law_stands : Array (Option Value)} {oc_law_stands kV_law_stands dc_law_stands pm_law_stands ct_law_stands cd_law_stands : Value} {f_law_bad_line : Addr} {od_law_bad_line an_law_bad_line : Option Addr} {sl_law_bad_line : Array (Option Value)} {oc_law_bad_line kV_law_bad_line dc_law_bad_line pm_law_bad_line ct_law_bad_line cd_law_bad_line : Value} {f_law_bounds : Addr} {od_law_bounds an_law_bounds : Option Addr} {sl_law_bounds : Array (Option Value)} {oc_law_bounds kV_law_bounds dc_law_bounds pm_law_bounds ct_law_bounds cd_law_bounds : Value} {aKn aWi aOw aLi aOn : Addr} {f_law_refusal : Addr} {od_law_refusal an_law_refusal : Option Addr} {sl_law_refusal : Array (Option Value)} {oc_law_refusal kV_law_refusal dc_law_refusal pm_law_refusal ct_law_refusal : Value} {cd_law_refusal : Value} {f_law_right : Addr} {od_law_right an_law_right : Option Addr} {sl_law_right : Array (Option Value)} {oc_law_right kV_law_right dc_law_right pm_law_right ct_law_right : Value} {cc_law_right pt_law_right : Addr} {e0_law_right : Value} {e1_law_right : Option Addr} {e2_law_right : Array Value} {e3_law_right : Array (Option Value)} {f_law : Addr} {od_law an_law : Option Addr} {sl_law : Array (Option Value)} {oc_law kV_law dc_law pm_law ct_law : Value} {cc_law pt_law : Addr} {e0_law : Value} {e1_law : Option Addr} {e2_law : Array Value} {e3_law : Array (Option Value)} {t_BYTE : Tok} {t_FIGURES : Tok} {t_MOST_COUNT : Tok} {t_MOST_DEEP : Tok} {t_MOST_ENTRIES : Tok} {t_MOST_FIGURES : Tok} {t_MOST_NUMBER : Tok} {t_MOST_TABLES : Tok} {t_MOST_WORTHS : Tok} {t_SIGNS : Tok} {t_TEXT : Tok} {f_line_of : Addr} {od_line_of an_line_of : Option Addr} {sl_line_of : Array (Option Value)} {oc_line_of dc_line_of pm_line_of ct_line_of cd_line_of : Value} {D_line_of : Addr} {e_line_of : Addr} {f_show_tree : Addr} {od_show_tree an_show_tree : Option Addr} {sl_show_tree : Array (Option Value)} {oc_show_tree dc_show_tree pm_show_tree ct_show_tree cd_show_tree : Value} {D_show_tree : Addr} {f_are_numbers : Addr} {od_are_numbers an_are_numbers : Option Addr} {sl_are_numbers : Array (Option Value)} {oc_are_numbers dc_are_numbers pm_are_numbers ct_are_numbers cd_are_numbers : Value} {D_are_numbers : Addr} {t_are_numbers : Tok} {f_is_worths : Addr} {od_is_worths an_is_worths : Option Addr} {sl_is_worths : Array (Option Value)} {oc_is_worths dc_is_worths pm_is_worths ct_is_worths cd_is_worths : Value} {D_is_worths : Addr} {f_read_tree : Addr} {od_read_tree an_read_tree : Option Addr} {sl_read_tree : Array (Option Value)} {oc_read_tree dc_read_tree pm_read_tree ct_read_tree cd_read_tree : Value} {D_read_tree : Addr} {C CN BN : Addr} {f_Lines_needs : Addr} {od_Lines_needs an_Lines_needs : Option Addr} {sl_Lines_needs : Array (Option Value)} {oc_Lines_needs kV_Lines_needs dc_Lines_needs pm_Lines_needs ct_Lines_needs cd_Lines_needs : Value} {f_Lines_take_line : Addr} {od_Lines_take_line an_Lines_take_line : Option Addr} {sl_Lines_take_line : Array (Option Value)} {oc_Lines_take_line kV_Lines_take_line dc_Lines_take_line pm_Lines_take_line ct_Lines_take_line cd_Lines_take_line : Value} {f_Lines_is_over : Addr} {od_Lines_is_over an_Lines_is_over : Option Addr} {sl_Lines_is_over : Array (Option Value)} {oc_Lines_is_over kV_Lines_is_over dc_Lines_is_over pm_Lines_is_over ct_Lines_is_over cd_Lines_is_over : Value} {f_Lines_take_table : Addr} {od_Lines_take_table an_Lines_take_table : Option Addr} {sl_Lines_take_table : Array (Option Value)} {oc_Lines_take_table kV_Lines_take_table dc_Lines_take_table pm_Lines_take_table ct_Lines_take_table cd_Lines_take_table : Value} {f_Lines_tag_of : Addr} {od_Lines_tag_of an_Lines_tag_of : Option Addr} {sl_Lines_tag_of : Array (Option Value)} {oc_Lines_tag_of kV_Lines_tag_of dc_Lines_tag_of pm_Lines_tag_of ct_Lines_tag_of cd_Lines_tag_of : Value} {f_Lines_take_entry : Addr} {od_Lines_take_entry an_Lines_take_entry : Option Addr} {sl_Lines_take_entry : Array (Option Value)} {oc_Lines_take_entry kV_Lines_take_entry dc_Lines_take_entry pm_Lines_take_entry ct_Lines_take_entry cd_Lines_take_entry : Value} {f_Lines_plain_in : Addr} {od_Lines_plain_in an_Lines_plain_in : Option Addr} {sl_Lines_plain_in : Array (Option Value)} {oc_Lines_plain_in kV_Lines_plain_in dc_Lines_plain_in pm_Lines_plain_in ct_Lines_plain_in cd_Lines_plain_in : Value} {f_Lines_take_chains : Addr} {od_Lines_take_chains an_Lines_take_chains : Option Addr} {sl_Lines_take_chains : Array (Option Value)} {oc_Lines_take_chains kV_Lines_take_chains dc_Lines_take_chains pm_Lines_take_chains ct_Lines_take_chains cd_Lines_take_chains : Value} {f_Lines_take_pieces : Addr} {od_Lines_take_pieces an_Lines_take_pieces : Option Addr} {sl_Lines_take_pieces : Array (Option Value)} {oc_Lines_take_pieces kV_Lines_take_pieces dc_Lines_take_pieces pm_Lines_take_pieces ct_Lines_take_pieces cd_Lines_take_pieces : Value} {f_Lines_take_tables : Addr} {od_Lines_take_tables an_Lines_take_tables : Option Addr} {sl_Lines_take_tables : Array (Option Value)} {oc_Lines_take_tables kV_Lines_take_tables dc_Lines_take_tables pm_Lines_take_tables ct_Lines_take_tables cd_Lines_take_tables : Value} {f_Lines_init__ : Addr} {od_Lines_init__ an_Lines_init__ : Option Addr} {sl_Lines_init__ : Array (Option Value)} {oc_Lines_init__ dc_Lines_init__ pm_Lines_init__ ct_Lines_init__ cd_Lines_init__ : Value} {D_init : Addr} {f_NoText_init__ : Addr} {od_NoText_init__ an_NoText_init__ : Option Addr} {sl_NoText_init__ : Array (Option Value)} {oc_NoText_init__ kV_NoText_init__ dc_NoText_init__ pm_NoText_init__ ct_NoText_init__ cd_NoText_init__ : Value} {u0 : Addr} {u1 : Addr} {u2 : Addr} {u3 : Addr} {u4 : Addr} {u5 : Addr} {u6 : Addr} {u7 : Addr} {u8 : Addr} {u9 : Addr} {u10 : Addr} {v0 : Addr} {v1 : Addr} {v2 : Addr} {v3 : Addr}
    (a_is_whole : PySem.W.nsIn K mainGlobals "is_whole" = some (some (.ref f_is_whole)))
    (l_is_whole : K.lookup f_is_whole = some ⟨oc_is_whole, od_is_whole, .func (PySem.W.fnOf "is_whole" "is_whole" (defArgs s_is_whole) (defBody s_is_whole) (defScope s_is_whole) .none kV_is_whole dc_is_whole pm_is_whole an_is_whole cd_is_whole ct_is_whole), sl_is_whole⟩)
    (c_is_whole : PySem.W.codeIn K cd_is_whole "is_whole" = true)
    (k_is_whole : PySem.W.keepIn K (.ref f_is_whole) = true)
    (a_width : PySem.W.nsIn K mainGlobals "width" = some (some (.ref f_width)))
    (l_width : K.lookup f_width = some ⟨oc_width, od_width, .func (PySem.W.fnOf "width" "width" (defArgs s_width) (defBody s_width) (defScope s_width) .none kV_width dc_width pm_width an_width cd_width ct_width), sl_width⟩)
    (c_width : PySem.W.codeIn K cd_width "width" = true)
    (k_width : PySem.W.keepIn K (.ref f_width) = true)
    (a_entry_lines : PySem.W.nsIn K mainGlobals "entry_lines" = some (some (.ref f_entry_lines)))
    (l_entry_lines : K.lookup f_entry_lines = some ⟨oc_entry_lines, od_entry_lines, .func (PySem.W.fnOf "entry_lines" "entry_lines" (defArgs s_entry_lines) (defBody s_entry_lines) (defScope s_entry_lines) .none kV_entry_lines dc_entry_lines pm_entry_lines an_entry_lines cd_entry_lines ct_entry_lines), sl_entry_lines⟩)
    (c_entry_lines : PySem.W.codeIn K cd_entry_lines "entry_lines" = true)
    (k_entry_lines : PySem.W.keepIn K (.ref f_entry_lines) = true)
    (a_table_lines : PySem.W.nsIn K mainGlobals "table_lines" = some (some (.ref f_table_lines)))
    (l_table_lines : K.lookup f_table_lines = some ⟨oc_table_lines, od_table_lines, .func (PySem.W.fnOf "table_lines" "table_lines" (defArgs s_table_lines) (defBody s_table_lines) (defScope s_table_lines) .none kV_table_lines dc_table_lines pm_table_lines an_table_lines cd_table_lines ct_table_lines), sl_table_lines⟩)
    (c_table_lines : PySem.W.codeIn K cd_table_lines "table_lines" = true)
    (k_table_lines : PySem.W.keepIn K (.ref f_table_lines) = true)
    (a_chain_lines : PySem.W.nsIn K mainGlobals "chain_lines" = some (some (.ref f_chain_lines)))
    (l_chain_lines : K.lookup f_chain_lines = some ⟨oc_chain_lines, od_chain_lines, .func (PySem.W.fnOf "chain_lines" "chain_lines" (defArgs s_chain_lines) (defBody s_chain_lines) (defScope s_chain_lines) .none kV_chain_lines dc_chain_lines pm_chain_lines an_chain_lines cd_chain_lines ct_chain_lines), sl_chain_lines⟩)
    (c_chain_lines : PySem.W.codeIn K cd_chain_lines "chain_lines" = true)
    (k_chain_lines : PySem.W.keepIn K (.ref f_chain_lines) = true)
    (a_ended : PySem.W.nsIn K mainGlobals "ended" = some (some (.ref f_ended)))
    (l_ended : K.lookup f_ended = some ⟨oc_ended, od_ended, .func (PySem.W.fnOf "ended" "ended" (defArgs s_ended) (defBody s_ended) (defScope s_ended) .none kV_ended dc_ended pm_ended an_ended cd_ended ct_ended), sl_ended⟩)
    (c_ended : PySem.W.codeIn K cd_ended "ended" = true)
    (k_ended : PySem.W.keepIn K (.ref f_ended) = true)
    (a_is_piece : PySem.W.nsIn K mainGlobals "is_piece" = some (some (.ref f_is_piece)))
    (l_is_piece : K.lookup f_is_piece = some ⟨oc_is_piece, od_is_piece, .func (PySem.W.fnOf "is_piece" "is_piece" (defArgs s_is_piece) (defBody s_is_piece) (defScope s_is_piece) .none kV_is_piece dc_is_piece pm_is_piece an_is_piece cd_is_piece ct_is_piece), sl_is_piece⟩)
    (c_is_piece : PySem.W.codeIn K cd_is_piece "is_piece" = true)
    (k_is_piece : PySem.W.keepIn K (.ref f_is_piece) = true)
    (a_number_by : PySem.W.nsIn K mainGlobals "number_by" = some (some (.ref f_number_by)))
    (l_number_by : K.lookup f_number_by = some ⟨oc_number_by, od_number_by, .func (PySem.W.fnOf "number_by" "number_by" (defArgs s_number_by) (defBody s_number_by) (defScope s_number_by) .none kV_number_by dc_number_by pm_number_by an_number_by cd_number_by ct_number_by), sl_number_by⟩)
    (c_number_by : PySem.W.codeIn K cd_number_by "number_by" = true)
    (k_number_by : PySem.W.keepIn K (.ref f_number_by) = true)
    (a_numbers_by : PySem.W.nsIn K mainGlobals "numbers_by" = some (some (.ref f_numbers_by)))
    (l_numbers_by : K.lookup f_numbers_by = some ⟨oc_numbers_by, od_numbers_by, .func (PySem.W.fnOf "numbers_by" "numbers_by" (defArgs s_numbers_by) (defBody s_numbers_by) (defScope s_numbers_by) .none kV_numbers_by dc_numbers_by pm_numbers_by an_numbers_by cd_numbers_by ct_numbers_by), sl_numbers_by⟩)
    (c_numbers_by : PySem.W.codeIn K cd_numbers_by "numbers_by" = true)
    (k_numbers_by : PySem.W.keepIn K (.ref f_numbers_by) = true)
    (a_law_pen : PySem.W.nsIn K mainGlobals "_law_pen" = some (some (.ref f_law_pen)))
    (l_law_pen : K.lookup f_law_pen = some ⟨oc_law_pen, od_law_pen, .func (PySem.W.fnOf "_law_pen" "_law_pen" (defArgs s_law_pen) (defBody s_law_pen) (defScope s_law_pen) .none kV_law_pen dc_law_pen pm_law_pen an_law_pen cd_law_pen ct_law_pen), sl_law_pen⟩)
    (c_law_pen : PySem.W.codeIn K cd_law_pen "_law_pen" = true)
    (k_law_pen : PySem.W.keepIn K (.ref f_law_pen) = true)
    (a_law_draw : PySem.W.nsIn K mainGlobals "_law_draw" = some (some (.ref f_law_draw)))
    (l_law_draw : K.lookup f_law_draw = some ⟨oc_law_draw, od_law_draw, .func (PySem.W.fnOf "_law_draw" "_law_draw" (defArgs s_law_draw) (defBody s_law_draw) (defScope s_law_draw) .none kV_law_draw dc_law_draw pm_law_draw an_law_draw cd_law_draw ct_law_draw), sl_law_draw⟩)
    (c_law_draw : PySem.W.codeIn K cd_law_draw "_law_draw" = true)
    (k_law_draw : PySem.W.keepIn K (.ref f_law_draw) = true)
    (a_law_numbers : PySem.W.nsIn K mainGlobals "_law_numbers" = some (some (.ref f_law_numbers)))
    (l_law_numbers : K.lookup f_law_numbers = some ⟨oc_law_numbers, od_law_numbers, .func (PySem.W.fnOf "_law_numbers" "_law_numbers" (defArgs s_law_numbers) (defBody s_law_numbers) (defScope s_law_numbers) .none kV_law_numbers dc_law_numbers pm_law_numbers an_law_numbers cd_law_numbers ct_law_numbers), sl_law_numbers⟩)
    (c_law_numbers : PySem.W.codeIn K cd_law_numbers "_law_numbers" = true)
    (k_law_numbers : PySem.W.keepIn K (.ref f_law_numbers) = true)
    (a_law_text : PySem.W.nsIn K mainGlobals "_law_text" = some (some (.ref f_law_text)))
    (l_law_text : K.lookup f_law_text = some ⟨oc_law_text, od_law_text, .func (PySem.W.fnOf "_law_text" "_law_text" (defArgs s_law_text) (defBody s_law_text) (defScope s_law_text) .none kV_law_text dc_law_text pm_law_text an_law_text cd_law_text ct_law_text), sl_law_text⟩)
    (c_law_text : PySem.W.codeIn K cd_law_text "_law_text" = true)
    (k_law_text : PySem.W.keepIn K (.ref f_law_text) = true)
    (a_law_plain : PySem.W.nsIn K mainGlobals "_law_plain" = some (some (.ref f_law_plain)))
    (l_law_plain : K.lookup f_law_plain = some ⟨oc_law_plain, od_law_plain, .func (PySem.W.fnOf "_law_plain" "_law_plain" (defArgs s_law_plain) (defBody s_law_plain) (defScope s_law_plain) .none kV_law_plain dc_law_plain pm_law_plain an_law_plain cd_law_plain ct_law_plain), sl_law_plain⟩)
    (c_law_plain : PySem.W.codeIn K cd_law_plain "_law_plain" = true)
    (k_law_plain : PySem.W.keepIn K (.ref f_law_plain) = true)
    (a_law_entry : PySem.W.nsIn K mainGlobals "_law_entry" = some (some (.ref f_law_entry)))
    (l_law_entry : K.lookup f_law_entry = some ⟨oc_law_entry, od_law_entry, .func (PySem.W.fnOf "_law_entry" "_law_entry" (defArgs s_law_entry) (defBody s_law_entry) (defScope s_law_entry) .none kV_law_entry dc_law_entry pm_law_entry an_law_entry cd_law_entry ct_law_entry), sl_law_entry⟩)
    (c_law_entry : PySem.W.codeIn K cd_law_entry "_law_entry" = true)
    (k_law_entry : PySem.W.keepIn K (.ref f_law_entry) = true)
    (a_law_tags : PySem.W.nsIn K mainGlobals "_law_tags" = some (some (.ref f_law_tags)))
    (l_law_tags : K.lookup f_law_tags = some ⟨oc_law_tags, od_law_tags, .func (PySem.W.fnOf "_law_tags" "_law_tags" (defArgs s_law_tags) (defBody s_law_tags) (defScope s_law_tags) .none kV_law_tags dc_law_tags pm_law_tags an_law_tags cd_law_tags ct_law_tags), sl_law_tags⟩)
    (c_law_tags : PySem.W.codeIn K cd_law_tags "_law_tags" = true)
    (k_law_tags : PySem.W.keepIn K (.ref f_law_tags) = true)
    (a_law_table : PySem.W.nsIn K mainGlobals "_law_table" = some (some (.ref f_law_table)))
    (l_law_table : K.lookup f_law_table = some ⟨oc_law_table, od_law_table, .func (PySem.W.fnOf "_law_table" "_law_table" (defArgs s_law_table) (defBody s_law_table) (defScope s_law_table) .none kV_law_table dc_law_table pm_law_table an_law_table cd_law_table ct_law_table), sl_law_table⟩)
    (c_law_table : PySem.W.codeIn K cd_law_table "_law_table" = true)
    (k_law_table : PySem.W.keepIn K (.ref f_law_table) = true)
    (a_law_chain : PySem.W.nsIn K mainGlobals "_law_chain" = some (some (.ref f_law_chain)))
    (l_law_chain : K.lookup f_law_chain = some ⟨oc_law_chain, od_law_chain, .func (PySem.W.fnOf "_law_chain" "_law_chain" (defArgs s_law_chain) (defBody s_law_chain) (defScope s_law_chain) .none kV_law_chain dc_law_chain pm_law_chain an_law_chain cd_law_chain ct_law_chain), sl_law_chain⟩)
    (c_law_chain : PySem.W.codeIn K cd_law_chain "_law_chain" = true)
    (k_law_chain : PySem.W.keepIn K (.ref f_law_chain) = true)
    (a_law_tree : PySem.W.nsIn K mainGlobals "_law_tree" = some (some (.ref f_law_tree)))
    (l_law_tree : K.lookup f_law_tree = some ⟨oc_law_tree, od_law_tree, .func (PySem.W.fnOf "_law_tree" "_law_tree" (defArgs s_law_tree) (defBody s_law_tree) (defScope s_law_tree) .none kV_law_tree dc_law_tree pm_law_tree an_law_tree cd_law_tree ct_law_tree), sl_law_tree⟩)
    (c_law_tree : PySem.W.codeIn K cd_law_tree "_law_tree" = true)
    (k_law_tree : PySem.W.keepIn K (.ref f_law_tree) = true)
    (a_law_some_kinds : PySem.W.nsIn K mainGlobals "_law_some_kinds" = some (some (.ref f_law_some_kinds)))
    (l_law_some_kinds : K.lookup f_law_some_kinds = some ⟨oc_law_some_kinds, od_law_some_kinds, .func (PySem.W.fnOf "_law_some_kinds" "_law_some_kinds" (defArgs s_law_some_kinds) (defBody s_law_some_kinds) (defScope s_law_some_kinds) .none kV_law_some_kinds dc_law_some_kinds pm_law_some_kinds an_law_some_kinds cd_law_some_kinds ct_law_some_kinds), sl_law_some_kinds⟩)
    (c_law_some_kinds : PySem.W.codeIn K cd_law_some_kinds "_law_some_kinds" = true)
    (k_law_some_kinds : PySem.W.keepIn K (.ref f_law_some_kinds) = true)
    (a_law_rawed : PySem.W.nsIn K mainGlobals "_law_rawed" = some (some (.ref f_law_rawed)))
    (l_law_rawed : K.lookup f_law_rawed = some ⟨oc_law_rawed, od_law_rawed, .func (PySem.W.fnOf "_law_rawed" "_law_rawed" (defArgs s_law_rawed) (defBody s_law_rawed) (defScope s_law_rawed) .none kV_law_rawed dc_law_rawed pm_law_rawed an_law_rawed cd_law_rawed ct_law_rawed), sl_law_rawed⟩)
    (c_law_rawed : PySem.W.codeIn K cd_law_rawed "_law_rawed" = true)
    (k_law_rawed : PySem.W.keepIn K (.ref f_law_rawed) = true)
    (a_law_kinds_known : PySem.W.nsIn K mainGlobals "_law_kinds_known" = some (some (.ref f_law_kinds_known)))
    (l_law_kinds_known : K.lookup f_law_kinds_known = some ⟨oc_law_kinds_known, od_law_kinds_known, .func (PySem.W.fnOf "_law_kinds_known" "_law_kinds_known" (defArgs s_law_kinds_known) (defBody s_law_kinds_known) (defScope s_law_kinds_known) .none kV_law_kinds_known dc_law_kinds_known pm_law_kinds_known an_law_kinds_known cd_law_kinds_known ct_law_kinds_known), sl_law_kinds_known⟩)
    (c_law_kinds_known : PySem.W.codeIn K cd_law_kinds_known "_law_kinds_known" = true)
    (k_law_kinds_known : PySem.W.keepIn K (.ref f_law_kinds_known) = true)
    (a_law_sign_bent : PySem.W.nsIn K mainGlobals "_law_sign_bent" = some (some (.ref f_law_sign_bent)))
    (l_law_sign_bent : K.lookup f_law_sign_bent = some ⟨oc_law_sign_bent, od_law_sign_bent, .func (PySem.W.fnOf "_law_sign_bent" "_law_sign_bent" (defArgs s_law_sign_bent) (defBody s_law_sign_bent) (defScope s_law_sign_bent) .none kV_law_sign_bent dc_law_sign_bent pm_law_sign_bent an_law_sign_bent cd_law_sign_bent ct_law_sign_bent), sl_law_sign_bent⟩)
    (c_law_sign_bent : PySem.W.codeIn K cd_law_sign_bent "_law_sign_bent" = true)
    (k_law_sign_bent : PySem.W.keepIn K (.ref f_law_sign_bent) = true)
    (a_law_word_bent : PySem.W.nsIn K mainGlobals "_law_word_bent" = some (some (.ref f_law_word_bent)))
    (l_law_word_bent : K.lookup f_law_word_bent = some ⟨oc_law_word_bent, od_law_word_bent, .func (PySem.W.fnOf "_law_word_bent" "_law_word_bent" (defArgs s_law_word_bent) (defBody s_law_word_bent) (defScope s_law_word_bent) .none kV_law_word_bent dc_law_word_bent pm_law_word_bent an_law_word_bent cd_law_word_bent ct_law_word_bent), sl_law_word_bent⟩)
    (c_law_word_bent : PySem.W.codeIn K cd_law_word_bent "_law_word_bent" = true)
    (k_law_word_bent : PySem.W.keepIn K (.ref f_law_word_bent) = true)
    (a_law_line_bent : PySem.W.nsIn K mainGlobals "_law_line_bent" = some (some (.ref f_law_line_bent)))
    (l_law_line_bent : K.lookup f_law_line_bent = some ⟨oc_law_line_bent, od_law_line_bent, .func (PySem.W.fnOf "_law_line_bent" "_law_line_bent" (defArgs s_law_line_bent) (defBody s_law_line_bent) (defScope s_law_line_bent) .none kV_law_line_bent dc_law_line_bent pm_law_line_bent an_law_line_bent cd_law_line_bent ct_law_line_bent), sl_law_line_bent⟩)
    (c_law_line_bent : PySem.W.codeIn K cd_law_line_bent "_law_line_bent" = true)
    (k_law_line_bent : PySem.W.keepIn K (.ref f_law_line_bent) = true)
    (a_law_bent : PySem.W.nsIn K mainGlobals "_law_bent" = some (some (.ref f_law_bent)))
    (l_law_bent : K.lookup f_law_bent = some ⟨oc_law_bent, od_law_bent, .func (PySem.W.fnOf "_law_bent" "_law_bent" (defArgs s_law_bent) (defBody s_law_bent) (defScope s_law_bent) .none kV_law_bent dc_law_bent pm_law_bent an_law_bent cd_law_bent ct_law_bent), sl_law_bent⟩)
    (c_law_bent : PySem.W.codeIn K cd_law_bent "_law_bent" = true)
    (k_law_bent : PySem.W.keepIn K (.ref f_law_bent) = true)
    (a_law_number_by : PySem.W.nsIn K mainGlobals "_law_number_by" = some (some (.ref f_law_number_by)))
    (l_law_number_by : K.lookup f_law_number_by = some ⟨oc_law_number_by, od_law_number_by, .func (PySem.W.fnOf "_law_number_by" "_law_number_by" (defArgs s_law_number_by) (defBody s_law_number_by) (defScope s_law_number_by) .none kV_law_number_by dc_law_number_by pm_law_number_by an_law_number_by cd_law_number_by ct_law_number_by), sl_law_number_by⟩)
    (c_law_number_by : PySem.W.codeIn K cd_law_number_by "_law_number_by" = true)
    (k_law_number_by : PySem.W.keepIn K (.ref f_law_number_by) = true)
    (a_law_plain_stands : PySem.W.nsIn K mainGlobals "_law_plain_stands" = some (some (.ref f_law_plain_stands)))
    (l_law_plain_stands : K.lookup f_law_plain_stands = some ⟨oc_law_plain_stands, od_law_plain_stands, .func (PySem.W.fnOf "_law_plain_stands" "_law_plain_stands" (defArgs s_law_plain_stands) (defBody s_law_plain_stands) (defScope s_law_plain_stands) .none kV_law_plain_stands dc_law_plain_stands pm_law_plain_stands an_law_plain_stands cd_law_plain_stands ct_law_plain_stands), sl_law_plain_stands⟩)
    (c_law_plain_stands : PySem.W.codeIn K cd_law_plain_stands "_law_plain_stands" = true)
    (k_law_plain_stands : PySem.W.keepIn K (.ref f_law_plain_stands) = true)
    (a_law_entry_stands : PySem.W.nsIn K mainGlobals "_law_entry_stands" = some (some (.ref f_law_entry_stands)))
    (l_law_entry_stands : K.lookup f_law_entry_stands = some ⟨oc_law_entry_stands, od_law_entry_stands, .func (PySem.W.fnOf "_law_entry_stands" "_law_entry_stands" (defArgs s_law_entry_stands) (defBody s_law_entry_stands) (defScope s_law_entry_stands) .none kV_law_entry_stands dc_law_entry_stands pm_law_entry_stands an_law_entry_stands cd_law_entry_stands ct_law_entry_stands), sl_law_entry_stands⟩)
    (c_law_entry_stands : PySem.W.codeIn K cd_law_entry_stands "_law_entry_stands" = true)
    (k_law_entry_stands : PySem.W.keepIn K (.ref f_law_entry_stands) = true)
    (a_law_piece_stands : PySem.W.nsIn K mainGlobals "_law_piece_stands" = some (some (.ref f_law_piece_stands)))
    (l_law_piece_stands : K.lookup f_law_piece_stands = some ⟨oc_law_piece_stands, od_law_piece_stands, .func (PySem.W.fnOf "_law_piece_stands" "_law_piece_stands" (defArgs s_law_piece_stands) (defBody s_law_piece_stands) (defScope s_law_piece_stands) .none kV_law_piece_stands dc_law_piece_stands pm_law_piece_stands an_law_piece_stands cd_law_piece_stands ct_law_piece_stands), sl_law_piece_stands⟩)
    (c_law_piece_stands : PySem.W.codeIn K cd_law_piece_stands "_law_piece_stands" = true)
    (k_law_piece_stands : PySem.W.keepIn K (.ref f_law_piece_stands) = true)
    (a_law_stands : PySem.W.nsIn K mainGlobals "_law_stands" = some (some (.ref f_law_stands)))
    (l_law_stands : K.lookup f_law_stands = some ⟨oc_law_stands, od_law_stands, .func (PySem.W.fnOf "_law_stands" "_law_stands" (defArgs s_law_stands) (defBody s_law_stands) (defScope s_law_stands) .none kV_law_stands dc_law_stands pm_law_stands an_law_stands cd_law_stands ct_law_stands), sl_law_stands⟩)
    (c_law_stands : PySem.W.codeIn K cd_law_stands "_law_stands" = true)
    (k_law_stands : PySem.W.keepIn K (.ref f_law_stands) = true)
    (a_law_bad_line : PySem.W.nsIn K mainGlobals "_law_bad_line" = some (some (.ref f_law_bad_line)))
    (l_law_bad_line : K.lookup f_law_bad_line = some ⟨oc_law_bad_line, od_law_bad_line, .func (PySem.W.fnOf "_law_bad_line" "_law_bad_line" (defArgs s_law_bad_line) (defBody s_law_bad_line) (defScope s_law_bad_line) .none kV_law_bad_line dc_law_bad_line pm_law_bad_line an_law_bad_line cd_law_bad_line ct_law_bad_line), sl_law_bad_line⟩)
    (c_law_bad_line : PySem.W.codeIn K cd_law_bad_line "_law_bad_line" = true)
    (k_law_bad_line : PySem.W.keepIn K (.ref f_law_bad_line) = true)
    (a_law_bounds : PySem.W.nsIn K mainGlobals "_law_bounds" = some (some (.ref f_law_bounds)))
    (l_law_bounds : K.lookup f_law_bounds = some ⟨oc_law_bounds, od_law_bounds, .func (PySem.W.fnOf "_law_bounds" "_law_bounds" (defArgs s_law_bounds) (defBody s_law_bounds) (defScope s_law_bounds) .none kV_law_bounds dc_law_bounds pm_law_bounds an_law_bounds cd_law_bounds ct_law_bounds), sl_law_bounds⟩)
    (c_law_bounds : PySem.W.codeIn K cd_law_bounds "_law_bounds" = true)
    (k_law_bounds : PySem.W.keepIn K (.ref f_law_bounds) = true)
    (a_law_refusal : PySem.W.nsIn K mainGlobals "_law_refusal" = some (some (.ref f_law_refusal)))
    (l_law_refusal : K.lookup f_law_refusal = some ⟨oc_law_refusal, od_law_refusal, .func (PySem.W.fnOf "_law_refusal" "_law_refusal" (defArgs s_law_refusal) (defBody s_law_refusal) (defScope s_law_refusal) .none kV_law_refusal dc_law_refusal pm_law_refusal an_law_refusal cd_law_refusal ct_law_refusal), sl_law_refusal⟩)
    (c_law_refusal : PySem.W.codeIn K cd_law_refusal "_law_refusal" = true)
    (k_law_refusal : PySem.W.keepIn K (.ref f_law_refusal) = true)
    (a_law_right : PySem.W.nsIn K mainGlobals "_law_right" = some (some (.ref f_law_right)))
    (l_law_right : K.lookup f_law_right = some ⟨oc_law_right, od_law_right, .func (PySem.W.fnOf "_law_right" "_law_right" (defArgs s_law_right) (defBody s_law_right) (defScope s_law_right) .none kV_law_right dc_law_right pm_law_right an_law_right (.ref cc_law_right) ct_law_right), sl_law_right⟩)
    (c_law_right : PySem.W.codeIn K (.ref cc_law_right) "_law_right" = true)
    (k_law_right : PySem.W.keepIn K (.ref f_law_right) = true)
    (e_law_right : K.lookup cc_law_right = some ⟨e0_law_right, e1_law_right, .fields e2_law_right, e3_law_right⟩)
    (v_law_right : (e2_law_right[11]? : Option Value) = some (.ref pt_law_right))
    (nn_law_right : (K.lookup pt_law_right).isNone = true)
    (a_law : PySem.W.nsIn K mainGlobals "law" = some (some (.ref f_law)))
    (l_law : K.lookup f_law = some ⟨oc_law, od_law, .func (PySem.W.fnOf "law" "law" (defArgs s_law) (defBody s_law) (defScope s_law) .none kV_law dc_law pm_law an_law (.ref cc_law) ct_law), sl_law⟩)
    (c_law : PySem.W.codeIn K (.ref cc_law) "law" = true)
    (k_law : PySem.W.keepIn K (.ref f_law) = true)
    (e_law : K.lookup cc_law = some ⟨e0_law, e1_law, .fields e2_law, e3_law⟩)
    (v_law : (e2_law[11]? : Option Value) = some (.ref pt_law))
    (nn_law : (K.lookup pt_law).isNone = true)
    (w_BYTE : PySem.W.nsIn K mainGlobals "BYTE" = some (some (.int 256 t_BYTE)))
    (w_FIGURES : PySem.W.nsIn K mainGlobals "FIGURES" = some (some (.str "0123456789" t_FIGURES)))
    (w_KNOWN : PySem.W.nsIn K mainGlobals "KNOWN" = some (some (.ref aKn)))
    (w_LIMITS : PySem.W.nsIn K mainGlobals "LIMITS" = some (some (.ref aLi)))
    (w_MOST_COUNT : PySem.W.nsIn K mainGlobals "MOST_COUNT" = some (some (.int 300 t_MOST_COUNT)))
    (w_MOST_DEEP : PySem.W.nsIn K mainGlobals "MOST_DEEP" = some (some (.int 4 t_MOST_DEEP)))
    (w_MOST_ENTRIES : PySem.W.nsIn K mainGlobals "MOST_ENTRIES" = some (some (.int 40 t_MOST_ENTRIES)))
    (w_MOST_FIGURES : PySem.W.nsIn K mainGlobals "MOST_FIGURES" = some (some (.int 10 t_MOST_FIGURES)))
    (w_MOST_NUMBER : PySem.W.nsIn K mainGlobals "MOST_NUMBER" = some (some (.int 65535 t_MOST_NUMBER)))
    (w_MOST_TABLES : PySem.W.nsIn K mainGlobals "MOST_TABLES" = some (some (.int 10 t_MOST_TABLES)))
    (w_MOST_WORTHS : PySem.W.nsIn K mainGlobals "MOST_WORTHS" = some (some (.int 300 t_MOST_WORTHS)))
    (w_ORDERS : PySem.W.nsIn K mainGlobals "ORDERS" = some (some (.ref aOn)))
    (w_OTHER_WIDTHS : PySem.W.nsIn K mainGlobals "OTHER_WIDTHS" = some (some (.ref aOw)))
    (w_SIGNS : PySem.W.nsIn K mainGlobals "SIGNS" = some (some (.str " -.0123456789ABCDEFGHIJKLMNOPQRSTUVWXYZabcdefghijklmnopqrstuvwxyz" t_SIGNS)))
    (w_TEXT : PySem.W.nsIn K mainGlobals "TEXT" = some (some (.int 4 t_TEXT)))
    (w_WIDTHS : PySem.W.nsIn K mainGlobals "WIDTHS" = some (some (.ref aWi)))
    (x_aKn : tupK K aKn ([1, 2, 3, 4, 5, 6].map iv) = true)
    (x_aWi : tupK K aWi ([1, 2, 4, 1, 4, 4].map iv) = true)
    (x_aOw : tupK K aOw ([1, 2, 4].map iv) = true)
    (x_aOn : tupK K aOn [tv (co "small"), tv (co "great")] = true)
    (x_aLi : MB.limB K aLi [(1, 256), (2, 65536), (3, 4294967296)] = true)
    (a_line_of : PySem.W.nsIn K mainGlobals "line_of" = some (some (.ref f_line_of)))
    (l_line_of : K.lookup f_line_of = some ⟨oc_line_of, od_line_of, .func (PySem.W.fnOf "line_of" "line_of" (defArgs s_line_of) (defBody s_line_of) (defScope s_line_of) .none (.ref D_line_of) dc_line_of pm_line_of an_line_of cd_line_of ct_line_of), sl_line_of⟩)
    (c_line_of : PySem.W.codeIn K cd_line_of "line_of" = true)
    (k_line_of : PySem.W.keepIn K (.ref f_line_of) = true)
    (n_line_of : PySem.W.nsIn K D_line_of "numbers" = some (some (.ref e_line_of)))
    (a_show_tree : PySem.W.nsIn K mainGlobals "show_tree" = some (some (.ref f_show_tree)))
    (l_show_tree : K.lookup f_show_tree = some ⟨oc_show_tree, od_show_tree, .func (PySem.W.fnOf "show_tree" "show_tree" (defArgs s_show_tree) (defBody s_show_tree) (defScope s_show_tree) .none (.ref D_show_tree) dc_show_tree pm_show_tree an_show_tree cd_show_tree ct_show_tree), sl_show_tree⟩)
    (c_show_tree : PySem.W.codeIn K cd_show_tree "show_tree" = true)
    (k_show_tree : PySem.W.keepIn K (.ref f_show_tree) = true)
    (n_show_tree : PySem.W.nsIn K D_show_tree "known" = some (some (.ref aKn)))
    (a_are_numbers : PySem.W.nsIn K mainGlobals "are_numbers" = some (some (.ref f_are_numbers)))
    (l_are_numbers : K.lookup f_are_numbers = some ⟨oc_are_numbers, od_are_numbers, .func (PySem.W.fnOf "are_numbers" "are_numbers" (defArgs s_are_numbers) (defBody s_are_numbers) (defScope s_are_numbers) .none (.ref D_are_numbers) dc_are_numbers pm_are_numbers an_are_numbers cd_are_numbers ct_are_numbers), sl_are_numbers⟩)
    (c_are_numbers : PySem.W.codeIn K cd_are_numbers "are_numbers" = true)
    (k_are_numbers : PySem.W.keepIn K (.ref f_are_numbers) = true)
    (n_are_numbers : PySem.W.nsIn K D_are_numbers "most" = some (some (.int 300 t_are_numbers)))
    (a_is_worths : PySem.W.nsIn K mainGlobals "is_worths" = some (some (.ref f_is_worths)))
    (l_is_worths : K.lookup f_is_worths = some ⟨oc_is_worths, od_is_worths, .func (PySem.W.fnOf "is_worths" "is_worths" (defArgs s_is_worths) (defBody s_is_worths) (defScope s_is_worths) .none (.ref D_is_worths) dc_is_worths pm_is_worths an_is_worths cd_is_worths ct_is_worths), sl_is_worths⟩)
    (c_is_worths : PySem.W.codeIn K cd_is_worths "is_worths" = true)
    (k_is_worths : PySem.W.keepIn K (.ref f_is_worths) = true)
    (n_is_worths : PySem.W.nsIn K D_is_worths "known" = some (some (.ref aKn)))
    (a_read_tree : PySem.W.nsIn K mainGlobals "read_tree" = some (some (.ref f_read_tree)))
    (l_read_tree : K.lookup f_read_tree = some ⟨oc_read_tree, od_read_tree, .func (PySem.W.fnOf "read_tree" "read_tree" (defArgs s_read_tree) (defBody s_read_tree) (defScope s_read_tree) .none (.ref D_read_tree) dc_read_tree pm_read_tree an_read_tree cd_read_tree ct_read_tree), sl_read_tree⟩)
    (c_read_tree : PySem.W.codeIn K cd_read_tree "read_tree" = true)
    (k_read_tree : PySem.W.keepIn K (.ref f_read_tree) = true)
    (n_read_tree : PySem.W.nsIn K D_read_tree "known" = some (some (.ref aKn)))
    (gL : PySem.W.nsIn K mainGlobals "Lines" = some (some (.ref C)))
    (Lpg : PySem.W.plainGet K C Str.empty = true)
    (Lhd : PySem.W.hasDictIn K C = true)
    (Lpo : PySem.W.plainOver K C = true)
    (Lsa : PySem.W.findIn K (.ref C) "__setattr__" = some (some (.builtin "object.__setattr__")))
    (Ln_rows : PySem.W.findIn K (.ref C) "rows" = some none)
    (Ln_rest : PySem.W.findIn K (.ref C) "rest" = some none)
    (Ln_known : PySem.W.findIn K (.ref C) "known" = some none)
    (Ln_raw : PySem.W.findIn K (.ref C) "raw" = some none)
    (Ln_spot : PySem.W.findIn K (.ref C) "spot" = some none)
    (a_Lines_needs : PySem.W.findIn K (.ref C) "needs" = some (some (.ref f_Lines_needs)))
    (i_Lines_needs : PySem.W.isFn K (.ref f_Lines_needs) = true)
    (l_Lines_needs : K.lookup f_Lines_needs = some ⟨oc_Lines_needs, od_Lines_needs, .func (PySem.W.fnOf "needs" "Lines.needs" (defArgs s_Lines_needs) (defBody s_Lines_needs) (defScope s_Lines_needs) .none kV_Lines_needs dc_Lines_needs pm_Lines_needs an_Lines_needs cd_Lines_needs ct_Lines_needs), sl_Lines_needs⟩)
    (c_Lines_needs : PySem.W.codeIn K cd_Lines_needs "Lines.needs" = true)
    (k_Lines_needs : PySem.W.keepIn K (.ref f_Lines_needs) = true)
    (a_Lines_take_line : PySem.W.findIn K (.ref C) "take_line" = some (some (.ref f_Lines_take_line)))
    (i_Lines_take_line : PySem.W.isFn K (.ref f_Lines_take_line) = true)
    (l_Lines_take_line : K.lookup f_Lines_take_line = some ⟨oc_Lines_take_line, od_Lines_take_line, .func (PySem.W.fnOf "take_line" "Lines.take_line" (defArgs s_Lines_take_line) (defBody s_Lines_take_line) (defScope s_Lines_take_line) .none kV_Lines_take_line dc_Lines_take_line pm_Lines_take_line an_Lines_take_line cd_Lines_take_line ct_Lines_take_line), sl_Lines_take_line⟩)
    (c_Lines_take_line : PySem.W.codeIn K cd_Lines_take_line "Lines.take_line" = true)
    (k_Lines_take_line : PySem.W.keepIn K (.ref f_Lines_take_line) = true)
    (a_Lines_is_over : PySem.W.findIn K (.ref C) "is_over" = some (some (.ref f_Lines_is_over)))
    (i_Lines_is_over : PySem.W.isFn K (.ref f_Lines_is_over) = true)
    (l_Lines_is_over : K.lookup f_Lines_is_over = some ⟨oc_Lines_is_over, od_Lines_is_over, .func (PySem.W.fnOf "is_over" "Lines.is_over" (defArgs s_Lines_is_over) (defBody s_Lines_is_over) (defScope s_Lines_is_over) .none kV_Lines_is_over dc_Lines_is_over pm_Lines_is_over an_Lines_is_over cd_Lines_is_over ct_Lines_is_over), sl_Lines_is_over⟩)
    (c_Lines_is_over : PySem.W.codeIn K cd_Lines_is_over "Lines.is_over" = true)
    (k_Lines_is_over : PySem.W.keepIn K (.ref f_Lines_is_over) = true)
    (a_Lines_take_table : PySem.W.findIn K (.ref C) "take_table" = some (some (.ref f_Lines_take_table)))
    (i_Lines_take_table : PySem.W.isFn K (.ref f_Lines_take_table) = true)
    (l_Lines_take_table : K.lookup f_Lines_take_table = some ⟨oc_Lines_take_table, od_Lines_take_table, .func (PySem.W.fnOf "take_table" "Lines.take_table" (defArgs s_Lines_take_table) (defBody s_Lines_take_table) (defScope s_Lines_take_table) .none kV_Lines_take_table dc_Lines_take_table pm_Lines_take_table an_Lines_take_table cd_Lines_take_table ct_Lines_take_table), sl_Lines_take_table⟩)
    (c_Lines_take_table : PySem.W.codeIn K cd_Lines_take_table "Lines.take_table" = true)
    (k_Lines_take_table : PySem.W.keepIn K (.ref f_Lines_take_table) = true)
    (a_Lines_tag_of : PySem.W.findIn K (.ref C) "tag_of" = some (some (.ref f_Lines_tag_of)))
    (i_Lines_tag_of : PySem.W.isFn K (.ref f_Lines_tag_of) = true)
    (l_Lines_tag_of : K.lookup f_Lines_tag_of = some ⟨oc_Lines_tag_of, od_Lines_tag_of, .func (PySem.W.fnOf "tag_of" "Lines.tag_of" (defArgs s_Lines_tag_of) (defBody s_Lines_tag_of) (defScope s_Lines_tag_of) .none kV_Lines_tag_of dc_Lines_tag_of pm_Lines_tag_of an_Lines_tag_of cd_Lines_tag_of ct_Lines_tag_of), sl_Lines_tag_of⟩)
    (c_Lines_tag_of : PySem.W.codeIn K cd_Lines_tag_of "Lines.tag_of" = true)
    (k_Lines_tag_of : PySem.W.keepIn K (.ref f_Lines_tag_of) = true)
    (a_Lines_take_entry : PySem.W.findIn K (.ref C) "take_entry" = some (some (.ref f_Lines_take_entry)))
    (i_Lines_take_entry : PySem.W.isFn K (.ref f_Lines_take_entry) = true)
    (l_Lines_take_entry : K.lookup f_Lines_take_entry = some ⟨oc_Lines_take_entry, od_Lines_take_entry, .func (PySem.W.fnOf "take_entry" "Lines.take_entry" (defArgs s_Lines_take_entry) (defBody s_Lines_take_entry) (defScope s_Lines_take_entry) .none kV_Lines_take_entry dc_Lines_take_entry pm_Lines_take_entry an_Lines_take_entry cd_Lines_take_entry ct_Lines_take_entry), sl_Lines_take_entry⟩)
    (c_Lines_take_entry : PySem.W.codeIn K cd_Lines_take_entry "Lines.take_entry" = true)
    (k_Lines_take_entry : PySem.W.keepIn K (.ref f_Lines_take_entry) = true)
    (a_Lines_plain_in : PySem.W.findIn K (.ref C) "plain_in" = some (some (.ref f_Lines_plain_in)))
    (i_Lines_plain_in : PySem.W.isFn K (.ref f_Lines_plain_in) = true)
    (l_Lines_plain_in : K.lookup f_Lines_plain_in = some ⟨oc_Lines_plain_in, od_Lines_plain_in, .func (PySem.W.fnOf "plain_in" "Lines.plain_in" (defArgs s_Lines_plain_in) (defBody s_Lines_plain_in) (defScope s_Lines_plain_in) .none kV_Lines_plain_in dc_Lines_plain_in pm_Lines_plain_in an_Lines_plain_in cd_Lines_plain_in ct_Lines_plain_in), sl_Lines_plain_in⟩)
    (c_Lines_plain_in : PySem.W.codeIn K cd_Lines_plain_in "Lines.plain_in" = true)
    (k_Lines_plain_in : PySem.W.keepIn K (.ref f_Lines_plain_in) = true)
    (a_Lines_take_chains : PySem.W.findIn K (.ref C) "take_chains" = some (some (.ref f_Lines_take_chains)))
    (i_Lines_take_chains : PySem.W.isFn K (.ref f_Lines_take_chains) = true)
    (l_Lines_take_chains : K.lookup f_Lines_take_chains = some ⟨oc_Lines_take_chains, od_Lines_take_chains, .func (PySem.W.fnOf "take_chains" "Lines.take_chains" (defArgs s_Lines_take_chains) (defBody s_Lines_take_chains) (defScope s_Lines_take_chains) .none kV_Lines_take_chains dc_Lines_take_chains pm_Lines_take_chains an_Lines_take_chains cd_Lines_take_chains ct_Lines_take_chains), sl_Lines_take_chains⟩)
    (c_Lines_take_chains : PySem.W.codeIn K cd_Lines_take_chains "Lines.take_chains" = true)
    (k_Lines_take_chains : PySem.W.keepIn K (.ref f_Lines_take_chains) = true)
    (a_Lines_take_pieces : PySem.W.findIn K (.ref C) "take_pieces" = some (some (.ref f_Lines_take_pieces)))
    (i_Lines_take_pieces : PySem.W.isFn K (.ref f_Lines_take_pieces) = true)
    (l_Lines_take_pieces : K.lookup f_Lines_take_pieces = some ⟨oc_Lines_take_pieces, od_Lines_take_pieces, .func (PySem.W.fnOf "take_pieces" "Lines.take_pieces" (defArgs s_Lines_take_pieces) (defBody s_Lines_take_pieces) (defScope s_Lines_take_pieces) .none kV_Lines_take_pieces dc_Lines_take_pieces pm_Lines_take_pieces an_Lines_take_pieces cd_Lines_take_pieces ct_Lines_take_pieces), sl_Lines_take_pieces⟩)
    (c_Lines_take_pieces : PySem.W.codeIn K cd_Lines_take_pieces "Lines.take_pieces" = true)
    (k_Lines_take_pieces : PySem.W.keepIn K (.ref f_Lines_take_pieces) = true)
    (a_Lines_take_tables : PySem.W.findIn K (.ref C) "take_tables" = some (some (.ref f_Lines_take_tables)))
    (i_Lines_take_tables : PySem.W.isFn K (.ref f_Lines_take_tables) = true)
    (l_Lines_take_tables : K.lookup f_Lines_take_tables = some ⟨oc_Lines_take_tables, od_Lines_take_tables, .func (PySem.W.fnOf "take_tables" "Lines.take_tables" (defArgs s_Lines_take_tables) (defBody s_Lines_take_tables) (defScope s_Lines_take_tables) .none kV_Lines_take_tables dc_Lines_take_tables pm_Lines_take_tables an_Lines_take_tables cd_Lines_take_tables ct_Lines_take_tables), sl_Lines_take_tables⟩)
    (c_Lines_take_tables : PySem.W.codeIn K cd_Lines_take_tables "Lines.take_tables" = true)
    (k_Lines_take_tables : PySem.W.keepIn K (.ref f_Lines_take_tables) = true)
    (a_Lines_init__ : PySem.W.findIn K (.ref C) "__init__" = some (some (.ref f_Lines_init__)))
    (i_Lines_init__ : PySem.W.isFn K (.ref f_Lines_init__) = true)
    (l_Lines_init__ : K.lookup f_Lines_init__ = some ⟨oc_Lines_init__, od_Lines_init__, .func (PySem.W.fnOf "__init__" "Lines.__init__" (defArgs s_Lines_init__) (defBody s_Lines_init__) (defScope s_Lines_init__) .none (.ref D_init) dc_Lines_init__ pm_Lines_init__ an_Lines_init__ cd_Lines_init__ ct_Lines_init__), sl_Lines_init__⟩)
    (c_Lines_init__ : PySem.W.codeIn K cd_Lines_init__ "Lines.__init__" = true)
    (k_Lines_init__ : PySem.W.keepIn K (.ref f_Lines_init__) = true)
    (n_Lines_init__ : PySem.W.nsIn K D_init "raw" = some (some (.bool true)))
    (Lmk : PySem.W.makesIn K C = true)
    (Lkp : PySem.W.keepIn K (.ref C) = true)
    (aC : PySem.W.nsIn K mainGlobals "NoText" = some (some (.ref CN)))
    (aB : PySem.W.nsIn K mainGlobals "TornError" = some (some (.ref BN)))
    (iC : PySem.W.findIn K (.ref CN) "__init__" = some (some (.ref f_NoText_init__)))
    (tI : PySem.W.typeIn K (.ref f_NoText_init__) = some (.type "function"))
    (l_NoText_init__ : K.lookup f_NoText_init__ = some ⟨oc_NoText_init__, od_NoText_init__, .func (PySem.W.fnOf "__init__" "NoText.__init__" (defArgs s_NoText_init__) (defBody s_NoText_init__) (defScope s_NoText_init__) .none kV_NoText_init__ dc_NoText_init__ pm_NoText_init__ an_NoText_init__ cd_NoText_init__ ct_NoText_init__), sl_NoText_init__⟩)
    (c_NoText_init__ : PySem.W.codeIn K cd_NoText_init__ "NoText.__init__" = true)
    (k_NoText_init__ : PySem.W.keepIn K (.ref f_NoText_init__) = true)
    (xC : ∃ nm q N bs bm sn sub ab col dd k0 k1 k2 k3 k5, K.lookup CN = some (excClassObj nm q CN N bs bm true sn sub ab col dd k0 k1 k2 k3 k5 "ValueError.__new__") ∧ PySem.HandSPX.refsVE bm = true)
    (saC : PySem.W.findIn K (.ref CN) "__setattr__" = some (some (.builtin "object.__setattr__")))
    (exC : PySem.W.subIn K (.ref CN) (.type "BaseException") = some true)
    (tyC : PySem.W.typeIn K (.ref CN) = some (.type "type"))
    (kC : PySem.W.keepIn K (.ref CN) = true)
    (nfC : PySem.W.findIn K (.ref CN) "line" = some none)
    (rdB : PySem.W.readsIn K BN (.type "type") = true)
    (gaB : PySem.W.specialIn K (.ref BN) "__getattribute__" = some (some (.builtin "type.__getattribute__")))
    (vB : PySem.W.findCls K (.ref BN) (.type "type") "__init__" = some (.val (.builtin "ValueError.__init__")))
    (ecC : MB.ecB K CN = true)
    (exm : PySem.W.exmOne K (.ref CN) (.ref BN) = some true)
    (g1_Busy : PySem.W.nsIn K mainGlobals "Busy" = some (some (.ref u0)))
    (g1_NoDeed : PySem.W.nsIn K mainGlobals "NoDeed" = some (some (.ref u1)))
    (g1_NoGrid : PySem.W.nsIn K mainGlobals "NoGrid" = some (some (.ref u2)))
    (g1_NoLine : PySem.W.nsIn K mainGlobals "NoLine" = some (some (.ref u3)))
    (g1_NoPiece : PySem.W.nsIn K mainGlobals "NoPiece" = some (some (.ref u4)))
    (g1_NoShare : PySem.W.nsIn K mainGlobals "NoShare" = some (some (.ref u5)))
    (g1_NoTable : PySem.W.nsIn K mainGlobals "NoTable" = some (some (.ref u6)))
    (g1_NoTag : PySem.W.nsIn K mainGlobals "NoTag" = some (some (.ref u7)))
    (g1_NoWay : PySem.W.nsIn K mainGlobals "NoWay" = some (some (.ref u8)))
    (g1_Raw : PySem.W.nsIn K mainGlobals "Raw" = some (some (.ref u9)))
    (g1_Spoilt : PySem.W.nsIn K mainGlobals "Spoilt" = some (some (.ref u10)))
    (g2_Taken : PySem.W.nsIn K mainGlobals "Taken" = some (some (.ref v0)))
    (g2_TooDeep : PySem.W.nsIn K mainGlobals "TooDeep" = some (some (.ref v1)))
    (g2_TooGreat : PySem.W.nsIn K mainGlobals "TooGreat" = some (some (.ref v2)))
    (g2_TooMany : PySem.W.nsIn K mainGlobals "TooMany" = some (some (.ref v3)))
    (k1 : PySem.W.kitAny K (.ref CN) [.ref u0, .ref u1, .ref u2, .ref u3, .ref u4, .ref u5, .ref u6, .ref u7, .ref u8, .ref u9, .ref u10] = some false)
    (k2 : PySem.W.kitAny K (.ref CN) [.ref v0, .ref v1, .ref v2, .ref v3] = some false)
    (kV : PySem.W.kitOne K (.ref CN) (.type "ValueError") = some true)
    (kCC : PySem.W.kitOne K (.ref CN) (.ref CN) = some true)
    (ne : (pt_law_right != pt_law) = true)
    (hcR : PySem.W.CodeHd h cc_law_right pt_law_right)
    (htR : h.get? pt_law_right = some { cls := .none, data := .fields #[] })
    (hcL : PySem.W.CodeHd h cc_law pt_law)
    (htL : h.get? pt_law = some { cls := .none, data := .fields #[] })
    (z_abs : PySem.W.nsIn K mainGlobals "abs" = some none)
    (z_all : PySem.W.nsIn K mainGlobals "all" = some none)
    (z_bool : PySem.W.nsIn K mainGlobals "bool" = some none)
    (z_int : PySem.W.nsIn K mainGlobals "int" = some none)
    (z_isinstance : PySem.W.nsIn K mainGlobals "isinstance" = some none)
    (z_len : PySem.W.nsIn K mainGlobals "len" = some none)
    (z_list : PySem.W.nsIn K mainGlobals "list" = some none)
    (z_max : PySem.W.nsIn K mainGlobals "max" = some none)
    (z_min : PySem.W.nsIn K mainGlobals "min" = some none)
    (z_ValueError : PySem.W.nsIn K mainGlobals "ValueError" = some none)
    (z_range : PySem.W.nsIn K mainGlobals "range" = some none)
    (z_repr : PySem.W.nsIn K mainGlobals "repr" = some none)
    (z_str : PySem.W.nsIn K mainGlobals "str" = some none)
    (z_tuple : PySem.W.nsIn K mainGlobals "tuple" = some none) : LawAtG l w K 63 mg fa h := by
  have G := Gr.T.g
  have hfa2 := hfa.symm.trans (PySem.W.mg_of X G a_law)
  cases hfa2
  have T : T0 K mg aKn aWi aOw aLi aOn aKn := ⟨PySem.W.mg_none_of X G z_abs, PySem.W.mg_none_of X G z_all, PySem.W.mg_none_of X G z_bool, PySem.W.mg_none_of X G z_int, PySem.W.mg_none_of X G z_isinstance, PySem.W.mg_none_of X G z_len, PySem.W.mg_none_of X G z_list, PySem.W.mg_none_of X G z_max, PySem.W.mg_none_of X G z_min, PySem.W.mg_none_of X G z_ValueError, PySem.W.mg_none_of X G z_range, PySem.W.mg_none_of X G z_repr, PySem.W.mg_none_of X G z_str, PySem.W.mg_none_of X G z_tuple, ⟨_, PySem.W.mg_of X G w_BYTE, ⟨_, rfl⟩⟩, ⟨_, PySem.W.mg_of X G w_FIGURES, ⟨_, rfl⟩⟩, ⟨_, PySem.W.mg_of X G w_KNOWN, rfl⟩, ⟨_, PySem.W.mg_of X G w_LIMITS, rfl⟩, ⟨_, PySem.W.mg_of X G w_MOST_COUNT, ⟨_, rfl⟩⟩, ⟨_, PySem.W.mg_of X G w_MOST_DEEP, ⟨_, rfl⟩⟩, ⟨_, PySem.W.mg_of X G w_MOST_ENTRIES, ⟨_, rfl⟩⟩, ⟨_, PySem.W.mg_of X G w_MOST_FIGURES, ⟨_, rfl⟩⟩, ⟨_, PySem.W.mg_of X G w_MOST_NUMBER, ⟨_, rfl⟩⟩, ⟨_, PySem.W.mg_of X G w_MOST_TABLES, ⟨_, rfl⟩⟩, ⟨_, PySem.W.mg_of X G w_MOST_WORTHS, ⟨_, rfl⟩⟩, ⟨_, PySem.W.mg_of X G w_ORDERS, rfl⟩, ⟨_, PySem.W.mg_of X G w_OTHER_WIDTHS, rfl⟩, ⟨_, PySem.W.mg_of X G w_SIGNS, ⟨_, rfl⟩⟩, ⟨_, PySem.W.mg_of X G w_TEXT, ⟨_, rfl⟩⟩, ⟨_, PySem.W.mg_of X G w_WIDTHS, rfl⟩, tupK_ok x_aKn, tupK_ok x_aWi, tupK_ok x_aOw, MB.limB_ok x_aLi, tupK_ok x_aOn⟩
  have cL : Cls K C := ⟨Lpg, Lhd, Lpo, Lsa⟩
  have L : LC K C := ⟨cL, Ln_rows, Ln_rest, Ln_known, Ln_raw, Ln_spot⟩
  have F_is_whole := fun_mk (st := s_is_whole) l_is_whole c_is_whole k_is_whole
  have D_is_whole' : Df K mg "is_whole" s_is_whole p_is_whole := ⟨_, _, F_is_whole, PySem.W.mg_of X G a_is_whole, F_is_whole.binds (ps := p_is_whole) fun _ _ _ _ _ _ us hl => match us, hl with | [_, _], _ => rfl⟩
  have F_width := fun_mk (st := s_width) l_width c_width k_width
  have D_width' : Df K mg "width" s_width p_width := ⟨_, _, F_width, PySem.W.mg_of X G a_width, F_width.binds (ps := p_width) fun _ _ _ _ _ _ us hl => match us, hl with | [_], _ => rfl⟩
  have F_entry_lines := fun_mk (st := s_entry_lines) l_entry_lines c_entry_lines k_entry_lines
  have D_entry_lines' : Df K mg "entry_lines" s_entry_lines p_entry_lines := ⟨_, _, F_entry_lines, PySem.W.mg_of X G a_entry_lines, F_entry_lines.binds (ps := p_entry_lines) fun _ _ _ _ _ _ us hl => match us, hl with | [_, _], _ => rfl⟩
  have F_table_lines := fun_mk (st := s_table_lines) l_table_lines c_table_lines k_table_lines
  have D_table_lines' : Df K mg "table_lines" s_table_lines p_table_lines := ⟨_, _, F_table_lines, PySem.W.mg_of X G a_table_lines, F_table_lines.binds (ps := p_table_lines) fun _ _ _ _ _ _ us hl => match us, hl with | [_, _], _ => rfl⟩
  have F_chain_lines := fun_mk (st := s_chain_lines) l_chain_lines c_chain_lines k_chain_lines
  have D_chain_lines' : Df K mg "chain_lines" s_chain_lines p_chain_lines := ⟨_, _, F_chain_lines, PySem.W.mg_of X G a_chain_lines, F_chain_lines.binds (ps := p_chain_lines) fun _ _ _ _ _ _ us hl => match us, hl with | [_, _], _ => rfl⟩
  have F_ended := fun_mk (st := s_ended) l_ended c_ended k_ended
  have D_ended' : Df K mg "ended" s_ended p_ended := ⟨_, _, F_ended, PySem.W.mg_of X G a_ended, F_ended.binds (ps := p_ended) fun _ _ _ _ _ _ us hl => match us, hl with | [_], _ => rfl⟩
  have F_is_piece := fun_mk (st := s_is_piece) l_is_piece c_is_piece k_is_piece
  have D_is_piece' : Df K mg "is_piece" s_is_piece p_is_piece := ⟨_, _, F_is_piece, PySem.W.mg_of X G a_is_piece, F_is_piece.binds (ps := p_is_piece) fun _ _ _ _ _ _ us hl => match us, hl with | [_], _ => rfl⟩
  have F_number_by := fun_mk (st := s_number_by) l_number_by c_number_by k_number_by
  have D_number_by' : Df K mg "number_by" s_number_by p_number_by := ⟨_, _, F_number_by, PySem.W.mg_of X G a_number_by, F_number_by.binds (ps := p_number_by) fun _ _ _ _ _ _ us hl => match us, hl with | [_], _ => rfl⟩
  have F_numbers_by := fun_mk (st := s_numbers_by) l_numbers_by c_numbers_by k_numbers_by
  have D_numbers_by' : Df K mg "numbers_by" s_numbers_by p_numbers_by := ⟨_, _, F_numbers_by, PySem.W.mg_of X G a_numbers_by, F_numbers_by.binds (ps := p_numbers_by) fun _ _ _ _ _ _ us hl => match us, hl with | [_], _ => rfl⟩
  have F_law_pen := fun_mk (st := s_law_pen) l_law_pen c_law_pen k_law_pen
  have D_law_pen' : Df K mg "_law_pen" s_law_pen p_law_pen := ⟨_, _, F_law_pen, PySem.W.mg_of X G a_law_pen, F_law_pen.binds (ps := p_law_pen) fun _ _ _ _ _ _ us hl => match us, hl with | [_], _ => rfl⟩
  have F_law_draw := fun_mk (st := s_law_draw) l_law_draw c_law_draw k_law_draw
  have D_law_draw' : Df K mg "_law_draw" s_law_draw p_law_draw := ⟨_, _, F_law_draw, PySem.W.mg_of X G a_law_draw, F_law_draw.binds (ps := p_law_draw) fun _ _ _ _ _ _ us hl => match us, hl with | [_, _], _ => rfl⟩
  have F_law_numbers := fun_mk (st := s_law_numbers) l_law_numbers c_law_numbers k_law_numbers
  have D_law_numbers' : Df K mg "_law_numbers" s_law_numbers p_law_numbers := ⟨_, _, F_law_numbers, PySem.W.mg_of X G a_law_numbers, F_law_numbers.binds (ps := p_law_numbers) fun _ _ _ _ _ _ us hl => match us, hl with | [_, _, _], _ => rfl⟩
  have F_law_text := fun_mk (st := s_law_text) l_law_text c_law_text k_law_text
  have D_law_text' : Df K mg "_law_text" s_law_text p_law_text := ⟨_, _, F_law_text, PySem.W.mg_of X G a_law_text, F_law_text.binds (ps := p_law_text) fun _ _ _ _ _ _ us hl => match us, hl with | [_, _], _ => rfl⟩
  have F_law_plain := fun_mk (st := s_law_plain) l_law_plain c_law_plain k_law_plain
  have D_law_plain' : Df K mg "_law_plain" s_law_plain p_law_plain := ⟨_, _, F_law_plain, PySem.W.mg_of X G a_law_plain, F_law_plain.binds (ps := p_law_plain) fun _ _ _ _ _ _ us hl => match us, hl with | [_, _], _ => rfl⟩
  have F_law_entry := fun_mk (st := s_law_entry) l_law_entry c_law_entry k_law_entry
  have D_law_entry' : Df K mg "_law_entry" s_law_entry p_law_entry := ⟨_, _, F_law_entry, PySem.W.mg_of X G a_law_entry, F_law_entry.binds (ps := p_law_entry) fun _ _ _ _ _ _ us hl => match us, hl with | [_, _, _, _], _ => rfl⟩
  have F_law_tags := fun_mk (st := s_law_tags) l_law_tags c_law_tags k_law_tags
  have D_law_tags' : Df K mg "_law_tags" s_law_tags p_law_tags := ⟨_, _, F_law_tags, PySem.W.mg_of X G a_law_tags, F_law_tags.binds (ps := p_law_tags) fun _ _ _ _ _ _ us hl => match us, hl with | [_, _], _ => rfl⟩
  have F_law_table := fun_mk (st := s_law_table) l_law_table c_law_table k_law_table
  have D_law_table' : Df K mg "_law_table" s_law_table p_law_table := ⟨_, _, F_law_table, PySem.W.mg_of X G a_law_table, F_law_table.binds (ps := p_law_table) fun _ _ _ _ _ _ us hl => match us, hl with | [_, _, _], _ => rfl⟩
  have F_law_chain := fun_mk (st := s_law_chain) l_law_chain c_law_chain k_law_chain
  have D_law_chain' : Df K mg "_law_chain" s_law_chain p_law_chain := ⟨_, _, F_law_chain, PySem.W.mg_of X G a_law_chain, F_law_chain.binds (ps := p_law_chain) fun _ _ _ _ _ _ us hl => match us, hl with | [_, _, _, _], _ => rfl⟩
  have F_law_tree := fun_mk (st := s_law_tree) l_law_tree c_law_tree k_law_tree
  have D_law_tree' : Df K mg "_law_tree" s_law_tree p_law_tree := ⟨_, _, F_law_tree, PySem.W.mg_of X G a_law_tree, F_law_tree.binds (ps := p_law_tree) fun _ _ _ _ _ _ us hl => match us, hl with | [_, _], _ => rfl⟩
  have F_law_some_kinds := fun_mk (st := s_law_some_kinds) l_law_some_kinds c_law_some_kinds k_law_some_kinds
  have D_law_some_kinds' : Df K mg "_law_some_kinds" s_law_some_kinds p_law_some_kinds := ⟨_, _, F_law_some_kinds, PySem.W.mg_of X G a_law_some_kinds, F_law_some_kinds.binds (ps := p_law_some_kinds) fun _ _ _ _ _ _ us hl => match us, hl with | [_], _ => rfl⟩
  have F_law_rawed := fun_mk (st := s_law_rawed) l_law_rawed c_law_rawed k_law_rawed
  have D_law_rawed' : Df K mg "_law_rawed" s_law_rawed p_law_rawed := ⟨_, _, F_law_rawed, PySem.W.mg_of X G a_law_rawed, F_law_rawed.binds (ps := p_law_rawed) fun _ _ _ _ _ _ us hl => match us, hl with | [_, _], _ => rfl⟩
  have F_law_kinds_known := fun_mk (st := s_law_kinds_known) l_law_kinds_known c_law_kinds_known k_law_kinds_known
  have D_law_kinds_known' : Df K mg "_law_kinds_known" s_law_kinds_known p_law_kinds_known := ⟨_, _, F_law_kinds_known, PySem.W.mg_of X G a_law_kinds_known, F_law_kinds_known.binds (ps := p_law_kinds_known) fun _ _ _ _ _ _ us hl => match us, hl with | [_], _ => rfl⟩
  have F_law_sign_bent := fun_mk (st := s_law_sign_bent) l_law_sign_bent c_law_sign_bent k_law_sign_bent
  have D_law_sign_bent' : Df K mg "_law_sign_bent" s_law_sign_bent p_law_sign_bent := ⟨_, _, F_law_sign_bent, PySem.W.mg_of X G a_law_sign_bent, F_law_sign_bent.binds (ps := p_law_sign_bent) fun _ _ _ _ _ _ us hl => match us, hl with | [_, _], _ => rfl⟩
  have F_law_word_bent := fun_mk (st := s_law_word_bent) l_law_word_bent c_law_word_bent k_law_word_bent
  have D_law_word_bent' : Df K mg "_law_word_bent" s_law_word_bent p_law_word_bent := ⟨_, _, F_law_word_bent, PySem.W.mg_of X G a_law_word_bent, F_law_word_bent.binds (ps := p_law_word_bent) fun _ _ _ _ _ _ us hl => match us, hl with | [_, _, _], _ => rfl⟩
  have F_law_line_bent := fun_mk (st := s_law_line_bent) l_law_line_bent c_law_line_bent k_law_line_bent
  have D_law_line_bent' : Df K mg "_law_line_bent" s_law_line_bent p_law_line_bent := ⟨_, _, F_law_line_bent, PySem.W.mg_of X G a_law_line_bent, F_law_line_bent.binds (ps := p_law_line_bent) fun _ _ _ _ _ _ us hl => match us, hl with | [_, _, _], _ => rfl⟩
  have F_law_bent := fun_mk (st := s_law_bent) l_law_bent c_law_bent k_law_bent
  have D_law_bent' : Df K mg "_law_bent" s_law_bent p_law_bent := ⟨_, _, F_law_bent, PySem.W.mg_of X G a_law_bent, F_law_bent.binds (ps := p_law_bent) fun _ _ _ _ _ _ us hl => match us, hl with | [_, _], _ => rfl⟩
  have F_law_number_by := fun_mk (st := s_law_number_by) l_law_number_by c_law_number_by k_law_number_by
  have D_law_number_by' : Df K mg "_law_number_by" s_law_number_by p_law_number_by := ⟨_, _, F_law_number_by, PySem.W.mg_of X G a_law_number_by, F_law_number_by.binds (ps := p_law_number_by) fun _ _ _ _ _ _ us hl => match us, hl with | [_], _ => rfl⟩
  have F_law_plain_stands := fun_mk (st := s_law_plain_stands) l_law_plain_stands c_law_plain_stands k_law_plain_stands
  have D_law_plain_stands' : Df K mg "_law_plain_stands" s_law_plain_stands p_law_plain_stands := ⟨_, _, F_law_plain_stands, PySem.W.mg_of X G a_law_plain_stands, F_law_plain_stands.binds (ps := p_law_plain_stands) fun _ _ _ _ _ _ us hl => match us, hl with | [_, _], _ => rfl⟩
  have F_law_entry_stands := fun_mk (st := s_law_entry_stands) l_law_entry_stands c_law_entry_stands k_law_entry_stands
  have D_law_entry_stands' : Df K mg "_law_entry_stands" s_law_entry_stands p_law_entry_stands := ⟨_, _, F_law_entry_stands, PySem.W.mg_of X G a_law_entry_stands, F_law_entry_stands.binds (ps := p_law_entry_stands) fun _ _ _ _ _ _ us hl => match us, hl with | [_, _, _], _ => rfl⟩
  have F_law_piece_stands := fun_mk (st := s_law_piece_stands) l_law_piece_stands c_law_piece_stands k_law_piece_stands
  have D_law_piece_stands' : Df K mg "_law_piece_stands" s_law_piece_stands p_law_piece_stands := ⟨_, _, F_law_piece_stands, PySem.W.mg_of X G a_law_piece_stands, F_law_piece_stands.binds (ps := p_law_piece_stands) fun _ _ _ _ _ _ us hl => match us, hl with | [_], _ => rfl⟩
  have F_law_stands := fun_mk (st := s_law_stands) l_law_stands c_law_stands k_law_stands
  have D_law_stands' : Df K mg "_law_stands" s_law_stands p_law_stands := ⟨_, _, F_law_stands, PySem.W.mg_of X G a_law_stands, F_law_stands.binds (ps := p_law_stands) fun _ _ _ _ _ _ us hl => match us, hl with | [_, _, _], _ => rfl⟩
  have F_law_bad_line := fun_mk (st := s_law_bad_line) l_law_bad_line c_law_bad_line k_law_bad_line
  have D_law_bad_line' : Df K mg "_law_bad_line" s_law_bad_line p_law_bad_line := ⟨_, _, F_law_bad_line, PySem.W.mg_of X G a_law_bad_line, F_law_bad_line.binds (ps := p_law_bad_line) fun _ _ _ _ _ _ us hl => match us, hl with | [_, _], _ => rfl⟩
  have F_law_bounds := fun_mk (st := s_law_bounds) l_law_bounds c_law_bounds k_law_bounds
  have D_law_bounds' : Df K mg "_law_bounds" s_law_bounds p_law_bounds := ⟨_, _, F_law_bounds, PySem.W.mg_of X G a_law_bounds, F_law_bounds.binds (ps := p_law_bounds) fun _ _ _ _ _ _ us hl => match us, hl with | [_], _ => rfl⟩
  have D_line_of' : DfK K mg "line_of" s_line_of "numbers" (.ref e_line_of) := ⟨_, _, fund_mk (st := s_line_of) l_line_of c_line_of k_line_of n_line_of rfl, PySem.W.mg_of X G a_line_of⟩
  have D_show_tree' : DfK K mg "show_tree" s_show_tree "known" (.ref aKn) := ⟨_, _, fund_mk (st := s_show_tree) l_show_tree c_show_tree k_show_tree n_show_tree rfl, PySem.W.mg_of X G a_show_tree⟩
  have D_are_numbers' : DfK K mg "are_numbers" s_are_numbers "most" (.int 300) := ⟨_, _, fund_mk (st := s_are_numbers) l_are_numbers c_are_numbers k_are_numbers n_are_numbers ⟨_, rfl⟩, PySem.W.mg_of X G a_are_numbers⟩
  have D_is_worths' : DfK K mg "is_worths" s_is_worths "known" (.ref aKn) := ⟨_, _, fund_mk (st := s_is_worths) l_is_worths c_is_worths k_is_worths n_is_worths rfl, PySem.W.mg_of X G a_is_worths⟩
  have D_read_tree' : DfK K mg "read_tree" s_read_tree "known" (.ref aKn) := ⟨_, _, fund_mk (st := s_read_tree) l_read_tree c_read_tree k_read_tree n_read_tree rfl, PySem.W.mg_of X G a_read_tree⟩
  have F_Lines_needs := fun_mk (st := s_Lines_needs) l_Lines_needs c_Lines_needs k_Lines_needs
  have D_Lines_needs : DfM K C "needs" "Lines.needs" s_Lines_needs p_Lines_needs := ⟨_, _, F_Lines_needs, ⟨a_Lines_needs, i_Lines_needs, k_Lines_needs⟩, F_Lines_needs.binds (ps := p_Lines_needs) fun _ _ _ _ _ _ us hl => match us, hl with | [_, _], _ => rfl⟩
  have F_Lines_take_line := fun_mk (st := s_Lines_take_line) l_Lines_take_line c_Lines_take_line k_Lines_take_line
  have D_Lines_take_line : DfM K C "take_line" "Lines.take_line" s_Lines_take_line p_Lines_take_line := ⟨_, _, F_Lines_take_line, ⟨a_Lines_take_line, i_Lines_take_line, k_Lines_take_line⟩, F_Lines_take_line.binds (ps := p_Lines_take_line) fun _ _ _ _ _ _ us hl => match us, hl with | [_], _ => rfl⟩
  have F_Lines_is_over := fun_mk (st := s_Lines_is_over) l_Lines_is_over c_Lines_is_over k_Lines_is_over
  have D_Lines_is_over : DfM K C "is_over" "Lines.is_over" s_Lines_is_over p_Lines_is_over := ⟨_, _, F_Lines_is_over, ⟨a_Lines_is_over, i_Lines_is_over, k_Lines_is_over⟩, F_Lines_is_over.binds (ps := p_Lines_is_over) fun _ _ _ _ _ _ us hl => match us, hl with | [_], _ => rfl⟩
  have F_Lines_take_table := fun_mk (st := s_Lines_take_table) l_Lines_take_table c_Lines_take_table k_Lines_take_table
  have D_Lines_take_table : DfM K C "take_table" "Lines.take_table" s_Lines_take_table p_Lines_take_table := ⟨_, _, F_Lines_take_table, ⟨a_Lines_take_table, i_Lines_take_table, k_Lines_take_table⟩, F_Lines_take_table.binds (ps := p_Lines_take_table) fun _ _ _ _ _ _ us hl => match us, hl with | [_, _], _ => rfl⟩
  have F_Lines_tag_of := fun_mk (st := s_Lines_tag_of) l_Lines_tag_of c_Lines_tag_of k_Lines_tag_of
  have D_Lines_tag_of : DfM K C "tag_of" "Lines.tag_of" s_Lines_tag_of p_Lines_tag_of := ⟨_, _, F_Lines_tag_of, ⟨a_Lines_tag_of, i_Lines_tag_of, k_Lines_tag_of⟩, F_Lines_tag_of.binds (ps := p_Lines_tag_of) fun _ _ _ _ _ _ us hl => match us, hl with | [_, _], _ => rfl⟩
  have F_Lines_take_entry := fun_mk (st := s_Lines_take_entry) l_Lines_take_entry c_Lines_take_entry k_Lines_take_entry
  have D_Lines_take_entry : DfM K C "take_entry" "Lines.take_entry" s_Lines_take_entry p_Lines_take_entry := ⟨_, _, F_Lines_take_entry, ⟨a_Lines_take_entry, i_Lines_take_entry, k_Lines_take_entry⟩, F_Lines_take_entry.binds (ps := p_Lines_take_entry) fun _ _ _ _ _ _ us hl => match us, hl with | [_, _, _], _ => rfl⟩
  have F_Lines_plain_in := fun_mk (st := s_Lines_plain_in) l_Lines_plain_in c_Lines_plain_in k_Lines_plain_in
  have D_Lines_plain_in : DfM K C "plain_in" "Lines.plain_in" s_Lines_plain_in p_Lines_plain_in := ⟨_, _, F_Lines_plain_in, ⟨a_Lines_plain_in, i_Lines_plain_in, k_Lines_plain_in⟩, F_Lines_plain_in.binds (ps := p_Lines_plain_in) fun _ _ _ _ _ _ us hl => match us, hl with | [_, _], _ => rfl⟩
  have F_Lines_take_chains := fun_mk (st := s_Lines_take_chains) l_Lines_take_chains c_Lines_take_chains k_Lines_take_chains
  have D_Lines_take_chains : DfM K C "take_chains" "Lines.take_chains" s_Lines_take_chains p_Lines_take_chains := ⟨_, _, F_Lines_take_chains, ⟨a_Lines_take_chains, i_Lines_take_chains, k_Lines_take_chains⟩, F_Lines_take_chains.binds (ps := p_Lines_take_chains) fun _ _ _ _ _ _ us hl => match us, hl with | [_, _], _ => rfl⟩
  have F_Lines_take_pieces := fun_mk (st := s_Lines_take_pieces) l_Lines_take_pieces c_Lines_take_pieces k_Lines_take_pieces
  have D_Lines_take_pieces : DfM K C "take_pieces" "Lines.take_pieces" s_Lines_take_pieces p_Lines_take_pieces := ⟨_, _, F_Lines_take_pieces, ⟨a_Lines_take_pieces, i_Lines_take_pieces, k_Lines_take_pieces⟩, F_Lines_take_pieces.binds (ps := p_Lines_take_pieces) fun _ _ _ _ _ _ us hl => match us, hl with | [_], _ => rfl⟩
  have FI := fun_mk (st := s_NoText_init__) l_NoText_init__ c_NoText_init__ k_NoText_init__
  have bI := FI.binds (ps := ["self", "line"]) fun _ _ _ _ _ _ us hl => match us, hl with | [_, _], _ => rfl
  have N0 : NT0 K mg CN BN (.type "type") := ⟨⟨xC, saC, exC, tyC, kC⟩, PySem.W.mg_of X G aC, PySem.W.mg_of X G aB, ⟨rdB, gaB⟩, vB, nfC⟩
  have FX : Facts K mg aKn aWi aOw aLi aOn aKn C CN BN f_NoText_init__ f_Lines_init__ f_Lines_take_tables (.ref e_line_of) := ⟨T, L, D_is_whole', D_width', D_entry_lines', D_table_lines', D_chain_lines', D_ended', D_is_piece', D_number_by', D_numbers_by', D_law_pen', D_law_draw', D_law_numbers', D_law_text', D_law_plain', D_law_entry', D_law_tags', D_law_table', D_law_chain', D_law_tree', D_law_some_kinds', D_law_rawed', D_law_kinds_known', D_law_sign_bent', D_law_word_bent', D_law_line_bent', D_law_bent', D_law_number_by', D_law_plain_stands', D_law_entry_stands', D_law_piece_stands', D_law_stands', D_law_bad_line', D_law_bounds', D_line_of', D_show_tree', D_are_numbers', D_is_worths', D_read_tree', D_Lines_needs, D_Lines_take_line, D_Lines_is_over, D_Lines_take_table, D_Lines_tag_of, D_Lines_take_entry, D_Lines_plain_in, D_Lines_take_chains, D_Lines_take_pieces, ⟨_, fun_mk (st := s_Lines_take_tables) l_Lines_take_tables c_Lines_take_tables k_Lines_take_tables, ⟨a_Lines_take_tables, i_Lines_take_tables, k_Lines_take_tables⟩⟩, PySem.W.mg_of X G gL, ⟨Lmk, a_Lines_init__, i_Lines_init__, Lkp⟩, ⟨_, fund_mk (st := s_Lines_init__) l_Lines_init__ c_Lines_init__ k_Lines_init__ n_Lines_init__ rfl⟩, N0, ⟨_, FI, bI⟩, iC, tI⟩
  have F_law_refusal := fun_mk (st := s_law_refusal) l_law_refusal c_law_refusal k_law_refusal
  have b_law_refusal := F_law_refusal.binds (ps := p_law_refusal) fun _ _ _ _ _ _ us hl => match us, hl with | [_], _ => rfl
  have F_law_right := fun_mk (st := s_law_right) l_law_right c_law_right k_law_right
  have b_law_right := F_law_right.binds (ps := p_law_right) fun _ _ _ _ _ _ us hl => match us, hl with | [_, _], _ => rfl
  have F_law := fun_mk (st := s_law) l_law c_law k_law
  have b_law := F_law.binds (ps := p_law) fun _ _ _ _ _ _ us hl => match us, hl with | [_], _ => rfl
  have RT : RefT K mg CN BN [u0, u1, u2, u3, u4, u5, u6, u7, u8, u9, u10] [v0, v1, v2, v3] := ⟨ec_of ecC, nfC, exm, PySem.W.mg_of X G aB, PySem.W.mg_of X G aC, k1, k2, kV, kCC, ⟨_, _, _, _, _, _, _, _, _, _, _, rfl, PySem.W.mg_of X G g1_Busy, PySem.W.mg_of X G g1_NoDeed, PySem.W.mg_of X G g1_NoGrid, PySem.W.mg_of X G g1_NoLine, PySem.W.mg_of X G g1_NoPiece, PySem.W.mg_of X G g1_NoShare, PySem.W.mg_of X G g1_NoTable, PySem.W.mg_of X G g1_NoTag, PySem.W.mg_of X G g1_NoWay, PySem.W.mg_of X G g1_Raw, PySem.W.mg_of X G g1_Spoilt⟩, ⟨_, _, _, _, rfl, PySem.W.mg_of X G g2_Taken, PySem.W.mg_of X G g2_TooDeep, PySem.W.mg_of X G g2_TooGreat, PySem.W.mg_of X G g2_TooMany⟩⟩
  have RF : RefF K mg CN BN [u0, u1, u2, u3, u4, u5, u6, u7, u8, u9, u10] [v0, v1, v2, v3] := ⟨RT, _, _, _, _, _, _, _, _, _, _, PySem.W.mg_of X G a_law_refusal, k_law_refusal, l_law_refusal, c_law_refusal, b_law_refusal⟩
  have nR : K.lookup pt_law_right = none := by simpa using nn_law_right
  have nL : K.lookup pt_law = none := by simpa using nn_law
  have hne : pt_law_right ≠ pt_law := by simpa using ne
  refine ⟨[(cc_law_right, pt_law_right), (cc_law, pt_law)], ?_, ?_, ?_, fun base H s a ns hlen kb gb tb e0 ht hs => ?_⟩
  · intro b hb
    simp only [List.map_cons, List.map_nil, List.mem_cons, List.not_mem_nil, or_false] at hb
    rcases hb with rfl | rfl
    · exact htR
    · exact htL
  · intro b hb
    simp only [List.map_cons, List.map_nil, List.mem_cons, List.not_mem_nil, or_false] at hb
    rcases hb with rfl | rfl
    · exact nR
    · exact nL
  · intro b hb
    simp only [List.mem_cons, List.not_mem_nil, or_false] at hb
    rcases hb with rfl | rfl
    · exact hcR
    · exact hcL
  let TL : List (Addr × Str) := [(pt_law_right, Str.ofString "_law_right" ++ Str.ofString ".<locals>." ++ Str.ofString "<lambda>"), (pt_law, Str.ofString "law" ++ Str.ofString ".<locals>." ++ Str.ofString "<lambda>")]
  have q_law_right : MB.Cl l.prog w K mg base 24 "_law_right" (sp_right K TL) := MB.cl_of (ok_law_right (TL := TL) l_law_right c_law_right T RF (K82.k_read_tree FX) (K82.q_law_bad_line FX) (K82.k_show_tree FX) (tb _ (List.mem_cons_self ..)) (List.mem_cons_self ..) (fun p hp e => by
    simp only [TL, List.mem_cons, List.not_mem_nil, or_false] at hp
    rcases hp with rfl | rfl
    · rfl
    · exact absurd e.symm hne)) (PySem.W.mg_of X G a_law_right) k_law_right b_law_right
  have calls : Calls l.prog w K mg base CN TL := calls_of FX q_law_right
  have hT : LamX.Tabs TL H := fun p hp => by
    simp only [TL, List.mem_cons, List.not_mem_nil, or_false] at hp
    rcases hp with rfl | rfl
    · exact LamX.TabS.nil (ht (cc_law_right, pt_law_right) (List.mem_cons_self ..))
    · exact LamX.TabS.nil (ht (cc_law, pt_law) (List.mem_cons_of_mem _ (List.mem_cons_self ..)))
  refine LamX.run_ofS (k := 24) (N := n_law) (ps := p_law) (us := [.ref a]) (vs := [.ref a]) l_law c_law sc_law ⟨rfl, by decide, by decide⟩ e0 (.of_eq rfl) (.cons rfl .nil) rfl fun hr => ?_
  obtain ⟨t, h1, h2⟩ := law_body (P := l.prog) (w := w) (K := K) (mg := mg) (base := base) (C := CN) (B := BN) (c := cc_law) (Pt := pt_law) (TL := TL) (f := fa) (A := callerA) (outer := []) (s := s) (H := H) (Q := fun v _ => v = .bl true) (E := fun _ _ _ => False) (a := a) (script := ns) rfl hr T RF calls (tb _ (List.mem_cons_of_mem _ (List.mem_cons_self ..))) (List.mem_cons_of_mem _ (List.mem_cons_self ..)) (fun p hp e => by
    simp only [TL, List.mem_cons, List.not_mem_nil, or_false] at hp
    rcases hp with rfl | rfl
    · exact absurd e hne
    · rfl) hs hT fun _ => rfl
  exact ⟨t, h1.nox, h2⟩
end K82
set_option maxRecDepth 100000
open PySem PySem.W PyProof.Rows
set_option maxRecDepth 100000 in
set_option maxHeartbeats 0 in
theorem PySem.Challenge.cw_tornentries_k82_texts_of_no_tree_holds : PySem.Challenge.rw_tornentries_k82_texts_of_no_tree.Holds := by
  w_on; o_law; k_head; (case hw => w_witness2)
  k_fill
  refine K82.walkG (l := PySem.Challenge.rw_tornentries_k82_texts_of_no_tree) rfl (by decide) rfl (fun w h Y => PySem.W.km_in_of Y) ?F
  case F =>
    intro w s₀ mg mb fa h Gr Y KX hmg
    refine' K82.mk82 Gr KX hmg ?a_is_whole ?l_is_whole ?c_is_whole ?k_is_whole ?a_width ?l_width ?c_width ?k_width ?a_entry_lines ?l_entry_lines ?c_entry_lines ?k_entry_lines ?a_table_lines ?l_table_lines ?c_table_lines ?k_table_lines ?a_chain_lines ?l_chain_lines ?c_chain_lines ?k_chain_lines ?a_ended ?l_ended ?c_ended ?k_ended ?a_is_piece ?l_is_piece ?c_is_piece ?k_is_piece ?a_number_by ?l_number_by ?c_number_by ?k_number_by ?a_numbers_by ?l_numbers_by ?c_numbers_by ?k_numbers_by ?a_law_pen ?l_law_pen ?c_law_pen ?k_law_pen ?a_law_draw ?l_law_draw ?c_law_draw ?k_law_draw ?a_law_numbers ?l_law_numbers ?c_law_numbers ?k_law_numbers ?a_law_text ?l_law_text ?c_law_text ?k_law_text ?a_law_plain ?l_law_plain ?c_law_plain ?k_law_plain ?a_law_entry ?l_law_entry ?c_law_entry ?k_law_entry ?a_law_tags ?l_law_tags ?c_law_tags ?k_law_tags ?a_law_table ?l_law_table ?c_law_table ?k_law_table ?a_law_chain ?l_law_chain ?c_law_chain ?k_law_chain ?a_law_tree ?l_law_tree ?c_law_tree ?k_law_tree ?a_law_some_kinds ?l_law_some_kinds ?c_law_some_kinds ?k_law_some_kinds ?a_law_rawed ?l_law_rawed ?c_law_rawed ?k_law_rawed ?a_law_kinds_known ?l_law_kinds_known ?c_law_kinds_known ?k_law_kinds_known ?a_law_sign_bent ?l_law_sign_bent ?c_law_sign_bent ?k_law_sign_bent ?a_law_word_bent ?l_law_word_bent ?c_law_word_bent ?k_law_word_bent ?a_law_line_bent ?l_law_line_bent ?c_law_line_bent ?k_law_line_bent ?a_law_bent ?l_law_bent ?c_law_bent ?k_law_bent ?a_law_number_by ?l_law_number_by ?c_law_number_by ?k_law_number_by ?a_law_plain_stands ?l_law_plain_stands ?c_law_plain_stands ?k_law_plain_stands ?a_law_entry_stands ?l_law_entry_stands ?c_law_entry_stands ?k_law_entry_stands ?a_law_piece_stands ?l_law_piece_stands ?c_law_piece_stands ?k_law_piece_stands ?a_law_stands ?l_law_stands ?c_law_stands ?k_law_stands ?a_law_bad_line ?l_law_bad_line ?c_law_bad_line ?k_law_bad_line ?a_law_bounds ?l_law_bounds ?c_law_bounds ?k_law_bounds ?a_law_refusal ?l_law_refusal ?c_law_refusal ?k_law_refusal ?a_law_right ?l_law_right ?c_law_right ?k_law_right ?e_law_right ?v_law_right ?nn_law_right ?a_law ?l_law ?c_law ?k_law ?e_law ?v_law ?nn_law ?w_BYTE ?w_FIGURES ?w_KNOWN ?w_LIMITS ?w_MOST_COUNT ?w_MOST_DEEP ?w_MOST_ENTRIES ?w_MOST_FIGURES ?w_MOST_NUMBER ?w_MOST_TABLES ?w_MOST_WORTHS ?w_ORDERS ?w_OTHER_WIDTHS ?w_SIGNS ?w_TEXT ?w_WIDTHS ?x_aKn ?x_aWi ?x_aOw ?x_aOn ?x_aLi ?a_line_of ?l_line_of ?c_line_of ?k_line_of ?n_line_of ?a_show_tree ?l_show_tree ?c_show_tree ?k_show_tree ?n_show_tree ?a_are_numbers ?l_are_numbers ?c_are_numbers ?k_are_numbers ?n_are_numbers ?a_is_worths ?l_is_worths ?c_is_worths ?k_is_worths ?n_is_worths ?a_read_tree ?l_read_tree ?c_read_tree ?k_read_tree ?n_read_tree ?gL ?Lpg ?Lhd ?Lpo ?Lsa ?Ln_rows ?Ln_rest ?Ln_known ?Ln_raw ?Ln_spot ?a_Lines_needs ?i_Lines_needs ?l_Lines_needs ?c_Lines_needs ?k_Lines_needs ?a_Lines_take_line ?i_Lines_take_line ?l_Lines_take_line ?c_Lines_take_line ?k_Lines_take_line ?a_Lines_is_over ?i_Lines_is_over ?l_Lines_is_over ?c_Lines_is_over ?k_Lines_is_over ?a_Lines_take_table ?i_Lines_take_table ?l_Lines_take_table ?c_Lines_take_table ?k_Lines_take_table ?a_Lines_tag_of ?i_Lines_tag_of ?l_Lines_tag_of ?c_Lines_tag_of ?k_Lines_tag_of ?a_Lines_take_entry ?i_Lines_take_entry ?l_Lines_take_entry ?c_Lines_take_entry ?k_Lines_take_entry ?a_Lines_plain_in ?i_Lines_plain_in ?l_Lines_plain_in ?c_Lines_plain_in ?k_Lines_plain_in ?a_Lines_take_chains ?i_Lines_take_chains ?l_Lines_take_chains ?c_Lines_take_chains ?k_Lines_take_chains ?a_Lines_take_pieces ?i_Lines_take_pieces ?l_Lines_take_pieces ?c_Lines_take_pieces ?k_Lines_take_pieces ?a_Lines_take_tables ?i_Lines_take_tables ?l_Lines_take_tables ?c_Lines_take_tables ?k_Lines_take_tables ?a_Lines_init__ ?i_Lines_init__ ?l_Lines_init__ ?c_Lines_init__ ?k_Lines_init__ ?n_Lines_init__ ?Lmk ?Lkp ?aC ?aB ?iC ?tI ?l_NoText_init__ ?c_NoText_init__ ?k_NoText_init__ ?xC ?saC ?exC ?tyC ?kC ?nfC ?rdB ?gaB ?vB ?ecC ?exm ?g1_Busy ?g1_NoDeed ?g1_NoGrid ?g1_NoLine ?g1_NoPiece ?g1_NoShare ?g1_NoTable ?g1_NoTag ?g1_NoWay ?g1_Raw ?g1_Spoilt ?g2_Taken ?g2_TooDeep ?g2_TooGreat ?g2_TooMany ?k1 ?k2 ?kV ?kCC ?ne ?hcR ?htR ?hcL ?htL ?z_abs ?z_all ?z_bool ?z_int ?z_isinstance ?z_len ?z_list ?z_max ?z_min ?z_ValueError ?z_range ?z_repr ?z_str ?z_tuple
    (case a_is_whole => first | k_is | rfl | with_unfolding_all rfl | kernel_rfl)
    (case l_is_whole => first | k_is | rfl | with_unfolding_all rfl | kernel_rfl)
    (case c_is_whole => first | k_is | rfl | with_unfolding_all rfl | kernel_rfl)
    (case k_is_whole => first | k_is | rfl | with_unfolding_all rfl | kernel_rfl)
    (case a_width => first | k_is | rfl | with_unfolding_all rfl | kernel_rfl)
    (case l_width => first | k_is | rfl | with_unfolding_all rfl | kernel_rfl)
    (case c_width => first | k_is | rfl | with_unfolding_all rfl | kernel_rfl)
    (case k_width => first | k_is | rfl | with_unfolding_all rfl | kernel_rfl)
    (case a_entry_lines => first | k_is | rfl | with_unfolding_all rfl | kernel_rfl)
    (case l_entry_lines => first | k_is | rfl | with_unfolding_all rfl | kernel_rfl)
    (case c_entry_lines => first | k_is | rfl | with_unfolding_all rfl | kernel_rfl)
    (case k_entry_lines => first | k_is | rfl | with_unfolding_all rfl | kernel_rfl)
    (case a_table_lines => first | k_is | rfl | with_unfolding_all rfl | kernel_rfl)
    (case l_table_lines => first | k_is | rfl | with_unfolding_all rfl | kernel_rfl)
    (case c_table_lines => first | k_is | rfl | with_unfolding_all rfl | kernel_rfl)
    (case k_table_lines => first | k_is | rfl | with_unfolding_all rfl | kernel_rfl)
    (case a_chain_lines => first | k_is | rfl | with_unfolding_all rfl | kernel_rfl)
    (case l_chain_lines => first | k_is | rfl | with_unfolding_all rfl | kernel_rfl)
    (case c_chain_lines => first | k_is | rfl | with_unfolding_all rfl | kernel_rfl)
    (case k_chain_lines => first | k_is | rfl | with_unfolding_all rfl | kernel_rfl)
    (case a_ended => first | k_is | rfl | with_unfolding_all rfl | kernel_rfl)
    (case l_ended => first | k_is | rfl | with_unfolding_all rfl | kernel_rfl)
    (case c_ended => first | k_is | rfl | with_unfolding_all rfl | kernel_rfl)
    (case k_ended => first | k_is | rfl | with_unfolding_all rfl | kernel_rfl)
    (case a_is_piece => first | k_is | rfl | with_unfolding_all rfl | kernel_rfl)
    (case l_is_piece => first | k_is | rfl | with_unfolding_all rfl | kernel_rfl)
    (case c_is_piece => first | k_is | rfl | with_unfolding_all rfl | kernel_rfl)
    (case k_is_piece => first | k_is | rfl | with_unfolding_all rfl | kernel_rfl)
    (case a_number_by => first | k_is | rfl | with_unfolding_all rfl | kernel_rfl)
    (case l_number_by => first | k_is | rfl | with_unfolding_all rfl | kernel_rfl)
    (case c_number_by => first | k_is | rfl | with_unfolding_all rfl | kernel_rfl)
    (case k_number_by => first | k_is | rfl | with_unfolding_all rfl | kernel_rfl)
    (case a_numbers_by => first | k_is | rfl | with_unfolding_all rfl | kernel_rfl)
    (case l_numbers_by => first | k_is | rfl | with_unfolding_all rfl | kernel_rfl)
    (case c_numbers_by => first | k_is | rfl | with_unfolding_all rfl | kernel_rfl)
    (case k_numbers_by => first | k_is | rfl | with_unfolding_all rfl | kernel_rfl)
    (case a_law_pen => first | k_is | rfl | with_unfolding_all rfl | kernel_rfl)
    (case l_law_pen => first | k_is | rfl | with_unfolding_all rfl | kernel_rfl)
    (case c_law_pen => first | k_is | rfl | with_unfolding_all rfl | kernel_rfl)
    (case k_law_pen => first | k_is | rfl | with_unfolding_all rfl | kernel_rfl)
    (case a_law_draw => first | k_is | rfl | with_unfolding_all rfl | kernel_rfl)
    (case l_law_draw => first | k_is | rfl | with_unfolding_all rfl | kernel_rfl)
    (case c_law_draw => first | k_is | rfl | with_unfolding_all rfl | kernel_rfl)
    (case k_law_draw => first | k_is | rfl | with_unfolding_all rfl | kernel_rfl)
    (case a_law_numbers => first | k_is | rfl | with_unfolding_all rfl | kernel_rfl)
    (case l_law_numbers => first | k_is | rfl | with_unfolding_all rfl | kernel_rfl)
    (case c_law_numbers => first | k_is | rfl | with_unfolding_all rfl | kernel_rfl)
    (case k_law_numbers => first | k_is | rfl | with_unfolding_all rfl | kernel_rfl)
    (case a_law_text => first | k_is | rfl | with_unfolding_all rfl | kernel_rfl)
    (case l_law_text => first | k_is | rfl | with_unfolding_all rfl | kernel_rfl)
    (case c_law_text => first | k_is | rfl | with_unfolding_all rfl | kernel_rfl)
    (case k_law_text => first | k_is | rfl | with_unfolding_all rfl | kernel_rfl)
    (case a_law_plain => first | k_is | rfl | with_unfolding_all rfl | kernel_rfl)
    (case l_law_plain => first | k_is | rfl | with_unfolding_all rfl | kernel_rfl)
    (case c_law_plain => first | k_is | rfl | with_unfolding_all rfl | kernel_rfl)
    (case k_law_plain => first | k_is | rfl | with_unfolding_all rfl | kernel_rfl)
    (case a_law_entry => first | k_is | rfl | with_unfolding_all rfl | kernel_rfl)
    (case l_law_entry => first | k_is | rfl | with_unfolding_all rfl | kernel_rfl)
    (case c_law_entry => first | k_is | rfl | with_unfolding_all rfl | kernel_rfl)
    (case k_law_entry => first | k_is | rfl | with_unfolding_all rfl | kernel_rfl)
    (case a_law_tags => first | k_is | rfl | with_unfolding_all rfl | kernel_rfl)
    (case l_law_tags => first | k_is | rfl | with_unfolding_all rfl | kernel_rfl)
    (case c_law_tags => first | k_is | rfl | with_unfolding_all rfl | kernel_rfl)
    (case k_law_tags => first | k_is | rfl | with_unfolding_all rfl | kernel_rfl)
    (case a_law_table => first | k_is | rfl | with_unfolding_all rfl | kernel_rfl)
    (case l_law_table => first | k_is | rfl | with_unfolding_all rfl | kernel_rfl)
    (case c_law_table => first | k_is | rfl | with_unfolding_all rfl | kernel_rfl)
    (case k_law_table => first | k_is | rfl | with_unfolding_all rfl | kernel_rfl)
    (case a_law_chain => first | k_is | rfl | with_unfolding_all rfl | kernel_rfl)
    (case l_law_chain => first | k_is | rfl | with_unfolding_all rfl | kernel_rfl)
    (case c_law_chain => first | k_is | rfl | with_unfolding_all rfl | kernel_rfl)
    (case k_law_chain => first | k_is | rfl | with_unfolding_all rfl | kernel_rfl)
    (case a_law_tree => first | k_is | rfl | with_unfolding_all rfl | kernel_rfl)
    (case l_law_tree => first | k_is | rfl | with_unfolding_all rfl | kernel_rfl)
    (case c_law_tree => first | k_is | rfl | with_unfolding_all rfl | kernel_rfl)
    (case k_law_tree => first | k_is | rfl | with_unfolding_all rfl | kernel_rfl)
    (case a_law_some_kinds => first | k_is | rfl | with_unfolding_all rfl | kernel_rfl)
    (case l_law_some_kinds => first | k_is | rfl | with_unfolding_all rfl | kernel_rfl)
    (case c_law_some_kinds => first | k_is | rfl | with_unfolding_all rfl | kernel_rfl)
    (case k_law_some_kinds => first | k_is | rfl | with_unfolding_all rfl | kernel_rfl)
    (case a_law_rawed => first | k_is | rfl | with_unfolding_all rfl | kernel_rfl)
    (case l_law_rawed => first | k_is | rfl | with_unfolding_all rfl | kernel_rfl)
    (case c_law_rawed => first | k_is | rfl | with_unfolding_all rfl | kernel_rfl)
    (case k_law_rawed => first | k_is | rfl | with_unfolding_all rfl | kernel_rfl)
    (case a_law_kinds_known => first | k_is | rfl | with_unfolding_all rfl | kernel_rfl)
    (case l_law_kinds_known => first | k_is | rfl | with_unfolding_all rfl | kernel_rfl)
    (case c_law_kinds_known => first | k_is | rfl | with_unfolding_all rfl | kernel_rfl)
    (case k_law_kinds_known => first | k_is | rfl | with_unfolding_all rfl | kernel_rfl)
    (case a_law_sign_bent => first | k_is | rfl | with_unfolding_all rfl | kernel_rfl)
    (case l_law_sign_bent => first | k_is | rfl | with_unfolding_all rfl | kernel_rfl)
    (case c_law_sign_bent => first | k_is | rfl | with_unfolding_all rfl | kernel_rfl)
    (case k_law_sign_bent => first | k_is | rfl | with_unfolding_all rfl | kernel_rfl)
    (case a_law_word_bent => first | k_is | rfl | with_unfolding_all rfl | kernel_rfl)
    (case l_law_word_bent => first | k_is | rfl | with_unfolding_all rfl | kernel_rfl)
    (case c_law_word_bent => first | k_is | rfl | with_unfolding_all rfl | kernel_rfl)
    (case k_law_word_bent => first | k_is | rfl | with_unfolding_all rfl | kernel_rfl)
    (case a_law_line_bent => first | k_is | rfl | with_unfolding_all rfl | kernel_rfl)
    (case l_law_line_bent => first | k_is | rfl | with_unfolding_all rfl | kernel_rfl)
    (case c_law_line_bent => first | k_is | rfl | with_unfolding_all rfl | kernel_rfl)
    (case k_law_line_bent => first | k_is | rfl | with_unfolding_all rfl | kernel_rfl)
    (case a_law_bent => first | k_is | rfl | with_unfolding_all rfl | kernel_rfl)
    (case l_law_bent => first | k_is | rfl | with_unfolding_all rfl | kernel_rfl)
    (case c_law_bent => first | k_is | rfl | with_unfolding_all rfl | kernel_rfl)
    (case k_law_bent => first | k_is | rfl | with_unfolding_all rfl | kernel_rfl)
    (case a_law_number_by => first | k_is | rfl | with_unfolding_all rfl | kernel_rfl)
    (case l_law_number_by => first | k_is | rfl | with_unfolding_all rfl | kernel_rfl)
    (case c_law_number_by => first | k_is | rfl | with_unfolding_all rfl | kernel_rfl)
    (case k_law_number_by => first | k_is | rfl | with_unfolding_all rfl | kernel_rfl)
    (case a_law_plain_stands => first | k_is | rfl | with_unfolding_all rfl | kernel_rfl)
    (case l_law_plain_stands => first | k_is | rfl | with_unfolding_all rfl | kernel_rfl)
    (case c_law_plain_stands => first | k_is | rfl | with_unfolding_all rfl | kernel_rfl)
    (case k_law_plain_stands => first | k_is | rfl | with_unfolding_all rfl | kernel_rfl)
    (case a_law_entry_stands => first | k_is | rfl | with_unfolding_all rfl | kernel_rfl)
    (case l_law_entry_stands => first | k_is | rfl | with_unfolding_all rfl | kernel_rfl)
    (case c_law_entry_stands => first | k_is | rfl | with_unfolding_all rfl | kernel_rfl)
    (case k_law_entry_stands => first | k_is | rfl | with_unfolding_all rfl | kernel_rfl)
    (case a_law_piece_stands => first | k_is | rfl | with_unfolding_all rfl | kernel_rfl)
    (case l_law_piece_stands => first | k_is | rfl | with_unfolding_all rfl | kernel_rfl)
    (case c_law_piece_stands => first | k_is | rfl | with_unfolding_all rfl | kernel_rfl)
    (case k_law_piece_stands => first | k_is | rfl | with_unfolding_all rfl | kernel_rfl)
    (case a_law_stands => first | k_is | rfl | with_unfolding_all rfl | kernel_rfl)
    (case l_law_stands => first | k_is | rfl | with_unfolding_all rfl | kernel_rfl)
    (case c_law_stands => first | k_is | rfl | with_unfolding_all rfl | kernel_rfl)
    (case k_law_stands => first | k_is | rfl | with_unfolding_all rfl | kernel_rfl)
    (case a_law_bad_line => first | k_is | rfl | with_unfolding_all rfl | kernel_rfl)
    (case l_law_bad_line => first | k_is | rfl | with_unfolding_all rfl | kernel_rfl)
    (case c_law_bad_line => first | k_is | rfl | with_unfolding_all rfl | kernel_rfl)
    (case k_law_bad_line => first | k_is | rfl | with_unfolding_all rfl | kernel_rfl)
    (case a_law_bounds => first | k_is | rfl | with_unfolding_all rfl | kernel_rfl)
    (case l_law_bounds => first | k_is | rfl | with_unfolding_all rfl | kernel_rfl)
    (case c_law_bounds => first | k_is | rfl | with_unfolding_all rfl | kernel_rfl)
    (case k_law_bounds => first | k_is | rfl | with_unfolding_all rfl | kernel_rfl)
    (case a_law_refusal => first | k_is | rfl | with_unfolding_all rfl | kernel_rfl)
    (case l_law_refusal => first | k_is | rfl | with_unfolding_all rfl | kernel_rfl)
    (case c_law_refusal => first | k_is | rfl | with_unfolding_all rfl | kernel_rfl)
    (case k_law_refusal => first | k_is | rfl | with_unfolding_all rfl | kernel_rfl)
    (case a_law_right => first | k_is | rfl | with_unfolding_all rfl | kernel_rfl)
    (case l_law_right => first | k_is | rfl | with_unfolding_all rfl | kernel_rfl)
    (case c_law_right => first | k_is | rfl | with_unfolding_all rfl | kernel_rfl)
    (case k_law_right => first | k_is | rfl | with_unfolding_all rfl | kernel_rfl)
    (case e_law_right => first | k_is | rfl | with_unfolding_all rfl | kernel_rfl)
    (case v_law_right => rfl)
    (case nn_law_right => first | k_is | rfl | with_unfolding_all rfl | kernel_rfl)
    (case a_law => first | k_is | rfl | with_unfolding_all rfl | kernel_rfl)
    (case l_law => first | k_is | rfl | with_unfolding_all rfl | kernel_rfl)
    (case c_law => first | k_is | rfl | with_unfolding_all rfl | kernel_rfl)
    (case k_law => first | k_is | rfl | with_unfolding_all rfl | kernel_rfl)
    (case e_law => first | k_is | rfl | with_unfolding_all rfl | kernel_rfl)
    (case v_law => rfl)
    (case nn_law => first | k_is | rfl | with_unfolding_all rfl | kernel_rfl)
    (case w_BYTE => first | k_is | rfl | with_unfolding_all rfl | kernel_rfl)
    (case w_FIGURES => first | k_is | rfl | with_unfolding_all rfl | kernel_rfl)
    (case w_KNOWN => first | k_is | rfl | with_unfolding_all rfl | kernel_rfl)
    (case w_LIMITS => first | k_is | rfl | with_unfolding_all rfl | kernel_rfl)
    (case w_MOST_COUNT => first | k_is | rfl | with_unfolding_all rfl | kernel_rfl)
    (case w_MOST_DEEP => first | k_is | rfl | with_unfolding_all rfl | kernel_rfl)
    (case w_MOST_ENTRIES => first | k_is | rfl | with_unfolding_all rfl | kernel_rfl)
    (case w_MOST_FIGURES => first | k_is | rfl | with_unfolding_all rfl | kernel_rfl)
    (case w_MOST_NUMBER => first | k_is | rfl | with_unfolding_all rfl | kernel_rfl)
    (case w_MOST_TABLES => first | k_is | rfl | with_unfolding_all rfl | kernel_rfl)
    (case w_MOST_WORTHS => first | k_is | rfl | with_unfolding_all rfl | kernel_rfl)
    (case w_ORDERS => first | k_is | rfl | with_unfolding_all rfl | kernel_rfl)
    (case w_OTHER_WIDTHS => first | k_is | rfl | with_unfolding_all rfl | kernel_rfl)
    (case w_SIGNS => first | k_is | rfl | with_unfolding_all rfl | kernel_rfl)
    (case w_TEXT => first | k_is | rfl | with_unfolding_all rfl | kernel_rfl)
    (case w_WIDTHS => first | k_is | rfl | with_unfolding_all rfl | kernel_rfl)
    (case x_aKn => first | k_is | rfl | with_unfolding_all rfl | kernel_rfl)
    (case x_aWi => first | k_is | rfl | with_unfolding_all rfl | kernel_rfl)
    (case x_aOw => first | k_is | rfl | with_unfolding_all rfl | kernel_rfl)
    (case x_aOn => first | k_is | rfl | with_unfolding_all rfl | kernel_rfl)
    (case x_aLi => first | k_is | rfl | with_unfolding_all rfl | kernel_rfl)
    (case a_line_of => first | k_is | rfl | with_unfolding_all rfl | kernel_rfl)
    (case l_line_of => first | k_is | rfl | with_unfolding_all rfl | kernel_rfl)
    (case c_line_of => first | k_is | rfl | with_unfolding_all rfl | kernel_rfl)
    (case k_line_of => first | k_is | rfl | with_unfolding_all rfl | kernel_rfl)
    (case n_line_of => first | k_is | rfl | with_unfolding_all rfl | kernel_rfl)
    (case a_show_tree => first | k_is | rfl | with_unfolding_all rfl | kernel_rfl)
    (case l_show_tree => first | k_is | rfl | with_unfolding_all rfl | kernel_rfl)
    (case c_show_tree => first | k_is | rfl | with_unfolding_all rfl | kernel_rfl)
    (case k_show_tree => first | k_is | rfl | with_unfolding_all rfl | kernel_rfl)
    (case n_show_tree => first | k_is | rfl | with_unfolding_all rfl | kernel_rfl)
    (case a_are_numbers => first | k_is | rfl | with_unfolding_all rfl | kernel_rfl)
    (case l_are_numbers => first | k_is | rfl | with_unfolding_all rfl | kernel_rfl)
    (case c_are_numbers => first | k_is | rfl | with_unfolding_all rfl | kernel_rfl)
    (case k_are_numbers => first | k_is | rfl | with_unfolding_all rfl | kernel_rfl)
    (case n_are_numbers => first | k_is | rfl | with_unfolding_all rfl | kernel_rfl)
    (case a_is_worths => first | k_is | rfl | with_unfolding_all rfl | kernel_rfl)
    (case l_is_worths => first | k_is | rfl | with_unfolding_all rfl | kernel_rfl)
    (case c_is_worths => first | k_is | rfl | with_unfolding_all rfl | kernel_rfl)
    (case k_is_worths => first | k_is | rfl | with_unfolding_all rfl | kernel_rfl)
    (case n_is_worths => first | k_is | rfl | with_unfolding_all rfl | kernel_rfl)
    (case a_read_tree => first | k_is | rfl | with_unfolding_all rfl | kernel_rfl)
    (case l_read_tree => first | k_is | rfl | with_unfolding_all rfl | kernel_rfl)
    (case c_read_tree => first | k_is | rfl | with_unfolding_all rfl | kernel_rfl)
    (case k_read_tree => first | k_is | rfl | with_unfolding_all rfl | kernel_rfl)
    (case n_read_tree => first | k_is | rfl | with_unfolding_all rfl | kernel_rfl)
    (case gL => first | k_is | rfl | with_unfolding_all rfl | kernel_rfl)
    (case Lpg => first | k_is | rfl | with_unfolding_all rfl | kernel_rfl)
    (case Lhd => first | k_is | rfl | with_unfolding_all rfl | kernel_rfl)
    (case Lpo => first | k_is | rfl | with_unfolding_all rfl | kernel_rfl)
    (case Lsa => first | k_is | rfl | with_unfolding_all rfl | kernel_rfl)
    (case Ln_rows => first | k_is | rfl | with_unfolding_all rfl | kernel_rfl)
    (case Ln_rest => first | k_is | rfl | with_unfolding_all rfl | kernel_rfl)
    (case Ln_known => first | k_is | rfl | with_unfolding_all rfl | kernel_rfl)
    (case Ln_raw => first | k_is | rfl | with_unfolding_all rfl | kernel_rfl)
    (case Ln_spot => first | k_is | rfl | with_unfolding_all rfl | kernel_rfl)
    (case a_Lines_needs => first | k_is | rfl | with_unfolding_all rfl | kernel_rfl)
    (case i_Lines_needs => first | k_is | rfl | with_unfolding_all rfl | kernel_rfl)
    (case l_Lines_needs => first | k_is | rfl | with_unfolding_all rfl | kernel_rfl)
    (case c_Lines_needs => first | k_is | rfl | with_unfolding_all rfl | kernel_rfl)
    (case k_Lines_needs => first | k_is | rfl | with_unfolding_all rfl | kernel_rfl)
    (case a_Lines_take_line => first | k_is | rfl | with_unfolding_all rfl | kernel_rfl)
    (case i_Lines_take_line => first | k_is | rfl | with_unfolding_all rfl | kernel_rfl)
    (case l_Lines_take_line => first | k_is | rfl | with_unfolding_all rfl | kernel_rfl)
    (case c_Lines_take_line => first | k_is | rfl | with_unfolding_all rfl | kernel_rfl)
    (case k_Lines_take_line => first | k_is | rfl | with_unfolding_all rfl | kernel_rfl)
    (case a_Lines_is_over => first | k_is | rfl | with_unfolding_all rfl | kernel_rfl)
    (case i_Lines_is_over => first | k_is | rfl | with_unfolding_all rfl | kernel_rfl)
    (case l_Lines_is_over => first | k_is | rfl | with_unfolding_all rfl | kernel_rfl)
    (case c_Lines_is_over => first | k_is | rfl | with_unfolding_all rfl | kernel_rfl)
    (case k_Lines_is_over => first | k_is | rfl | with_unfolding_all rfl | kernel_rfl)
    (case a_Lines_take_table => first | k_is | rfl | with_unfolding_all rfl | kernel_rfl)
    (case i_Lines_take_table => first | k_is | rfl | with_unfolding_all rfl | kernel_rfl)
    (case l_Lines_take_table => first | k_is | rfl | with_unfolding_all rfl | kernel_rfl)
    (case c_Lines_take_table => first | k_is | rfl | with_unfolding_all rfl | kernel_rfl)
    (case k_Lines_take_table => first | k_is | rfl | with_unfolding_all rfl | kernel_rfl)
    (case a_Lines_tag_of => first | k_is | rfl | with_unfolding_all rfl | kernel_rfl)
    (case i_Lines_tag_of => first | k_is | rfl | with_unfolding_all rfl | kernel_rfl)
    (case l_Lines_tag_of => first | k_is | rfl | with_unfolding_all rfl | kernel_rfl)
    (case c_Lines_tag_of => first | k_is | rfl | with_unfolding_all rfl | kernel_rfl)
    (case k_Lines_tag_of => first | k_is | rfl | with_unfolding_all rfl | kernel_rfl)
    (case a_Lines_take_entry => first | k_is | rfl | with_unfolding_all rfl | kernel_rfl)
    (case i_Lines_take_entry => first | k_is | rfl | with_unfolding_all rfl | kernel_rfl)
    (case l_Lines_take_entry => first | k_is | rfl | with_unfolding_all rfl | kernel_rfl)
    (case c_Lines_take_entry => first | k_is | rfl | with_unfolding_all rfl | kernel_rfl)
    (case k_Lines_take_entry => first | k_is | rfl | with_unfolding_all rfl | kernel_rfl)
    (case a_Lines_plain_in => first | k_is | rfl | with_unfolding_all rfl | kernel_rfl)
    (case i_Lines_plain_in => first | k_is | rfl | with_unfolding_all rfl | kernel_rfl)
    (case l_Lines_plain_in => first | k_is | rfl | with_unfolding_all rfl | kernel_rfl)
    (case c_Lines_plain_in => first | k_is | rfl | with_unfolding_all rfl | kernel_rfl)
    (case k_Lines_plain_in => first | k_is | rfl | with_unfolding_all rfl | kernel_rfl)
    (case a_Lines_take_chains => first | k_is | rfl | with_unfolding_all rfl | kernel_rfl)
    (case i_Lines_take_chains => first | k_is | rfl | with_unfolding_all rfl | kernel_rfl)
    (case l_Lines_take_chains => first | k_is | rfl | with_unfolding_all rfl | kernel_rfl)
    (case c_Lines_take_chains => first | k_is | rfl | with_unfolding_all rfl | kernel_rfl)
    (case k_Lines_take_chains => first | k_is | rfl | with_unfolding_all rfl | kernel_rfl)
    (case a_Lines_take_pieces => first | k_is | rfl | with_unfolding_all rfl | kernel_rfl)
    (case i_Lines_take_pieces => first | k_is | rfl | with_unfolding_all rfl | kernel_rfl)
    (case l_Lines_take_pieces => first | k_is | rfl | with_unfolding_all rfl | kernel_rfl)
    (case c_Lines_take_pieces => first | k_is | rfl | with_unfolding_all rfl | kernel_rfl)
    (case k_Lines_take_pieces => first | k_is | rfl | with_unfolding_all rfl | kernel_rfl)
    (case a_Lines_take_tables => first | k_is | rfl | with_unfolding_all rfl | kernel_rfl)
    (case i_Lines_take_tables => first | k_is | rfl | with_unfolding_all rfl | kernel_rfl)
    (case l_Lines_take_tables => first | k_is | rfl | with_unfolding_all rfl | kernel_rfl)
    (case c_Lines_take_tables => first | k_is | rfl | with_unfolding_all rfl | kernel_rfl)
    (case k_Lines_take_tables => first | k_is | rfl | with_unfolding_all rfl | kernel_rfl)
    (case a_Lines_init__ => first | k_is | rfl | with_unfolding_all rfl | kernel_rfl)
    (case i_Lines_init__ => first | k_is | rfl | with_unfolding_all rfl | kernel_rfl)
    (case l_Lines_init__ => first | k_is | rfl | with_unfolding_all rfl | kernel_rfl)
    (case c_Lines_init__ => first | k_is | rfl | with_unfolding_all rfl | kernel_rfl)
    (case k_Lines_init__ => first | k_is | rfl | with_unfolding_all rfl | kernel_rfl)
    (case n_Lines_init__ => first | k_is | rfl | with_unfolding_all rfl | kernel_rfl)
    (case Lmk => first | k_is | rfl | with_unfolding_all rfl | kernel_rfl)
    (case Lkp => first | k_is | rfl | with_unfolding_all rfl | kernel_rfl)
    (case aC => first | k_is | rfl | with_unfolding_all rfl | kernel_rfl)
    (case aB => first | k_is | rfl | with_unfolding_all rfl | kernel_rfl)
    (case iC => first | k_is | rfl | with_unfolding_all rfl | kernel_rfl)
    (case tI => first | k_is | rfl | with_unfolding_all rfl | kernel_rfl)
    (case l_NoText_init__ => first | k_is | rfl | with_unfolding_all rfl | kernel_rfl)
    (case c_NoText_init__ => first | k_is | rfl | with_unfolding_all rfl | kernel_rfl)
    (case k_NoText_init__ => first | k_is | rfl | with_unfolding_all rfl | kernel_rfl)
    (case xC => exact ⟨_, _, _, _, _, _, _, _, _, _, _, _, _, _, _, by k_is, by rfl⟩)
    (case saC => first | k_is | rfl | with_unfolding_all rfl | kernel_rfl)
    (case exC => first | k_is | rfl | with_unfolding_all rfl | kernel_rfl)
    (case tyC => first | k_is | rfl | with_unfolding_all rfl | kernel_rfl)
    (case kC => first | k_is | rfl | with_unfolding_all rfl | kernel_rfl)
    (case nfC => first | k_is | rfl | with_unfolding_all rfl | kernel_rfl)
    (case rdB => first | k_is | rfl | with_unfolding_all rfl | kernel_rfl)
    (case gaB => first | k_is | rfl | with_unfolding_all rfl | kernel_rfl)
    (case vB => first | k_is | rfl | with_unfolding_all rfl | kernel_rfl)
    (case ecC => first | k_is | rfl | with_unfolding_all rfl | kernel_rfl)
    (case exm => first | k_is | rfl | with_unfolding_all rfl | kernel_rfl)
    (case g1_Busy => first | k_is | rfl | with_unfolding_all rfl | kernel_rfl)
    (case g1_NoDeed => first | k_is | rfl | with_unfolding_all rfl | kernel_rfl)
    (case g1_NoGrid => first | k_is | rfl | with_unfolding_all rfl | kernel_rfl)
    (case g1_NoLine => first | k_is | rfl | with_unfolding_all rfl | kernel_rfl)
    (case g1_NoPiece => first | k_is | rfl | with_unfolding_all rfl | kernel_rfl)
    (case g1_NoShare => first | k_is | rfl | with_unfolding_all rfl | kernel_rfl)
    (case g1_NoTable => first | k_is | rfl | with_unfolding_all rfl | kernel_rfl)
    (case g1_NoTag => first | k_is | rfl | with_unfolding_all rfl | kernel_rfl)
    (case g1_NoWay => first | k_is | rfl | with_unfolding_all rfl | kernel_rfl)
    (case g1_Raw => first | k_is | rfl | with_unfolding_all rfl | kernel_rfl)
    (case g1_Spoilt => first | k_is | rfl | with_unfolding_all rfl | kernel_rfl)
    (case g2_Taken => first | k_is | rfl | with_unfolding_all rfl | kernel_rfl)
    (case g2_TooDeep => first | k_is | rfl | with_unfolding_all rfl | kernel_rfl)
    (case g2_TooGreat => first | k_is | rfl | with_unfolding_all rfl | kernel_rfl)
    (case g2_TooMany => first | k_is | rfl | with_unfolding_all rfl | kernel_rfl)
    (case k1 => first | k_is | rfl | with_unfolding_all rfl | kernel_rfl)
    (case k2 => first | k_is | rfl | with_unfolding_all rfl | kernel_rfl)
    (case kV => first | k_is | rfl | with_unfolding_all rfl | kernel_rfl)
    (case kCC => first | k_is | rfl | with_unfolding_all rfl | kernel_rfl)
    (case ne => first | rfl | decide)
    (case hcR => exact PySem.W.codeHd_of_K KX (by first | k_is | rfl | with_unfolding_all rfl | kernel_rfl))
    (case htR => exact PySem.W.km_tabs_of Y _ (by decide))
    (case hcL => exact PySem.W.codeHd_of_K KX (by first | k_is | rfl | with_unfolding_all rfl | kernel_rfl))
    (case htL => exact PySem.W.km_tabs_of Y _ (by decide))
    (case z_abs => first | k_is | rfl | with_unfolding_all rfl | kernel_rfl)
    (case z_all => first | k_is | rfl | with_unfolding_all rfl | kernel_rfl)
    (case z_bool => first | k_is | rfl | with_unfolding_all rfl | kernel_rfl)
    (case z_int => first | k_is | rfl | with_unfolding_all rfl | kernel_rfl)
    (case z_isinstance => first | k_is | rfl | with_unfolding_all rfl | kernel_rfl)
    (case z_len => first | k_is | rfl | with_unfolding_all rfl | kernel_rfl)
    (case z_list => first | k_is | rfl | with_unfolding_all rfl | kernel_rfl)
    (case z_max => first | k_is | rfl | with_unfolding_all rfl | kernel_rfl)
    (case z_min => first | k_is | rfl | with_unfolding_all rfl | kernel_rfl)
    (case z_ValueError => first | k_is | rfl | with_unfolding_all rfl | kernel_rfl)
    (case z_range => first | k_is | rfl | with_unfolding_all rfl | kernel_rfl)
    (case z_repr => first | k_is | rfl | with_unfolding_all rfl | kernel_rfl)
    (case z_str => first | k_is | rfl | with_unfolding_all rfl | kernel_rfl)
    (case z_tuple => first | k_is | rfl | with_unfolding_all rfl | kernel_rfl)
