import PyProof.Rows.All
import Wide.All
import OpenK.AllK
import Wide.FinOn
import HandS.ForMost
import HandS.ForExc
import HandS.Conv
import HandS.TupAny
import HandS.TupMul
import HandS.TupLe
import HandS.IsInst
import HandS.RaiseMore
import HandS.StrMore
import HandS.Replace
import HandS.ReplaceLit
import HandS.Lambda
import HandS.ExcInit
import HandS.ExcField
import HandS.ExcIs
import HandS.EndTab
import HandS.Evl
import HandS.SetFor
import PyProof.ReprRoads
import KE.GoesEnum
import KE.KExcIs
import HandS.ClsMeth
import HandS.ReplaceDef
import PyProof.Rows.RegFStrParts
import PySem.Challenge.RW_tornentries_k85_files_as_figures
set_option Elab.async false
set_option linter.all false
set_option maxRecDepth 100000
set_option maxHeartbeats 2000000
namespace MB
open PySem PySem.Spec PyProof.Rows L2
section
variable {X : Cx}
/-! ### operators for values of any kind -/
def rAddS : R2 := fun x y H Q => ∃ i j, x = .str i ∧ y = .str j ∧ i.length + j.length ≤ sizeLine ∧ Q (.str (i ++ j)) H
def rAddI : R2 := rI0 fun i j => .int (i + j)
def rAddA (K : PySem.W.Frag) : R2 := fun x y H Q => rAddI x y H Q ∨ (rAddS x y H Q ∨ (rCat x y H Q ∨ rCatA K x y H Q))
theorem op_addA : OpR X (binaryOp .Add) (rAddA X.K) := OpR.or op_add (OpR.or op_add_str (OpR.or op_cat op_catA))
def rMulI : R2 := rI CMul fun i j => .int (i * j)
def rMulA (K : PySem.W.Frag) : R2 := fun x y H Q => rMulI x y H Q ∨ (rRep x y H Q ∨ rRepT K x y H Q)
theorem op_mulA0 : OpR X (binaryOp .Mult) (rMulA X.K) := OpR.or op_mul (OpR.or op_rep op_repT)
def rInS : R2 := fun x y H Q => ∃ (c : Nat) (z : Str), x = .str ⟨#[c]⟩ ∧ y = .str z ∧ Q (.bl (decide (c ∈ z.cps.toList))) H
def rNotInS : R2 := fun x y H Q => ∃ (c : Nat) (z : Str), x = .str ⟨#[c]⟩ ∧ y = .str z ∧ Q (.bl (!decide (c ∈ z.cps.toList))) H
def rInA (K : PySem.W.Frag) : R2 := fun x y H Q => rInS x y H Q ∨ rIn K false x y H Q
def rNotInA (K : PySem.W.Frag) : R2 := fun x y H Q => rNotInS x y H Q ∨ rIn K true x y H Q
theorem op_inA : OpR X (compareOp .In) (rInA X.K) := OpR.or op_in_sign op_in_seq
theorem op_notInA : OpR X (compareOp .NotIn) (rNotInA X.K) := OpR.or op_notIn_sign op_notIn_seq
def rIsN : R2 := fun x y H Q => y = .non ∧ Q (.bl (decide (x = .non))) H
def rNotN : R2 := fun x y H Q => y = .non ∧ Q (.bl (!decide (x = .non))) H
def rIsB : R2 := fun x y H Q => ∃ a b, x = .bl a ∧ y = .bl b ∧ Q (.bl (decide (a = b))) H
def rNotB : R2 := fun x y H Q => ∃ a b, x = .bl a ∧ y = .bl b ∧ Q (.bl (!decide (a = b))) H
def rIsA : R2 := fun x y H Q => rIsN x y H Q ∨ rIsB x y H Q
def rIsNotA : R2 := fun x y H Q => rNotN x y H Q ∨ rNotB x y H Q
theorem op_isA : OpR X (compareOp .Is) rIsA := OpR.or op_isN op_is_bl
theorem op_isNotA : OpR X (compareOp .IsNot) rIsNotA := OpR.or op_notN op_isnot_bl
def rSl (K : PySem.W.Frag) : V → Option Int → Option Int → Hp → VK → Prop := fun x lo hi H Q => rSlL K x lo hi H Q ∨ (rSlA K x lo hi H Q ∨ rSlS x lo hi H Q)
theorem sl_any : SlR X (rSl X.K) := SlR.or sl_list (SlR.or sl_tupA sl_str)
def rLenQ (K : PySem.W.Frag) : List V → Hp → VK → Prop := fun xs H Q => ∃ p ys, xs = [.ref p] ∧ (SqL K H p ys ∨ SqT K H p ys) ∧ Q (.int ys.length) H
def rLenT : List V → Hp → VK → Prop := fun xs H Q => ∃ z : Str, xs = [.str z] ∧ z.length ≤ sizeLine ∧ Q (.int z.length) H
def rLenA (K : PySem.W.Frag) : List V → Hp → VK → Prop := fun xs H Q => rLenQ K xs H Q ∨ rLenT xs H Q
theorem call_lenA : CallR X (.builtin "len") (rLenA X.K) := CallR.or call_len_seq call_len_str
def rInt1 : List V → Hp → VK → Prop := fun xs H Q => (∃ i, xs = [.int i] ∧ Q (.int i) H) ∨ ∃ k, xs = [.bl k] ∧ Q (.int (if k then 1 else 0)) H
def rIntS : List V → Hp → VK → Prop := fun xs H Q => ∃ a n, xs = [.str a] ∧ PySem.intText? a = some n ∧ a.length ≤ 640 ∧ Q (.int n) H
def rIntA : List V → Hp → VK → Prop := fun xs H Q => rInt1 xs H Q ∨ rIntS xs H Q
theorem call_intA : CallR X (.type "int") rIntA := CallR.or call_int1 call_int_str
def rStrI : List V → Hp → VK → Prop := fun xs H Q => ∃ i : Int, xs = [.int i] ∧ i.natAbs.log2 < 1920 ∧ Q (.str (toString i)) H
def rStrS : List V → Hp → VK → Prop := fun xs H Q => ∃ a, xs = [.str a] ∧ Q (.str a) H
def rStrA : List V → Hp → VK → Prop := fun xs H Q => rStrI xs H Q ∨ rStrS xs H Q
theorem call_strA : CallR X (.type "str") rStrA := CallR.or call_str_int SkE.call_str_str
def rIsiA (K : PySem.W.Frag) : List V → Hp → VK → Prop := fun xs H Q => rIsi K xs H Q ∨ rIsiT K xs H Q
theorem call_isiA : CallR X (.builtin "isinstance") (rIsiA X.K) := CallR.or call_isi call_isiT
/-- text * int -/
def rMulS : R2 := fun x y H Q => ∃ (z : Str) (n : Int), x = .str z ∧ y = .int n ∧ 0 ≤ n ∧ n ≤ 1000000 ∧ z.length * n.toNat ≤ sizeLine ∧ Q (.str (Txt.mul z n)) H
theorem mulOk_of {z : Str} {n : Int} (h0 : 0 ≤ n) (h1 : n ≤ 1000000) (hz : z.length * n.toNat ≤ sizeLine) : MulOk z n := by
  refine ⟨?_, fun hn _ => ?_, fun _ _ => ?_⟩
  · have a : decide (n < -(2 ^ 63 : Int)) = false := decide_eq_false (by omega)
    have b : decide (n ≥ (2 ^ 63 : Int)) = false := decide_eq_false (by omega)
    rw [a, b] <;> rfl
  · intro hq
    have e : ((z.length * n.toNat : Nat) : Int) = (z.length : Int) * n := by
      rw [Int.natCast_mul, Int.toNat_of_nonneg h0]
    have h2 : (z.length : Int) * n ≤ 16777216 := by
      rw [← e]
      have := sizeLine_eq
      omega
    have h3 : (2 ^ 63 - 1 : Int) / n < (z.length : Int) := hq
    have h4 : (2 ^ 63 - 1 : Int) < (z.length : Int) * n := Int.lt_mul_of_ediv_lt (by omega) h3
    omega
  · unfold Builtin.Str.tooLong
    have := sizeLine_eq
    exact decide_eq_false (by omega)
theorem op_mulS : OpR X (binaryOp .Mult) rMulS := by
  intro pins s σ H x y v u Q I rx ry h
  obtain ⟨z, n, rfl, rfl, h0, h1, hz, q⟩ := h
  obtain ⟨t, rfl⟩ := rx
  obtain ⟨t', rfl⟩ := ry
  exact SB.mul (mulOk_of h0 h1 hz) fun t2 k => ⟨.str (Txt.mul z n), H, I.tok k, ⟨_, rfl⟩, q⟩
def rMulB (K : PySem.W.Frag) : R2 := fun x y H Q => rMulS x y H Q ∨ rMulA K x y H Q
theorem op_mulA : OpR X (binaryOp .Mult) (rMulB X.K) := OpR.or op_mulS op_mulA0
end
end MB
set_option maxRecDepth 100000
set_option maxHeartbeats 2000000
namespace MB
open PySem PySem.Spec PyProof.Rows L2
/-! ### data -/
mutual
theorem dp_ex {K : PySem.W.Frag} {H H' : Hp} (s : Same H H') : ∀ (d : PyData) (v : V), Dp K H v d → Dp K H' v d
  | .none, _, h => by cases h; exact .non
  | .bool b, _, h => by cases h; exact .bl b
  | .int i, _, h => by cases h; exact .int i
  | .str x, _, h => by cases h; exact .str x
  | .list ds, _, h => by
    cases h with
    | lst q a => exact .lst (Same.seq s q) (dpAll_ex s ds _ a)
  | .tuple ds, _, h => by
    cases h with
    | tup q a => exact .tup (Evl.ex_t s q) (dpAll_ex s ds _ a)
  | .dict _, _, h => by cases h
theorem dpAll_ex {K : PySem.W.Frag} {H H' : Hp} (s : Same H H') : ∀ (ds : List PyData) (vs : List V), DpAll K H vs ds → DpAll K H' vs ds
  | [], _, h => by cases h; exact .nil
  | d :: ds, _, h => by
    cases h with
    | cons a b => exact .cons (dp_ex s d _ a) (dpAll_ex s ds _ b)
end
theorem dpAll_ints {K : PySem.W.Frag} {H : Hp} : ∀ (ns : List Int), DpAll K H (ns.map V.int) (ns.map PyData.int)
  | [] => .nil
  | n :: r => .cons (.int n) (dpAll_ints r)
theorem dpAll_strs {K : PySem.W.Frag} {H : Hp} : ∀ (ns : List Str), DpAll K H (ns.map V.str) (ns.map PyData.str)
  | [] => .nil
  | n :: r => .cons (.str n) (dpAll_strs r)
/-! ### a new object: the heap behind it a letter -/
theorem new_obj {H : Hp} {o : HO} {Q : V → Hp → Prop} (k : ∀ p H', H p = none → Same H H' → H' p = some o → (∀ b, b ≠ p → H' b = H b) → Q (.ref p) H') : ∀ p, H p = none → Q (.ref p) (upd H p o) := fun p hp =>
  k p _ hp (fun b u e => by rw [upd_ne (ne_of_none e hp)]; exact e) upd_same fun b hb => upd_ne hb
/-! ### room with no guards -/
section
variable {X : Cx}
def rReprD (K : PySem.W.Frag) : List V → Hp → VK → Prop := fun xs H Q => ∃ (a : Addr) (d : PyData), xs = [.ref a] ∧ Dp K H (.ref a) d ∧ d.showable = true ∧ d.hasDict = false ∧ d.depth ≤ 60 ∧ d.shown.length ≤ sizeLine ∧ Q (.str d.shown) H
theorem call_reprD (hg : X.A.guards = some []) (hu : X.A.units + 64 < cLine) : CallR X (.builtin "repr") (rReprD X.K) := by
  intro pins s σ H xs us Q I r h
  obtain ⟨a, d, rfl, hd, h1, h2, h3, h4, q⟩ := h
  obtain ⟨u, rfl, ru⟩ := vals1 r
  obtain rfl : u = Value.ref a := ru
  obtain ⟨as, hr⟩ := Dp.reads I d _ _ hd rfl
  exact repr_of_reads' hr h1 (PyData.noDict_hsm h2) hg (by omega) (fun _ _ e => e) (fun h' u tk k => ⟨.str d.shown, H, I.kept (t' := tk) k, ⟨_, rfl⟩, q⟩) h4
end
/-! ### a starred target over a list -/
section
variable {prog : Program} {w : World} {A : Around} {E : Value → Shared → Prop} {s : Shared}
theorem unpack_starL {l : Addr} {its : List Value} {n i : Nat} {Q : List Value → Shared → Prop} (hl : s.heap.IsList l its.toArray) (hh : A.handled = none) (hi : i < n) (hn : n ≤ its.length + 1) (hz : its.length ≤ sizeLine)
    (h : ∀ (h' : Heap) (tk : Nat), (∀ b o, s.heap.get? b = some o → h'.get? b = some o) → Q (its.take i ++ [.ref h'.objs.size] ++ (its.drop i).drop (its.length + 1 - n)) { s with heap := h'.push { cls := .type "list", data := .seq ((its.drop i).take (its.length + 1 - n)).toArray }, toks := tk }) :
    wpAny (model prog w) A (unpackItems (.ref l) n (some i)) Q E s := by
  have ne0 : l ≠ s.heap.objs.size := by obtain ⟨o, ho, _⟩ := hl; exact Nat.ne_of_lt (Heap.lt_size ho)
  unfold unpackItems notIterableAtAll
  refine wpAny_bind (wpAny_bind (wpAny_specialOf hl.typeIs slot_list_iter.lookup (wpAny_pure ?_)))
  simp only [Bool.false_eq_true, if_false]
  refine wpAny_bind (wpAny_holding (wpAny_pyIter_list hl ?_))
  refine wpAny_bind (wpAny_holding (PySem.W.kun_draw ne0 i 0 _ _ ⟨_, Heap.get?_push_size _ rfl, rfl, rfl⟩ (hl.push _) (by rw [List.size_toArray]; omega) fun h1 it1 sb1 => ?_))
  have l1 : h1.IsList l its.toArray := (hl.push _).extBut sb1.extBut ne0
  rw [Nat.zero_add] at it1
  obtain ⟨oi, hoi, hrest⟩ := it1
  obtain ⟨ol, hol, _⟩ := _root_.id l1
  have len1 : (its.take i).length = i := by rw [List.length_take]; omega
  rw [List.drop_zero, if_neg (show ¬ ((List.take i its.toArray.toList).length < i) by show ¬ (its.take i).length < i; omega)]
  refine wpAny_bind (wpAny_holding (PySem.W.kun_collect (s := { s with heap := h1 }) (T := "list_iterator") (.inr (.inr (.inl rfl))) (Walks.list (A := A.in1) hh s.heap.objs.size l ne0 its.toArray) (fun j u st => st.1.typeIs) (k := i) (by rw [List.size_toArray]; omega)
    ⟨⟨oi, hoi, hrest⟩, l1⟩ (Heap.lt_size hoi) (Heap.lt_size hol) (fun h2 tk hk => ?_) (by rw [List.size_toArray]; exact hz)))
  have dl : (List.drop i its.toArray.toList).length = its.length - i := by show (its.drop i).length = _; rw [List.length_drop]
  have md : (List.drop i its.toArray.toList).length - (n - 1 - i) = its.length + 1 - n := by rw [dl]; omega
  show wpAny _ _ (if (List.drop i its.toArray.toList).length < n - 1 - i then _ else _) _ _ _
  rw [if_neg (by rw [dl]; omega)]
  show wpAny _ _ (newList ((List.drop i its.toArray.toList).take ((List.drop i its.toArray.toList).length - (n - 1 - i))) >>= fun d => pure (List.take i its.toArray.toList ++ [d] ++ (List.drop i its.toArray.toList).drop ((List.drop i its.toArray.toList).length - (n - 1 - i)))) _ _ _
  rw [md]
  refine wpAny_bind (wpAny_newList (wpAny_pure ?_) ?_)
  · exact h h2 tk fun b o e => hk b o (Nat.ne_of_lt (Heap.lt_size e)) (sb1.extBut b o (Nat.ne_of_lt (Heap.lt_size e)) (Heap.get?_push_of_some _ e))
  · show ((its.drop i).take (its.length + 1 - n)).length ≤ sizeLine
    rw [List.length_take, List.length_drop]; omega
end
section
variable {X : Cx} {pos : Pos}
theorem pgs_star {e : Expr} {es : List Expr} {p : Pos} {t : TG} {u : TGs} (h1 : PG X e t) (h2 : PGs X es u)
    (hs : (assignEach (.Starred e p :: es) X.env).map (·.2) = assign e X.env :: (assignEach es X.env).map (·.2) := by rfl) : PGs X (.Starred e p :: es) (gCons t u) := by
  refine ⟨fun pins s σ H vs us Q I r h => ?_⟩
  obtain ⟨v, vr, e1, h⟩ := h
  subst e1
  cases r with
  | cons r rr =>
    rw [hs]
    refine assignInOrder_cons (thn (h1.run pins s σ H _ _ _ I r h) fun _ s1 ⟨σ1, H1, I1, q1⟩ => ?_)
    exact h2.run pins s1 σ1 H1 _ _ Q I1 rr q1
/-- .., *name, .. = a list: n targets, the i-th one starred -/
def gStar (K : PySem.W.Frag) (n i : Nat) (t : TGs) : TG := fun v σ H Q => ∃ a xs, v = .ref a ∧ SqL K H a xs ∧ i < n ∧ n ≤ xs.length + 1 ∧
  ∀ p, H p = none → t (xs.take i ++ [.ref p] ++ (xs.drop i).drop (xs.length + 1 - n)) σ (upd H p (.lst ((xs.drop i).take (xs.length + 1 - n)))) Q
theorem pg_star {es : List Expr} {k : Nat} {t : TGs} {n i : Nat} (hc : X.calm = true) (h : PGs X es t)
    (hn : (assignEach es X.env).length = n := by rfl) (hst : (assignEach es X.env).findIdx? (·.1) = some i := by rfl) : PG X (.Tuple es k pos) (gStar X.K n i t) := by
  refine ⟨fun pins s σ H v u Q I r hw => ?_⟩
  obtain ⟨a, xs, e1, hq, hi, hl, hw⟩ := hw
  subst e1
  cases r
  obtain ⟨its, rv, pl, hz⟩ := I.list hq
  have ll := rv.length
  rw [PyProof.Rows.assign_Tuple]
  refine wpAny_bind (wpAny_standAt ?_)
  unfold unpack
  rw [hn, hst]
  refine wpAny_bind (wpAny_holding (unpack_starL (its := its) pl.isList (I.ok.hd hc) hi (by omega) (by omega) fun h' tk hx => ?_))
  have I1 : Inv X pins σ H { s with heap := h', toks := tk } := I.kept (t' := tk) hx
  have r1 : Vals ((xs.drop i).take (xs.length + 1 - n)) ((its.drop i).take (its.length + 1 - n)) := by rw [ll]; exact (rv.drop i).take _
  have I2 := I1.lnew (t' := tk) r1 (by rw [List.length_take, List.length_drop]; omega)
  refine h.run pins _ σ _ _ _ Q I2 ?_ (hw _ (I1.hok.fresh (Nat.le_refl _)))
  rw [ll]
  exact ((rv.take i).append (Vals.append (.cons (show RelV (V.ref _) (Value.ref _) from rfl) .nil) .nil)).append ((rv.drop i).drop _)
end
/-! ### enumerate of a tuple -/
def IteT (K : PySem.W.Frag) (a : Addr) : It :=
  ⟨fun i H => ∃ (xs : List V) (x : V), SqT K H a xs ∧ xs[i]? = some x, fun i H v H' => ∃ T x, v = .ref T ∧ H T = none ∧ H' = upd H T (.tup [.int (i : Nat), x]) ∧ ∀ xs, SqT K H a xs → xs[i]? = some x, fun i H => ∃ xs : List V, SqT K H a xs ∧ xs.length ≤ i⟩
end MB
set_option maxRecDepth 100000
set_option maxHeartbeats 2000000
namespace MB
open PySem PySem.Spec PyProof.Rows L2
open AutoSeq1 (wpAny_loadPart')
theorem enum_newT (l : Addr) (items : Array Value) (n : Nat) (dct : Option Addr) (sl : Array (Option Value)) :
    Meets (Builtin.«enumerate.__new__» ⟨[.type "enumerate", .ref l], []⟩) (fun _ R s => s.heap.get? l = some { cls := .type "tuple", dict := dct, data := .seq items n, slots := sl } ∧
      R (.ok (.ret (.ref (s.heap.push { cls := .type "tuple_iterator", data := .fields #[.ref l, .int 0 0] }).objs.size)))
        { s with heap := (s.heap.push { cls := .type "tuple_iterator", data := .fields #[.ref l, .int 0 0] }).push { cls := .type "enumerate", data := .fields #[.none, .bool false, .ref s.heap.objs.size, rawInt 0, .none, .none] } }) :=
  .of_wp fun prog w A R s h => by
    obtain ⟨hp, g, d, tk, os⟩ := s
    obtain ⟨hl, h⟩ := h
    have hsub := sub_enumerate
    have ht : Heap.IsTuple (Shared.heap ⟨hp, g, d, tk, os⟩) l items := ⟨_, hl, rfl, n, rfl⟩
    wp_walk using wpAny_loadPart' hl
    refine wpAny_stack_any fun st => wpAny_pure ?_
    split
    · rename_i c _ _ _ _ _
      cases (c == Value.type "enumerate")
      · wp_walk using wpAny_loadPart' hl, wpAny_pyIter_tuple ht
        exact ⟨_, rfl, h⟩
      · wp_walk using wpAny_loadPart' hl, wpAny_pyIter_tuple ht
        exact ⟨_, rfl, h⟩
    · wp_walk using wpAny_loadPart' hl, wpAny_pyIter_tuple ht
      exact ⟨_, rfl, h⟩
section
variable {prog : Program} {w : World} {A : Around} {E : Value → Shared → Prop} {s : Shared}
theorem call_enumT {l : Addr} {items : Array Value} {Q : Value → Shared → Prop} (hL : s.heap.IsTuple l items)
    (h : ∀ h', IsEnum h' (s.heap.objs.size + 1) s.heap.objs.size 0 .none → h'.IsTupleIter s.heap.objs.size l 0 → (∀ b o, s.heap.get? b = some o → h'.get? b = some o) → Q (.ref (s.heap.objs.size + 1)) { s with heap := h' }) :
    wpAny (model prog w) A (call (.type "enumerate") [.ref l]) Q E s := by
  obtain ⟨⟨c, dct, dt, sl⟩, hl, hc, n, hd⟩ := hL
  obtain rfl : c = .type "tuple" := hc
  obtain rfl : dt = .seq items n := hd
  refine callType_new F.called_enumerate (by decide) (F.typeCall_enumerate_1 _) (F.newCall_enumerate_1 _) (fun obj => F.args_object_init_2 obj _) F.entry_enumerate_new (enum_newT l items n dct sl) ⟨hl, ?_⟩
  have sz : (s.heap.push { cls := .type "tuple_iterator", data := .fields #[.ref l, .int 0 0] }).objs.size = s.heap.objs.size + 1 := Heap.size_push ..
  show _ ∧ _
  rw [sz]
  have en := Heap.get?_push_size (s.heap.push { cls := .type "tuple_iterator", data := .fields #[.ref l, .int 0 0] }) (o := { cls := .type "enumerate", data := .fields #[.none, .bool false, .ref s.heap.objs.size, rawInt 0, .none, .none] }) rfl
  rw [sz] at en
  exact ⟨⟨_, en, rfl⟩, h _ en ⟨_, Heap.get?_push_of_some _ (Heap.get?_push_size _ rfl), rfl, rfl⟩ fun b o x => Heap.get?_push_of_some _ (Heap.get?_push_of_some _ x)⟩
end
section
variable {prog : Program} {w : World} {A : Around} {E : Value → Shared → Prop} {s : Shared}
theorem enum_endT {e it t : Addr} {i : Nat} {c : Int} {items : Array Value} {old : Value} {Q : Option Value → Shared → Prop} (hh : A.handled = none)
    (he : IsEnum s.heap e it c old) (hit : s.heap.IsTupleIter it t i) (ht : s.heap.IsTuple t items) (hx : items[i]? = none)
    (hQ : ∀ h', Heap.ExtBut it s.heap h' → Q none { s with heap := h' }) : wpAny (model prog w) A (pyNext (.ref e)) Q E s := by
  have hT : s.TypeIs (.ref e) "enumerate" := ⟨_, he, rfl⟩
  unfold pyNext
  refine wpAny_bind (wpAny_attempt (wpAny_callSpecial?_slot (name := Str.ofString "__next__") hT F.slot_enumerate_next
    (wpAny_call_entry F.slot_enumerate_next hT F.entry_enumerate_next ?_ (F.args_enumerate_next_1 _))))
  show wpAny _ _ (field (.ref e) 2 >>= _) _ _ _
  refine wpAny_bind (wpAny_field he rfl (x := .ref it) rfl ?_)
  refine wpAny_bind (wpAny_nextOf_tuple_end hh hit ht hx fun h' x he' hx' => ?_)
  obtain ⟨o, ho, hc⟩ := hx'
  refine wpAny_bind (wpAny_isInstance (T := "StopIteration") (b := true) ⟨o, ho, hc⟩ isSubtype_stop ?_)
  exact wpAny_pure (hQ _ he')
end
theorem isTuple_of {h : Heap} {a : Addr} {its : Array Value} (p : IsTup h a its) : h.IsTuple a its := by
  obtain ⟨o, ho, hc, n, hd⟩ := p
  exact ⟨o, ho, hc, n, hd⟩
theorem turn_enumT {P : Program} {w : World} {K : PySem.W.Frag} {elts : List Expr} {kk : Nat} {tpos : Pos} (a e it : Addr) (hae : a ≠ e) (hat : a ≠ it) :
    Turn P w K (.Tuple elts kk tpos) (IteT K a) [e, it] e (fun i h => (∃ old, IsEnum h e it ((i : Nat) : Int) old) ∧ h.IsTupleIter it a i ∧ e ≠ it) where
  mem := by simp
  obj := fun i h st b hb => by
    obtain ⟨⟨old, he⟩, ⟨o, ho, hc, hd⟩, _⟩ := st
    have e' : b = e ∨ b = it := by simpa using hb
    rcases e' with z | z
    · rw [z]; exact ⟨_, he, fun v q => nomatch q⟩
    · rw [z]; exact ⟨o, ho, fun v q => by rw [hd] at q; cases q⟩
  keep := fun i h h' st k => let ⟨⟨old, he⟩, ⟨o, ho, hr⟩, hne⟩ := st; ⟨⟨old, k e (by simp) _ he⟩, ⟨o, k it (by simp) _ ho, hr⟩, hne⟩
  item := by
    intro X hP hw hK hc i pins s σ H E I hf st hg
    subst hP hw hK
    obtain ⟨⟨old, he⟩, hit, hne⟩ := st
    obtain ⟨xs, x, hq, hx⟩ := hg
    obtain ⟨its, rv, p, hz⟩ := I.tuple hq
    obtain ⟨u, hu, ru⟩ := rv.get hx
    have hlt : i < its.toArray.size := by
      rw [List.size_toArray]
      exact (List.getElem?_eq_some_iff.mp hu).1
    have hel : e < s.heap.objs.size := Heap.lt_size he
    have hil : it < s.heap.objs.size := by obtain ⟨_, q, _⟩ := hit; exact Heap.lt_size q
    refine wpAny_pyNext_enum_itemC (Draws.tuple (A := X.A.in1) (prog := X.prog) (w := X.w) (I.ok.hd hc) it a hat its.toArray) he ⟨hit, isTuple_of p⟩ hlt hne (by simp [hne, Ne.symm hae]) fun u' h' tk hu' ho hst' hT hsz hk => ?_
    obtain ⟨hit', _⟩ := hst'
    have eu : u' = u := by
      have hu2 : its.toArray[i]? = some u' := hu'
      rw [List.getElem?_toArray, hu] at hu2
      exact (Option.some.inj hu2).symm
    subst eu
    refine ⟨_, rfl, wpAny_letOwnedTupleGo_enum (s := { s with heap := h', toks := tk + 1 }) ho fun h'' he' sb => ?_⟩
    have hT2 : h''.get? s.heap.objs.size = some { cls := .type "tuple", data := .seq #[.int i tk, u'] } := (sb.2 _ (Nat.ne_of_gt hel)).trans hT
    have new : ObjOk X.prog X.w (upd H s.heap.objs.size (.tup [.int (i : Nat), x])) h'' s.heap.objs.size (.tup [.int (i : Nat), x]) :=
      ⟨by show 2 ≤ sizeLine; decide, [.int i tk, u'], .cons ⟨_, rfl⟩ (.cons ru .nil), ⟨_, hT2, rfl, _, rfl⟩⟩
    have I1 : Inv X pins σ (upd H s.heap.objs.size (.tup [.int (i : Nat), x])) { s with heap := h'', toks := tk + 1 } :=
      I.turnedNew (ch := [e, it]) (fun b ob hb q => (sb.2 b (fun z => hb (by simp [z]))).trans (hk b ob (fun z => hb (by simp [z])) (fun z => hb (by simp [z])) q)) hf (Nat.le_refl _) new
    refine ⟨.ref s.heap.objs.size, _, I1, rfl, ⟨_, x, rfl, I.hok.fresh (Nat.le_refl _), rfl, fun ys hy => by rw [I.tuple_inj hy hq]; exact hx⟩, ⟨⟨u', ?_⟩, ?_, hne⟩, fun b hb => ?_⟩
    · have e1 : ((i + 1 : Nat) : Int) = (i : Int) + 1 := by omega
      rw [e1]; exact he'
    · obtain ⟨o, q, r⟩ := hit'
      exact ⟨o, (sb.2 it (Ne.symm hne)).trans q, r⟩
    · have hb' : b < s.heap.objs.size := by
        have e' : b = e ∨ b = it := by simpa using hb
        rcases e' with z | z
        · rw [z]; exact hel
        · rw [z]; exact hil
      rw [upd_ne (Nat.ne_of_lt hb')]
      exact (hf b hb).1
  done := by
    intro X hP hw hK hc i pins s σ H E I hf st hg
    subst hP hw hK
    obtain ⟨⟨old, he⟩, hit, hne⟩ := st
    obtain ⟨xs, hq, hx⟩ := hg
    obtain ⟨its, rv, p, hz⟩ := I.tuple hq
    obtain ⟨f0, f1, f2, f3, f4, f5⟩ := hf it (by simp)
    have hl := rv.length
    exact enum_endT (I.ok.hd hc) he hit (isTuple_of p) (by simp; omega) fun h' eb => ⟨rfl, I.turned (t' := s.toks) (fun b o hb q => eb b o hb q) f0 f1 f3 f4 f5⟩
  self := fun A i s Q E st h => let ⟨⟨_, he⟩, _⟩ := st; wpAny_pyIter_enum he h
def iEnumT (K : PySem.W.Frag) (ta : TA) : TI := fun σ H R => ta σ H fun vs H1 => ∃ a xs, vs = [.ref a] ∧ SqT K H1 a xs ∧ R (IteT K a) H1
theorem pi_enumT {X : Cx} {e : Expr} {ta : TA} {p pos tpos : Pos} {elts : List Expr} {kk : Nat} (hg : Gl X "enumerate") (hm : X.mg "enumerate" = none) (ha : PA X [e] ta) (hs : starEach [e] X.env = [(false, eval e X.env)] := by rfl) :
    PI X (.Tuple elts kk tpos) (.Call (.Name "enumerate" p) [e] [] pos) (iEnumT X.K ta) := by
  refine ⟨fun pins s σ H R I h => ?_⟩
  refine Call_ (ld_blt I hg hm boot_enumerate (PyProof.Rows.callWith_type1 (thn (ha.run pos pins s σ H _ I h) fun us s1 ⟨vs, H1, I1, r1, q1⟩ => ?_) hs rfl))
  obtain ⟨a, xs, ex, hq, q⟩ := q1
  subst ex
  cases r1 with
  | cons r rr =>
    cases rr
    cases r
    obtain ⟨its, rv, p', hz⟩ := I1.tuple hq
    have lt : a < s1.heap.objs.size := p'.lt
    refine call_enumT (isTuple_of p') fun h' he hit hk => wpAny_pyIter_enum he ?_
    have I2 : Inv X pins σ H1 { s1 with heap := h' } := I1.kept (t' := s1.toks) hk
    have n1 : a ≠ s1.heap.objs.size + 1 := Nat.ne_of_lt (Nat.lt_succ_of_lt lt)
    have n2 : a ≠ s1.heap.objs.size := Nat.ne_of_lt lt
    refine ⟨s1.heap.objs.size + 1, [s1.heap.objs.size + 1, s1.heap.objs.size], _, _, H1, rfl, I2, turn_enumT a (s1.heap.objs.size + 1) s1.heap.objs.size n1 n2, ⟨⟨.none, he⟩, hit, Nat.succ_ne_self _⟩, fun b hb => ?_, q⟩
    have e' : b = s1.heap.objs.size + 1 ∨ b = s1.heap.objs.size := by simpa using hb
    have hle : s1.heap.objs.size ≤ b := by
      rcases e' with z | z
      · rw [z]; exact Nat.le_add_right _ _
      · rw [z]; exact Nat.le_refl _
    exact I1.fpOk hle (I1.hok.fresh hle)
/-- the reading of a for over enumerate(tuple) -/
theorem for_enumT {K : PySem.W.Frag} {a : Addr} {xs : List V} {g : TG} {tb : TS} {D : Ends} {σ : L2.St} {H : Hp} (Pv : Nat → L2.St → Hp → Prop) (h0 : Pv 0 σ H) (hl : ∀ i σ H, i ≤ xs.length → Pv i σ H → SqT K H a xs)
    (hs : ∀ i x σ H T H', xs[i]? = some x → Pv i σ H → H T = none → Same H H' → H' T = some (.tup [.int (i : Nat), x]) → (∀ b, b ≠ T → H' b = H b) → g (.ref T) σ H' fun σ2 H2 => tb { D with nx := Pv (i + 1), ct := Pv (i + 1), bk := D.nx } σ2 H2)
    (hd : ∀ σ H, Pv xs.length σ H → D.nx σ H) :
    ∃ W : Nat → Nat → L2.St → Hp → Prop, (∃ m, W 0 m σ H) ∧ ∀ i m σ H, W i m σ H →
      ((IteT K a).stop i H ∧ D.nx σ H) ∨ ((IteT K a).go i H ∧ ∃ N : L2.St → Hp → Prop, (∀ σ' H', N σ' H' → ∃ m', m' < m ∧ W (i + 1) m' σ' H') ∧ ∀ x H', (IteT K a).yld i H x H' → g x σ H' fun σ2 H2 => tb { D with nx := N, ct := N, bk := D.nx } σ2 H2) := by
  refine ⟨fun i m σ H => m = xs.length - i ∧ i ≤ xs.length ∧ Pv i σ H, ⟨xs.length, by simp, Nat.zero_le _, h0⟩, ?_⟩
  rintro i m σ H ⟨rfl, hi, p⟩
  have q := hl i σ H hi p
  by_cases hlt : i < xs.length
  · refine .inr ⟨⟨xs, xs[i], q, List.getElem?_eq_getElem hlt⟩, Pv (i + 1), fun σ' H' p' => ⟨xs.length - (i + 1), by omega, rfl, by omega, p'⟩, ?_⟩
    rintro v H' ⟨T, x, rfl, hT, rfl, hy⟩
    exact hs i x σ H T _ (hy xs q) p hT (fun b o e => by rw [upd_ne (ne_of_none e hT)]; exact e) upd_same fun b hb => upd_ne hb
  · have e : i = xs.length := by omega
    subst e
    exact .inl ⟨⟨xs, q, Nat.le_refl _⟩, hd σ H p⟩
end MB
set_option maxRecDepth 100000
set_option maxHeartbeats 2000000
namespace MB
open PySem PySem.Spec PyProof.Rows L2
/-! ### an exception that is kept -/
/-- at a: an exception of the class cls, its dict at d -/
def ExcV (a : Addr) (cls : Value) (d : Option Addr) : HO := .ext fun h => ∃ oe vs, h.get? a = some oe ∧ Zc cls d oe ∧ oe.data = .fields vs
theorem excV_ok {P : Program} {w : World} {H : Hp} {h : Heap} {a : Addr} {cls : Value} {d : Option Addr} {oe : Obj} {vs : Array Value} (he : h.get? a = some oe) (hz : Zc cls d oe) (hd : oe.data = .fields vs) : ObjOk P w H h a (ExcV a cls d) :=
  ⟨⟨oe, vs, he, hz, hd⟩, ⟨oe, he⟩, fun h1 h2 ⟨o, us, q1, q2, q3⟩ k => ⟨o, us, k _ q1, q2, q3⟩⟩
theorem excV_at {P : Program} {w : World} {H : Hp} {h : Heap} {a : Addr} {cls : Value} {d : Option Addr} (ok : HOk P w H h) (e : H a = some (ExcV a cls d)) : ∃ oe vs, h.get? a = some oe ∧ Zc cls d oe ∧ oe.data = .fields vs := by
  have x : ObjOk P w H h a (.ext fun h => ∃ oe vs, h.get? a = some oe ∧ Zc cls d oe ∧ oe.data = .fields vs) := ok a _ e
  exact x.1
section
variable {X : Cx} {pins : List (Addr × Obj)} {σ : L2.St} {H : Hp} {s : Shared}
theorem inv_track {a : Addr} {o : HO} (I : Inv X pins σ H s) (na : H a = none) (nL : a ≠ X.env.locals) (nC : ∀ x c, X.env.cells.lookup x = some c → c ≠ a) (nP : ∀ p ∈ X.pn ++ pins, p.1 ≠ a)
    (n0 : X.s_0.heap.get? a = none) (new : ObjOk X.prog X.w (upd H a o) s.heap a o) : Inv X pins σ (upd H a o) s where
  ok := I.ok
  os := I.os
  bare := I.bare
  base := ⟨I.base.keep, I.base.slot, fun b u q n x => by
      rw [upd_ne (fun z => by rw [z, n0] at q; cases q)]
      exact I.base.free b u q n x, I.base.there,
    fun b xs q => by
      have e := I.base.tups b xs q
      rw [upd_ne (ne_of_none e na)]
      exact e,
    fun b u v q => by
      have e := I.base.frzs b u v q
      rw [upd_ne (ne_of_none e na)]
      exact e,
    fun b ps q => by
      obtain ⟨more, e⟩ := I.base.tbls b ps q
      refine ⟨more, ?_⟩
      rw [upd_ne (ne_of_none e na)]
      exact e⟩
  loc := I.loc
  cell := I.cell
  free := by
    rw [upd_ne (Ne.symm nL)]
    exact I.free
  freeC := fun x c e => by
    rw [upd_ne (nC x c e)]
    exact I.freeC x c e
  pin := fun p hp => by
    obtain ⟨q1, q2, q3⟩ := I.pin p hp
    refine ⟨q1, ?_, q3⟩
    rw [upd_ne (nP p hp)]
    exact q2
  hok := fun b u e => by
    by_cases hb : b = a
    · subst hb
      rw [upd_same] at e
      cases e
      exact new
    · rw [upd_ne hb] at e
      exact (I.hok b u e).stay (fun c v _ q => q) (fun c q => by rw [upd_ne (ne_of_none q na)]; exact q) fun c xs q => by rw [upd_ne (ne_of_none q na)]; exact q
  len := I.len
end
/-- what 'except x as n: y = n' wishes of an exception of the body: slot i is n's, slot j is y's -/
def wKeep (K : PySem.W.Frag) (c : Value) (i j l : Nat) (Wout : WX) (D : Ends) : WX := fun cls d σ H =>
  ∃ b, PySem.W.exmOne K cls c = some b ∧ (b = true → ∀ a, H a = none → σ.length = l → D.nx (((σ.set i (some (.ref a))).set j (some (.ref a))).set i none) (upd H a (ExcV a cls d))) ∧ (b = false → Wout cls d σ H)
section
variable {X : Cx} {x n y : Str} {c : Value} {i j : Nat} {body : List Stmt} {np pos pos' py pn' pa : Pos} {tb : WX → TS} {Wout : WX}
theorem ps_try_keep (hs : X.stack = X.env :: X.outer) (hf : X.env.frame = some X.env.locals) (hex : X.ex = []) (hN : X.N.Nodup) (hi : X.N[i]? = some n) (hln : X.env.kindOf n = some .local)
    (hj : X.N[j]? = some y) (hly : X.env.kindOf y = some .local) (hc : Names X x c) (tk : Takes X Wout) (hnd : (n == ("__debug__" : Str)) = false) (hnc : (n == ("__classdict__" : Str)) = false)
    (hsw : swapsWith (.Name n pn') (some (.Name y py)) pa.line X.env = pure false)
    (hb : ∀ (W : WX) (pn : List (Addr × Obj)) (xe : Value → Shared → Prop), Takes (X.tr pn xe) W → PassesOwn (model X.prog X.w) X.A X.env xe → PSs (X.tr pn xe) body (tb W)) :
    PS X (.Try body [.ExceptHandler (some (.Name x np)) (some n) [.Assign [.Name y py] (.Name n pn') pa] pos'] [] [] pos) (fun D σ H => tb (wKeep X.K c i j X.N.length Wout D) D σ H) := by
  refine ⟨fun pins s σ H D I h => ?_⟩
  have ok := I.ok
  have hfr : X.A.frames = some (X.env :: X.outer) := by rw [ok.frames, hs]
  have hloc : Loc X.env.scope n := .inl hln
  have hlocy : Loc X.env.scope y := .inl hly
  refine wpAny_Try_except ?_
  refine wpAny_mono ((hb (wKeep X.K c i j X.N.length Wout D) (X.pn ++ pins) (fun e s₁ => wpAny (model X.prog X.w) X.A (noteFrame e X.env) (fun _ s₂ => wpAny (model X.prog X.w) X.A (setFlight e none) (fun _ s₃ =>
    wpAny (model X.prog X.w) X.A (handleBy e X.env [.ExceptHandler (some (.Name x np)) (some n) [.Assign [.Name y py] (.Name n pn') pa] pos']) (SP X pins D) X.xe s₃) X.xe s₂) X.xe s₁) (fun u s' xx => ?_) PassesOwn.looking).run [] s σ H D (I.toTry _) h) (fun f s1 hsp => ?_) (fun e s1 he => he)
  · obtain ⟨a, B, sI, pins', σ', H', cls, d, rfl, J', nb, up, sky, na, os, ag, b, hb1, hyes, hno⟩ := xx
    have J : Inv X pins σ' H' sI := J'.ofTry ok
    have sky' : Sky B (X.env :: X.outer) a (Zc cls d) X.env.locals s'.heap := by rw [← hs]; exact sky
    show wpAny (model X.prog X.w) X.A (noteFrame (.ref a) X.env) _ _ _
    refine Sky.land Zc.steady hfr hf sky' fun h3 fl3 up3 => ?_
    have J3 : Inv X pins σ' H' { s' with heap := h3 } := J.landed nb fl3.1 (up.trans up3) os ag
    obtain ⟨oe3, vs3, he3, hz3, hd3⟩ := fl3.there
    have nfr : a ∉ frs (X.env :: X.outer) := fun hm => by
      obtain ⟨_, o', e', hnf⟩ := fl3.2.2.1.mem hm
      rw [he3] at e'; cases e'
      exact hnf _ hd3
    have nL : a ≠ X.env.locals := fun z => nfr (List.mem_filterMap.mpr ⟨X.env, List.mem_cons_self, by rw [hf, z]⟩)
    have nF : a ∉ X.fs := fun hm => by
      obtain ⟨e, he, q⟩ := List.mem_filterMap.mp hm
      exact nfr (List.mem_filterMap.mpr ⟨e, List.mem_cons_of_mem _ he, q⟩)
    -- the exception is new
    have nI : ∀ o, sI.heap.get? a ≠ some o := fun o e => by
      have z := nb a o e (by rw [hs]; exact nfr)
      rw [fl3.2.1] at z
      cases z
    have n0 : X.s_0.heap.get? a = none := by
      cases e : X.s_0.heap.get? a with
      | none => rfl
      | some o =>
        obtain ⟨o', e'⟩ := J.base.there a o e (by rw [hex]; simp)
        exact absurd e' (nI o')
    have nC : ∀ x c, X.env.cells.lookup x = some c → c ≠ a := fun x c e z => by
      obtain ⟨_, o, ho, _⟩ := J.cell x c e
      rw [z] at ho
      exact nI o ho
    have nP : ∀ p ∈ X.pn ++ pins, p.1 ≠ a := fun p hp z => by
      have q := (J.pin p hp).1
      rw [z] at q
      exact nI _ q
    have S3 := J3.suite he3 hd3 na nL nF
    refine wpAny_handleBy_cons (codeAny_handlers_test ?_) (by intro q; cases q)
    have LT : PySem.W.Looks (model X.prog X.w) h3 (typeOf (.ref a)) cls := fun A Q E s k q => wpAny_typeOf_ref (k _ _ he3) (by rw [hz3.1]; exact q)
    have LM := PySem.W.exm_one (M := model X.prog X.w) (J3.kIn) LT hb1
    have test : ∀ {Q : Value → Shared → Prop} {E : Value → Shared → Prop}, Q c { s' with heap := h3 } → wpAny (model X.prog X.w) (X.A.mark (some (.ref a))) (eval (.Name x np) X.env) Q E { s' with heap := h3 } := fun {Q E} q => by
      obtain ⟨hg, hdbg, hm | ⟨hm, hv, hnn⟩⟩ := hc
      · exact ld_glob (X := X.suite a ((a, oe3) :: (X.pn ++ pins))) S3 hg hm q hdbg
      · exact ld_blt (X := X.suite a ((a, oe3) :: (X.pn ++ pins))) S3 hg hm hv q hnn hdbg
    refine test (LM.here ?_)
    cases b with
    | true =>
      refine codeAny_handlers_suite_as ?_
      refine HandSPX.lands_againZ fl3 fun h4 fl4 up4 => ?_
      have J4 : Inv X pins σ' H' { s' with heap := h4 } := J.landed nb fl4.1 ((up.trans up3).trans up4) os ag
      obtain ⟨oe4, vs4, he4, hz4, hd4⟩ := fl4.there
      have S4 := J4.suite he4 hd4 na nL nF
      refine store_ok (X := X.suite a ((a, oe4) :: (X.pn ++ pins))) (v := .ref a) S4 hN hi hloc rfl (fun s5 S5 => ?_) (.inr hln)
      have su : PSs (X.suite a ((a, oe4) :: (X.pn ++ pins))) [.Assign [.Name y py] (.Name n pn') pa] (tAsg (tVar i) (gName j)) :=
        pss_one (ps_set (i := j) hN hj hlocy (pe_var (i := i) hi (.inl hln) hnd hnc) hsw (.inr hly))
      have hiL : i < σ'.length := by
        rw [J.len]
        exact (List.getElem?_eq_some_iff.mp hi).1
      refine wpAny_mono (su.run [] s5 _ H' { nx := fun σ6 H6 => σ6 = (σ'.set i (some (.ref a))).set j (some (.ref a)) ∧ H6 = H', rt := fun _ _ => False } S5 ⟨.ref a, by rw [List.getElem?_set_self hiL], rfl, rfl⟩) (fun f s6 hsp => ?_) (fun _ _ z => False.elim z)
      cases f with
      | next =>
        obtain ⟨σ6, H6, S6, rfl, rfl⟩ := hsp
        refine gone_ok (X := X.suite a ((a, oe4) :: (X.pn ++ pins))) S6 hN hi hln fun s7 S7 => ?_
        obtain ⟨p1, p2, _⟩ := S7.pin (a, oe4) (List.mem_append_left _ List.mem_cons_self)
        exact ⟨_, _, inv_track (S7.unsuite ok) na nL nC nP n0 (excV_ok p1 hz4 hd4), hyes rfl a na J.len⟩
      | brk =>
        obtain ⟨σ6, H6, S6, q⟩ := hsp
        exact q.elim
      | cont =>
        obtain ⟨σ6, H6, S6, q⟩ := hsp
        exact q.elim
      | ret u =>
        obtain ⟨v6, σ6, H6, S6, r6, q⟩ := hsp
        exact q.elim
    | false =>
      show wpAny _ X.A (handleBy (.ref a) X.env []) _ _ _
      refine wpAny_handleBy_nil ?_
      obtain ⟨k1, k2, k3, oe, vs, T, oT, ts', he, hz, hd, h1, hr⟩ := _root_.id fl3
      unfold PySem.passOn
      refine wpAny_bind (wpAny_field he hd h1 ?_)
      rw [if_neg (show ¬ ((Value.ref T == Value.none) = true) from by simp)]
      have fin : wpAny (model X.prog X.w) X.A (setFlight (.ref a) X.env.frame) (fun _ s4 => wpAny (model X.prog X.w) X.A (throw (.ref a) : Sem Flow) (SP X pins D) X.xe s4) X.xe { s' with heap := h3 } := by
        rw [hf]
        refine HandSPX.setFlight_upZ fl3 fun h4 hh4 up4 => wpAny_throw (tk _ _ ?_)
        exact ⟨a, B, sI, pins, σ', H', cls, d, rfl, J, nb, (up.trans up3).trans up4, .inr (.inr (by rw [hs]; exact hh4)), na, os, ag, hno rfl⟩
      first
        | exact wpAny_bind (wpAny_pure (wpAny_bind fin))
        | exact wpAny_bind fin
  · cases f with
    | next =>
      obtain ⟨σ', H', J', q⟩ := hsp
      exact wpAny_execs_nil ⟨σ', H', J'.ofTry ok, q⟩
    | brk =>
      obtain ⟨σ', H', J', q⟩ := hsp
      exact ⟨σ', H', J'.ofTry ok, q⟩
    | cont =>
      obtain ⟨σ', H', J', q⟩ := hsp
      exact ⟨σ', H', J'.ofTry ok, q⟩
    | ret u =>
      obtain ⟨v, σ', H', J', r, q⟩ := hsp
      exact ⟨v, σ', H', J'.ofTry ok, r, q⟩
end
end MB
set_option maxRecDepth 100000
set_option maxHeartbeats 2000000
namespace MB
open PySem PySem.Spec PyProof.Rows L2
/-! ### isinstance of a kept exception; its field -/
/-- what is asked of an exception class of the program -/
structure EC (K : PySem.W.Frag) (C : Addr) : Prop where
  cl : (PySem.W.clsIn K C).isSome = true
  ga : PySem.W.findIn K (.ref C) "__getattribute__" = some (some (.builtin "BaseException.__getattribute__"))
  gg : PySem.W.findIn K (.ref C) "__getattr__" = some none
  sb : PySem.W.subIn K (.ref C) (.type "BaseException") = some true
  hd : PySem.W.hasDictIn K C = true
  ac : PySem.W.findIn K (.ref C) "__class__" = some (some (.builtin "object.__class__"))
  sp : PySem.W.specialIn K (.builtin "object.__class__") "__get__" = some (some (.builtin "getset_descriptor.__get__"))
  tk : PySem.W.takesIn K (.builtin "object.__class__") = some true
  mo : PySem.W.mroIn K C (.type "object") = some true
def ecB (K : PySem.W.Frag) (C : Addr) : Bool :=
  (PySem.W.clsIn K C).isSome && (decide (PySem.W.findIn K (.ref C) "__getattribute__" = some (some (.builtin "BaseException.__getattribute__"))) && (decide (PySem.W.findIn K (.ref C) "__getattr__" = some none) &&
  (decide (PySem.W.subIn K (.ref C) (.type "BaseException") = some true) && (PySem.W.hasDictIn K C && (decide (PySem.W.findIn K (.ref C) "__class__" = some (some (.builtin "object.__class__"))) &&
  (decide (PySem.W.specialIn K (.builtin "object.__class__") "__get__" = some (some (.builtin "getset_descriptor.__get__"))) && (decide (PySem.W.takesIn K (.builtin "object.__class__") = some true) && decide (PySem.W.mroIn K C (.type "object") = some true))))))))
theorem ec_of {K : PySem.W.Frag} {C : Addr} (h : ecB K C = true) : EC K C := by
  unfold ecB at h
  simp only [Bool.and_eq_true, decide_eq_true_eq] at h
  obtain ⟨h1, h2, h3, h4, h5, h6, h7, h8, h9⟩ := h
  exact ⟨h1, h2, h3, h4, h5, h6, h7, h8, h9⟩
/-- a kept exception of the class C: its dict, if it has one, is tracked, too -/
def KeptAt (H : Hp) (a C : Addr) (d : Option Addr) : Prop := H a = some (ExcV a (.ref C) d) ∧ ∀ dd, d = some dd → ∃ fs, H dd = some (.xd fs)
section
variable {X : Cx} {pins : List (Addr × Obj)} {σ : L2.St} {H : Hp} {s : Shared}
theorem kept_inst {a C : Addr} {d : Option Addr} (I : Inv X pins σ H s) (k : KeptAt H a C d) : ∃ oe od, PySem.W.InstAt s.heap a oe C od := by
  obtain ⟨e, hd⟩ := k
  obtain ⟨oe, vs, he, hz, hv⟩ := excV_at I.hok e
  obtain ⟨oc, dd, dat, sl⟩ := oe
  obtain ⟨z1, z2⟩ := hz
  dsimp only at z1 z2 hv
  subst z1 z2 hv
  cases dd with
  | none => exact ⟨_, none, he, rfl, rfl, trivial⟩
  | some dx =>
    obtain ⟨fs, hx⟩ := hd dx rfl
    obtain ⟨mA, hns, _⟩ := (show ObjOk X.prog X.w H s.heap dx (.xd fs) from I.hok dx _ hx)
    obtain ⟨od, es, ep, ho, _⟩ := hns
    exact ⟨_, some od, he, rfl, rfl, ho⟩
/-- isinstance(kept, c) -/
def rIsiE (K : PySem.W.Frag) : List V → Hp → VK → Prop := fun xs H Q => ∃ (a C : Addr) (d : Option Addr) (c : V) (u : Value) (b : Bool), xs = [.ref a, c] ∧ KeptAt H a C d ∧ EC K C ∧ ClsV c u ∧ PySem.W.kitOne K (.ref C) u = some b ∧ Q (.bl b) H
theorem call_isiE : CallR X (.builtin "isinstance") (rIsiE X.K) := by
  intro pins s σ H xs us Q I r h
  obtain ⟨a, C, d, c, u, b, rfl, k, ec, kc, e, q⟩ := h
  obtain ⟨u1, u2, rfl, r1, r2⟩ := vals2 r
  have e2 := kc.eq r2
  subst e2
  obtain rfl : u1 = Value.ref a := r1
  obtain ⟨oe, od, J⟩ := kept_inst I k
  exact PySem.W.kia_one (PySem.W.kitx_exc (ox := oe) (od := od) ec.cl ec.ga ec.gg ec.sb ec.ac ec.sp ec.tk ec.mo) I.kIn J e (fun z => nomatch z) fun tk => ⟨.bl b, H, I.tok tk, rfl, q⟩
/-- isinstance(kept, (c1, c2, ..)) -/
def rIsiET (K : PySem.W.Frag) : List V → Hp → VK → Prop := fun xs H Q => ∃ (a C : Addr) (d : Option Addr) (tp : Addr) (cs : List V) (us : List Value) (b : Bool), xs = [.ref a, .ref tp] ∧ KeptAt H a C d ∧ EC K C ∧ H tp = some (.tup cs) ∧ Paired ClsV cs us ∧ PySem.W.kitAny K (.ref C) us = some b ∧ Q (.bl b) H
theorem call_isiET : CallR X (.builtin "isinstance") (rIsiET X.K) := by
  intro pins s σ H xs us Q I r h
  obtain ⟨a, C, d, tp, cs, ws, b, rfl, k, ec, hT, kc, e, q⟩ := h
  obtain ⟨u1, u2, rfl, r1, r2⟩ := vals2 r
  obtain rfl : u1 = Value.ref a := r1
  obtain rfl : u2 = Value.ref tp := r2
  obtain ⟨oe, od, J⟩ := kept_inst I k
  obtain ⟨_, its, rv, o, h1, h2, n, h3⟩ := (show ObjOk X.prog X.w H s.heap tp (.tup cs) from I.hok tp _ hT)
  have e3 := ClsV.all kc rv
  subst e3
  obtain ⟨oc, od2, dt, sl⟩ := o
  simp only at h2 h3
  subst h2 h3
  exact PySem.W.kia_tup (PySem.W.kitx_exc (ox := oe) (od := od) ec.cl ec.ga ec.gg ec.sb ec.ac ec.sp ec.tk ec.mo) I.kIn J h1 e (fun z => nomatch z) fun tk => ⟨.bl b, H, I.tok tk, rfl, q⟩
def rIsiX (K : PySem.W.Frag) : List V → Hp → VK → Prop := fun xs H Q => rIsiE K xs H Q ∨ rIsiET K xs H Q
theorem call_isiX : CallR X (.builtin "isinstance") (rIsiX X.K) := CallR.or call_isiE call_isiET
/-- kept.f -/
def tXV (K : PySem.W.Frag) (f : Str) (te : TE) : TE := fun σ H Q => te σ H fun x H1 => ∃ (a C dd : Addr) (fs : List (Str × V)) (v : V), x = .ref a ∧ H1 a = some (ExcV a (.ref C) (some dd)) ∧ EC K C ∧ PySem.W.findIn K (.ref C) f = some none ∧
  H1 dd = some (.xd fs) ∧ fs.lookup f = some v ∧ Q v H1
theorem pe_xv {e : Expr} {te : TE} {pos : Pos} {n : Str} (he : PE X e te) (hb : attributeBase e n X.env (eval e X.env) = eval e X.env := by rfl) : PE X (.Attribute e n pos) (tXV X.K n te) := by
  refine ⟨fun pins s σ H Q I h => ?_⟩
  refine attr_of hb (thn (he.run pins s σ H _ I h) fun u s1 hh => ?_)
  obtain ⟨x, H1, I1, rx, a, C, dd, fs, v, ex, ea, ec, hno, ed, l, q⟩ := hh
  subst ex
  obtain rfl : u = Value.ref a := rx
  obtain ⟨oe, vs, ha, hz, hd⟩ := excV_at I1.hok ea
  obtain ⟨mA, hns, hr⟩ := (show ObjOk X.prog X.w H1 s1.heap dd (.xd fs) from I1.hok dd _ ed)
  obtain ⟨od, ho, hl⟩ := lookIn_ns hns
  obtain ⟨u, hu, ru⟩ := RelO.some_of (v := v) (o := mA n) (by rw [← l]; exact hr n)
  have J : PySem.W.InstAt s1.heap a oe C (some od) := ⟨ha, hz.1, by unfold PySem.W.notCls; rw [hd] <;> rfl, by rw [hz.2]; exact ho⟩
  exact HandSPX.exc_get I1.kIn J ec.ga ec.gg ec.sb (PySem.W.findObj_own ec.hd hno rfl (by rw [hl, hu])) (handed_of ru) ⟨v, H1, I1.tok _, ru, q⟩
/-! ### B.__init__(self, ..) where B, an own exception class, leaves __init__ to ValueError -/
theorem pe_oinit {pl : Sem Bool} {x : Str} {B : Addr} {mc : Value} {e : Expr} {es : List Expr} {ta : TA} {p1 p2 pos : Pos} (hg : Gl X x) (gB : X.mg x = some (.ref B)) (rB : ClX.CRead X.K B mc) (vB : PySem.W.findCls X.K (.ref B) mc "__init__" = some (.val (.builtin "ValueError.__init__"))) (ha : PA X (e :: es) ta)
    (hdb : (x == ("__debug__" : Str)) = false := by decide)
    (hc : eval (.Call (.Attribute (.Name x p1) "__init__" p2) (e :: es) [] pos) X.env = (do
      let ov ← eval (.Name x p1) X.env
      standAt p2.atName
      let (f, first) ← holding [ov] (getMethod ov "__init__" pl)
      callWith pos f first (backTo pos (starEach (e :: es) X.env)) (backToKw pos (keywordEach [] X.env))) := by rfl)
    (he : starEach (e :: es) X.env = (false, eval e X.env) :: starEach es X.env := by rfl) (hpl : (backTo pos (starEach es X.env)).any (·.1) = false := by rfl) :
    PE X (.Call (.Attribute (.Name x p1) "__init__" p2) (e :: es) [] pos) (tVeI X.K ta) := by
  refine ⟨fun pins s σ H Q I h => ?_⟩
  refine PySem.W.methodCall_KW (ld_glob I hg gB ?_ hdb) hc
  refine PySem.W.method_cls I.kIn rB.ga (PySem.W.cls_value I.kIn rB.rd vB (by decide +kernel) ?_)
  show wpAny _ _ (callWith pos (Value.builtin "ValueError.__init__") [] (backTo pos (starEach (e :: es) X.env)) []) _ _ _
  refine PyProof.Rows.callWith_method1 (thn (ha.run pos pins _ σ H _ (I.tok _) h) fun us s1 ⟨vs, H1, I1, r1, a, C, ws, ev, hl, T, ea, q⟩ => ?_) he hpl
  subst ev
  cases r1 with
  | @cons _ u0 _ ur ra rw' =>
    obtain rfl : u0 = Value.ref a := ra
    have hlen : ur.length ≤ sizeLine := by
      rw [← Paired.length rw', sizeLine_eq]
      omega
    exact oinit_ok T I1 ea hlen fun s' J => ⟨.non, H1, J, rfl, q⟩
end
end MB
set_option maxRecDepth 100000
set_option maxHeartbeats 2000000
namespace MB
open PySem PySem.Spec PyProof.Rows L2
section
variable {P : Program} {w : World} {K : PySem.W.Frag} {mg : Str → Option Value} {base : Heap}
/-- a def that lets nothing out -/
theorem fn_toX {CX : CXT} {k : Nat} {f : Addr} {fd : FuncData} {ps : List Str} {sp : Sp} (F : FnOk P w K mg base CX0 k f fd ps sp) : FnOk P w K mg base CX k f fd ps sp :=
  ⟨F.len, fun A outer s H args us vs Q E hr e0 hb r h => codeAny_mono (F.run A outer s H args us vs Q E hr e0 hb r h) fun r s' q => by
    cases r with
    | error e => exact (show False from q).elim
    | ok fl => cases fl <;> exact q⟩
/-- a def of the module by its name: its promise -/
structure Cl (P : Program) (w : World) (K : PySem.W.Frag) (mg : Str → Option Value) (base : Heap) (k : Nat) (x : Str) (sp : Sp) : Prop where
  ex : ∃ (f : Addr) (fd : FuncData) (ps : List Str), FnOk P w K mg base (L2.CX P w) k f fd ps sp ∧ mg x = some (.ref f) ∧ PySem.W.keepIn K (.ref f) = true ∧ Binds K fd ps []
theorem cl_of {k : Nat} {x : Str} {f : Addr} {fd : FuncData} {ps : List Str} {sp : Sp} (F : FnOk P w K mg base CX0 k f fd ps sp) (hm : mg x = some (.ref f)) (hk : PySem.W.keepIn K (.ref f) = true) (hb : Binds K fd ps []) : Cl P w K mg base k x sp :=
  ⟨f, fd, ps, fn_toX F, hm, hk, hb⟩
theorem cl_ofX {k : Nat} {x : Str} {f : Addr} {fd : FuncData} {ps : List Str} {sp : Sp} (F : FnOk P w K mg base (L2.CX P w) k f fd ps sp) (hm : mg x = some (.ref f)) (hk : PySem.W.keepIn K (.ref f) = true) (hb : Binds K fd ps []) : Cl P w K mg base k x sp :=
  ⟨f, fd, ps, F, hm, hk, hb⟩
end
section
variable {X : Cx} {x : Str} {k j : Nat} {sp : Sp} {p pos : Pos} {e : Expr} {es : List Expr} {t : TA}
theorem pe_cl (c : Cl X.prog X.w X.K X.mg X.base k x sp) (hr : Room j X.A) (hkj : k ≤ j) (hg : Gl X x) {E : XK} (hx : Passes (L2.CX X.prog X.w) X E) (ha : PA X (e :: es) t)
    (hdb : (x == ("__debug__" : Str)) = false := by decide) (he : starEach (e :: es) X.env = (false, eval e X.env) :: starEach es X.env := by rfl) (hpl : (backTo pos (starEach es X.env)).any (·.1) = false := by rfl) :
    PE X (.Call (.Name x p) (e :: es) [] pos) (tCall sp [] E t) := by
  obtain ⟨f, fd, ps, F, hm, hk, hb⟩ := c.ex
  exact pe_call F (hr.mono hkj) hg hm hk hb .nil hx ha hdb he hpl
/-- .. where an exception's wish hangs on the slots -/
theorem pe_clS (c : Cl X.prog X.w X.K X.mg X.base k x sp) (hr : Room j X.A) (hkj : k ≤ j) (hg : Gl X x) {E : L2.St → XK} (hx : ∀ σ, PassesAt (L2.CX X.prog X.w) X σ (E σ)) (ha : PA X (e :: es) t)
    (hdb : (x == ("__debug__" : Str)) = false := by decide) (he : starEach (e :: es) X.env = (false, eval e X.env) :: starEach es X.env := by rfl) (hpl : (backTo pos (starEach es X.env)).any (·.1) = false := by rfl) :
    PE X (.Call (.Name x p) (e :: es) [] pos) (tCallS sp E t) := by
  obtain ⟨f, fd, ps, F, hm, hk, hb⟩ := c.ex
  exact pe_callS F (hr.mono hkj) hg hm hk hb hx ha hdb he hpl
end
end MB
set_option maxRecDepth 100000
namespace MB
open PySem PySem.Spec PyProof.Rows L2
theorem bo_len : bootBuiltins "len" = some (.builtin "len") := boot_len
theorem bo_isinstance : bootBuiltins "isinstance" = some (.builtin "isinstance") := by decide +kernel
theorem bo_all : bootBuiltins "all" = some (.builtin "all") := by decide +kernel
theorem bo_repr : bootBuiltins "repr" = some (.builtin "repr") := by decide +kernel
theorem bo_abs : bootBuiltins "abs" = some (.builtin "abs") := by decide +kernel
theorem bo_int : bootBuiltins "int" = some (.type "int") := by decide +kernel
theorem bo_str : bootBuiltins "str" = some (.type "str") := by decide +kernel
theorem bo_bool : bootBuiltins "bool" = some (.type "bool") := by decide +kernel
theorem bo_tuple : bootBuiltins "tuple" = some (.type "tuple") := by decide +kernel
theorem bo_list : bootBuiltins "list" = some (.type "list") := by decide +kernel
theorem bo_ValueError : bootBuiltins "ValueError" = some (.type "ValueError") := by decide +kernel
theorem bo_min : bootBuiltins "min" = some (.builtin "min") := by decide +kernel
theorem bo_max : bootBuiltins "max" = some (.builtin "max") := by decide +kernel
end MB
set_option maxRecDepth 100000
set_option maxHeartbeats 1000000
namespace MB
open PySem PySem.Spec PyProof.Rows L2 Evl
section
variable {X : Cx} {K : PySem.W.Frag} {σ : L2.St} {H H' : Hp} {ta tb te tx : TE} {x y z v : V} {xs : List V}
/-- a tuple / list of these parts, new or not -/
def EvTp (K : PySem.W.Frag) (te : TE) (σ : L2.St) (H : Hp) (xs : List V) : Prop := ∀ H1, Ex H H1 → ∀ Q : VK, (∀ p H2, Ex H1 H2 → SqT K H2 p xs → Q (.ref p) H2) → te σ H1 Q
def EvLs (K : PySem.W.Frag) (te : TE) (σ : L2.St) (H : Hp) (xs : List V) : Prop := ∀ H1, Ex H H1 → ∀ Q : VK, (∀ p H2, Ex H1 H2 → SqL K H2 p xs → Q (.ref p) H2) → te σ H1 Q
theorem EvTp.mono (e : Ex H H') (h : EvTp K te σ H xs) : EvTp K te σ H' xs := fun H1 a Q q => h H1 (e.trans a) Q q
theorem EvLs.mono (e : Ex H H') (h : EvLs K te σ H xs) : EvLs K te σ H' xs := fun H1 a Q q => h H1 (e.trans a) Q q
theorem etp_val {p : Addr} (h : Ev te σ H (.ref p)) (hp : SqT K H p xs) : EvTp K te σ H xs := fun H1 e Q q => h H1 e _ fun H2 e2 => q p H2 e2 (ex_t (e.trans e2) hp)
theorem els_val {p : Addr} (h : Ev te σ H (.ref p)) (hp : SqL K H p xs) : EvLs K te σ H xs := fun H1 e Q q => h H1 e _ fun H2 e2 => q p H2 e2 (ex_l (e.trans e2) hp)
theorem els_new (h : EvL te σ H xs) : EvLs K te σ H xs := fun H1 e Q q => h H1 e _ fun p H2 _ e2 hp => q p H2 e2 (sq_of hp)
theorem etp_new (h : EvU te σ H xs) : EvTp K te σ H xs := fun H1 e Q q => h H1 e _ fun p H2 _ e2 hp => q p H2 e2 (st_of hp)
theorem etp_sl {tl th : TO} {lo hi : Option Int} (h : EvTp K te σ H xs) (h1 : EvO tl σ H lo) (h2 : EvO th σ H hi) : EvTp K (tSl (rSl K) te tl th) σ H (cutV xs lo hi) := fun H1 e Q q =>
  h H1 e _ fun p H2 e2 hp => h1 H2 (e.trans e2) _ fun H3 e3 => h2 H3 ((e.trans e2).trans e3) _ fun H4 e4 => by
    have hp4 := ex_t (e3.trans e4) hp
    refine .inr (.inl ⟨p, xs, rfl, hp4, fun w => ?_, fun _ p' hn => q p' _ (((e2.trans e3).trans e4).trans (Ex.new hn)) (st_of upd_same)⟩)
    refine q p H4 ((e2.trans e3).trans e4) ?_
    have : cutV xs lo hi = xs := by
      unfold cutV
      rw [w.1, w.2, List.drop_zero]
      exact List.take_of_length_le (by omega)
    rw [this]
    exact hp4
theorem els_sl {tl th : TO} {lo hi : Option Int} (h : EvLs K te σ H xs) (h1 : EvO tl σ H lo) (h2 : EvO th σ H hi) : EvL (tSl (rSl K) te tl th) σ H (cutV xs lo hi) := fun H1 e Q q =>
  h H1 e _ fun p H2 e2 hp => h1 H2 (e.trans e2) _ fun H3 e3 => h2 H3 ((e.trans e2).trans e3) _ fun H4 e4 =>
    .inl ⟨p, xs, rfl, ex_l (e3.trans e4) hp, fun p' hn => q p' _ (fresh_back ((e2.trans e3).trans e4) hn) (((e2.trans e3).trans e4).trans (Ex.new hn)) upd_same⟩
theorem ev_slS {tl th : TO} {lo hi : Option Int} {w : Str} (h : Ev te σ H (.str w)) (h1 : EvO tl σ H lo) (h2 : EvO th σ H hi) (hw : w.length ≤ 1000000) : Ev (tSl (rSl K) te tl th) σ H (.str (cutS w lo hi)) := fun H1 e Q q =>
  h H1 e _ fun H2 e2 => h1 H2 (e.trans e2) _ fun H3 e3 => h2 H3 ((e.trans e2).trans e3) _ fun H4 e4 => .inr (.inr ⟨w, rfl, Nat.le_trans hw (by decide), q H4 ((e2.trans e3).trans e4)⟩)
/-! ### operators -/
theorem rv_addI {i j : Int} : RV (rAddA K) (.int i) (.int j) H (.int (i + j)) := fun H1 _ _ q => .inl ⟨i, j, rfl, rfl, q H1 (Ex.refl H1)⟩
theorem rv_addS {a b : Str} (h : a.length + b.length ≤ 1000000) : RV (rAddA K) (.str a) (.str b) H (.str (a ++ b)) := fun H1 _ _ q => .inr (.inl ⟨a, b, rfl, rfl, Nat.le_trans h (by decide), q H1 (Ex.refl H1)⟩)
theorem rv_addC {a b : List Nat} (h : a.length + b.length ≤ 1000000) : RV (rAddA K) (.str (SX.S a)) (.str (SX.S b)) H (.str (SX.S (a ++ b))) := by
  rw [← SX.S_cat]
  exact rv_addS (by rw [SX.S_len, SX.S_len]; exact h)
theorem rv_mulI {i j : Int} (h : CMul i j) : RV (rMulB K) (.int i) (.int j) H (.int (i * j)) := fun H1 _ _ q => .inr (.inl ⟨i, j, rfl, rfl, h, q H1 (Ex.refl H1)⟩)
def rEqA (K : PySem.W.Frag) : R2 := fun x y H Q => rEq x y H Q ∨ rEqD K x y H Q
def rNeA (K : PySem.W.Frag) : R2 := fun x y H Q => rNe x y H Q ∨ rNeD K x y H Q
theorem op_eqA (hu : X.A.units + 64 < cLine) : OpR X (compareOp .Eq) (rEqA X.K) := OpR.or op_eq (op_eqD hu)
theorem op_neA (hu : X.A.units + 64 < cLine) : OpR X (compareOp .NotEq) (rNeA X.K) := OpR.or op_ne (op_neD hu)
theorem rv_eqI {i j : Int} : RV (rEqA K) (.int i) (.int j) H (.bl (decide (i = j))) := fun H1 _ _ q => .inl ⟨rfl, by
  have e : decide (V.int i = V.int j) = decide (i = j) := by simp
  rw [e]
  exact q H1 (Ex.refl H1)⟩
theorem rv_neI {i j : Int} : RV (rNeA K) (.int i) (.int j) H (.bl (!decide (i = j))) := fun H1 _ _ q => .inl ⟨rfl, by
  have e : decide (V.int i = V.int j) = decide (i = j) := by simp
  rw [e]
  exact q H1 (Ex.refl H1)⟩
theorem dec_S {a b : List Nat} : decide (V.str (SX.S a) = V.str (SX.S b)) = decide (a = b) := by
  by_cases h : a = b
  · subst h
    simp
  · rw [decide_eq_false h]
    exact decide_eq_false fun z => h (SX.S_inj (by injection z))
theorem rv_eqC {a b : List Nat} : RV (rEqA K) (.str (SX.S a)) (.str (SX.S b)) H (.bl (decide (a = b))) := fun H1 _ _ q => .inl ⟨rfl, by
  rw [dec_S]
  exact q H1 (Ex.refl H1)⟩
theorem rv_neC {a b : List Nat} : RV (rNeA K) (.str (SX.S a)) (.str (SX.S b)) H (.bl (!decide (a = b))) := fun H1 _ _ q => .inl ⟨rfl, by
  rw [dec_S]
  exact q H1 (Ex.refl H1)⟩
/-- data on both sides -/
theorem rv_eqD {d e : PyData} (h1 : Dp K H x d) (h2 : Dp K H y e) (s1 : SeqAt.shaped d = true := by rfl) (s2 : SeqAt.shaped e = true := by rfl) : RV (rEqA K) x y H (.bl (PyData.eqv d e)) := fun H1 e1 _ q => .inr ⟨d, e, dp_ex e1 d x h1, dp_ex e1 e y h2, s1, s2, q H1 (Ex.refl H1)⟩
theorem rv_neD {d e : PyData} (h1 : Dp K H x d) (h2 : Dp K H y e) (s1 : SeqAt.shaped d = true := by rfl) (s2 : SeqAt.shaped e = true := by rfl) : RV (rNeA K) x y H (.bl (!PyData.eqv d e)) := fun H1 e1 _ q => .inr ⟨d, e, dp_ex e1 d x h1, dp_ex e1 e y h2, s1, s2, q H1 (Ex.refl H1)⟩
theorem rv_xS {w : List Nat} {i : Int} {c : Nat} (h : w.length ≤ 1000000) (ha : atI w i = some c) : RV (rIx K) (.str (SX.S w)) (.int i) H (.str (SX.S [c])) := fun H1 e _ q => .inr (.inr ⟨SX.S w, i, c, rfl, rfl, by rw [SX.S_len]; exact Nat.le_trans h (by decide), ha, q H1 (Ex.refl H1)⟩)
theorem rv_xT {p : Addr} {i : Int} (h : SqT K H p xs) (ha : atI xs i = some v) : RV (rIx K) (.ref p) (.int i) H v := fun H1 e _ q => .inr (.inl ⟨p, xs, i, v, rfl, rfl, ex_t e h, ha, q H1 (Ex.refl H1)⟩)
theorem rv_xL {p : Addr} {i : Int} (h : SqL K H p xs) (ha : atI xs i = some v) : RV (rIx K) (.ref p) (.int i) H v := fun H1 e _ q => .inl ⟨p, xs, i, v, rfl, rfl, ex_l e h, ha, q H1 (Ex.refl H1)⟩
theorem ev_opLs (ha : EvLs K ta σ H xs) (hb : Ev tb σ H y) {r : R2} (hr : ∀ p H1, SqL K H1 p xs → Ex H H1 → RV r (.ref p) y H1 z) : Ev (tOp r ta tb) σ H z := fun H1 e Q q =>
  ha H1 e _ fun p H2 e2 hp => hb H2 (e.trans e2) _ fun H3 e3 => hr p H3 (ex_l e3 hp) ((e.trans e2).trans e3) H3 (Ex.refl _) _ fun H4 e4 => q H4 ((e2.trans e3).trans e4)
theorem ev_opTp (ha : EvTp K ta σ H xs) (hb : Ev tb σ H y) {r : R2} (hr : ∀ p H1, SqT K H1 p xs → Ex H H1 → RV r (.ref p) y H1 z) : Ev (tOp r ta tb) σ H z := fun H1 e Q q =>
  ha H1 e _ fun p H2 e2 hp => hb H2 (e.trans e2) _ fun H3 e3 => hr p H3 (ex_t e3 hp) ((e.trans e2).trans e3) H3 (Ex.refl _) _ fun H4 e4 => q H4 ((e2.trans e3).trans e4)
theorem atI_nat {α : Type} {l : List α} {i : Nat} {c : α} (h : l[i]? = some c) : atI l (i : Int) = some c := by
  unfold atI
  rw [ixN_nat (List.getElem?_eq_some_iff.mp h).1]
  exact h
theorem rc_lenL {p : Addr} (h : SqL K H p xs) : RC (rLenA K) [.ref p] H (.int (xs.length : Int)) := fun H1 e _ q => .inl ⟨p, xs, rfl, .inl (ex_l e h), q H1 (Ex.refl H1)⟩
theorem rc_lenT {p : Addr} (h : SqT K H p xs) : RC (rLenA K) [.ref p] H (.int (xs.length : Int)) := fun H1 e _ q => .inl ⟨p, xs, rfl, .inr (ex_t e h), q H1 (Ex.refl H1)⟩
theorem rc_lenS {w : List Nat} (h : w.length ≤ 1000000) : RC (rLenA K) [.str (SX.S w)] H (.int (w.length : Int)) := fun H1 e _ q => .inr ⟨SX.S w, rfl, by rw [SX.S_len]; exact Nat.le_trans h (by decide), by rw [SX.S_len]; exact q H1 (Ex.refl H1)⟩
theorem ev_lenLs (h : EvLs K te σ H xs) : Ev (tCB (rLenA K) (tCons te tNil)) σ H (.int (xs.length : Int)) := fun H1 e Q q => h H1 e _ fun p H2 e2 hp => .inl ⟨p, xs, rfl, .inl hp, q H2 e2⟩
theorem ev_lenTp (h : EvTp K te σ H xs) : Ev (tCB (rLenA K) (tCons te tNil)) σ H (.int (xs.length : Int)) := fun H1 e Q q => h H1 e _ fun p H2 e2 hp => .inl ⟨p, xs, rfl, .inr hp, q H2 e2⟩
theorem rc_isi {a c : String} {b : Bool} (ty : TyX K H x (.type a)) (hk : kitB a c = some b) (hm : ∀ H1, Ex H H1 → TyX K H1 x (.type a)) : RC (rIsiA K) [x, .ty c] H (.bl b) := fun H1 e _ q => .inl ⟨x, .ty c, .type a, .type c, b, rfl, .ty c, hm H1 e, kit_ty hk, q H1 (Ex.refl H1)⟩
theorem rc_isiInt {i : Int} {c : String} {b : Bool} (hk : kitB "int" c = some b) : RC (rIsiA K) [.int i, .ty c] H (.bl b) := rc_isi (.base (.int i)) hk fun _ _ => .base (.int i)
theorem rc_isiStr {w : Str} {c : String} {b : Bool} (hk : kitB "str" c = some b) : RC (rIsiA K) [.str w, .ty c] H (.bl b) := rc_isi (.base (.str w)) hk fun _ _ => .base (.str w)
theorem tup_ty {p : Addr} (h : SqT K H p xs) : TyX K H (.ref p) (.type "tuple") := by
  rcases h with (h | ⟨o, h⟩) | ⟨od, its, n, h, c, _⟩
  · exact .base (.tup h)
  · exact .fTuple h
  · exact .kTuple h c
theorem rc_isiTup {p : Addr} {c : String} {b : Bool} (h : SqT K H p xs) (hk : kitB "tuple" c = some b) : RC (rIsiA K) [.ref p, .ty c] H (.bl b) := rc_isi (tup_ty h) hk fun _ e => tup_ty (ex_t e h)
theorem ev_cb1 {r : List V → Hp → VK → Prop} (h : Ev te σ H x) (hr : RC r [x] H z) : Ev (tCB r (tCons te tNil)) σ H z := ev_cb (ea_cons h ea_nil) hr
theorem ev_cb2 {r : List V → Hp → VK → Prop} (h : Ev te σ H x) (h2 : Ev tb σ H y) (hr : RC r [x, y] H z) : Ev (tCB r (tCons te (tCons tb tNil))) σ H z := ev_cb (ea_cons h (ea_cons h2 ea_nil)) hr
theorem ev_allL {bs : List Bool} (h : EvLs K te σ H (bs.map V.bl)) : Ev (tCB (rAll K) (tCons te tNil)) σ H (.bl (bs.all id)) := fun H1 e Q q => h H1 e _ fun p H2 e2 hp => ⟨p, bs, rfl, hp, q H2 e2⟩
theorem ev_chain {r r' : R2} {tc : TE} {w : V} {a b : Bool} (ha : Ev ta σ H x) (hb : Ev tb σ H y) (hc : Ev tc σ H w) (h1 : RV r x y H (.bl a)) (h2 : a = true → RV r' y w H (.bl b)) : Ev (tChain r r' ta tb tc) σ H (.bl (a && b)) := fun H1 e Q q =>
  ha H1 e _ fun H2 e2 => hb H2 (e.trans e2) _ fun H3 e3 => h1 H3 ((e.trans e2).trans e3) _ fun H4 e4 => ⟨a, rfl, by
    cases a with
    | false => exact q H4 ((e2.trans e3).trans e4)
    | true =>
      show tc σ H4 _
      exact hc H4 (((e.trans e2).trans e3).trans e4) _ fun H5 e5 => h2 rfl H5 ((((e.trans e2).trans e3).trans e4).trans e5) _ fun H6 e6 => q H6 ((((e2.trans e3).trans e4).trans e5).trans e6)⟩
end
end MB
set_option maxRecDepth 100000
set_option maxHeartbeats 1000000
namespace MB
open PySem PySem.Spec PyProof.Rows L2 Evl
section
variable {X : Cx} {K : PySem.W.Frag} {σ : L2.St} {H H' : Hp} {ta tb te tl : TE} {tt : TT} {x y z v : V} {xs : List V} {j : Nat} {vs : List Nat} {α : Type}
theorem ety : EvT tYes σ H true := fun H1 _ _ q => q H1 (Ex.refl H1)
/-- what stands in the new list ahead of turn i -/
def Cd (H1 : Hp) (D : Addr) (ds : List α) (b : α → Bool) (g : α → V) (i : Nat) (H : Hp) : Prop := Ex H1 H ∧ H D = some (.lst (((ds.take i).filter b).map g))
theorem cd_step {H1 H : Hp} {D : Addr} {ds : List α} {f : α → V} {b : α → Bool} {g : α → V} {i : Nat} {d : α} {σ2 : L2.St} (hD : H1 D = none) (hz : ds.length ≤ 1000000) (hi : ds[i]? = some d) (p : Cd H1 D ds b g i H)
    (ht : EvT tt σ2 H1 (b d)) (he : b d = true → Ev te σ2 H1 (g d)) :
    tt σ2 H fun c H3 => if c = true then te σ2 H3 fun y H4 => ∃ acc, H4 D = some (.lst acc) ∧ acc.length < sizeLine ∧ Cd H1 D ds b g (i + 1) (upd H4 D (.lst (acc ++ [y]))) else Cd H1 D ds b g (i + 1) H3 := by
  obtain ⟨e0, h0⟩ := p
  have hlt := (List.getElem?_eq_some_iff.mp hi).1
  have hd : ds[i] = d := (List.getElem?_eq_some_iff.mp hi).2
  have ht1 : ds.take (i + 1) = ds.take i ++ [d] := by rw [List.take_succ, hi]; rfl
  refine ht H e0 _ fun H3 e3 => ?_
  cases hb : b d with
  | true =>
    show te σ2 H3 _
    refine he hb H3 (e0.trans e3) _ fun H4 e4 => ⟨_, e4 D _ (e3 D _ h0), ?_, ?_, ?_⟩
    · rw [List.length_map]
      refine Nat.lt_of_le_of_lt (List.length_filter_le _ _) ?_
      rw [List.length_take]
      have : (1000000 : Nat) < sizeLine := by decide
      omega
    · exact Ex.mut ((e0.trans e3).trans e4) hD
    · rw [ht1, List.filter_append, List.map_append]
      have : ([d].filter b).map g = [g d] := by simp [hb]
      rw [this]
      exact upd_same
  | false =>
    show Cd H1 D ds b g (i + 1) H3
    refine ⟨e0.trans e3, ?_⟩
    rw [ht1, List.filter_append, List.map_append]
    have : ([d].filter b).map g = [] := by simp [hb]
    rw [this, List.append_nil]
    exact e3 D _ h0
theorem el_lcT {ds : List α} (f : α → V) (b : α → Bool) (g : α → V) (h : EvTp K tl σ H (ds.map f)) (hz : ds.length ≤ 1000000) (hw : ∀ x, wipe ((wipe σ vs).set j (some x)) vs = wipe σ vs)
    (ht : ∀ d ∈ ds, EvT tt ((wipe σ vs).set j (some (f d))) H (b d)) (he : ∀ d ∈ ds, b d = true → Ev te ((wipe σ vs).set j (some (f d))) H (g d)) : EvL (tLc (iTup K tl) (gName j) tt te vs) σ H ((ds.filter b).map g) := fun H0 e Q q =>
  h H0 e _ fun a H1 e1 ha => ⟨a, rfl, ⟨_, ha⟩, fun Dl hD =>
    lc_tup (xs := ds.map f) (Cd H1 Dl ds b g) ⟨Ex.new hD, by rw [List.take_zero]; exact upd_same⟩ (fun i H' _ p => ex_t p.1 ha) (fun i x H' hi p => by
      rw [List.getElem?_map, Option.map_eq_some_iff] at hi
      obtain ⟨d, hd, rfl⟩ := hi
      have hm : d ∈ ds := List.mem_of_getElem? hd
      exact ⟨hw _, cd_step (f := f) hD hz hd p ((ht d hm).mono (e.trans e1)) fun hb => (he d hm hb).mono (e.trans e1)⟩) (fun H' p => q Dl H' (fresh_back e1 hD) (e1.trans p.1) (by
        have := p.2
        rw [List.length_map, List.take_length] at this
        exact this))⟩
theorem el_lcLs {ds : List α} (f : α → V) (b : α → Bool) (g : α → V) (h : EvLs K tl σ H (ds.map f)) (hz : ds.length ≤ 1000000) (hw : ∀ x, wipe ((wipe σ vs).set j (some x)) vs = wipe σ vs)
    (ht : ∀ d ∈ ds, EvT tt ((wipe σ vs).set j (some (f d))) H (b d)) (he : ∀ d ∈ ds, b d = true → Ev te ((wipe σ vs).set j (some (f d))) H (g d)) : EvL (tLc (iList K tl) (gName j) tt te vs) σ H ((ds.filter b).map g) := fun H0 e Q q =>
  h H0 e _ fun a H1 e1 ha => ⟨a, rfl, ⟨_, ha⟩, fun Dl hD =>
    lc_list (xs := ds.map f) (Cd H1 Dl ds b g) ⟨Ex.new hD, by rw [List.take_zero]; exact upd_same⟩ (fun i H' _ p => ex_l p.1 ha) (fun i x H' hi p => by
      rw [List.getElem?_map, Option.map_eq_some_iff] at hi
      obtain ⟨d, hd, rfl⟩ := hi
      have hm : d ∈ ds := List.mem_of_getElem? hd
      exact ⟨hw _, cd_step (f := f) hD hz hd p ((ht d hm).mono (e.trans e1)) fun hb => (he d hm hb).mono (e.trans e1)⟩) (fun H' p => q Dl H' (fresh_back e1 hD) (e1.trans p.1) (by
        have := p.2
        rw [List.length_map, List.take_length] at this
        exact this))⟩
/-- an iteration that keeps no state in the heap -/
structure Pure (J : It) (n : Nat) (val : Nat → V) : Prop where
  go : ∀ i H, i < n → J.go i H
  stop : ∀ H, J.stop n H
  yld : ∀ i H x H', i < n → J.yld i H x H' → H' = H ∧ x = val i
theorem pure_str (w : List Nat) : Pure (Its (SX.S w)) w.length (fun i => .str (SX.S [w.getD i 0])) where
  go := fun i H h => by show i < (w.toArray).size; simpa using h
  stop := fun H => by show (w.toArray).size ≤ w.length; simp
  yld := fun i H x H' hi h => by
    obtain ⟨e, c, hc, rfl⟩ := h
    refine ⟨e, ?_⟩
    have : w[i]? = some c := by simpa using hc
    rw [List.getD_eq_getElem?_getD, this]
    rfl
theorem pure_rng (lo : Int) (n : Nat) : Pure (Itr lo n) n (fun i => .int (lo + i)) := ⟨fun _ _ h => h, fun _ => Nat.le_refl _, fun _ _ _ _ _ h => h⟩
theorem pure_rngC (lo c : Int) (n : Nat) : Pure (Itc lo c n) n (fun i => .int (lo + (i : Nat) * c)) := ⟨fun _ _ h => h, fun _ => Nat.le_refl _, fun _ _ _ _ _ h => h⟩
theorem lc_pure {J : It} {n : Nat} {val : Nat → V} {g : TG} {tt : TT} {te : TE} {vs : List Nat} {σ : L2.St} {H1 : Hp} {D : Addr} {Qd : Hp → Prop} (P : Pure J n val) (Pv : Nat → Hp → Prop) (h0 : Pv 0 (upd H1 D (.lst [])))
    (hs : ∀ i H, i < n → Pv i H → g (val i) (wipe σ vs) H fun σ2 H2 => wipe σ2 vs = wipe σ vs ∧ tt σ2 H2 fun b H3 =>
      if b = true then te σ2 H3 fun y H4 => ∃ acc, H4 D = some (.lst acc) ∧ acc.length < sizeLine ∧ Pv (i + 1) (upd H4 D (.lst (acc ++ [y]))) else Pv (i + 1) H3) (hd : ∀ H, Pv n H → Qd H) :
    ∃ W : Nat → Nat → Hp → Prop, (∃ m, W 0 m (upd H1 D (.lst []))) ∧ ∀ i m H, W i m H →
      (J.stop i H ∧ Qd H) ∨ (J.go i H ∧ ∃ Nx : Hp → Prop, (∀ H', Nx H' → ∃ m', m' < m ∧ W (i + 1) m' H') ∧ ∀ x H', J.yld i H x H' → g x (wipe σ vs) H' fun σ2 H2 => wipe σ2 vs = wipe σ vs ∧ tt σ2 H2 fun b H3 =>
        if b = true then te σ2 H3 fun y H4 => ∃ acc, H4 D = some (.lst acc) ∧ acc.length < sizeLine ∧ Nx (upd H4 D (.lst (acc ++ [y]))) else Nx H3) := by
  refine ⟨fun i m H => m = n - i ∧ i ≤ n ∧ Pv i H, ⟨n, by simp, Nat.zero_le _, h0⟩, ?_⟩
  rintro i m H ⟨rfl, hi, p⟩
  by_cases hlt : i < n
  · refine .inr ⟨P.go i H hlt, Pv (i + 1), fun H' p' => ⟨n - (i + 1), by omega, rfl, hlt, p'⟩, fun x H' y => ?_⟩
    obtain ⟨e, e2⟩ := P.yld i H x H' hlt y
    subst e
    subst e2
    exact hs i _ hlt p
  · have e : i = n := by omega
    subst e
    exact .inl ⟨P.stop H, hd H p⟩
theorem el_lcP {J : It} {n : Nat} {val : Nat → V} {ds : List α} (P : Pure J n val) (f : α → V) (b : α → Bool) (g : α → V) (hn : ds.length = n) (hv : ∀ i d, ds[i]? = some d → val i = f d) (hz : ds.length ≤ 1000000)
    (hw : ∀ x, wipe ((wipe σ vs).set j (some x)) vs = wipe σ vs) {H1 : Hp} {Q : VK} {Dl : Addr} (hD : H1 Dl = none)
    (ht : ∀ d ∈ ds, EvT tt ((wipe σ vs).set j (some (f d))) H1 (b d)) (he : ∀ d ∈ ds, b d = true → Ev te ((wipe σ vs).set j (some (f d))) H1 (g d))
    (q : ∀ H2, Ex H1 H2 → H2 Dl = some (.lst ((ds.filter b).map g)) → Q (.ref Dl) H2) :
    ∃ W : Nat → Nat → Hp → Prop, (∃ m, W 0 m (upd H1 Dl (.lst []))) ∧ ∀ i m H, W i m H →
      (J.stop i H ∧ Q (.ref Dl) H) ∨ (J.go i H ∧ ∃ Nx : Hp → Prop, (∀ H', Nx H' → ∃ m', m' < m ∧ W (i + 1) m' H') ∧ ∀ x H', J.yld i H x H' → gName j x (wipe σ vs) H' fun σ2 H2 => wipe σ2 vs = wipe σ vs ∧ tt σ2 H2 fun b H3 =>
        if b = true then te σ2 H3 fun y H4 => ∃ acc, H4 Dl = some (.lst acc) ∧ acc.length < sizeLine ∧ Nx (upd H4 Dl (.lst (acc ++ [y]))) else Nx H3) :=
  lc_pure (Qd := Q (.ref Dl)) P (Cd H1 Dl ds b g) ⟨Ex.new hD, by rw [List.take_zero]; exact upd_same⟩ (fun i H' hi p => by
      have hlt : i < ds.length := by omega
      have hd : ds[i]? = some ds[i] := List.getElem?_eq_getElem hlt
      have hm : ds[i] ∈ ds := List.getElem_mem hlt
      rw [hv i _ hd]
      exact ⟨hw _, cd_step (f := f) hD hz hd p (ht _ hm) fun hb => he _ hm hb⟩) (fun H' p => q H' p.1 (by
        have := p.2
        rw [← hn, List.take_length] at this
        exact this))
theorem el_lcS {w : List Nat} (b : Nat → Bool) (g : Nat → V) (h : Ev tl σ H (.str (SX.S w))) (hz : w.length ≤ 1000000) (hw : ∀ x, wipe ((wipe σ vs).set j (some x)) vs = wipe σ vs)
    (ht : ∀ d ∈ w, EvT tt ((wipe σ vs).set j (some (.str (SX.S [d])))) H (b d)) (he : ∀ d ∈ w, b d = true → Ev te ((wipe σ vs).set j (some (.str (SX.S [d])))) H (g d)) : EvL (tLc (iStr tl) (gName j) tt te vs) σ H ((w.filter b).map g) := fun H0 e Q q =>
  h H0 e _ fun H1 e1 => ⟨SX.S w, rfl, fun Dl hD =>
    el_lcP (ds := w) (pure_str w) (fun c => .str (SX.S [c])) b g rfl (fun i d hd => by rw [List.getD_eq_getElem?_getD, hd]; rfl) hz hw hD (fun d hm => (ht d hm).mono (e.trans e1)) (fun d hm hb => (he d hm hb).mono (e.trans e1))
      fun H2 e2 h2 => q Dl H2 (fresh_back e1 hD) (e1.trans e2) h2⟩
theorem el_lcR {ta : TA} {n : Int} (b : Nat → Bool) (g : Nat → V) (h : EvA ta σ H [.int n]) (hn : 0 ≤ n ∧ n ≤ 1000000) (hw : ∀ x, wipe ((wipe σ vs).set j (some x)) vs = wipe σ vs)
    (ht : ∀ d : Nat, (d : Int) < n → EvT tt ((wipe σ vs).set j (some (.int (d : Int)))) H (b d)) (he : ∀ d : Nat, (d : Int) < n → b d = true → Ev te ((wipe σ vs).set j (some (.int (d : Int)))) H (g d)) : EvL (tLc (iRng1 ta) (gName j) tt te vs) σ H (((List.range n.toNat).filter b).map g) := fun H0 e Q q =>
  h H0 e _ fun H1 e1 => ⟨n, rfl, by omega, by omega, fun Dl hD =>
    el_lcP (ds := List.range n.toNat) (pure_rng 0 n.toNat) (fun c => .int (c : Int)) b g (List.length_range) (fun i d hd => by
        rw [List.getElem?_range] at hd
        · injection hd with hd
          subst hd
          rw [Int.zero_add]
        · have := (List.getElem?_eq_some_iff.mp hd).1
          rw [List.length_range] at this
          exact this) (by rw [List.length_range]; omega) hw hD
      (fun d hm => (ht d (by rw [List.mem_range] at hm; omega)).mono (e.trans e1)) (fun d hm hb => (he d (by rw [List.mem_range] at hm; omega) hb).mono (e.trans e1))
      fun H2 e2 h2 => q Dl H2 (fresh_back e1 hD) (e1.trans e2) h2⟩
/-- range(0, m, c) with n turns -/
theorem el_lcC {ta : TA} {m c : Int} {n : Nat} (b : Nat → Bool) (g : Nat → V) (h : EvA ta σ H [.int 0, .int m, .int c]) (hr : RgC 0 m c n) (hn : n ≤ 1000000) (hw : ∀ x, wipe ((wipe σ vs).set j (some x)) vs = wipe σ vs)
    (ht : ∀ d : Nat, d < n → EvT tt ((wipe σ vs).set j (some (.int ((d : Int) * c)))) H (b d)) (he : ∀ d : Nat, d < n → b d = true → Ev te ((wipe σ vs).set j (some (.int ((d : Int) * c)))) H (g d)) : EvL (tLc (iRng3 ta) (gName j) tt te vs) σ H (((List.range n).filter b).map g) := fun H0 e Q q =>
  h H0 e _ fun H1 e1 => ⟨0, m, c, n, rfl, hr, fun Dl hD =>
    el_lcP (ds := List.range n) (pure_rngC 0 c n) (fun d => .int ((d : Int) * c)) b g (List.length_range) (fun i d hd => by
        rw [List.getElem?_range] at hd
        · injection hd with hd
          subst hd
          rw [Int.zero_add]
        · have := (List.getElem?_eq_some_iff.mp hd).1
          rw [List.length_range] at this
          exact this) (by rw [List.length_range]; omega) hw hD
      (fun d hm => (ht d (by rw [List.mem_range] at hm; omega)).mono (e.trans e1)) (fun d hm hb => (he d (by rw [List.mem_range] at hm; omega) hb).mono (e.trans e1))
      fun H2 e2 h2 => q Dl H2 (fresh_back e1 hD) (e1.trans e2) h2⟩
/-- sep.join(list of texts) -/
theorem ev_join {sep : List Nat} {ys : List (List Nat)} (ho : Ev ta σ H (.str (SX.S sep))) (h : EvLs K te σ H (ys.map fun w => V.str (SX.S w))) (hz : (ys.map (·.length)).sum + ys.length * sep.length ≤ 16777216) :
    Ev (tM1 (fun x xs H Q => ∃ a p, ∃ ys : List Str, x = .str a ∧ xs = [.ref p] ∧ (SqL K H p (ys.map V.str) ∨ SqT K H p (ys.map V.str)) ∧ (ys.map (·.length)).sum + ys.length * a.length ≤ 16777216 ∧ Q (.str (Txt.join a ys)) H) ta te) σ H (.str (SX.S (TL.joinL sep ys))) := fun H1 e Q q =>
  ho H1 e _ fun H2 e2 => ⟨⟨_, rfl⟩, h H2 (e.trans e2) _ fun p H3 e3 hp => ⟨SX.S sep, p, ys.map SX.S, rfl, rfl, .inl (by rw [List.map_map]; exact hp), by rw [SX.lens, List.length_map, SX.S_len]; exact hz, by rw [SX.join_S]; exact q H3 (e2.trans e3)⟩⟩
/-- t.split(sep): a new list -/
theorem el_split {sep w : List Nat} (ho : Ev ta σ H (.str (SX.S w))) (h : Ev te σ H (.str (SX.S sep))) (hs : sep ≠ []) (hk : sep.all (· < 256) = true) (hw : w.length ≤ 1000000) :
    EvL (tM1 (fun x xs H Q => ∃ a b, x = .str a ∧ xs = [.str b] ∧ (b.length == 0) = false ∧ a.length + 2 ≤ sizeLine ∧ rNewStrs (Txt.split a b) H Q) ta te) σ H ((TL.spl sep 0 [] w).map fun w => V.str (SX.S w)) := fun H1 e Q q =>
  ho H1 e _ fun H2 e2 => ⟨⟨_, rfl⟩, h H2 (e.trans e2) _ fun H3 e3 => ⟨SX.S w, SX.S sep, rfl, rfl, by
    rw [SX.S_len]
    cases sep with
    | nil => exact absurd rfl hs
    | cons c r => rfl, by
    rw [SX.S_len]
    have : (1000002 : Nat) ≤ sizeLine := by decide
    omega, fun p hp => by
    rw [SX.split_S hs hk, List.map_map]
    exact q p _ (fresh_back (e2.trans e3) hp) ((e2.trans e3).trans (Ex.new hp)) upd_same⟩⟩
end
end MB
namespace MB
open PySem PySem.Spec PyProof.Rows L2 Evl
theorem pe_gc {X : Cx} {x : Str} {v : V} {pos : Pos} (hg : Gl X x) (h : ∃ u, X.mg x = some u ∧ RelV v u) (hd : (x == ("__debug__" : Str)) = false := by decide) : PE X (.Name x pos) (tC v) := by
  obtain ⟨u, hm, r⟩ := h
  exact pe_glob hg hm r (hd := hd)
end MB
namespace MB
open PySem PySem.Spec PyProof.Rows L2 Evl
theorem el_is {te : TE} {σ : L2.St} {H : Hp} {xs ys : List V} (h : EvL te σ H xs) (e : xs = ys) : EvL te σ H ys := e ▸ h
/-- no test in the comprehension -/
theorem el_all {te : TE} {σ : L2.St} {H : Hp} {α : Type} {ds : List α} {g : α → V} (h : EvL te σ H ((ds.filter fun _ => true).map g)) : EvL te σ H (ds.map g) := el_is h (by congr 1; exact List.filter_eq_self.mpr fun _ _ => rfl)
theorem hu64 {A : Around} {k : Nat} (h : Room k A) : A.units + 64 < cLine := by
  have := h.units
  omega
end MB
namespace MB
open PySem PySem.Spec PyProof.Rows L2 Evl
section
variable {X : Cx} {K : PySem.W.Frag} (h : X.K = K)
include h
theorem op_addK : OpR X (binaryOp .Add) (rAddA K) := h ▸ op_addA
theorem op_mulK : OpR X (binaryOp .Mult) (rMulB K) := h ▸ op_mulA
theorem op_inK : OpR X (compareOp .In) (rInA K) := h ▸ op_inA
theorem op_niK : OpR X (compareOp .NotIn) (rNotInA K) := h ▸ op_notInA
theorem op_eqK (hu : X.A.units + 64 < cLine) : OpR X (compareOp .Eq) (rEqA K) := h ▸ op_eqA hu
theorem op_neK (hu : X.A.units + 64 < cLine) : OpR X (compareOp .NotEq) (rNeA K) := h ▸ op_neA hu
theorem ix_K : IxR X (rIx K) := h ▸ ix_seq
theorem sl_K : SlR X (rSl K) := h ▸ sl_any
theorem call_lenK : CallR X (.builtin "len") (rLenA K) := h ▸ call_lenA
theorem call_isiK : CallR X (.builtin "isinstance") (rIsiA K) := h ▸ call_isiA
theorem cr_allK (hc : X.calm = true) : CallR X (.builtin "all") (rAll K) := h ▸ cr_all hc
theorem pe_joinK {o e : Expr} {to te : TE} {apos pos : Pos} (ho : PE X o to) (he : PE X e te) (hs : starEach [e] X.env = [(false, eval e X.env)] := by rfl) (hbase : attributeBase o "join" X.env (eval o X.env) = eval o X.env := by rfl) (hline : (apos.endLine == pos.line) = true := by rfl) :
    PE X (.Call (.Attribute o "join" apos) [e] [] pos) (tM1 (fun x xs H Q => ∃ a p, ∃ ys : List Str, x = .str a ∧ xs = [.ref p] ∧ (SqL K H p (ys.map V.str) ∨ SqT K H p (ys.map V.str)) ∧
      (ys.map (·.length)).sum + ys.length * a.length ≤ 16777216 ∧ Q (.str (Txt.join a ys)) H) to te) := h ▸ pe_join ho he hs hbase hline
end
end MB
set_option maxRecDepth 100000
namespace MB
open PySem PySem.Spec PyProof.Rows L2 Evl
theorem q_ifN {σ : L2.St} {H : Hp} {D : Ends} {t : TT} {tu tz : TS} {b : Bool} (h : EvT t σ H b) (h1 : b = true → ∀ H1, Ex H H1 → tu { D with nx := tz D } σ H1) (h2 : b = false → ∀ H1, Ex H H1 → tz D σ H1) : tSeq (tIfS t tu tNext) tz D σ H :=
  s_if (D := { D with nx := tz D }) h h1 fun e H1 e1 => h2 e H1 e1
theorem q_if2 {σ : L2.St} {H : Hp} {D : Ends} {t : TT} {tu tw tz : TS} {b : Bool} (h : EvT t σ H b) (h1 : b = true → ∀ H1, Ex H H1 → tu { D with nx := tz D } σ H1) (h2 : b = false → ∀ H1, Ex H H1 → tw { D with nx := tz D } σ H1) : tSeq (tIfS t tu tw) tz D σ H :=
  s_if (D := { D with nx := tz D }) h h1 h2
theorem s_ifN {σ : L2.St} {H : Hp} {D : Ends} {t : TT} {tu : TS} {b : Bool} (h : EvT t σ H b) (h1 : b = true → ∀ H1, Ex H H1 → tu D σ H1) (h2 : b = false → ∀ H1, Ex H H1 → D.nx σ H1) : tIfS t tu tNext D σ H := s_if h h1 h2
theorem cut_nat {α : Type} (f : α → V) (l : List α) (a b : Nat) : cutV (l.map f) (some (a : Int)) (some (b : Int)) = ((l.drop a).take (b - a)).map f := by
  unfold cutV
  rw [HT.sIx_nat, HT.sIx_nat, List.length_map, ← List.map_drop, ← List.map_take]
  congr 1
  by_cases ha : a ≤ l.length
  · rw [Nat.min_eq_left ha]
    by_cases hb : b ≤ l.length
    · rw [Nat.min_eq_left hb]
    · rw [List.take_of_length_le (by rw [List.length_drop]; omega), List.take_of_length_le (by rw [List.length_drop]; omega)]
  · rw [List.drop_eq_nil_of_le (by omega), List.drop_eq_nil_of_le (by omega), List.take_nil, List.take_nil]
theorem joinL_len (sep : List Nat) : ∀ l : List (List Nat), (TL.joinL sep l).length ≤ (l.map (·.length)).sum + l.length * sep.length
  | [] => Nat.zero_le _
  | [p] => by simp [TL.joinL]
  | p :: q :: r => by
    have h := joinL_len sep (q :: r)
    show (p ++ (sep ++ TL.joinL sep (q :: r))).length ≤ _
    rw [List.length_append, List.length_append, List.map_cons, List.sum_cons, List.length_cons, Nat.add_mul]
    omega
theorem sum_le {b : Nat} : ∀ {l : List (List Nat)}, (∀ x ∈ l, x.length ≤ b) → (l.map (·.length)).sum ≤ l.length * b
  | [], _ => Nat.zero_le _
  | x :: l, h => by
    have h1 := sum_le fun y hy => h y (List.mem_cons_of_mem _ hy)
    have h2 := h x (List.mem_cons_self ..)
    rw [List.map_cons, List.sum_cons, List.length_cons, Nat.add_mul]
    omega
theorem joinL_le {sep : List Nat} {l : List (List Nat)} {b c : Nat} (h : ∀ x ∈ l, x.length ≤ b) (hs : sep.length ≤ c) : (TL.joinL sep l).length ≤ l.length * (b + c) := by
  have h1 := joinL_len sep l
  have h2 := sum_le h
  have h3 : l.length * sep.length ≤ l.length * c := Nat.mul_le_mul_left _ hs
  rw [Nat.mul_add]
  omega
theorem spl_length (S : List Nat) : ∀ (l : List Nat) (k : Nat) (acc : List Nat), (TL.spl S k acc l).length ≤ l.length + 1
  | [], k, acc => by rw [TL.spl_nil]; exact Nat.le_refl _
  | c :: r, 0, acc => by
    cases h : TL.pre S (c :: r) with
    | true =>
      rw [TL.spl_hit h, List.length_cons, List.length_cons]
      exact Nat.succ_le_succ (spl_length S r _ _)
    | false =>
      rw [TL.spl_miss h, List.length_cons]
      exact Nat.le_succ_of_le (spl_length S r _ _)
  | c :: r, k + 1, acc => by
    show (TL.spl S k acc r).length ≤ _
    rw [List.length_cons]
    exact Nat.le_succ_of_le (spl_length S r _ _)
theorem spl_ne (S : List Nat) : ∀ (l : List Nat) (k : Nat) (acc : List Nat), TL.spl S k acc l ≠ []
  | [], k, acc => by rw [TL.spl_nil]; exact List.cons_ne_nil _ _
  | c :: r, 0, acc => by
    cases h : TL.pre S (c :: r) with
    | true => rw [TL.spl_hit h]; exact List.cons_ne_nil _ _
    | false => rw [TL.spl_miss h]; exact spl_ne S r _ _
  | c :: r, k + 1, acc => spl_ne S r k acc
theorem spl_mem (S : List Nat) : ∀ (l : List Nat) (k : Nat) (acc p : List Nat), p ∈ TL.spl S k acc l → p.length ≤ acc.length + l.length
  | [], k, acc, p, h => by
    rw [TL.spl_nil, List.mem_singleton] at h
    subst h
    omega
  | c :: r, 0, acc, p, h => by
    cases hp : TL.pre S (c :: r) with
    | true =>
      rw [TL.spl_hit hp, List.mem_cons] at h
      rw [List.length_cons]
      rcases h with rfl | h
      · omega
      · have := spl_mem S r _ _ _ h
        rw [List.length_nil] at this
        omega
    | false =>
      rw [TL.spl_miss hp] at h
      have := spl_mem S r _ _ _ h
      rw [List.length_append] at this
      rw [List.length_cons]
      simp at this
      omega
  | c :: r, k + 1, acc, p, h => by
    have := spl_mem S r k acc p h
    rw [List.length_cons]
    omega
theorem drop_last {α : Type} {L : List α} (h : L ≠ []) : L.drop (L.length - 1) = [L.getLast h] := by
  have hp := List.length_pos_iff.mpr h
  rw [List.drop_eq_getElem_cons (by omega), List.drop_eq_nil_of_le (by omega), List.getLast_eq_getElem]
theorem for_enumL {K : PySem.W.Frag} {a : Addr} {xs : List V} {g : TG} {tb : TS} {D : Ends} {σ : L2.St} {H : Hp} (Pv : Nat → L2.St → Hp → Prop) (h0 : Pv 0 σ H) (hl : ∀ i σ H, i ≤ xs.length → Pv i σ H → SqL K H a xs)
    (hs : ∀ i x σ H T H', xs[i]? = some x → Pv i σ H → H T = none → Ex H H' → H' T = some (.tup [.int (i : Nat), x]) → (∀ b, b ≠ T → H' b = H b) → g (.ref T) σ H' fun σ2 H2 => tb { D with nx := Pv (i + 1), ct := Pv (i + 1), bk := D.nx } σ2 H2)
    (hd : ∀ σ H, Pv xs.length σ H → D.nx σ H) :
    ∃ W : Nat → Nat → L2.St → Hp → Prop, (∃ m, W 0 m σ H) ∧ ∀ i m σ H, W i m σ H →
      ((Ite K a).stop i H ∧ D.nx σ H) ∨ ((Ite K a).go i H ∧ ∃ N : L2.St → Hp → Prop, (∀ σ' H', N σ' H' → ∃ m', m' < m ∧ W (i + 1) m' σ' H') ∧ ∀ x H', (Ite K a).yld i H x H' → g x σ H' fun σ2 H2 => tb { D with nx := N, ct := N, bk := D.nx } σ2 H2) := by
  refine ⟨fun i m σ H => m = xs.length - i ∧ i ≤ xs.length ∧ Pv i σ H, ⟨xs.length, by simp, Nat.zero_le _, h0⟩, ?_⟩
  rintro i m σ H ⟨rfl, hi, p⟩
  have q := hl i σ H hi p
  by_cases hlt : i < xs.length
  · refine .inr ⟨⟨xs, xs[i], q, List.getElem?_eq_getElem hlt⟩, Pv (i + 1), fun σ' H' p' => ⟨xs.length - (i + 1), by omega, rfl, by omega, p'⟩, ?_⟩
    rintro v H' ⟨T, x, rfl, hT, rfl, hy⟩
    exact hs i x σ H T _ (hy xs q) p hT (Ex.new hT) upd_same fun b hb => upd_ne hb
  · have e : i = xs.length := by omega
    subst e
    exact .inl ⟨⟨xs, q, Nat.le_refl _⟩, hd σ H p⟩
end MB
set_option maxRecDepth 100000
set_option maxHeartbeats 1000000
namespace MB
open PySem PySem.Spec PyProof.Rows L2 Evl
theorem t_yes {σ : L2.St} {H : Hp} {F G : Hp → Prop} (h : F H) : tYes σ H fun b H3 => if b = true then F H3 else G H3 := by
  show if true = true then F H else G H
  rw [if_pos rfl]
  exact h
/-! ### the pen of a law: its dict, its script -/
theorem k_la : ¬ ((Sum.inr ("cells" : Str) : Key) = Sum.inr ("at" : Str)) := by decide +kernel
theorem k_ll : ¬ ((Sum.inr ("cells" : Str) : Key) = Sum.inr ("left" : Str)) := by decide +kernel
theorem k_al : ¬ ((Sum.inr ("at" : Str) : Key) = Sum.inr ("left" : Str)) := by decide +kernel
theorem k_lA : ¬ ((Sum.inr ("left" : Str) : Key) = Sum.inr ("at" : Str)) := by decide +kernel
def penL (lc : Addr) (a l : Int) : List (Key × V) := [(.inr "cells", .ref lc), (.inr "at", .int a), (.inr "left", .int l)]
theorem pen_cells (lc : Addr) (a l : Int) : valV (penL lc a l) (.inr "cells") = some (.ref lc) := valV_pos rfl
theorem pen_at (lc : Addr) (a l : Int) : valV (penL lc a l) (.inr "at") = some (.int a) := by
  unfold penL
  rw [valV_neg k_la, valV_pos rfl]
theorem pen_left (lc : Addr) (a l : Int) : valV (penL lc a l) (.inr "left") = some (.int l) := by
  unfold penL
  rw [valV_neg k_ll, valV_neg k_al, valV_pos rfl]
theorem put_at (lc : Addr) (a l a' : Int) : putK (penL lc a l) (.inr "at") (.int a') = penL lc a' l := by
  unfold putK penL
  rw [if_pos (by simp only [List.any_cons, decide_true, Bool.or_true, Bool.true_or])]
  simp only [List.map_cons, List.map_nil, if_neg k_la, if_true, if_neg k_lA]
theorem put_left (lc : Addr) (a l l' : Int) : putK (penL lc a l) (.inr "left") (.int l') = penL lc a l' := by
  unfold putK penL
  rw [if_pos (by simp only [List.any_cons, decide_true, Bool.or_true, Bool.true_or])]
  simp only [List.map_cons, List.map_nil, if_neg k_ll, if_neg k_al, if_true]
/-- the pen at p, behind n drawn cells -/
def PenC (H : Hp) (p lc : Addr) (cs : List Int) (a l : Int) : Prop := H p = some (.dK (penL lc a l)) ∧ H lc = some (.lst (cs.map V.int)) ∧ cs.length ≤ 63 ∧ 0 ≤ a ∧ 0 ≤ l
def Pen (H : Hp) (p lc : Addr) (n : Nat) : Prop := ∃ cs a l, PenC H p lc cs a l ∧ a ≤ n
/-- all but p is as it was -/
def But (p : Addr) (H H' : Hp) : Prop := ∀ b o, b ≠ p → H b = some o → H' b = some o
theorem But.refl (p : Addr) (H : Hp) : But p H H := fun _ _ _ h => h
theorem But.trans {p : Addr} {H H1 H2 : Hp} (a : But p H H1) (b : But p H1 H2) : But p H H2 := fun x o n h => b x o n (a x o n h)
theorem But.of {p : Addr} {H H' : Hp} (e : Ex H H') : But p H H' := fun b o _ h => e b o h
theorem Pen.ex {H H' : Hp} {p lc : Addr} {n : Nat} (e : Ex H H') (h : Pen H p lc n) : Pen H' p lc n := by
  obtain ⟨cs, a, l, ⟨h1, h2, h3⟩, h4⟩ := h
  exact ⟨cs, a, l, ⟨e _ _ h1, e _ _ h2, h3⟩, h4⟩
theorem Pen.le {H : Hp} {p lc : Addr} {n m : Nat} (h : Pen H p lc n) (hm : n ≤ m) : Pen H p lc m := by
  obtain ⟨cs, a, l, h1, h4⟩ := h
  exact ⟨cs, a, l, h1, by omega⟩
theorem Pen.dict {H : Hp} {p lc : Addr} {n : Nat} (h : Pen H p lc n) : ∃ kvs, H p = some (.dK kvs) := by
  obtain ⟨cs, a, l, ⟨h1, _⟩, _⟩ := h
  exact ⟨_, h1⟩
/-- p's dict is another thing than a list -/
theorem Pen.ne {H : Hp} {p lc b : Addr} {n : Nat} {xs : List V} (h : Pen H p lc n) (hb : H b = some (.lst xs)) : b ≠ p := fun z => by
  obtain ⟨kvs, hp⟩ := h.dict
  rw [z, hp] at hb
  cases hb
theorem Pen.neT {H : Hp} {p lc b : Addr} {n : Nat} {xs : List V} (h : Pen H p lc n) (hb : H b = some (.tup xs)) : b ≠ p := fun z => by
  obtain ⟨kvs, hp⟩ := h.dict
  rw [z, hp] at hb
  cases hb
theorem Pen.upd {H : Hp} {p lc b : Addr} {n : Nat} {o : HO} (h : Pen H p lc n) (h1 : b ≠ p) (h2 : b ≠ lc) : Pen (upd H b o) p lc n := by
  obtain ⟨cs, a, l, ⟨g1, g2, g3⟩, g4⟩ := h
  exact ⟨cs, a, l, ⟨by rw [upd_ne (Ne.symm h1)]; exact g1, by rw [upd_ne (Ne.symm h2)]; exact g2, g3⟩, g4⟩
theorem Pen.some {H : Hp} {p lc : Addr} {n : Nat} (h : Pen H p lc n) : H p ≠ none ∧ H lc ≠ none := by
  obtain ⟨cs, a, l, ⟨g1, g2, g3⟩, g4⟩ := h
  exact ⟨by rw [g1]; exact (fun z => nomatch z), by rw [g2]; exact (fun z => nomatch z)⟩
/-- a place that was free when the pen was there is neither of its two -/
theorem Pen.off {H : Hp} {p lc b : Addr} {n : Nat} (h : Pen H p lc n) (hb : H b = none) : b ≠ p ∧ b ≠ lc := ⟨fun z => h.some.1 (z ▸ hb), fun z => h.some.2 (z ▸ hb)⟩
theorem But.fresh {p lc q : Addr} {H H' : Hp} {n : Nat} (e : But p H H') (hp : Pen H' p lc n) (h : H' q = none) : H q = none := by
  cases hq : H q with
  | none => rfl
  | some o =>
    have := e q o (hp.off h).1 hq
    rw [h] at this
    cases this
theorem But.mut {p b : Addr} {H H' : Hp} {o : HO} (e : But p H H') (h : H b = none) : But p H (L2.upd H' b o) := fun x u hx hu => by
  rw [upd_ne (ne_of_none hu h)]
  exact e x u hx hu
theorem But.new {p b : Addr} {H H' : Hp} {o : HO} (e : But p H H') (hb : H b = none) : But p H (upd H' b o) := fun x u hx h => by
  rw [upd_ne (ne_of_none h hb)]
  exact e x u hx h
section
variable {X : Cx} {K : PySem.W.Frag} {σ : L2.St} {H H' : Hp} {ta tb te td tv : TE} {x y z v : V} {xs : List V} {D : Ends} {tz : TS}
theorem ev_dget {p : Addr} {kvs : List (Key × V)} (k : Key) (h : Ev td σ H (.ref p)) (hp : H p = some (.dK kvs)) (hk : valV kvs k = some v) : Ev (tDGet td (tC (kV k))) σ H v := fun H1 e Q q =>
  h H1 e _ fun H2 e2 => ⟨p, v, rfl, .inl ⟨kvs, k, .inl ((e.trans e2) _ _ hp), rfl, hk.symm⟩, q H2 e2⟩
theorem q_dput {p : Addr} {kvs : List (Key × V)} (k : Key) (hv : Ev tv σ H v) (ho : Ev td σ H (.ref p)) (hp : H p = some (.dK kvs)) (hl : kvs.length ≤ 1000) (q : ∀ H1, Ex H H1 → tz D σ (upd H1 p (.dK (putK kvs k v)))) : tSeq (sDPut td (tC (kV k)) tv) tz D σ H :=
  hv H (Ex.refl H) _ fun H1 e1 => ho H1 e1 _ fun H2 e2 => ⟨p, _, rfl, .inl ⟨kvs, k, (e1.trans e2) _ _ hp, rfl, Nat.lt_of_le_of_lt hl (by decide), rfl⟩, q H2 (e1.trans e2)⟩
theorem rc_abs {i : Int} : RC (fun xs H Q => ∃ i, xs = [.int i] ∧ Q (.int (if i < 0 then -i else i)) H) [.int i] H (.int (if i < 0 then -i else i)) := fun H1 _ _ q => ⟨i, rfl, q H1 (Ex.refl H1)⟩
theorem rc_intB {b : Bool} : RC rIntA [.bl b] H (.int (if b then 1 else 0)) := fun H1 _ _ q => .inl (.inr ⟨b, rfl, q H1 (Ex.refl H1)⟩)
/-- a list of ints against the empty list -/
theorem ints_ne_nil (ns : List Int) : PyData.eqv (.list (ns.map PyData.int)) (.list []) = decide (ns = []) := by
  cases ns with
  | nil => rfl
  | cons n r => rfl
end
/-! the promises -/
def spPen (K : PySem.W.Frag) : Sp := fun vs H Q _ => ∃ (a : Addr) (ns : List Int), vs = [.ref a] ∧ SqL K H a (ns.map V.int) ∧ ∀ p lc H', Ex H H' → H p = none → Pen H' p lc 0 → Q (.ref p) H'
def spDraw : Sp := fun vs H Q _ => ∃ (p lc : Addr) (m : Int) (n : Nat), vs = [.ref p, .int m] ∧ 0 < m ∧ m < 1000000 ∧ Pen H p lc n ∧ n ≤ 1000000 ∧ ∀ (r : Int) H', 0 ≤ r → r < m → Pen H' p lc (n + 1) → But p H H' → Q (.int r) H'
def spNumbers : Sp := fun vs H Q _ => ∃ (p lc : Addr) (many : Nat) (lim : Int) (n : Nat), vs = [.ref p, .int (many : Int), .int lim] ∧ many ≤ 10000 ∧ 2 ≤ lim ∧ lim < 1000000 ∧ Pen H p lc n ∧ n + 3 * many ≤ 1000000 ∧
  ∀ (ns : List Nat) q H', ns.length = many → (∀ x ∈ ns, (x : Int) < lim) → H q = none → H' q = some (.tup (ns.map fun (k : Nat) => V.int (k : Int))) → Pen H' p lc (n + 3 * many) → But p H H' → Q (.ref q) H'
theorem ev_draw {ta tb : TE} {σ : L2.St} {H : Hp} {E : XK} {p lc : Addr} {m : Int} {n : Nat} {Q : VK} (h0 : Ev ta σ H (.ref p)) (h1 : Ev tb σ H (.int m)) (hm0 : 0 < m) (hm1 : m < 1000000) (hp : Pen H p lc n) (hn : n ≤ 1000000)
    (q : ∀ (r : Int) H', 0 ≤ r → r < m → Pen H' p lc (n + 1) → But p H H' → Q (.int r) H') : tCall spDraw [] E (tCons ta (tCons tb tNil)) σ H Q :=
  (ea_cons h0 (ea_cons h1 ea_nil) : EvA _ σ H _) H (Ex.refl H) _ fun H1 e1 => ⟨p, lc, m, n, rfl, hm0, hm1, hp.ex e1, hn, fun r H' a b c d => q r H' a b c ((But.of e1).trans d)⟩
theorem q_draw {ta tb : TE} {σ : L2.St} {H : Hp} {E : XK} {D : Ends} {tz : TS} {i : Nat} {p lc : Addr} {m : Int} {n : Nat} (h0 : Ev ta σ H (.ref p)) (h1 : Ev tb σ H (.int m)) (hm0 : 0 < m) (hm1 : m < 1000000) (hp : Pen H p lc n) (hn : n ≤ 1000000)
    (q : ∀ (r : Int) H', 0 ≤ r → r < m → Pen H' p lc (n + 1) → But p H H' → tz D (σ.set i (some (.int r))) H') : tSeq (tAsg (tCall spDraw [] E (tCons ta (tCons tb tNil))) (gName i)) tz D σ H :=
  ev_draw h0 h1 hm0 hm1 hp hn fun r H' a b c d => q r H' a b c d
end MB
set_option maxRecDepth 100000
set_option maxHeartbeats 1000000
namespace MB
open PySem PySem.Spec PyProof.Rows L2 Evl
section
variable {X : Cx} {o e : Expr} {to te : TE}
/-- e.split(sep), the receiver wants a token -/
theorem pet_m1 {id : String} {name : Str} {apos pos : Pos} {r : V → List V → Hp → VK → Prop} (slot : Slot "str" name id) (ty : typeOf (.builtin id) = pure (.type "method_descriptor")) (rule : MtR X id r) (ho : PET X o to) (he : PE X e te)
    (hs : starEach [e] X.env = [(false, eval e X.env)] := by rfl) (hbase : attributeBase o name X.env (eval o X.env) = eval o X.env := by rfl) (hline : (apos.endLine == pos.line) = true := by rfl) :
    PET X (.Call (.Attribute o name apos) [e] [] pos) (tM1 r to te) := by
  intro pins s σ H Q h0 I h
  refine PySem.Call_method1 hbase hs hline (thn (ho pins s σ H _ h0 I h) fun v s1 ⟨x, H1, I1, r1, q1⟩ => ?_)
  obtain ⟨⟨a, rfl⟩, q1⟩ := q1
  obtain ⟨t, rfl⟩ := _root_.id r1
  refine ⟨"str", _, PySem.F.plainAttrs_str, slot, ty, typeIs_str _ _ _, (fun _ e => nomatch e), Calls.callWith_builtin rfl (Calls.evalArgs_plain (Calls.spliced_cons ?_))⟩
  exact thn (he.run pins s1 σ H1 _ I1 q1) fun u s2 ⟨y, H2, I2, r2, q2⟩ => Calls.spliced_nil (rule pins s2 σ H2 _ [y] _ [u] Q I2 r1 (.cons r2 .nil) q2)
theorem pst_asg {tg e : Expr} {te : TE} {g : TG} {pos : Pos} (he : PET X e te) (hg : PG X tg g) (hs : swapsWithSole [tg] e pos.line X.env = pure false := by rfl) (hw : swappedStores [tg] e X.env = pure none := by rfl)
    (h1 : (assignEach [tg] X.env).map (·.2) = [assign tg X.env] := by rfl) : PST X (.Assign [tg] e pos) (tAsg te g) := by
  intro pins s σ H D h0 I h
  refine wpAny_Assign_stores (thn (he pins s σ H _ h0 I h) fun v s1 ⟨x, H1, I1, r1, q1⟩ => ?_) hs hw
  rw [h1]
  exact thn (hg.run pins s1 σ H1 x v _ I1 r1 q1) fun _ s2 q => q
theorem pst_set {i : Nat} {x : Str} {pos' pos : Pos} (hN : X.N.Nodup) (hi : X.N[i]? = some x) (hx : Loc X.env.scope x) (he : PET X e te) (hs : swapsWith e (some (.Name x pos')) pos.line X.env = pure false := by rfl) (hf : X.fn x = true ∨ X.env.scope.names.lookup x = some .local := by first | exact .inl rfl | exact .inr rfl | assumption) :
    PST X (.Assign [.Name x pos'] e pos) (tAsg te (gName i)) := by
  intro pins s σ H D h0 I h
  refine wpAny_Assign_Name (thn (he pins s σ H _ h0 I h) fun v s1 ⟨y, H1, I1, r1, q1⟩ => ?_) hs
  exact store_ok I1 hN hi hx r1 (fun s2 I2 => ⟨_, H1, I2, q1⟩) hf
end
/-- a def with at least one parameter and no cell: a token is out when its body begins -/
theorem fun_okT {P : Program} {w : World} {K : PySem.W.Frag} {mg : Str → Option Value} {base : Heap} {x qual : Str} {st : Stmt} {f : Addr} {fd : FuncData} {N ps : List Str} {k : Nat} {sp : Sp} (F : Fun K x qual st f fd) (S : FnScope N ps (defScope st))
    (hnc : ∀ y ∈ (defScope st).names, y.2 ≠ .cell) (hps : 1 ≤ ps.length) (len : ∀ vs H Q E, sp vs H Q E → vs.length = ps.length)
    (hbody : ∀ (cdv : Value) (A : Around) (outer : List Env) (s : Shared) (H : Hp) (vs : List V) (Q : VK) (E : XK), Room k (A.deeper (envOfC qual (defScope st) s.heap.objs.size f cdv)) → sp vs H Q E →
      ∃ t, PSsT (cxOf CX0 P w K mg base N qual (defScope st) f cdv A outer s H E) (defBody st) t ∧ t { nx := fun _ H' => Q .non H', rt := Q } (start N vs) H) : FnOk P w K mg base CX0 (k + 1) f fd ps sp := by
  obtain ⟨oc, od, kV, doc, pm, an, cdv, ct, osl, rfl, lk, hcd⟩ := F.ex
  exact fn_ofT lk hcd S hnc hps len fun A outer s H vs Q E hr hsp => hbody cdv A outer s H vs Q E hr hsp
/-! ### texts that only their length is known of -/
theorem replace_le {x y z : Str} (h : z.length ≤ y.length) : (Txt.replace x y z).length ≤ x.length := by
  unfold Txt.replace
  split
  · exact Nat.le_refl _
  · have hy : (Builtin.Str.glued y (Builtin.Str.partsBetween x (Builtin.Str.occurrences x y 0 x.length (x.length + 1)) y.length)).length = x.length := by rw [StrLaws.glued_between_self]
    rw [size_glued, length_partsBetween, Nat.add_sub_cancel] at hy
    rw [size_glued, length_partsBetween, Nat.add_sub_cancel]
    have h2 : (Builtin.Str.occurrences x y 0 x.length (x.length + 1)).length * z.length ≤ (Builtin.Str.occurrences x y 0 x.length (x.length + 1)).length * y.length := Nat.mul_le_mul_left _ h
    omega
/-- the signs of the words and one more for each -/
def mu (ws : List (List Nat)) : Nat := (ws.map fun w => w.length + 1).sum
theorem mu_nil : mu [] = 0 := rfl
theorem mu_cons (w : List Nat) (ws : List (List Nat)) : mu (w :: ws) = w.length + 1 + mu ws := rfl
theorem mu_append : ∀ a b : List (List Nat), mu (a ++ b) = mu a + mu b
  | [], b => by rw [List.nil_append, mu_nil, Nat.zero_add]
  | w :: a, b => by rw [List.cons_append, mu_cons, mu_cons, mu_append a b]; omega
theorem mu_take_drop (l : List (List Nat)) (i : Nat) : mu (l.take i) + mu (l.drop i) = mu l := by rw [← mu_append, List.take_append_drop]
theorem mu_mem : ∀ {ws : List (List Nat)} {w : List Nat}, w ∈ ws → w.length + 1 ≤ mu ws
  | x :: ws, w, h => by
    rw [mu_cons]
    rcases List.mem_cons.mp h with rfl | h
    · omega
    · have := mu_mem h
      omega
theorem mu_len : ∀ ws : List (List Nat), ws.length ≤ mu ws
  | [] => Nat.le_refl _
  | w :: ws => by rw [mu_cons, List.length_cons]; have := mu_len ws; omega
theorem mu_drop1 {l : List (List Nat)} {i : Nat} (h : i < l.length) : mu (l.drop (i + 1)) ≤ mu (l.drop i) := by
  rw [List.drop_eq_getElem_cons h, mu_cons]
  omega
theorem mu_take1 {l : List (List Nat)} {i : Nat} (h : i < l.length) : mu (l.take (i + 1)) = mu (l.take i) + (l[i].length + 1) := by
  rw [List.take_succ, List.getElem?_eq_getElem h, mu_append]
  rfl
theorem mu_join {c : Nat} (ws : List (List Nat)) : (TL.joinL [c] ws).length ≤ mu ws := by
  have := joinL_len [c] ws
  have e : ∀ l : List (List Nat), (l.map (·.length)).sum + l.length * 1 = mu l := by
    intro l
    induction l with
    | nil => rfl
    | cons w l ih => rw [mu_cons, List.map_cons, List.sum_cons, List.length_cons]; omega
  rw [← e]
  exact this
theorem mu_sum (ws : List (List Nat)) : (ws.map (·.length)).sum + ws.length * 1 = mu ws := by
  induction ws with
  | nil => rfl
  | cons w l ih => rw [mu_cons, List.map_cons, List.sum_cons, List.length_cons]; omega
theorem mu_spl (c : Nat) : ∀ (l acc : List Nat), mu (TL.spl [c] 0 acc l) = acc.length + l.length + 1
  | [], acc => by rw [TL.spl_nil]; show acc.length + 1 + 0 = _; rw [List.length_nil]
  | d :: r, acc => by
    cases h : TL.pre [c] (d :: r) with
    | true =>
      rw [TL.spl_hit h, mu_cons, show ([c] : List Nat).length - 1 = 0 from rfl, mu_spl c r [], List.length_cons, List.length_nil]
      omega
    | false =>
      rw [TL.spl_miss h, mu_spl c r, List.length_append, List.length_singleton, List.length_cons]
      omega
section
variable {X : Cx} {K : PySem.W.Frag} {σ : L2.St} {H H' : Hp} {ta tb te : TE} {xs ys : List V}
/-- a list that may be written to -/
def EvP (te : TE) (σ : L2.St) (H : Hp) (xs : List V) : Prop := ∀ H1, Ex H H1 → ∀ Q : VK, (∀ p H2, Ex H1 H2 → H2 p = some (.lst xs) → Q (.ref p) H2) → te σ H1 Q
theorem ep_new (h : EvL te σ H xs) : EvP te σ H xs := fun H1 e Q q => h H1 e _ fun p H2 _ e2 hp => q p H2 e2 hp
theorem ep_val {p : Addr} (h : Ev te σ H (.ref p)) (hp : H p = some (.lst xs)) : EvP te σ H xs := fun H1 e Q q => h H1 e _ fun H2 e2 => q p H2 e2 ((e.trans e2) _ _ hp)
theorem els_p (h : EvP te σ H xs) : EvLs K te σ H xs := fun H1 e Q q => h H1 e _ fun p H2 e2 hp => q p H2 e2 (sq_of hp)
theorem el_cat (ha : EvP ta σ H xs) (hb : EvP tb σ H ys) (hz : xs.length + ys.length ≤ 8000000) : EvL (tOp (rAddA K) ta tb) σ H (xs ++ ys) := fun H1 e Q q =>
  ha H1 e _ fun p H2 e2 hp => hb H2 (e.trans e2) _ fun p' H3 e3 hp' => .inr (.inr (.inl ⟨p, p', xs, ys, rfl, rfl, e3 _ _ hp, hp', Nat.le_trans hz (by decide), fun r hr => q r _ (fresh_back (e2.trans e3) hr) ((e2.trans e3).trans (Ex.new hr)) upd_same⟩))
theorem cut_to {α : Type} (f : α → V) (l : List α) (b : Nat) : cutV (l.map f) none (some (b : Int)) = (l.take b).map f := by
  have := cut_nat f l 0 b
  rw [List.drop_zero] at this
  exact this
theorem cut_from {α : Type} (f : α → V) (l : List α) (a : Nat) : cutV (l.map f) (some (a : Int)) none = (l.drop a).map f := by
  have := cut_nat f l a l.length
  unfold cutV at this ⊢
  rw [HT.sIx_nat, HT.sIx_nat, List.length_map, Nat.min_self] at this
  rw [HT.sIx_nat, HT.sIx_none, List.length_map, this]
  rw [List.take_of_length_le (by rw [List.length_drop]; omega)]
theorem cutS_le (z : Str) (lo hi : Option Int) : (cutS z lo hi).length ≤ z.length := by
  unfold cutS
  show (Array.size _) ≤ _
  rw [List.size_toArray, List.length_take, List.length_drop]
  have : z.cps.toList.length = z.length := by simp [Str.length]
  omega
end
theorem s_retC {sp : Sp} {dvs vs : List V} {E : XK} {ta : TA} {D : Ends} {σ : L2.St} {H : Hp} (h : EvA ta σ H vs) (k : ∀ H1, Ex H H1 → sp (vs ++ dvs) H1 D.rt E) : tRet (tCall sp dvs E ta) D σ H := h H (Ex.refl H) _ k
theorem rc_lenStr {K : PySem.W.Frag} {H : Hp} {z : Str} (h : z.length ≤ 8000000) : RC (rLenA K) [.str z] H (.int (z.length : Int)) := fun H1 e _ q => .inr ⟨z, rfl, Nat.le_trans h (by decide), q H1 (Ex.refl H1)⟩
theorem atI_in {α : Type} {l : List α} {i : Int} (h0 : -(l.length : Int) ≤ i) (h1 : i < l.length) : ∃ x ∈ l, atI l i = some x := by
  unfold atI ixN
  by_cases hn : 0 ≤ i
  · rw [if_pos hn, if_pos (by first | omega | exact h1)]
    have hlt : i.toNat < l.length := by omega
    exact ⟨l[i.toNat], List.getElem_mem hlt, List.getElem?_eq_getElem hlt⟩
  · rw [if_neg hn, if_pos (by first | omega | exact h0)]
    have hlt : (i + (l.length : Int)).toNat < l.length := by omega
    exact ⟨l[(i + (l.length : Int)).toNat], List.getElem_mem hlt, List.getElem?_eq_getElem hlt⟩
theorem ev_slStr {K : PySem.W.Frag} {σ : L2.St} {H : Hp} {te : TE} {tl th : TO} {lo hi : Option Int} {w : Str} (h : Ev te σ H (.str w)) (h1 : EvO tl σ H lo) (h2 : EvO th σ H hi) (hw : w.length ≤ 8000000) : Ev (tSl (rSl K) te tl th) σ H (.str (cutS w lo hi)) := fun H1 e Q q =>
  h H1 e _ fun H2 e2 => h1 H2 (e.trans e2) _ fun H3 e3 => h2 H3 ((e.trans e2).trans e3) _ fun H4 e4 => .inr (.inr ⟨w, rfl, Nat.le_trans hw (by decide), q H4 ((e2.trans e3).trans e4)⟩)
theorem rv_addStr {K : PySem.W.Frag} {H : Hp} {a b : Str} (h : a.length + b.length ≤ 8000000) : RV (rAddA K) (.str a) (.str b) H (.str (a ++ b)) := fun H1 _ _ q => .inr (.inl ⟨a, b, rfl, rfl, Nat.le_trans h (by decide), q H1 (Ex.refl H1)⟩)
theorem rv_mulStr {K : PySem.W.Frag} {H : Hp} {a : Str} {n : Int} (h0 : 0 ≤ n) (h1 : n ≤ 1000) (h : a.length * n.toNat ≤ 8000000) : RV (rMulB K) (.str a) (.int n) H (.str (Txt.mul a n)) := fun H1 _ _ q => .inl ⟨a, n, rfl, rfl, h0, by omega, Nat.le_trans h (by decide), q H1 (Ex.refl H1)⟩
/-- one of four lists of words is drawn and joined -/
theorem join_pick {K : PySem.W.Frag} {σ : L2.St} {H : Hp} {E : XK} {j : Nat} {c : Nat} {p lc q : Addr} {n M : Nat} {as : List Addr} {Q : VK} (h0 : σ[0]? = some (some (.ref p))) (hj : σ[j]? = some (some (.ref q))) (hq : H q = some (.lst (as.map V.ref)))
    (hl : as.length = 4) (hw : ∀ a ∈ as, ∃ ws : List (List Nat), H a = some (.lst (ws.map fun w => V.str (SX.S w))) ∧ mu ws ≤ M) (hM : M ≤ 8000000) (hp : Pen H p lc n) (hn : n ≤ 1000000)
    (k : ∀ (ws : List (List Nat)) H', mu ws ≤ M → Pen H' p lc (n + 1) → But p H H' → Q (.str (SX.S (TL.joinL [c] ws))) H') :
    tM1 (fun x xs H Q => ∃ a p, ∃ ys : List Str, x = .str a ∧ xs = [.ref p] ∧ (SqL K H p (ys.map V.str) ∨ SqT K H p (ys.map V.str)) ∧ (ys.map (·.length)).sum + ys.length * a.length ≤ 16777216 ∧ Q (.str (Txt.join a ys)) H) (tC (.str (SX.S [c])))
      (tOp (rIx K) (tVar j) (tCall spDraw [] E (tCons (tVar 0) (tCons (tC (.int 4)) tNil)))) σ H Q := by
  refine ⟨⟨_, rfl⟩, _, hj, ev_draw (m := 4) (ev_var h0) ev_c (by decide) (by decide) hp hn fun r H1 r0 r1 hp1 hb1 => ?_⟩
  have hlen : (as.map V.ref).length = 4 := by rw [List.length_map, hl]
  obtain ⟨v, hv, hat⟩ := atI_in (l := as.map V.ref) (i := r) (by omega) (by omega)
  obtain ⟨a, ha, rfl⟩ := List.mem_map.mp hv
  obtain ⟨ws, hws, hm⟩ := hw a ha
  refine .inl ⟨q, _, r, _, rfl, rfl, sq_of (hb1 _ _ (hp.ne hq) hq), hat, ?_⟩
  refine ⟨SX.S [c], a, ws.map SX.S, rfl, rfl, .inl (sq_of (by rw [List.map_map]; exact hb1 _ _ (hp.ne hws) hws)), ?_, ?_⟩
  · rw [SX.lens, List.length_map, SX.S_len, List.length_singleton, mu_sum]
    omega
  · rw [SX.join_S]
    exact k ws H1 hm hp1 hb1
theorem mu_set (l : List (List Nat)) (i : Nat) (x : List Nat) : mu (l.set i x) ≤ mu l + (x.length + 1) := by
  by_cases h : i < l.length
  · rw [List.set_eq_take_append_cons_drop, if_pos h, mu_append, mu_cons]
    have h1 := mu_take_drop l i
    have h2 := mu_drop1 h
    omega
  · rw [List.set_eq_of_length_le (by omega)]
    omega
/-- a list against the empty list: its items do not matter -/
def rNeNil (K : PySem.W.Frag) : R2 := fun x y H Q => ∃ a b xs, x = .ref a ∧ y = .ref b ∧ SqL K H a xs ∧ SqL K H b [] ∧ Q (.bl (!xs.isEmpty)) H
theorem op_neNil {X : Cx} {K : PySem.W.Frag} (hK : X.K = K) (hu : X.A.units < cLine) : OpR X (compareOp .NotEq) (rNeNil K) := by
  intro pins s σ H x y v u Q I rx ry h
  subst hK
  obtain ⟨a, b, xs, rfl, rfl, ha, hb, q⟩ := h
  obtain rfl : v = Value.ref a := rx
  obtain rfl : u = Value.ref b := ry
  obtain ⟨i1, r1, p1, _⟩ := I.list ha
  obtain ⟨i2, r2, p2, _⟩ := I.list hb
  have z2 : i2 = [] := by cases r2; rfl
  subst z2
  show wpAny _ _ (richCompare .NotEq (.ref a) (.ref b)) _ _ _
  cases i1 with
  | nil =>
    have : xs = [] := by cases r1; rfl
    subst this
    have k := SeqAt.RcNeAt.lists (A := X.A) (e := fun _ => true) p1.isList p2.isList rfl hu (fun j h1 _ => absurd h1 (Nat.not_lt_zero _))
    exact k _ _ _ _ ⟨.bl _, H, I, rfl, q⟩
  | cons c r =>
    have : xs.isEmpty = false := by cases r1; rfl
    rw [this] at q
    have k := SeqAt.RcNeAt.lists_lengths (A := X.A) p1.isList p2.isList (by simp) hu
    exact k _ _ _ _ ⟨.bl _, H, I, rfl, q⟩
theorem ev_neNil {K : PySem.W.Frag} {σ : L2.St} {H : Hp} {ta tb : TE} {xs : List V} (ha : EvL ta σ H xs) (hb : EvL tb σ H []) : Ev (tOp (rNeNil K) ta tb) σ H (.bl (!xs.isEmpty)) := fun H1 e Q q =>
  ha H1 e _ fun a H2 _ e2 h2 => hb H2 (e.trans e2) _ fun b H3 _ e3 h3 => ⟨a, b, xs, rfl, rfl, sq_of (e3 _ _ h2), sq_of h3, q H3 (e2.trans e3)⟩
/-- a text bent: nothing but its length is told -/
def spBent (m : Nat) (f : Nat → Nat) : Sp := fun vs H Q _ => ∃ (p lc : Addr) (t : Str) (n : Nat) (more : List V), vs = .ref p :: .str t :: more ∧ more.length = m ∧ Pen H p lc n ∧ n + 10 ≤ 1000000 ∧ t.length ≤ 100000 ∧
  (∀ v ∈ more, ∃ (l : Addr) (ws : List (List Nat)), v = .ref l ∧ H l = some (.lst (ws.map fun w => V.str (SX.S w))) ∧ ws.length ≤ 20 ∧ ∀ w ∈ ws, w.length ≤ 20) ∧
  ∀ (t' : Str) H', t'.length ≤ f t.length → Pen H' p lc (n + 10) → But p H H' → Q (.str t') H'
end MB
set_option maxRecDepth 100000
set_option maxHeartbeats 1000000
namespace MB
open PySem PySem.Spec PyProof.Rows L2 Evl
/-! ### repr of a tuple of small numbers -/
def dT (ns : List Nat) : PyData := .tuple (ns.map fun (n : Nat) => PyData.int (n : Int))
theorem small_int : ∀ n : Nat, n < 256 → (PyData.shown (.int (n : Int))).length ≤ 13 ∧ PyData.weight (.int (n : Int)) ≤ 8 ∧ PyData.showable (.int (n : Int)) = true := by decide +kernel
theorem dT_all : ∀ {ns : List Nat}, (∀ n ∈ ns, n < 256) → PyData.showableAll (ns.map fun (n : Nat) => PyData.int (n : Int)) = true ∧ PyData.hasDictAll (ns.map fun (n : Nat) => PyData.int (n : Int)) = false ∧ PyData.depthAll (ns.map fun (n : Nat) => PyData.int (n : Int)) = 0 ∧
    PyData.weightAll (ns.map fun (n : Nat) => PyData.int (n : Int)) ≤ 9 * ns.length ∧ PyData.intsShortAll 13 (ns.map fun (n : Nat) => PyData.int (n : Int)) = true ∧ PyData.canLayAll0 (ns.map fun (n : Nat) => PyData.int (n : Int)) = true
  | [], _ => ⟨rfl, rfl, rfl, Nat.zero_le _, rfl, rfl⟩
  | n :: r, h => by
    obtain ⟨h1, h2, h3, h4, h5, h6⟩ := dT_all fun x hx => h x (List.mem_cons_of_mem _ hx)
    obtain ⟨s1, s2, s3⟩ := small_int n (h n (List.mem_cons_self ..))
    rw [List.map_cons]
    refine ⟨?_, ?_, ?_, ?_, ?_, ?_⟩
    · rw [PyData.showableAll, s3, h1]
      rfl
    · rw [PyData.hasDictAll, h2, PyData.hasDict]
      rfl
    · rw [PyData.depthAll, h3, PyData.depth]
      rfl
    · rw [PyData.weightAll, List.length_cons]
      omega
    · rw [PyData.intsShortAll, h5, PyData.intsShort, decide_eq_true s1]
      rfl
    · rw [PyData.canLayAll0, h6, PyData.canLay0]
      rfl
theorem rc_reprT {K : PySem.W.Frag} {H : Hp} {p : Addr} {ns : List Nat} (hp : SqT K H p (ns.map fun (n : Nat) => V.int (n : Int))) (hz : ns.length ≤ 4000) (hn : ∀ n ∈ ns, n < 256) : RC (rReprD K) [.ref p] H (.str (dT ns).shown) := fun H1 e Q q => by
  obtain ⟨h1, h2, h3, h4, h5, h6⟩ := dT_all hn
  refine ⟨p, dT ns, rfl, .tup (ex_t e hp) ?_, ?_, ?_, ?_, ?_, q H1 (Ex.refl _)⟩
  · have := dpAll_ints (K := K) (H := H1) (ns.map fun (n : Nat) => (n : Int))
    rw [List.map_map, List.map_map] at this
    exact this
  · rw [dT, PyData.showable, h1]
  · rw [dT, PyData.hasDict, h2]
  · rw [dT, PyData.depth, h3]
    decide
  · refine Nat.le_trans (shown_le13 (d := dT ns) ?_ ?_) (by decide)
    · rw [dT, PyData.layable0, PyData.canLay0, h6, PyData.depth, h3, PyData.weight]
      simp only [Bool.true_and, Bool.and_eq_true, decide_eq_true_eq]
      omega
    · rw [dT, PyData.intsShort, h5]
/-! ### texts of bounded length -/
section
variable {K : PySem.W.Frag} {σ : L2.St} {H : Hp} {ta tb te : TE} {a b : Nat}
def EvZ (te : TE) (σ : L2.St) (H : Hp) (b : Nat) : Prop := ∃ z : Str, z.length ≤ b ∧ Ev te σ H (.str z)
theorem evz_c {z : Str} (h : z.length ≤ b) : EvZ (tC (.str z)) σ H b := ⟨z, h, ev_c⟩
theorem evz_var {z : Str} {i : Nat} (hs : σ[i]? = some (some (.str z))) (h : z.length ≤ b) : EvZ (tVar i) σ H b := ⟨z, h, ev_var hs⟩
theorem evz_add (h1 : EvZ ta σ H a) (h2 : EvZ tb σ H b) (hz : a + b ≤ 8000000) : EvZ (tOp (rAddA K) ta tb) σ H (a + b) := by
  obtain ⟨x, l1, e1⟩ := h1
  obtain ⟨y, l2, e2⟩ := h2
  exact ⟨x ++ y, by rw [PySem.Str.length_append]; omega, ev_op e1 e2 (rv_addStr (by omega))⟩
theorem evz_sl {tl th : TO} {lo hi : Option Int} (h : EvZ te σ H b) (h1 : EvO tl σ H lo) (h2 : EvO th σ H hi) (hz : b ≤ 8000000) : EvZ (tSl (rSl K) te tl th) σ H b := by
  obtain ⟨x, l, e⟩ := h
  exact ⟨cutS x lo hi, Nat.le_trans (cutS_le x lo hi) l, ev_slStr e h1 h2 (by omega)⟩
theorem evz_mul {n : Nat} (h : EvZ te σ H b) (hn : n ≤ 1000) (hz : b * n ≤ 8000000) : EvZ (tOp (rMulB K) te (tC (.int (n : Int)))) σ H (b * n) := by
  obtain ⟨x, l, e⟩ := h
  have h2 : x.length * n ≤ b * n := Nat.mul_le_mul_right _ l
  exact ⟨Txt.mul x n, len_mul_leN l (Int.le_refl _), ev_op e ev_c (rv_mulStr (by omega) (by omega) (by rw [Int.toNat_natCast]; omega))⟩
def EvAZ (ta : TA) (σ : L2.St) (H : Hp) (n b : Nat) : Prop := ∃ zs : List Str, zs.length = n ∧ (∀ z ∈ zs, z.length ≤ b) ∧ EvA ta σ H (zs.map V.str)
theorem eaz_nil : EvAZ tNil σ H 0 b := ⟨[], rfl, fun z hz => absurd hz (List.not_mem_nil), ea_nil⟩
theorem eaz_cons {tr : TA} {n : Nat} (h : EvZ te σ H a) (hr : EvAZ tr σ H n b) (hab : a ≤ b := by decide) : EvAZ (tCons te tr) σ H (n + 1) b := by
  obtain ⟨z, l, e⟩ := h
  obtain ⟨zs, l1, l2, e2⟩ := hr
  refine ⟨z :: zs, by rw [List.length_cons, l1], fun x hx => ?_, ea_cons e e2⟩
  rcases List.mem_cons.mp hx with rfl | hx
  · omega
  · exact l2 x hx
theorem el_rep {xs : List V} {k : Nat} (h : EvP ta σ H xs) (hk : k ≤ 100000) (hz : xs.length * k ≤ 8000000) : EvL (tOp (rMulB K) ta (tC (.int (k : Int)))) σ H (List.replicate k xs).flatten := fun H1 e Q q =>
  h H1 e _ fun p H2 e2 hp => .inr (.inr (.inl ⟨p, (k : Int), xs, rfl, rfl, hp, by omega, by omega, by rw [Int.toNat_natCast]; exact Nat.le_trans hz (by decide), fun r hr => q r _ (fresh_back e2 hr) (e2.trans (Ex.new hr)) (by rw [upd_same, Int.toNat_natCast])⟩))
theorem q_asgC {sp : Sp} {dvs vs : List V} {E : XK} {ta : TA} {tz : TS} {D : Ends} {i : Nat} (h : EvA ta σ H vs) (k : ∀ H1, Ex H H1 → sp (vs ++ dvs) H1 (fun v H2 => tz D (σ.set i (some v)) H2) E) : tSeq (tAsg (tCall sp dvs E ta) (gName i)) tz D σ H := h H (Ex.refl H) _ k
theorem s_asgC {sp : Sp} {dvs vs : List V} {E : XK} {ta : TA} {D : Ends} {i : Nat} (h : EvA ta σ H vs) (k : ∀ H1, Ex H H1 → sp (vs ++ dvs) H1 (fun v H2 => D.nx (σ.set i (some v)) H2) E) : tAsg (tCall sp dvs E ta) (gName i) D σ H := h H (Ex.refl H) _ k
end
/-- the tables of code stay where the pen is written to -/
theorem tabs_but {TL : List (Addr × Str)} {H H' : Hp} {p lc : Addr} {n : Nat} (hp : Pen H p lc n) (e : But p H H') (t : LamX.Tabs TL H) : LamX.Tabs TL H' := fun x hx => by
  obtain ⟨kvs, hd⟩ := hp.dict
  obtain ⟨ps, h1, h2, h3⟩ := t x hx
  refine ⟨ps, e _ _ (fun z => ?_) h1, h2, fun pos cv hc => ?_⟩
  · rw [z, hd] at h1
    cases h1
  · obtain ⟨c, hc1, hc2⟩ := h3 pos cv hc
    refine ⟨c, hc1, e _ _ (fun z => ?_) hc2⟩
    rw [z, hd] at hc2
    cases hc2
end MB
set_option maxRecDepth 100000
set_option maxHeartbeats 2000000
namespace MB
open PySem PySem.Spec PyProof.Rows L2 Evl
/-! ### the end of a law whose def asks for repr: it is run at the claim's own caller, of whom it is known that he guards nothing -/
section
variable {P : Program} {w : World} {K : PySem.W.Frag} {mg mb : Str → Option Value} {fa a : Addr} {cs : List (Addr × Addr)} {s : Shared} {vs : List Value} {ns : List Int}
/-- what is tracked at the beginning: the code tables, and the script's list, if the written part does not know it -/
def startH (K : PySem.W.Frag) (cs : List (Addr × Addr)) (a : Addr) (vs : List Value) (ns : List Int) : Hp := fun b =>
  if b ∈ cs.map (·.2) then some (.tbl #[]) else if b = a ∧ (K.lookup a).isNone = true then some (.frz { cls := .type "list", data := .seq vs.toArray } (.lst (ns.map V.int))) else none
theorem start_tab {b : Addr} (h : b ∈ cs.map (·.2)) : startH K cs a vs ns b = some (.tbl #[]) := by unfold startH; rw [if_pos h]
theorem start_cases (b : Addr) : (b ∈ cs.map (·.2) ∧ startH K cs a vs ns b = some (.tbl #[])) ∨ (b ∉ cs.map (·.2) ∧ b = a ∧ K.lookup a = none ∧ startH K cs a vs ns b = some (.frz { cls := .type "list", data := .seq vs.toArray } (.lst (ns.map V.int)))) ∨
    (b ∉ cs.map (·.2) ∧ (b = a → K.lookup a ≠ none) ∧ startH K cs a vs ns b = none) := by
  by_cases h : b ∈ cs.map (·.2)
  · exact .inl ⟨h, start_tab h⟩
  · by_cases h2 : b = a ∧ (K.lookup a).isNone = true
    · exact .inr (.inl ⟨h, h2.1, Option.isNone_iff_eq_none.mp h2.2, by unfold startH; rw [if_neg h, if_pos h2]⟩)
    · exact .inr (.inr ⟨h, fun e z => h2 ⟨e, by rw [z]; rfl⟩, by unfold startH; rw [if_neg h, if_neg h2]⟩)
/-- what the head has laid -/
structure Laid (K : PySem.W.Frag) (mg mb : Str → Option Value) (cs : List (Addr × Addr)) (s : Shared) (a : Addr) (vs : List Value) (ns : List Int) : Prop where
  kin : K.In s.heap
  glo : s.heap.Ns mainGlobals mg
  blt : s.heap.Ns builtinsNs mb
  boo : ∀ x : Str, x ≠ "__name__" → mb x = bootBuiltins x
  lim : s.heap.NoLimit
  gen : s.gens = #[]
  tab : ∀ b ∈ cs.map (·.2), s.heap.get? b = some { cls := .none, data := .fields #[] }
  ntk : ∀ b ∈ cs.map (·.2), K.lookup b = none
  cod : ∀ p ∈ cs, PySem.W.CodeHd s.heap p.1 p.2
  mod : ∃ (bm : Addr) (ob : Obj), mg "__builtins__" = some (.ref bm) ∧ bm ≠ builtinsNs ∧ s.heap.get? bm = some ob ∧ ob.cls = .type "module" ∧ ob.dict = some builtinsNs ∧ ob.data = .plain
  obj : s.heap.get? a = some { cls := .type "list", data := .seq vs.toArray }
  int : IntsAre vs ns
  len : ns.length ≤ sizeLine
/-- an object that is neither a list nor an empty field record is not tracked -/
theorem Laid.off (L : Laid K mg mb cs s a vs ns) {b : Addr} {o : Obj} (e : s.heap.get? b = some o) (h1 : ∀ us n, o.data ≠ .seq us n) (h2 : o.data ≠ .fields #[]) : startH K cs a vs ns b = none := by
  rcases start_cases (K := K) (cs := cs) (a := a) (vs := vs) (ns := ns) b with ⟨h, _⟩ | ⟨_, rfl, _, _⟩ | ⟨_, _, h⟩
  · have := (L.tab b h).symm.trans e
    injection this with this
    exact absurd (congrArg Obj.data this).symm h2
  · have := L.obj.symm.trans e
    injection this with this
    exact absurd (congrArg Obj.data this).symm (h1 _ _)
  · exact h
theorem Laid.stays (L : Laid K mg mb cs s a vs ns) {b : Addr} {o : Obj} (e : s.heap.get? b = some o) (h1 : ∀ us n, o.data ≠ .seq us n) (h2 : o.data ≠ .fields #[]) : (hidT s.heap (startH K cs a vs ns)).get? b = some o := hidT_get e (L.off e h1 h2)
theorem Laid.named (L : Laid K mg mb cs s a vs ns) {b : Addr} {m : Str → Option Value} (h : s.heap.Ns b m) : (hidT s.heap (startH K cs a vs ns)).Ns b m := by
  obtain ⟨o, es, ep, e, d, r⟩ := h
  exact ⟨o, es, ep, L.stays e (fun us n z => by rw [d] at z; cases z) (fun z => by rw [d] at z; cases z), d, r⟩
theorem Laid.written (L : Laid K mg mb cs s a vs ns) : K.In (hidT s.heap (startH K cs a vs ns)) := fun b o e => hidT_get (L.kin b o e) (by
  rcases start_cases (K := K) (cs := cs) (a := a) (vs := vs) (ns := ns) b with ⟨h, _⟩ | ⟨_, rfl, h, _⟩ | ⟨_, _, h⟩
  · rw [L.ntk b h] at e
    cases e
  · rw [h] at e
    cases e
  · exact h)
theorem Laid.hok (L : Laid K mg mb cs s a vs ns) : HOk P w (startH K cs a vs ns) s.heap := fun b u e => by
  rcases start_cases (K := K) (cs := cs) (a := a) (vs := vs) (ns := ns) b with ⟨h, g⟩ | ⟨_, rfl, _, g⟩ | ⟨_, _, g⟩
  · rw [g] at e
    cases e
    exact L.tab b h
  · rw [g] at e
    cases e
    exact ⟨L.obj, by rw [List.length_map]; exact L.len, vs, _, vals_ints L.int, L.obj⟩
  · rw [g] at e
    cases e
theorem Laid.env (L : Laid K mg mb cs s a vs ns) : Env0 P w K mg (hidT s.heap (startH K cs a vs ns)) callerA [] s (startH K cs a vs ns) where
  frames := rfl
  mod := ⟨L.written, L.named L.glo, ⟨mb, L.named L.blt, L.boo⟩, by
    obtain ⟨mc, q1, q2⟩ := L.lim
    exact ⟨mc, L.named q1, q2⟩⟩
  bs := fun b o e => of_hidT e
  bsz := by rw [hidT_size]; exact Nat.le_refl _
  funs := trivial
  frf := by simp [frs]
  hok := L.hok
  bare := .of_eq L.gen
theorem Laid.tabs (L : Laid K mg mb cs s a vs ns) : ∀ p ∈ cs, LamX.TabB (hidT s.heap (startH K cs a vs ns)) mg p.1 p.2 := fun p hp => by
  have hm : p.2 ∈ cs.map (·.2) := List.mem_map_of_mem hp
  refine ⟨?_, ?_, ?_⟩
  · obtain ⟨o, us, file, tf, flags, tg, inF, text, tt, g1, g2, g3, g4, g5, g6, g7, g8, g9, g10⟩ := L.cod p hp
    exact ⟨o, us, file, tf, flags, tg, inF, text, tt, L.stays g1 (fun _ _ z => by rw [g3] at z; cases z) (fun z => by
      rw [g3] at z
      cases z
      simp at g4), g2, g3, g4, g5, g6, g7, g8, g9, g10⟩
  · obtain ⟨bm, ob, q1, q2, q3, q4, q5, q6⟩ := L.mod
    refine ⟨bm, ob, q1, q2, ?_, ?_, L.stays q3 (fun _ _ z => by rw [q6] at z; cases z) (fun z => by rw [q6] at z; cases z), q4, q5, q6⟩
    · rintro rfl
      obtain ⟨o, es, ep, e, d, _⟩ := L.glo
      rw [e] at q3
      cases q3
      rw [d] at q6
      cases q6
    · rintro rfl
      rw [L.tab _ hm] at q3
      cases q3
      cases q6
  · intro z
    obtain ⟨o, es, ep, e, d, _⟩ := L.glo
    rw [z, L.tab _ hm] at e
    cases e
    cases d
theorem Laid.script (L : Laid K mg mb cs s a vs ns) : SqL K (startH K cs a vs ns) a (ns.map V.int) := by
  rcases start_cases (K := K) (cs := cs) (a := a) (vs := vs) (ns := ns) a with ⟨h, _⟩ | ⟨_, _, _, g⟩ | ⟨_, h, _⟩
  · have := (L.tab a h).symm.trans L.obj
    cases this
  · exact .inl (.inr ⟨_, g⟩)
  · cases hk : K.lookup a with
    | none => exact absurd hk (h rfl)
    | some o =>
      have e := L.kin a o hk
      rw [L.obj] at e
      cases e
      exact .inr ⟨_, vs.toArray, _, hk, rfl, rfl, rfl, by rw [List.size_toArray, L.int.length]; exact L.len, by simpa using vals_ints L.int⟩
theorem law_callG (L : Laid K mg mb cs s a vs ns) (F : ∀ (base : Heap) (H : Hp), K.In base → base.Ns mainGlobals mg → (∀ p ∈ cs, LamX.TabB base mg p.1 p.2) → Env0 P w K mg base callerA [] s H → (∀ p ∈ cs, H p.2 = some (.tbl #[])) → SqL K H a (ns.map V.int) →
      codeAny (model P w) callerA (.call (.ref fa) ⟨[.ref a], []⟩) (CR C8.CX0 [] P w H s (fun v _ => v = .bl true) fun _ _ _ => False) s) :
    codeAny (model P w) callerA (.call (.ref fa) ⟨[.ref a], []⟩) (fun r s' => r = .ok (.ret (.bool true)) ∧ OldK s.heap s'.heap ∧ s'.os = s.os ∧ AllBare s'.gens) s := by
  refine codeAny_mono (F _ _ L.written (L.named L.glo) L.tabs L.env (fun p hp => start_tab (List.mem_map_of_mem hp)) L.script) fun r s' h => ?_
  match r, h with
  | .ok (.ret u), ⟨v, H', g1, g2, un, g3, g4, g5⟩ =>
    subst g5
    obtain rfl : u = Value.bool true := g4
    have grow : ∀ b ∈ cs.map (·.2), ∃ more : Array Value, s'.heap.get? b = some { cls := .none, data := .fields more } := fun b hb => by
      obtain ⟨more, z⟩ := un.tbls b #[] (start_tab hb)
      exact ⟨_, g3 b _ z⟩
    have rest : ∀ b o, b ∉ cs.map (·.2) → s.heap.get? b = some o → s'.heap.get? b = some o := fun b o nb e => by
      rcases start_cases (K := K) (cs := cs) (a := a) (vs := vs) (ns := ns) b with ⟨h, _⟩ | ⟨_, rfl, _, g⟩ | ⟨_, _, g⟩
      · exact absurd h nb
      · have z1 := g3 _ _ (un.frzs _ _ _ g)
        have z2 := L.obj.symm.trans e
        injection z2 with z2
        rw [← z2]
        exact z1.1
      · exact un.keep b o e g (by simp [frs]) (by simp)
    refine ⟨rfl, ⟨fun b o e => ?_, fun b o e => ?_⟩, g1, g2⟩
    · by_cases hb : b ∈ cs.map (·.2)
      · obtain ⟨p, hp, rfl⟩ := List.mem_map.mp hb
        obtain ⟨more, hm⟩ := grow _ hb
        have ht := L.tab _ hb
        have he := ht.symm.trans e
        injection he with he
        subst he
        exact .inr (.inl ⟨((L.cod p hp).tab ht).isCodeTable, rfl, #[], more, rfl, by rw [Array.empty_append]; exact hm⟩)
      · exact .inl (rest b o hb e)
    · by_cases hb : b ∈ cs.map (·.2)
      · obtain ⟨more, hm⟩ := grow _ hb
        exact ⟨_, hm⟩
      · exact ⟨o, rest b o hb e⟩
end
end MB
set_option maxRecDepth 100000
namespace K85
open PySem PySem.Spec PyProof.Rows L2
def top (i : Nat) : Stmt := PySem.Challenge.pw_tornentries_k85_files_as_figures.main.body.getD i (.Pass ⟨0, 0, 0, 0⟩)
-- is_whole: top 2; slots [(0, 'thing'), (1, 'least'), (2, 'most')]; cells []
abbrev s_is_whole : Stmt := top 2
abbrev n_is_whole : List Str := ["thing", "least", "most"]
abbrev p_is_whole : List Str := ["thing", "least", "most"]
theorem sc_is_whole : FnScope n_is_whole p_is_whole (defScope s_is_whole) := ⟨rfl, rfl, rfl, by decide +kernel, rfl, by decide +kernel, by decide +kernel⟩
-- are_small: top 3; slots [(0, 'thing'), (1, 'one')]; cells []
abbrev s_are_small : Stmt := top 3
abbrev n_are_small : List Str := ["thing", "one"]
abbrev p_are_small : List Str := ["thing"]
theorem sc_are_small : FnScope n_are_small p_are_small (defScope s_are_small) := ⟨rfl, rfl, rfl, by decide +kernel, rfl, by decide +kernel, by decide +kernel⟩
-- is_file: top 7; slots [(0, 'thing')]; cells []
abbrev s_is_file : Stmt := top 7
abbrev n_is_file : List Str := ["thing"]
abbrev p_is_file : List Str := ["thing"]
theorem sc_is_file : FnScope n_is_file p_is_file (defScope s_is_file) := ⟨rfl, rfl, rfl, by decide +kernel, rfl, by decide +kernel, by decide +kernel⟩
-- many_cells: top 8; slots [(0, 'file')]; cells []
abbrev s_many_cells : Stmt := top 8
abbrev n_many_cells : List Str := ["file"]
abbrev p_many_cells : List Str := ["file"]
theorem sc_many_cells : FnScope n_many_cells p_many_cells (defScope s_many_cells) := ⟨rfl, rfl, rfl, by decide +kernel, rfl, by decide +kernel, by decide +kernel⟩
-- pair_of: top 30; slots [(0, 'number')]; cells []
abbrev s_pair_of : Stmt := top 30
abbrev n_pair_of : List Str := ["number"]
abbrev p_pair_of : List Str := ["number"]
theorem sc_pair_of : FnScope n_pair_of p_pair_of (defScope s_pair_of) := ⟨rfl, rfl, rfl, by decide +kernel, rfl, by decide +kernel, by decide +kernel⟩
-- show_cell: top 31; slots [(0, 'file'), (1, 'cell'), (2, 'number')]; cells []
abbrev s_show_cell : Stmt := top 31
abbrev n_show_cell : List Str := ["file", "cell", "number"]
abbrev p_show_cell : List Str := ["file", "cell"]
theorem sc_show_cell : FnScope n_show_cell p_show_cell (defScope s_show_cell) := ⟨rfl, rfl, rfl, by decide +kernel, rfl, by decide +kernel, by decide +kernel⟩
-- show_file: top 32; slots [(0, 'file'), (1, 'cells'), (2, 'cell'), (3, 'at')]; cells []
abbrev s_show_file : Stmt := top 32
abbrev n_show_file : List Str := ["file", "cells", "cell", "at"]
abbrev p_show_file : List Str := ["file"]
theorem sc_show_file : FnScope n_show_file p_show_file (defScope s_show_file) := ⟨rfl, rfl, rfl, by decide +kernel, rfl, by decide +kernel, by decide +kernel⟩
-- is_cell_text: top 33; slots [(0, 'word'), (1, 'sign')]; cells []
abbrev s_is_cell_text : Stmt := top 33
abbrev n_is_cell_text : List Str := ["word", "sign"]
abbrev p_is_cell_text : List Str := ["word"]
theorem sc_is_cell_text : FnScope n_is_cell_text p_is_cell_text (defScope s_is_cell_text) := ⟨rfl, rfl, rfl, by decide +kernel, rfl, by decide +kernel, by decide +kernel⟩
-- numbers_of: top 34; slots [(0, 'word'), (1, 'at')]; cells []
abbrev s_numbers_of : Stmt := top 34
abbrev n_numbers_of : List Str := ["word", "at"]
abbrev p_numbers_of : List Str := ["word"]
theorem sc_numbers_of : FnScope n_numbers_of p_numbers_of (defScope s_numbers_of) := ⟨rfl, rfl, rfl, by decide +kernel, rfl, by decide +kernel, by decide +kernel⟩
-- read_file: top 35; slots [(0, 'text'), (1, 'lines'), (2, 'rest'), (3, 'found'), (4, 'number'), (5, 'line'), (6, 'words'), (7, 'word')]; cells []
abbrev s_read_file : Stmt := top 35
abbrev n_read_file : List Str := ["text", "lines", "rest", "found", "number", "line", "words", "word"]
abbrev p_read_file : List Str := ["text"]
theorem sc_read_file : FnScope n_read_file p_read_file (defScope s_read_file) := ⟨rfl, rfl, rfl, by decide +kernel, rfl, by decide +kernel, by decide +kernel⟩
-- _law_pen: top 37; slots [(0, '_law_script')]; cells []
abbrev s_law_pen : Stmt := top 37
abbrev n_law_pen : List Str := ["_law_script"]
abbrev p_law_pen : List Str := ["_law_script"]
theorem sc_law_pen : FnScope n_law_pen p_law_pen (defScope s_law_pen) := ⟨rfl, rfl, rfl, by decide +kernel, rfl, by decide +kernel, by decide +kernel⟩
-- _law_draw: top 38; slots [(0, '_law_pen_here'), (1, '_law_many'), (2, '_law_found'), (3, '_law_at'), (4, '_law_cell'), (5, '_law_whole'), (6, '_law_one'), (7, '_law_two')]; cells []
abbrev s_law_draw : Stmt := top 38
abbrev n_law_draw : List Str := ["_law_pen_here", "_law_many", "_law_found", "_law_at", "_law_cell", "_law_whole", "_law_one", "_law_two"]
abbrev p_law_draw : List Str := ["_law_pen_here", "_law_many"]
theorem sc_law_draw : FnScope n_law_draw p_law_draw (defScope s_law_draw) := ⟨rfl, rfl, rfl, by decide +kernel, rfl, by decide +kernel, by decide +kernel⟩
-- _law_numbers: top 39; slots [(0, '_law_pen_here'), (1, '_law_many'), (2, '_law_limit'), (3, '_law_ends'), (4, '_law_k')]; cells []
abbrev s_law_numbers : Stmt := top 39
abbrev n_law_numbers : List Str := ["_law_pen_here", "_law_many", "_law_limit", "_law_ends", "_law_k"]
abbrev p_law_numbers : List Str := ["_law_pen_here", "_law_many", "_law_limit"]
theorem sc_law_numbers : FnScope n_law_numbers p_law_numbers (defScope s_law_numbers) := ⟨rfl, rfl, rfl, by decide +kernel, rfl, by decide +kernel, by decide +kernel⟩
-- _law_refusal: top 40; slots [(0, '_law_ask'), (1, '_law_caught'), (2, '_law_found'), (3, 'e')]; cells []
abbrev s_law_refusal : Stmt := top 40
abbrev n_law_refusal : List Str := ["_law_ask", "_law_caught", "_law_found", "e"]
abbrev p_law_refusal : List Str := ["_law_ask"]
theorem sc_law_refusal : FnScope n_law_refusal p_law_refusal (defScope s_law_refusal) := ⟨rfl, rfl, rfl, by decide +kernel, rfl, by decide +kernel, by decide +kernel⟩
-- _law_sign_bent: top 41; slots [(0, '_law_pen_here'), (1, '_law_text'), (2, '_law_signs'), (3, '_law_sign'), (4, '_law_at'), (5, '_law_way')]; cells []
abbrev s_law_sign_bent : Stmt := top 41
abbrev n_law_sign_bent : List Str := ["_law_pen_here", "_law_text", "_law_signs", "_law_sign", "_law_at", "_law_way"]
abbrev p_law_sign_bent : List Str := ["_law_pen_here", "_law_text"]
theorem sc_law_sign_bent : FnScope n_law_sign_bent p_law_sign_bent (defScope s_law_sign_bent) := ⟨rfl, rfl, rfl, by decide +kernel, rfl, by decide +kernel, by decide +kernel⟩
-- _law_word_bent: top 42; slots [(0, '_law_pen_here'), (1, '_law_text'), (2, '_law_others'), (3, '_law_words'), (4, '_law_at'), (5, '_law_new'), (6, '_law_some')]; cells []
abbrev s_law_word_bent : Stmt := top 42
abbrev n_law_word_bent : List Str := ["_law_pen_here", "_law_text", "_law_others", "_law_words", "_law_at", "_law_new", "_law_some"]
abbrev p_law_word_bent : List Str := ["_law_pen_here", "_law_text", "_law_others"]
theorem sc_law_word_bent : FnScope n_law_word_bent p_law_word_bent (defScope s_law_word_bent) := ⟨rfl, rfl, rfl, by decide +kernel, rfl, by decide +kernel, by decide +kernel⟩
-- _law_line_bent: top 43; slots [(0, '_law_pen_here'), (1, '_law_text'), (2, '_law_others'), (3, '_law_lines'), (4, '_law_at'), (5, '_law_spot'), (6, '_law_new'), (7, '_law_turn'), (8, '_law_some')]; cells []
abbrev s_law_line_bent : Stmt := top 43
abbrev n_law_line_bent : List Str := ["_law_pen_here", "_law_text", "_law_others", "_law_lines", "_law_at", "_law_spot", "_law_new", "_law_turn", "_law_some"]
abbrev p_law_line_bent : List Str := ["_law_pen_here", "_law_text", "_law_others"]
theorem sc_law_line_bent : FnScope n_law_line_bent p_law_line_bent (defScope s_law_line_bent) := ⟨rfl, rfl, rfl, by decide +kernel, rfl, by decide +kernel, by decide +kernel⟩
-- _law_figures: top 44; slots [(0, '_law_file'), (1, '_law_found'), (2, '_law_k'), (3, '_law_number')]; cells []
abbrev s_law_figures : Stmt := top 44
abbrev n_law_figures : List Str := ["_law_file", "_law_found", "_law_k", "_law_number"]
abbrev p_law_figures : List Str := ["_law_file"]
theorem sc_law_figures : FnScope n_law_figures p_law_figures (defScope s_law_figures) := ⟨rfl, rfl, rfl, by decide +kernel, rfl, by decide +kernel, by decide +kernel⟩
-- _law_bad_line: top 45; slots [(0, '_law_text'), (1, '_law_lines'), (2, '_law_full'), (3, '_law_number'), (4, '_law_words'), (5, '_law_word'), (6, '_law_sign')]; cells []
abbrev s_law_bad_line : Stmt := top 45
abbrev n_law_bad_line : List Str := ["_law_text", "_law_lines", "_law_full", "_law_number", "_law_words", "_law_word", "_law_sign"]
abbrev p_law_bad_line : List Str := ["_law_text"]
theorem sc_law_bad_line : FnScope n_law_bad_line p_law_bad_line (defScope s_law_bad_line) := ⟨rfl, rfl, rfl, by decide +kernel, rfl, by decide +kernel, by decide +kernel⟩
-- _law_right: top 46; slots [(0, '_law_text'), (1, '_law_due'), (2, '_law_found')]; cells ['_law_text']
abbrev s_law_right : Stmt := top 46
abbrev n_law_right : List Str := ["_law_text", "_law_due", "_law_found"]
abbrev p_law_right : List Str := ["_law_text"]
theorem sc_law_right : FnScope n_law_right p_law_right (defScope s_law_right) := ⟨rfl, rfl, rfl, by decide +kernel, rfl, by decide +kernel, by decide +kernel⟩
-- _law_bent: top 47; slots [(0, '_law_pen_here'), (1, '_law_text'), (2, '_law_words'), (3, '_law_lines'), (4, '_law_way')]; cells []
abbrev s_law_bent : Stmt := top 47
abbrev n_law_bent : List Str := ["_law_pen_here", "_law_text", "_law_words", "_law_lines", "_law_way"]
abbrev p_law_bent : List Str := ["_law_pen_here", "_law_text"]
theorem sc_law_bent : FnScope n_law_bent p_law_bent (defScope s_law_bent) := ⟨rfl, rfl, rfl, by decide +kernel, rfl, by decide +kernel, by decide +kernel⟩
-- law: top 48; slots [(0, '_law_script'), (1, '_law_pen_here'), (2, '_law_one'), (3, '_law_eight'), (4, '_law_texts'), (5, '_law_turn'), (6, '_law_numbers_here'), (7, '_law_kept'), (8, '_law_text'), (9, '_law_k'), (10, '_law_bent_here'), (11, '_law_thing')]; cells ['_law_thing']
abbrev s_law : Stmt := top 48
abbrev n_law : List Str := ["_law_script", "_law_pen_here", "_law_one", "_law_eight", "_law_texts", "_law_turn", "_law_numbers_here", "_law_kept", "_law_text", "_law_k", "_law_bent_here", "_law_thing"]
abbrev p_law : List Str := ["_law_script"]
theorem sc_law : FnScope n_law p_law (defScope s_law) := ⟨rfl, rfl, rfl, by decide +kernel, rfl, by decide +kernel, by decide +kernel⟩
/-- what the top has written: the built-in names that stay, the constants -/
structure T0 (mg : Str → Option Value) : Prop where
  n_len : mg "len" = none
  n_isinstance : mg "isinstance" = none
  n_all : mg "all" = none
  n_repr : mg "repr" = none
  n_abs : mg "abs" = none
  n_int : mg "int" = none
  n_str : mg "str" = none
  n_bool : mg "bool" = none
  n_tuple : mg "tuple" = none
  n_list : mg "list" = none
  n_range : mg "range" = none
  n_enumerate : mg "enumerate" = none
  n_ValueError : mg "ValueError" = none
  g_BASE : ∃ u, mg "BASE" = some u ∧ RelV (.int 256) u
  g_WIDE : ∃ u, mg "WIDE" = some u ∧ RelV (.int 4) u
  g_MOST_CELLS : ∃ u, mg "MOST_CELLS" = some u ∧ RelV (.int 1000) u
  g_IN_LINE : ∃ u, mg "IN_LINE" = some u ∧ RelV (.int 8) u
  g_FIGURES : ∃ u, mg "FIGURES" = some u ∧ RelV (.str "0123456789abcdef") u
end K85
set_option maxRecDepth 100000
namespace K85
open PySem PySem.Spec PyProof.Rows L2 Evl
/-! the plain forms -/
def FG : List Nat := [48, 49, 50, 51, 52, 53, 54, 55, 56, 57, 97, 98, 99, 100, 101, 102]
def hx (n : Nat) : Nat := FG.getD n 0
def pr (n : Nat) : List Nat := [hx (n / 16), hx (n % 16)]
def cellT (ns : List Nat) (c : Nat) : List Nat := TL.joinL [] (((ns.drop (4 * c)).take 4).map pr)
def cells (ns : List Nat) : List (List Nat) := (List.range (ns.length / 4)).map (cellT ns)
def lineT (cs : List (List Nat)) (k : Nat) : List Nat := TL.joinL [32] ((cs.drop (8 * k)).take 8) ++ [10]
def showC (cs : List (List Nat)) : List Nat := TL.joinL [] ((List.range ((cs.length + 7) / 8)).map (lineT cs))
def showF (ns : List Nat) : List Nat := showC (cells ns)
def good (w : List Nat) : Bool := decide (w.length = 8) && w.all (fun c => decide (c ∈ FG))
def vl (c : Nat) : Nat := FG.idxOf c
def nums (w : List Nat) : List Nat := (List.range 4).map fun k => 16 * vl (w.getD (2 * k) 0) + vl (w.getD (2 * k + 1) 0)
def iv (n : Nat) : V := .int (n : Int)
def tv (w : List Nat) : V := .str (SX.S w)
theorem fig_S : (Str.ofString "0123456789abcdef") = SX.S FG := by decide +kernel
end K85
set_option maxRecDepth 100000
set_option maxHeartbeats 1000000
namespace K85
open PySem PySem.Spec PyProof.Rows L2 Evl MB
section
variable {P : Program} {w : World} {K : PySem.W.Frag} {mg : Str → Option Value} {base : Heap}
/-! ### is_whole -/
def sp_is_whole : Sp := fun vs H Q _ => ∃ i lo hi : Int, vs = [.int i, .int lo, .int hi] ∧ ∀ H', Ex H H' → Q (.bl (decide (lo ≤ i) && decide (i ≤ hi))) H'
theorem ok_is_whole {f : Addr} {fd : FuncData} (F : Fun K "is_whole" "is_whole" s_is_whole f fd) (T : T0 mg) : FnOk P w K mg base CX0 1 f fd p_is_whole sp_is_whole := by
  refine F.ok sc_is_whole (fun vs H Q E h => ?_) (fun cdv A outer s H vs Q E hr h => ?_)
  · obtain ⟨i, lo, hi, rfl, _⟩ := h
    rfl
  · obtain ⟨i, lo, hi, rfl, k⟩ := h
    refine ⟨_, (pss_one (ps_ret (pe_and (pe_callB (MB.call_isiK (K := K) rfl) (by rfl) T.n_isinstance MB.bo_isinstance (pa_cons (pv 0) (pa_cons (pe_bltn (v := .ty "int") (by rfl) T.n_int MB.bo_int rfl) pa_nil))) (pe_and (pe_not (pe_callB (MB.call_isiK (K := K) rfl) (by rfl) T.n_isinstance MB.bo_isinstance (pa_cons (pv 0) (pa_cons (pe_bltn (v := .ty "bool") (by rfl) T.n_bool MB.bo_bool rfl) pa_nil)))) (pe_one (pe_chain op_le op_le (pv 1) (pv 0) (pv 2))))))), ?_⟩
    refine s_ret (ev_is (ev_andV (a := true) (ev_cb2 (ev_var rfl) ev_c (MB.rc_isiInt (by decide +kernel))) fun _ => ev_andV (a := true) (ev_notV (a := false) (ev_cb2 (ev_var rfl) ev_c (MB.rc_isiInt (by decide +kernel)))) fun _ => MB.ev_chain (ev_var rfl) (ev_var rfl) (ev_var rfl) rv_I0 fun _ => rv_I0) (by simp)) k
/-! ### are_small -/
def sp_are_small (K : PySem.W.Frag) : Sp := fun vs H Q _ => ∃ (p : Addr) (ns : List Nat), vs = [.ref p] ∧ SqT K H p (ns.map iv) ∧ ns.length ≤ 100000 ∧ (∀ n ∈ ns, n < 256) ∧ ∀ H', Ex H H' → Q (.bl true) H'
theorem ok_are_small {f : Addr} {fd : FuncData} (F : Fun K "are_small" "are_small" s_are_small f fd) (T : T0 mg) (c_is_whole : MB.Cl P w K mg base 1 "is_whole" sp_is_whole) : FnOk P w K mg base CX0 2 f fd p_are_small (sp_are_small K) := by
  refine F.ok sc_are_small (fun vs H Q E h => ?_) (fun cdv A outer s H vs Q E hr h => ?_)
  · obtain ⟨p, ns, rfl, _⟩ := h
    rfl
  · obtain ⟨p, ns, rfl, hp, hz, hn, k⟩ := h
    refine ⟨_, (pss_one (ps_ret (pe_and (pe_callB (MB.call_isiK (K := K) rfl) (by rfl) T.n_isinstance MB.bo_isinstance (pa_cons (pv 0) (pa_cons (pe_bltn (v := .ty "tuple") (by rfl) T.n_tuple MB.bo_tuple rfl) pa_nil))) (pe_one (pe_callB (MB.cr_allK (K := K) rfl rfl) (by rfl) T.n_all MB.bo_all (pa_cons (pe_lc (own := [("one", 1)]) (by rfl) sc_are_small.nd (pi_tup (pv 0)) (blkOk_by (own := [("one", 1)]) (N := n_are_small) (sc := defScope s_are_small) (by decide +kernel)) (fun _ _ _ _ _ => (pg_name (i := 1) sc_are_small.nd rfl (.inl rfl))) (fun _ _ _ _ _ => pts_nil) (fun _ _ _ _ _ => (MB.pe_cl c_is_whole hr (by decide) (by rfl) passL (pa_cons (pv 1) (pa_cons pe_int (pa_cons (pe_op op_sub (pe_gc (by rfl) T.g_BASE) pe_int) pa_nil)))))) pa_nil)))))), ?_⟩
    have hall : (ns.map fun _ => true).all id = true := by simp
    refine s_ret (ev_is (ev_andV (a := true) (b := true) (ev_cb2 (ev_var rfl) ev_c (MB.rc_isiTup hp (by decide +kernel))) fun _ => ev_is (MB.ev_allL (bs := ns.map fun _ => true) ?_) (congrArg V.bl hall)) rfl) k
    refine els_new (el_is (el_all (el_lcT (ds := ns) iv (fun _ => true) (fun _ => .bl true) (etp_val (ev_var rfl) hp) (by omega) (fun _ => by rfl) (fun _ _ => ety) fun n hm _ => ?_)) ?_)
    rotate_left
    · rw [List.map_map]
      rfl
    · have := hn n hm
      refine ev_call (ea_cons (ev_var rfl) (ea_cons ev_c (ea_cons (ev_op ev_c ev_c rv_I0) ea_nil))) fun H1 e Q q E => ⟨_, _, _, rfl, fun H2 e2 => ?_⟩
      have e1 : (decide ((0 : Int) ≤ (n : Int)) && decide ((n : Int) ≤ 256 - 1)) = true := by
        rw [Bool.and_eq_true, decide_eq_true_eq, decide_eq_true_eq]
        omega
      rw [e1]
      exact q H2 e2
/-! ### is_file -/
def sp_is_file (K : PySem.W.Frag) : Sp := fun vs H Q _ => ∃ (p : Addr) (ns : List Nat), vs = [.ref p] ∧ SqT K H p (ns.map iv) ∧ ns.length ≤ 4000 ∧ ns.length % 4 = 0 ∧ (∀ n ∈ ns, n < 256) ∧ ∀ H', Ex H H' → Q (.bl true) H'
theorem ok_is_file {f : Addr} {fd : FuncData} (F : Fun K "is_file" "is_file" s_is_file f fd) (T : T0 mg) (c_are_small : MB.Cl P w K mg base 2 "are_small" (sp_are_small K)) : FnOk P w K mg base CX0 3 f fd p_is_file (sp_is_file K) := by
  refine F.ok sc_is_file (fun vs H Q E h => ?_) (fun cdv A outer s H vs Q E hr h => ?_)
  · obtain ⟨p, ns, rfl, _⟩ := h
    rfl
  · obtain ⟨p, ns, rfl, hp, hz, h4, hn, k⟩ := h
    have hu64 := hu64 hr
    refine ⟨_, (pss_one (ps_ret (pe_and (MB.pe_cl c_are_small hr (by decide) (by rfl) passL (pa_cons (pv 0) pa_nil)) (pe_and (pe_cmpR (MB.op_eqK (K := K) rfl hu64) (pe_op op_mod (pe_callB (MB.call_lenK (K := K) rfl) (by rfl) T.n_len MB.bo_len (pa_cons (pv 0) pa_nil)) (pe_gc (by rfl) T.g_WIDE)) pe_int (nomark _)) (pe_one (pe_cmpR op_le (pe_callB (MB.call_lenK (K := K) rfl) (by rfl) T.n_len MB.bo_len (pa_cons (pv 0) pa_nil)) (pe_op (MB.op_mulK (K := K) rfl) (pe_gc (by rfl) T.g_WIDE) (pe_gc (by rfl) T.g_MOST_CELLS)) (nomark _))))))), ?_⟩
    have hl : (ns.map iv).length = ns.length := List.length_map _
    refine s_ret (ev_is (ev_andV (a := true) (b := true) (ev_call (ea_cons (ev_var rfl) ea_nil) fun H1 e Q q E => ⟨p, ns, rfl, ex_t e hp, by omega, hn, q⟩) fun _ => ev_is (ev_andV (a := true) (b := true)
      (ev_is (ev_op (ev_op (ev_cb1 (ev_var rfl) (rc_lenT hp)) ev_c (rv_I (by show (0 : Int) < 4; decide))) ev_c rv_eqI) (congrArg V.bl (decide_eq_true (by rw [hl]; omega)))) fun _ =>
      ev_is (ev_op (ev_cb1 (ev_var rfl) (rc_lenT hp)) (ev_op ev_c ev_c (rv_mulI (.inl (by decide)))) rv_I0) (congrArg V.bl (decide_eq_true (by rw [hl]; omega)))) rfl) rfl) k
/-! ### many_cells -/
def sp_many_cells (K : PySem.W.Frag) : Sp := fun vs H Q _ => ∃ (p : Addr) (ns : List Nat), vs = [.ref p] ∧ SqT K H p (ns.map iv) ∧ ∀ H', Ex H H' → Q (iv (ns.length / 4)) H'
theorem ok_many_cells {f : Addr} {fd : FuncData} (F : Fun K "many_cells" "many_cells" s_many_cells f fd) (T : T0 mg) : FnOk P w K mg base CX0 1 f fd p_many_cells (sp_many_cells K) := by
  refine F.ok sc_many_cells (fun vs H Q E h => ?_) (fun cdv A outer s H vs Q E hr h => ?_)
  · obtain ⟨p, ns, rfl, _⟩ := h
    rfl
  · obtain ⟨p, ns, rfl, hp, k⟩ := h
    refine ⟨_, (pss_one (ps_ret (pe_op op_fdiv (pe_callB (MB.call_lenK (K := K) rfl) (by rfl) T.n_len MB.bo_len (pa_cons (pv 0) pa_nil)) (pe_gc (by rfl) T.g_WIDE)))), ?_⟩
    have hl : (ns.map iv).length = ns.length := List.length_map _
    exact s_ret (ev_is (ev_op (ev_cb1 (ev_var rfl) (rc_lenT hp)) ev_c (rv_I ⟨by decide, by decide⟩)) (by rw [hl]; rfl)) k
/-! ### pair_of -/
def sp_pair_of : Sp := fun vs H Q _ => ∃ n : Nat, vs = [iv n] ∧ n < 256 ∧ ∀ H', Ex H H' → Q (tv (pr n)) H'
theorem hx_at {n : Nat} (h : n < 16) : atI FG (n : Int) = some (hx n) := MB.atI_nat (by
  have : n < FG.length := h
  rw [List.getElem?_eq_getElem this]
  show some FG[n] = some (FG.getD n 0)
  rw [List.getD_eq_getElem?_getD, List.getElem?_eq_getElem this]
  rfl)
theorem ok_pair_of {f : Addr} {fd : FuncData} (F : Fun K "pair_of" "pair_of" s_pair_of f fd) (T : T0 mg) : FnOk P w K mg base CX0 1 f fd p_pair_of sp_pair_of := by
  refine F.ok sc_pair_of (fun vs H Q E h => ?_) (fun cdv A outer s H vs Q E hr h => ?_)
  · obtain ⟨n, rfl, _⟩ := h
    rfl
  · obtain ⟨n, rfl, hn, k⟩ := h
    refine ⟨_, (pss_one (ps_ret (pe_op (MB.op_addK (K := K) rfl) (pe_ix (MB.ix_K (K := K) rfl) (pe_gc (by rfl) T.g_FIGURES) (pe_op op_fdiv (pv 0) pe_int) (fun _ _ => rfl)) (pe_ix (MB.ix_K (K := K) rfl) (pe_gc (by rfl) T.g_FIGURES) (pe_op op_mod (pv 0) pe_int) (fun _ _ => rfl))))), ?_⟩
    rw [fig_S]
    refine s_ret (ev_op (x := tv [hx (n / 16)]) (y := tv [hx (n % 16)]) (ev_op (y := iv (n / 16)) ev_c (ev_op (ev_var rfl) ev_c (rv_I ⟨by decide, by decide⟩)) (rv_xS (by decide) (hx_at (by omega)))) (ev_op (y := iv (n % 16)) ev_c (ev_op (ev_var rfl) ev_c (rv_I (by show (0 : Int) < 16; decide))) (rv_xS (by decide) (hx_at (by omega)))) (rv_addC (by show 2 ≤ 1000000; decide))) k
/-! ### show_cell -/
theorem sIx_nat {n i : Nat} {d : Nat} (h : i ≤ n) : HT.sIx n d (some (i : Int)) = i := by
  rw [HT.sIx_nat]
  omega
def sp_show_cell (K : PySem.W.Frag) : Sp := fun vs H Q _ => ∃ (p : Addr) (ns : List Nat) (c : Nat), vs = [.ref p, iv c] ∧ SqT K H p (ns.map iv) ∧ ns.length ≤ 4000 ∧ (∀ n ∈ ns, n < 256) ∧ 4 * c + 4 ≤ ns.length ∧ ∀ H', Ex H H' → Q (tv (cellT ns c)) H'
theorem ok_show_cell {f : Addr} {fd : FuncData} (F : Fun K "show_cell" "show_cell" s_show_cell f fd) (T : T0 mg) (c_pair_of : MB.Cl P w K mg base 1 "pair_of" sp_pair_of) : FnOk P w K mg base CX0 2 f fd p_show_cell (sp_show_cell K) := by
  refine F.ok sc_show_cell (fun vs H Q E h => ?_) (fun cdv A outer s H vs Q E hr h => ?_)
  · obtain ⟨p, ns, c, rfl, _⟩ := h
    rfl
  · obtain ⟨p, ns, c, rfl, hp, hz, hn, hc, k⟩ := h
    refine ⟨_, (pss_one (ps_ret (MB.pe_joinK (K := K) rfl pe_str (pe_lc (own := [("number", 2)]) (by rfl) sc_show_cell.nd (pi_tup (pe_slice (MB.sl_K (K := K) rfl) (pv 0) (po_some (pe_op (MB.op_mulK (K := K) rfl) (pe_gc (by rfl) T.g_WIDE) (pv 1))) (po_some (pe_op (MB.op_addK (K := K) rfl) (pe_op (MB.op_mulK (K := K) rfl) (pe_gc (by rfl) T.g_WIDE) (pv 1)) (pe_gc (by rfl) T.g_WIDE))))) (blkOk_by (own := [("number", 2)]) (N := n_show_cell) (sc := defScope s_show_cell) (by decide +kernel)) (fun _ _ _ _ _ => (pg_name (i := 2) sc_show_cell.nd rfl (.inl rfl))) (fun _ _ _ _ _ => pts_nil) (fun _ _ _ _ _ => (MB.pe_cl c_pair_of hr (by decide) (by rfl) passL (pa_cons (pv 2) pa_nil))))))), ?_⟩
    have hl : (ns.map iv).length = ns.length := List.length_map _
    have hcut : cutV (ns.map iv) (some (4 * (c : Int))) (some (4 * (c : Int) + 4)) = ((ns.drop (4 * c)).take 4).map iv := by
      have e1 : (4 * (c : Int)) = ((4 * c : Nat) : Int) := by omega
      have e2 : ((4 * c : Nat) : Int) + 4 = ((4 * c + 4 : Nat) : Int) := by omega
      rw [e1, e2, cut_nat, Nat.add_sub_cancel_left]
    refine s_ret (ev_is (ev_join (sep := []) (ys := ((ns.drop (4 * c)).take 4).map pr) ev_c (els_new (el_is (el_all (el_lcT (ds := (ns.drop (4 * c)).take 4) iv (fun _ => true) (fun n => tv (pr n)) ?_ ?_ (fun _ => by rfl) (fun _ _ => ety) fun n hm _ => ?_)) ?_)) ?_) rfl) k
    · rw [← hcut]
      exact etp_sl (etp_val (ev_var rfl) hp) (eo_some (ev_op ev_c (ev_var rfl) (rv_mulI (.inl (by decide))))) (eo_some (ev_op (ev_op ev_c (ev_var rfl) (rv_mulI (.inl (by decide)))) ev_c rv_addI))
    · rw [List.length_take]
      omega
    · exact ev_call (ea_cons (ev_var rfl) ea_nil) fun H1 e Q q E => ⟨n, rfl, hn n (List.mem_of_mem_drop (List.mem_of_mem_take hm)), q⟩
    · rw [List.map_map]
      rfl
    · have h2 : ∀ l : List Nat, ((l.map pr).map (·.length)).sum = 2 * l.length := by
        intro l
        induction l with
        | nil => rfl
        | cons a l ih => rw [List.map_cons, List.map_cons, List.sum_cons, ih, List.length_cons]; show 2 + _ = _; omega
      rw [h2, List.length_map, List.length_take]
      show _ + _ * 0 ≤ _
      omega
/-! ### show_file -/
theorem cellT_le (ns : List Nat) (c : Nat) : (cellT ns c).length ≤ 8 := by
  have h := joinL_le (sep := []) (l := ((ns.drop (4 * c)).take 4).map pr) (b := 2) (c := 0) (fun x hx => by
    rw [List.mem_map] at hx
    obtain ⟨n, _, rfl⟩ := hx
    exact Nat.le_refl 2) (Nat.le_refl 0)
  rw [List.length_map, List.length_take] at h
  exact Nat.le_trans h (by omega)
theorem cells_le {ns : List Nat} {c : List Nat} (h : c ∈ cells ns) : c.length ≤ 8 := by
  unfold cells at h
  rw [List.mem_map] at h
  obtain ⟨n, _, rfl⟩ := h
  exact cellT_le ns n
theorem lineB_le {cs : List (List Nat)} (h : ∀ c ∈ cs, c.length ≤ 8) (k : Nat) : (TL.joinL [32] ((cs.drop (8 * k)).take 8)).length ≤ 72 := by
  have := joinL_le (sep := [32]) (l := (cs.drop (8 * k)).take 8) (b := 8) (c := 1) (fun x hx => h x (List.mem_of_mem_drop (List.mem_of_mem_take hx))) (Nat.le_refl 1)
  have h2 : ((cs.drop (8 * k)).take 8).length ≤ 8 := by rw [List.length_take]; omega
  have h3 : ((cs.drop (8 * k)).take 8).length * (8 + 1) ≤ 8 * 9 := Nat.mul_le_mul_right _ h2
  omega
theorem rg8s (m : Nat) : Builtin.Range.rangeSize 0 (m : Int) 8 = (((m + 7) / 8 : Nat) : Int) := by
  unfold Builtin.Range.rangeSize
  by_cases h : 0 < m
  · rw [if_pos (by decide), if_pos (by omega)]
    omega
  · rw [if_pos (by decide), if_neg (by omega)]
    omega
theorem rg8 (m : Nat) (hm : m ≤ 100000) : RgC 0 (m : Int) 8 ((m + 7) / 8) := by
  refine ⟨by decide, by decide, ?_, rg8s m⟩
  have fits : ∀ i : Int, -1000000 ≤ i → i ≤ 1000000 → Builtin.Range.rangeFitsLong i = true := fun i h1 h2 => by
    unfold Builtin.Range.rangeFitsLong
    rw [Bool.and_eq_true, decide_eq_true_eq, decide_eq_true_eq]
    omega
  unfold Builtin.Range.small
  rw [rg8s, if_pos (by decide), fits 0 (by omega) (by omega), fits m (by omega) (by omega), fits 8 (by omega) (by omega), fits _ (by omega) (by omega), fits _ (by omega) (by omega), Bool.or_true]
  rfl
def sp_show_file (K : PySem.W.Frag) : Sp := fun vs H Q _ => ∃ (p : Addr) (ns : List Nat), vs = [.ref p] ∧ SqT K H p (ns.map iv) ∧ ns.length ≤ 4000 ∧ (∀ n ∈ ns, n < 256) ∧ ∀ H', Ex H H' → Q (tv (showF ns)) H'
theorem ok_show_file {f : Addr} {fd : FuncData} (F : Fun K "show_file" "show_file" s_show_file f fd) (T : T0 mg) (c_many_cells : MB.Cl P w K mg base 1 "many_cells" (sp_many_cells K)) (c_show_cell : MB.Cl P w K mg base 2 "show_cell" (sp_show_cell K)) : FnOk P w K mg base CX0 3 f fd p_show_file (sp_show_file K) := by
  refine F.ok sc_show_file (fun vs H Q E h => ?_) (fun cdv A outer s H vs Q E hr h => ?_)
  · obtain ⟨p, ns, rfl, _⟩ := h
    rfl
  · obtain ⟨p, ns, rfl, hp, hz, hn, k⟩ := h
    refine ⟨_, (pss_cons (ps_set (i := 1) sc_show_file.nd rfl (Or.inr rfl) (pe_lc (own := [("cell", 2)]) (by rfl) sc_show_file.nd (pi_range1 (by rfl) T.n_range (pa_cons (MB.pe_cl c_many_cells hr (by decide) (by rfl) passL (pa_cons (pv 0) pa_nil)) pa_nil)) (blkOk_by (own := [("cell", 2)]) (N := n_show_file) (sc := defScope s_show_file) (by decide +kernel)) (fun _ _ _ _ _ => (pg_name (i := 2) sc_show_file.nd rfl (.inl rfl))) (fun _ _ _ _ _ => pts_nil) (fun _ _ _ _ _ => (MB.pe_cl c_show_cell hr (by decide) (by rfl) passL (pa_cons (pv 0) (pa_cons (pv 2) pa_nil))))))
      (pss_one (ps_ret (MB.pe_joinK (K := K) rfl pe_str (pe_lc (own := [("at", 3)]) (by rfl) sc_show_file.nd (pi_range3 (by rfl) T.n_range (pa_cons pe_int (pa_cons (pe_callB (MB.call_lenK (K := K) rfl) (by rfl) T.n_len MB.bo_len (pa_cons (pv 1) pa_nil)) (pa_cons (pe_gc (by rfl) T.g_IN_LINE) pa_nil)))) (blkOk_by (own := [("at", 3)]) (N := n_show_file) (sc := defScope s_show_file) (by decide +kernel)) (fun _ _ _ _ _ => (pg_name (i := 3) sc_show_file.nd rfl (.inl rfl))) (fun _ _ _ _ _ => pts_nil) (fun _ _ _ _ _ => (pe_op (MB.op_addK (K := K) rfl) (MB.pe_joinK (K := K) rfl pe_str (pe_slice (MB.sl_K (K := K) rfl) (pv 1) (po_some (pv 3)) (po_some (pe_op (MB.op_addK (K := K) rfl) (pv 3) (pe_gc (by rfl) T.g_IN_LINE))))) pe_str))))))), ?_⟩
    have hcl : (cells ns).length = ns.length / 4 := by unfold cells; rw [List.length_map, List.length_range]
    refine q_asgL (el_is (el_all (el_lcR (n := ((ns.length / 4 : Nat) : Int)) (fun _ => true) (fun c => tv (cellT ns c)) (ea_cons (ev_call (ea_cons (ev_var rfl) ea_nil) fun H1 e Q q E => ⟨p, ns, rfl, ex_t e hp, q⟩) ea_nil) (by omega) (fun _ => by rfl) (fun _ _ => ety) fun c hc _ =>
      ev_call (ea_cons (ev_var rfl) (ea_cons (ev_var rfl) ea_nil)) fun H1 e Q q E => ⟨p, ns, c, rfl, ex_t e hp, hz, hn, by omega, q⟩)) (ys := (cells ns).map tv) (by unfold cells; rw [Int.toNat_natCast, List.map_map]; rfl)) fun l H1 hl0 e1 hl => ?_
    have hll : ((cells ns).map tv).length = (cells ns).length := List.length_map _
    refine s_ret (ev_is (ev_join (sep := []) (ys := (List.range (((cells ns).length + 7) / 8)).map (lineT (cells ns))) ev_c (els_new (el_is (el_all (el_lcC (m := ((cells ns).length : Int)) (c := 8) (fun _ => true) (fun k => tv (lineT (cells ns) k))
      (ea_cons ev_c (ea_cons (ev_is (ev_cb1 (ev_var rfl) (rc_lenL (sq_of hl))) (by rw [hll])) (ea_cons ev_c ea_nil))) (rg8 _ (by omega)) (by omega) (fun _ => by rfl) (fun _ _ => ety) fun d hd _ => ?_)) ?_)) ?_) rfl) fun H2 e2 => k H2 (e1.trans e2)
    · have hcut : cutV ((cells ns).map tv) (some ((d : Int) * 8)) (some ((d : Int) * 8 + 8)) = (((cells ns).drop (8 * d)).take 8).map tv := by
        have e1 : ((d : Int) * 8) = ((8 * d : Nat) : Int) := by omega
        have e2 : ((8 * d : Nat) : Int) + 8 = ((8 * d + 8 : Nat) : Int) := by omega
        rw [e1, e2, cut_nat, Nat.add_sub_cancel_left]
      refine ev_op (y := tv [10]) (ev_join (sep := [32]) (ys := ((cells ns).drop (8 * d)).take 8) ev_c (els_new (el_is (els_sl (els_val (ev_var rfl) (sq_of hl)) (eo_some (ev_var rfl)) (eo_some (ev_op (ev_var rfl) ev_c rv_addI))) hcut)) ?_) ev_c (rv_addC ?_)
      · have := sum_le (b := 8) (l := ((cells ns).drop (8 * d)).take 8) fun x hx => cells_le (List.mem_of_mem_drop (List.mem_of_mem_take hx))
        have h2 : (((cells ns).drop (8 * d)).take 8).length ≤ 8 := by rw [List.length_take]; omega
        show _ + _ * 1 ≤ _
        omega
      · have := lineB_le (cs := cells ns) (fun c hc => cells_le hc) d
        show _ + 1 ≤ _
        omega
    · rw [List.map_map]
      rfl
    · have := sum_le (b := 73) (l := (List.range (((cells ns).length + 7) / 8)).map (lineT (cells ns))) fun x hx => by
        rw [List.mem_map] at hx
        obtain ⟨d, _, rfl⟩ := hx
        have := lineB_le (cs := cells ns) (fun c hc => cells_le hc) d
        unfold lineT
        rw [List.length_append]
        show _ + 1 ≤ _
        omega
      rw [List.length_map, List.length_range] at *
      show _ + _ * 0 ≤ _
      omega
/-! ### is_cell_text -/
def sp_is_cell_text : Sp := fun vs H Q _ => ∃ w : List Nat, vs = [tv w] ∧ w.length ≤ 100000 ∧ ∀ H', Ex H H' → Q (.bl (good w)) H'
theorem ok_is_cell_text {f : Addr} {fd : FuncData} (F : Fun K "is_cell_text" "is_cell_text" s_is_cell_text f fd) (T : T0 mg) : FnOk P w K mg base CX0 1 f fd p_is_cell_text sp_is_cell_text := by
  refine F.ok sc_is_cell_text (fun vs H Q E h => ?_) (fun cdv A outer s H vs Q E hr h => ?_)
  · obtain ⟨p, rfl, _⟩ := h
    rfl
  · obtain ⟨w, rfl, hw, k⟩ := h
    have hu64 := hu64 hr
    refine ⟨_, (pss_one (ps_ret (pe_and (pe_cmpR (MB.op_eqK (K := K) rfl hu64) (pe_callB (MB.call_lenK (K := K) rfl) (by rfl) T.n_len MB.bo_len (pa_cons (pv 0) pa_nil)) (pe_op (MB.op_mulK (K := K) rfl) pe_int (pe_gc (by rfl) T.g_WIDE)) (nomark _)) (pe_one (pe_callB (MB.cr_allK (K := K) rfl rfl) (by rfl) T.n_all MB.bo_all (pa_cons (pe_lc (own := [("sign", 1)]) (by rfl) sc_is_cell_text.nd (pi_str (pv 0)) (blkOk_by (own := [("sign", 1)]) (N := n_is_cell_text) (sc := defScope s_is_cell_text) (by decide +kernel)) (fun _ _ _ _ _ => (pg_name (i := 1) sc_is_cell_text.nd rfl (.inl rfl))) (fun _ _ _ _ _ => pts_nil) (fun _ _ _ _ _ => (pe_cmpR (MB.op_inK (K := K) rfl) (pv 1) (pe_gc (by rfl) T.g_FIGURES) rfl))) pa_nil)))))), ?_⟩
    refine s_ret (ev_is (ev_andV (a := decide (w.length = 8)) (b := w.all fun c => decide (c ∈ FG)) (ev_is (ev_op (ev_cb1 (ev_var rfl) (rc_lenS (by omega))) (ev_op ev_c ev_c (rv_mulI (.inl (by decide)))) rv_eqI) ?_) fun _ =>
      ev_is (ev_allL (bs := w.map fun c => decide (c ∈ FG)) (els_new (el_is (el_all (el_lcS (w := w) (fun _ => true) (fun c => .bl (decide (c ∈ FG))) (ev_var rfl) (by omega) (fun _ => by rfl) (fun _ _ => ety) fun c hc _ => ?_)) ?_))) ?_) rfl) k
    · congr 1
      have : ((w.length : Int) = 2 * 4) ↔ w.length = 8 := by omega
      simp only [this]
    · refine ev_op (ev_var rfl) ev_c fun H1 _ _ q => .inl ⟨c, Str.ofString "0123456789abcdef", rfl, rfl, ?_⟩
      rw [fig_S]
      exact q H1 (Ex.refl H1)
    · rw [List.map_map]
      rfl
    · congr 1
      rw [List.all_map]
      rfl
/-! ### numbers_of -/
theorem occ_at : ∀ c ∈ FG, ∃ rest, Builtin.Str.occurrences (SX.S FG) (SX.S [c]) 0 (SX.S FG).length 1 = vl c :: rest := by
  intro c hc
  simp only [FG, List.mem_cons, List.not_mem_nil, or_false] at hc
  rcases hc with rfl | rfl | rfl | rfl | rfl | rfl | rfl | rfl | rfl | rfl | rfl | rfl | rfl | rfl | rfl | rfl <;> exact ⟨[], by decide +kernel⟩
def sp_numbers_of : Sp := fun vs H Q _ => ∃ w : List Nat, vs = [tv w] ∧ good w = true ∧ ∀ p H', H p = none → Ex H H' → H' p = some (.lst ((nums w).map iv)) → Q (.ref p) H'
theorem good_at {w : List Nat} (h : good w = true) {i : Nat} (hi : i < 8) : w[i]? = some (w.getD i 0) ∧ w.getD i 0 ∈ FG := by
  unfold good at h
  rw [Bool.and_eq_true, decide_eq_true_eq, List.all_eq_true] at h
  have hlt : i < w.length := by omega
  rw [List.getD_eq_getElem?_getD, List.getElem?_eq_getElem hlt]
  exact ⟨rfl, of_decide_eq_true (h.2 _ (List.getElem_mem hlt))⟩
theorem ok_numbers_of {f : Addr} {fd : FuncData} (F : Fun K "numbers_of" "numbers_of" s_numbers_of f fd) (T : T0 mg) : FnOk P w K mg base CX0 1 f fd p_numbers_of sp_numbers_of := by
  refine F.ok sc_numbers_of (fun vs H Q E h => ?_) (fun cdv A outer s H vs Q E hr h => ?_)
  · obtain ⟨p, rfl, _⟩ := h
    rfl
  · obtain ⟨w, rfl, hg, k⟩ := h
    refine ⟨_, (pss_one (ps_ret (pe_lc (own := [("at", 1)]) (by rfl) sc_numbers_of.nd (pi_range3 (by rfl) T.n_range (pa_cons pe_int (pa_cons (pe_op (MB.op_mulK (K := K) rfl) pe_int (pe_gc (by rfl) T.g_WIDE)) (pa_cons pe_int pa_nil)))) (blkOk_by (own := [("at", 1)]) (N := n_numbers_of) (sc := defScope s_numbers_of) (by decide +kernel)) (fun _ _ _ _ _ => (pg_name (i := 1) sc_numbers_of.nd rfl (.inl rfl))) (fun _ _ _ _ _ => pts_nil) (fun _ _ _ _ _ => (pe_op (MB.op_addK (K := K) rfl) (pe_op (MB.op_mulK (K := K) rfl) pe_int (pe_m1 PySem.F.slot_str_index PySem.F.type_str_index mt_sindex (pe_gc (by rfl) T.g_FIGURES) (pe_ix (MB.ix_K (K := K) rfl) (pv 0) (pv 1) (fun _ _ => rfl)))) (pe_m1 PySem.F.slot_str_index PySem.F.type_str_index mt_sindex (pe_gc (by rfl) T.g_FIGURES) (pe_ix (MB.ix_K (K := K) rfl) (pv 0) (pe_op (MB.op_addK (K := K) rfl) (pv 1) pe_int) (fun _ _ => rfl)))))))), ?_⟩
    have hw : w.length ≤ 1000000 := by
      unfold good at hg
      rw [Bool.and_eq_true, decide_eq_true_eq] at hg
      omega
    rw [fig_S]
    have one : ∀ {σ : L2.St} {H : Hp} {te : TE} {i : Nat}, i < 8 → Ev te σ H (.str (SX.S [w.getD i 0])) → Ev (tM1 (fun x xs H Q => ∃ a b i rest, x = .str a ∧ xs = [.str b] ∧ Builtin.Str.occurrences a b 0 a.length 1 = i :: rest ∧ Q (.int (i : Nat)) H) (tC (.str (SX.S FG))) te) σ H (iv (vl (w.getD i 0))) := fun hi h => fun H1 e Q q =>
      ⟨⟨_, rfl⟩, h H1 e _ fun H2 e2 => by
        obtain ⟨rest, ho⟩ := occ_at _ (good_at hg hi).2
        exact ⟨_, _, _, rest, rfl, rfl, ho, q H2 e2⟩⟩
    refine s_retL (el_is (el_all (el_lcC (m := 2 * 4) (c := 2) (n := 4) (fun _ => true) (fun k => iv (16 * vl (w.getD (2 * k) 0) + vl (w.getD (2 * k + 1) 0))) (ea_cons ev_c (ea_cons (ev_op ev_c ev_c (rv_mulI (.inl (by decide)))) (ea_cons ev_c ea_nil))) ⟨by decide, by decide, by decide +kernel, by decide +kernel⟩ (by decide) (fun _ => by rfl) (fun _ _ => ety) fun d hd _ => ?_)) (ys := (nums w).map iv) ?_) k
    · have e1 : (d : Int) * 2 = ((2 * d : Nat) : Int) := by omega
      have e2 : (d : Int) * 2 + 1 = ((2 * d + 1 : Nat) : Int) := by omega
      refine ev_is (ev_op (x := .int (16 * (vl (w.getD (2 * d) 0) : Int))) (ev_op ev_c (one (i := 2 * d) (by omega) (ev_op (ev_var rfl) (ev_var rfl) (rv_xS hw ?_))) (rv_mulI (.inl (by decide)))) (one (i := 2 * d + 1) (by omega) (ev_op (ev_var rfl) (ev_op (ev_var rfl) ev_c rv_addI) (rv_xS hw ?_))) rv_addI) ?_
      · rw [e1]
        exact MB.atI_nat (good_at hg (by omega)).1
      · rw [e2]
        exact MB.atI_nat (good_at hg (by omega)).1
      · show V.int _ = V.int _
        congr 1
    · unfold nums
      rw [List.map_map]
      rfl
end
end K85
set_option maxRecDepth 100000
set_option maxHeartbeats 1000000
namespace K85
open PySem PySem.Spec PyProof.Rows L2 Evl MB
/-! ### reading: the plain form -/
def bad1 (ws : List (List Nat)) : Bool := !(ws.all good) || decide (8 < ws.length)
def bad2 (f n : Nat) (ws : List (List Nat)) : Bool := decide (f < 32 * n) || decide (4000 < f + 4 * ws.length)
def readRows : Nat → List (List Nat) → List Nat → Except Nat (List Nat)
  | _, [], f => .ok f
  | n, l :: r, f => if bad1 (TL.spl [32] 0 [] l) = true then .error n else if bad2 f.length n (TL.spl [32] 0 [] l) = true then .error n else readRows (n + 1) r (f ++ (TL.spl [32] 0 [] l).flatMap nums)
def lns (t : List Nat) : List (List Nat) := TL.spl [10] 0 [] t
def readF (t : List Nat) : Except Nat (List Nat) :=
  match readRows 0 (lns t).dropLast [] with
  | .error k => .error k
  | .ok f => if (lns t).getLast?.getD [] = [] then .ok f else .error ((lns t).length - 1)
/-! ### NoText -/
def s_NoText_init : Stmt := match top 25 with
  | .ClassDef (body := b) .. => b.getD 0 (.Pass ⟨0, 0, 0, 0⟩)
  | s => s
theorem sc_NoText_init : FnScope ["self", "line"] ["self", "line"] (defScope s_NoText_init) := ⟨rfl, rfl, rfl, by decide +kernel, rfl, by decide +kernel, by decide +kernel⟩
def sp_nt (K : PySem.W.Frag) (C : Addr) : Sp := fun vs H Q _ => ∃ a v, vs = [.ref a, v] ∧ H a = some (exo a C none) ∧ ∀ d H', H d = none → d ≠ a → H' a = some (exo a C (some d)) → H' d = some (exd d [("line", v)]) → (∀ b o, H b = some o → b ≠ a → H' b = some o) → Q .non H'
section
variable {P : Program} {w : World} {K : PySem.W.Frag} {mg : Str → Option Value} {base : Heap}
/-- what is asked of the classes NoText and TornError -/
structure NT0 (K : PySem.W.Frag) (mg : Str → Option Value) (C B : Addr) (mc : Value) : Prop where
  ox : OexC K C
  gC : mg "NoText" = some (.ref C)
  gB : mg "TornError" = some (.ref B)
  rB : ClX.CRead K B mc
  vB : PySem.W.findCls K (.ref B) mc "__init__" = some (.val (.builtin "ValueError.__init__"))
  nf : PySem.W.findIn K (.ref C) "line" = some none
theorem ok_nt {C B : Addr} {mc : Value} {f : Addr} {fd : FuncData} (F : Fun K "__init__" "NoText.__init__" s_NoText_init f fd) (N : NT0 K mg C B mc) : FnOk P w K mg base CX0 1 f fd ["self", "line"] (sp_nt K C) := by
  refine F.ok sc_NoText_init (fun vs H Q E h => ?_) (fun cdv A outer s H vs Q E hr h => ?_)
  · obtain ⟨a, v, rfl, _⟩ := h
    rfl
  · obtain ⟨a, v, rfl, ha, k⟩ := h
    refine ⟨_, pss_cons (ps_expr (pe_oinit (by rfl) N.gB N.rB N.vB (pa_cons (pv 0) (pa_cons pe_str pa_nil)))) (pss_one (ps_ost (pv 0) (pv 1))), ?_⟩
    refine ⟨_, rfl, a, C, _, rfl, by show 1 ≤ 1000; decide, N.ox, ha, ?_⟩
    refine ⟨_, rfl, _, rfl, a, C, rfl, N.ox, N.nf, .inl ⟨ha, fun d hd hne => ?_⟩⟩
    refine k d _ hd hne upd_same ?_ fun b o hb hba => ?_
    · rw [upd_ne hne, upd_same]
    · rw [upd_ne hba, upd_ne (ne_of_none hb hd)]
      exact hb
structure NT (P : Program) (w : World) (K : PySem.W.Frag) (mg : Str → Option Value) (base : Heap) (C : Addr) : Prop where
  ox : OexC K C
  gC : mg "NoText" = some (.ref C)
  ini : ∃ (fI : Addr) (fd : FuncData), FnOk P w K mg base (L2.CX P w) 1 fI fd ["self", "line"] (sp_nt K C) ∧ PySem.W.findIn K (.ref C) "__init__" = some (some (.ref fI)) ∧ PySem.W.typeIn K (.ref fI) = some (.type "function") ∧ Binds K fd ["self", "line"] []
theorem pmk_NoText {X : Cx} {C : Addr} {j : Nat} {e : Expr} {es : List Expr} {ta : TA} {p pos : Pos} (N : NT X.prog X.w X.K X.mg X.base C) (hr : Room j X.A) (hj : 2 ≤ j) (hg : Gl X "NoText") (ha : PA X (e :: es) ta)
    (he : starEach (e :: es) X.env = (false, eval e X.env) :: starEach es X.env := by rfl) (hpl : (backTo pos (starEach es X.env)).any (·.1) = false := by rfl) :
    PMk X (.Call (.Name "NoText" p) (e :: es) [] pos) (tMkO C (sp_nt X.K C) [] ta) := by
  obtain ⟨fI, fd, F, iC, tI, hb⟩ := N.ini
  exact pmk_oex N.ox iC tI F (hr.mono hj) hb .nil passL hg N.gC ha (by decide) he hpl
theorem mk_nt {C : Addr} {σ : L2.St} {H : Hp} {ta : TA} {v : V} {W : XK} (h : EvA ta σ H [v]) (k : ∀ d H', Ex H H' → H d = none → H' d = some (.xd [("line", v)]) → W (.ref C) (some d) H') : tMkO C (sp_nt K C) [] ta σ H W :=
  h H (Ex.refl H) _ fun H1 e1 => ⟨by show 1 ≤ 1000; decide, fun a ha => ⟨a, v, rfl, upd_same, fun d H2 hd hne h1 h2 hk => ⟨rfl, d, _, h1, h2, by
    rw [upd_ne hne] at hd
    exact hd, by
    rw [upd_ne hne] at hd
    refine k d _ (fun b o hb => ?_) (fresh_back e1 hd) upd_same
    have hb1 := e1 b o hb
    have hba := ne_of_none hb1 ha
    rw [upd_ne (ne_of_none hb1 hd), del_ne hba]
    exact hk b o (by rw [upd_ne hba]; exact hb1) hba⟩⟩⟩
theorem nums_len (w : List Nat) : (nums w).length = 4 := by unfold nums; rw [List.length_map, List.length_range]
theorem flat_len : ∀ ws : List (List Nat), (ws.flatMap nums).length = 4 * ws.length
  | [] => rfl
  | w :: r => by rw [List.flatMap_cons, List.length_append, nums_len, flat_len r, List.length_cons]; omega
/-! ### read_file -/
def NotStr (K : PySem.W.Frag) (H : Hp) (v : V) : Prop := ∀ H', Ex H H' → ∃ a, TyX K H' v (.type a) ∧ kitB a "str" = some false
def rdK (C : Addr) (r : Except Nat (List Nat)) (H : Hp) (Q : VK) (E : XK) : Prop :=
  match r with
  | .ok ns => ∀ p H', Ex H H' → H p = none → H' p = some (.tup (ns.map iv)) → Q (.ref p) H'
  | .error k => ∀ d H', Ex H H' → H d = none → H' d = some (.xd [("line", iv k)]) → E (.ref C) (some d) H'
def sp_read_file (K : PySem.W.Frag) (C : Addr) : Sp := fun vs H Q E => (∃ t, vs = [tv t] ∧ t.length ≤ 100000 ∧ rdK C (readF t) H Q E) ∨ (∃ v, vs = [v] ∧ NotStr K H v ∧ ∀ d H', Ex H H' → H d = none → H' d = some (.xd [("line", .non)]) → E (.ref C) (some d) H')
theorem ok_read_file {C : Addr} {f : Addr} {fd : FuncData} (F : Fun K "read_file" "read_file" s_read_file f fd) (T : T0 mg) (N_NoText : NT P w K mg base C) (c_is_cell_text : MB.Cl P w K mg base 1 "is_cell_text" sp_is_cell_text) (c_numbers_of : MB.Cl P w K mg base 1 "numbers_of" sp_numbers_of) : FnOk P w K mg base (L2.CX P w) 3 f fd p_read_file (sp_read_file K C) := by
  refine F.okX sc_read_file (fun vs H Q E h => ?_) (fun cdv A outer s H vs Q E hr h => ?_)
  · rcases h with ⟨t, rfl, _⟩ | ⟨v, rfl, _⟩ <;> rfl
  · have hu64 := hu64 hr
    refine ⟨_, (pss_cons (ps_if (pt_not (pt_val (pe_callB (MB.call_isiK (K := K) rfl) (by rfl) T.n_isinstance MB.bo_isinstance (pa_cons (pv 0) (pa_cons (pe_bltn (v := .ty "str") (by rfl) T.n_str MB.bo_str rfl) pa_nil))))) (pss_one (ps_raise rfl (takes_of rfl rfl rfl rfl) (pmk_NoText N_NoText hr (by decide) (by rfl) (pa_cons pe_non pa_nil)))) pss_nil)
      (pss_cons (ps_asg (pe_split (pv 0) pe_str) (MB.pg_star (n := 2) (i := 0) rfl (MB.pgs_star (pg_name (i := 1) sc_read_file.nd rfl (.inl rfl)) (pgs_cons (pg_name (i := 2) sc_read_file.nd rfl (.inl rfl)) pgs_nil))))
      (pss_cons (ps_set (i := 3) sc_read_file.nd rfl (Or.inl rfl) (pe_lst pa_nil))
      (pss_cons (ps_for (passes_of rfl) rfl (pi_enum (by rfl) T.n_enumerate (pa_cons (pv 1) pa_nil)) (pg_tup rfl (pgs_cons (pg_name (i := 4) sc_read_file.nd rfl (.inl rfl)) (pgs_cons (pg_name (i := 5) sc_read_file.nd rfl (.inl rfl)) pgs_nil)))
      (pss_cons (ps_set (i := 6) sc_read_file.nd rfl (Or.inl rfl) (pe_split (pv 5) pe_str))
      (pss_cons (ps_if (PW.pt (pw_or (pt_not (pt_val (pe_callB (MB.cr_allK (K := K) rfl rfl) (by rfl) T.n_all MB.bo_all (pa_cons (pe_lc (own := [("word", 7)]) (by rfl) sc_read_file.nd (pi_list (pv 6)) (blkOk_by (own := [("word", 7)]) (N := n_read_file) (sc := defScope s_read_file) (by decide +kernel)) (fun _ _ _ _ _ => (pg_name (i := 7) sc_read_file.nd rfl (.inl rfl))) (fun _ _ _ _ _ => pts_nil) (fun _ _ _ _ _ => (MB.pe_cl c_is_cell_text hr (by decide) (by rfl) passL (pa_cons (pv 7) pa_nil)))) pa_nil)))) (pw_or1 (pt_cmpR op_gt (pe_callB (MB.call_lenK (K := K) rfl) (by rfl) T.n_len MB.bo_len (pa_cons (pv 6) pa_nil)) (pe_gc (by rfl) T.g_IN_LINE) (nomark _))))) (pss_one (ps_raise rfl (takes_of rfl rfl rfl rfl) (pmk_NoText N_NoText hr (by decide) (by rfl) (pa_cons (pv 4) pa_nil)))) pss_nil)
      (pss_cons (ps_if (PW.pt (pw_or (pt_cmpR op_lt (pe_callB (MB.call_lenK (K := K) rfl) (by rfl) T.n_len MB.bo_len (pa_cons (pv 3) pa_nil)) (pe_op (MB.op_mulK (K := K) rfl) (pe_op (MB.op_mulK (K := K) rfl) (pe_gc (by rfl) T.g_WIDE) (pe_gc (by rfl) T.g_IN_LINE)) (pv 4)) (nomark _)) (pw_or1 (pt_cmpR op_gt (pe_op (MB.op_addK (K := K) rfl) (pe_callB (MB.call_lenK (K := K) rfl) (by rfl) T.n_len MB.bo_len (pa_cons (pv 3) pa_nil)) (pe_op (MB.op_mulK (K := K) rfl) (pe_gc (by rfl) T.g_WIDE) (pe_callB (MB.call_lenK (K := K) rfl) (by rfl) T.n_len MB.bo_len (pa_cons (pv 6) pa_nil)))) (pe_op (MB.op_mulK (K := K) rfl) (pe_gc (by rfl) T.g_WIDE) (pe_gc (by rfl) T.g_MOST_CELLS)) (nomark _))))) (pss_one (ps_raise rfl (takes_of rfl rfl rfl rfl) (pmk_NoText N_NoText hr (by decide) (by rfl) (pa_cons (pv 4) pa_nil)))) pss_nil)
      (pss_one (ps_for (passes_of rfl) rfl (pi_list (pv 6)) (pg_name (i := 7) sc_read_file.nd rfl (.inl rfl))
      (pss_one (ps_expr (pe_bm PySem.F.plainAttrs_list PySem.F.slot_list_extend PySem.F.type_list_extend mt_extend (pv 3) (pa_cons (MB.pe_cl c_numbers_of hr (by decide) (by rfl) passL (pa_cons (pv 7) pa_nil)) pa_nil))))))))))
      (pss_cons (ps_if (pt_cmpR (MB.op_neK (K := K) rfl hu64) (pv 2) pe_str (nomark _)) (pss_one (ps_raise rfl (takes_of rfl rfl rfl rfl) (pmk_NoText N_NoText hr (by decide) (by rfl) (pa_cons (pe_callB (MB.call_lenK (K := K) rfl) (by rfl) T.n_len MB.bo_len (pa_cons (pv 1) pa_nil)) pa_nil)))) pss_nil)
      (pss_one (ps_ret (pe_callTy call_tuple_of (by rfl) T.n_tuple MB.bo_tuple (pa_cons (pv 3) pa_nil))))))))), ?_⟩
    rcases h with ⟨t, rfl, ht, k⟩ | ⟨v, rfl, hv, k⟩
    · refine q_ifN (b := false) (et_not (a := true) (et_B (ev_cb2 (ev_var rfl) ev_c (rc_isiStr (by decide +kernel))))) (fun z => nomatch z) fun _ H1 e1 => ?_
      refine (el_split (w := t) (sep := [10]) (H := H1) (ev_var rfl) ev_c (by decide) (by decide) (by omega)) H1 (Ex.refl H1) _ fun pl0 H2 hn0 e2 h2 => ?_
      have hL : (TL.spl [10] 0 [] t).length ≤ 100001 := Nat.le_trans (spl_length _ _ _ _) (by omega)
      have hm1 : ∀ l ∈ TL.spl [10] 0 [] t, l.length ≤ 100000 := fun l h => by have := spl_mem _ _ _ _ _ h; rw [List.length_nil] at this; omega
      have hne := spl_ne [10] t 0 []
      change rdK C (match readRows 0 (TL.spl [10] 0 [] t).dropLast [] with
        | .error k => .error k
        | .ok f => if (TL.spl [10] 0 [] t).getLast?.getD [] = [] then .ok f else .error ((TL.spl [10] 0 [] t).length - 1)) H Q E at k
      generalize TL.spl [10] 0 [] t = L at k h2 hL hm1 hne
      have hpos : 0 < L.length := List.length_pos_iff.mpr hne
      have hml : (L.map fun w => V.str (SX.S w)).length = L.length := List.length_map _
      refine ⟨pl0, _, rfl, sq_of h2, by decide, by rw [hml]; omega, fun pl hpl => ?_⟩
      have eL : List.take (List.length (L.map fun w => V.str (SX.S w)) + 1 - 2) (List.drop 0 (L.map fun w => V.str (SX.S w))) = L.dropLast.map tv := by
        rw [hml, List.drop_zero, ← List.map_take, List.dropLast_eq_take]
        rfl
      have eR : List.take 0 (L.map fun w => V.str (SX.S w)) ++ [V.ref pl] ++ List.drop (List.length (L.map fun w => V.str (SX.S w)) + 1 - 2) (List.drop 0 (L.map fun w => V.str (SX.S w))) = [V.ref pl, tv (L.getLast?.getD [])] := by
        rw [hml, List.drop_zero, ← List.map_drop, show L.length + 1 - 2 = L.length - 1 by omega, drop_last hne, List.getLast?_eq_some_getLast hne]
        rfl
      rw [eL]
      refine ⟨_, _, eR, _, _, rfl, rfl, ?_⟩
      have e3 : Ex H1 (upd H2 pl (.lst (L.dropLast.map tv))) := e2.trans (Ex.new hpl)
      have h3 : upd H2 pl (.lst (L.dropLast.map tv)) pl = some (.lst (L.dropLast.map tv)) := upd_same
      revert e3 h3
      generalize upd H2 pl (.lst (L.dropLast.map tv)) = H3
      intro e3 h3
      refine q_asgL (el_lst ea_nil (by decide)) fun l H4 hl0 e4 h4 => ?_
      have hlines : ∀ w ∈ L.dropLast, w.length ≤ 100000 := fun w h => hm1 w (List.mem_of_mem_take (List.dropLast_eq_take ▸ h))
      have hll : (L.dropLast.map tv).length = L.dropLast.length := List.length_map _
      have hdl : L.dropLast.length = L.length - 1 := List.length_dropLast
      have hex0 : Ex H H3 := e1.trans e3
      have hlH : H l = none := fresh_back hex0 hl0
      refine ⟨_, rfl, pl, _, rfl, sq_of (e4 _ _ h3), for_enumL (xs := L.dropLast.map tv) (fun i σ' H' => ∃ a b c d f, σ' = [some (tv t), some (.ref pl), some (tv (L.getLast?.getD [])), some (.ref l), a, b, c, d] ∧ Ex H3 H' ∧ H' l = some (.lst (f.map iv)) ∧ f.length ≤ 4000 ∧ readRows 0 L.dropLast [] = readRows i (L.dropLast.drop i) f) ?_ ?_ ?_ ?_⟩
      · exact ⟨none, none, none, none, [], rfl, e4, h4, by decide, rfl⟩
      · rintro i σ' H' _ ⟨a, b, c, d, f, rfl, eH, _⟩
        exact sq_of (eH _ _ h3)
      · rintro i x σ' H' T1 H5 hx ⟨a, b, c, d, f, rfl, eH, hl, hf, hrd⟩ hT1 e5 hT k5
        rw [List.getElem?_map, Option.map_eq_some_iff] at hx
        obtain ⟨ln, hln, rfl⟩ := hx
        have hlt : i < L.dropLast.length := (List.getElem?_eq_some_iff.mp hln).1
        have hlnm : ln ∈ L.dropLast := List.mem_of_getElem? hln
        have hdrop : L.dropLast.drop i = ln :: L.dropLast.drop (i + 1) := by
          rw [List.drop_eq_getElem_cons hlt]
          congr 1
          exact (List.getElem?_eq_some_iff.mp hln).2
        rw [hdrop] at hrd
        refine ⟨T1, _, rfl, st_of hT, rfl, _, _, rfl, _, _, rfl, rfl, ?_⟩
        have eH5 : Ex H3 H5 := eH.trans e5
        have hl5 := e5 _ _ hl
        refine q_asgL (el_split (w := ln) (sep := [32]) (ev_var rfl) ev_c (by decide) (by decide) (by have := hlines ln hlnm; omega)) fun pw H6 hpw e6 h6 => ?_
        have hW : (TL.spl [32] 0 [] ln).length ≤ 100001 := Nat.le_trans (spl_length _ _ _ _) (by have := hlines ln hlnm; omega)
        have hmw : ∀ w ∈ TL.spl [32] 0 [] ln, w.length ≤ 100000 := fun w h => by have h1 := spl_mem _ _ _ _ _ h; have := hlines ln hlnm; rw [List.length_nil] at h1; omega
        change _ = (if bad1 (TL.spl [32] 0 [] ln) = true then .error i else if bad2 f.length i (TL.spl [32] 0 [] ln) = true then .error i else readRows (i + 1) (L.dropLast.drop (i + 1)) (f ++ (TL.spl [32] 0 [] ln).flatMap nums)) at hrd
        generalize TL.spl [32] 0 [] ln = ws at hrd h6 hW hmw
        have hwl : (ws.map fun w => V.str (SX.S w)).length = ws.length := List.length_map _
        have hfl : (f.map iv).length = f.length := List.length_map _
        have eH6 : Ex H3 H6 := eH5.trans e6
        have hl6 := e6 _ _ hl5
        refine q_ifN (b := bad1 ws) (et_or (et_not (et_B (ev_is (ev_allL (bs := ws.map good) (els_new (el_is (el_all (el_lcLs (ds := ws) tv (fun _ => true) (fun w => .bl (good w)) (els_val (ev_var rfl) (sq_of h6)) (by omega) (fun _ => by rfl) (fun _ _ => ety) fun w hw _ => ev_call (ea_cons (ev_var rfl) ea_nil) fun H1 e Q q E => ⟨w, rfl, hmw w hw, q⟩)) (by rw [List.map_map]; rfl)))) (congrArg V.bl (by rw [List.all_map]; rfl))))) fun _ =>
          et_test (ev_is (ev_op (ev_cb1 (ev_var rfl) (rc_lenL (sq_of h6))) ev_c rv_I0) (congrArg V.bl (by rw [hwl]; exact decide_eq_decide.mpr (by omega))))) (fun hb H7 e7 => ?_) fun hb H7 e7 => ?_
        · rw [if_pos hb] at hrd
          refine mk_nt (ea_cons (ev_var rfl) ea_nil) fun d H' e hd hx => ?_
          rw [hrd] at k
          exact k d H' (((hex0.trans eH6).trans e7).trans e) (fresh_back ((hex0.trans eH6).trans e7) hd) hx
        rw [if_neg (by rw [hb]; exact Bool.false_ne_true)] at hrd
        have eH7 := eH6.trans e7
        have hl7 := e7 _ _ hl6
        have h7 := e7 _ _ h6
        have t1 : RV (rMulB K) (V.int (4 * 8)) (V.int (i : Int)) H7 (V.int (4 * 8 * (i : Int))) := rv_mulI (.inl (by decide))
        have t2 : decide (((f.map iv).length : Int) < 4 * 8 * (i : Int)) = decide (f.length < 32 * i) := by rw [hfl]; exact decide_eq_decide.mpr (by omega)
        have t3 : decide ((4 * 1000 : Int) < ((f.map iv).length : Int) + 4 * ((ws.map fun w => V.str (SX.S w)).length : Int)) = decide (4000 < f.length + 4 * ws.length) := by rw [hfl, hwl]; exact decide_eq_decide.mpr (by omega)
        have hlen1 := rc_lenL (K := K) (sq_of (K := K) hl7)
        have hlen2 := rc_lenL (K := K) (sq_of (K := K) h7)
        refine q_ifN (b := decide (f.length < 32 * i) || decide (4000 < f.length + 4 * ws.length)) (et_or (a := decide (f.length < 32 * i)) (b := decide (4000 < f.length + 4 * ws.length)) (et_test ?_) fun _ => et_test ?_) (fun hb2 H8 e8 => ?_) fun hb2 H8 e8 => ?_
        · rw [← t2]
          exact ev_op (ev_cb1 (ev_var rfl) hlen1) (ev_op (ev_op ev_c ev_c (rv_mulI (.inl (by decide)))) (ev_var rfl) t1) rv_I0
        · rw [← t3]
          exact ev_op (ev_op (ev_cb1 (ev_var rfl) hlen1) (ev_op ev_c (ev_cb1 (ev_var rfl) hlen2) (rv_mulI (.inl (by decide)))) rv_addI) (ev_op ev_c ev_c (rv_mulI (.inl (by decide)))) rv_I0
        change bad2 f.length i ws = _ at hb2
        rotate_left
        change bad2 f.length i ws = _ at hb2
        rotate_left
        · rw [if_pos hb2] at hrd
          refine mk_nt (ea_cons (ev_var rfl) ea_nil) fun d H' e hd hx => ?_
          rw [hrd] at k
          exact k d H' (((hex0.trans eH7).trans e8).trans e) (fresh_back ((hex0.trans eH7).trans e8) hd) hx
        rw [if_neg (by rw [hb2]; exact Bool.false_ne_true)] at hrd
        have hgood : ws.all good = true ∧ ws.length ≤ 8 ∧ f.length + 4 * ws.length ≤ 4000 := by
          unfold bad1 at hb
          unfold bad2 at hb2
          rw [Bool.or_eq_false_iff] at hb hb2
          refine ⟨by simpa using hb.1, by simpa using hb.2, by simpa using hb2.2⟩
        refine ⟨_, rfl, pw, rfl, ⟨_, sq_of (e8 _ _ h7)⟩, for_list (xs := ws.map fun w => V.str (SX.S w)) (fun j σ' H' => ∃ dd, σ' = [some (tv t), some (.ref pl), some (tv (L.getLast?.getD [])), some (.ref l), some (.int (i : Int)), some (tv ln), some (.ref pw), dd] ∧ Ex H3 H' ∧ H' pw = some (.lst (ws.map fun w => V.str (SX.S w))) ∧ H' l = some (.lst ((f ++ (ws.take j).flatMap nums).map iv))) ?_ ?_ ?_ ?_⟩
        · exact ⟨_, rfl, eH7.trans e8, e8 _ _ h7, by rw [List.take_zero, List.flatMap_nil, List.append_nil]; exact e8 _ _ hl7⟩
        · rintro j σ' H' _ ⟨dd, rfl, _, hp, _⟩
          exact sq_of hp
        · rintro j x σ' H9 hx ⟨dd, rfl, e9, h9, hl9⟩
          rw [List.getElem?_map, Option.map_eq_some_iff] at hx
          obtain ⟨wd, hwd, rfl⟩ := hx
          have hwm : wd ∈ ws := List.mem_of_getElem? hwd
          have hjl : j < ws.length := (List.getElem?_eq_some_iff.mp hwd).1
          have hg := List.all_eq_true.mp hgood.1 wd hwm
          refine ⟨_, rfl, .inl ⟨rfl, _, sq_of hl9⟩, _, rfl, ⟨wd, rfl, hg, fun pn H10 hpn e10 h10 => ⟨l, pn, _, _, rfl, rfl, e10 _ _ hl9, h10, ?_, ?_⟩⟩⟩
          · rw [List.length_map, List.length_map, List.length_append, flat_len, nums_len, List.length_take]
            have : (100000 : Nat) ≤ sizeLine := by decide
            omega
          · refine ⟨_, rfl, Ex.mut (e9.trans e10) hl0, ?_, ?_⟩
            · rw [upd_ne (Ne.symm (ne_of_none hl5 hpw))]
              exact e10 _ _ h9
            · rw [upd_same, ← List.map_append, List.append_assoc]
              congr 5
              rw [List.take_succ, hwd, List.flatMap_append]
              simp
        · rintro σ' H' ⟨dd, rfl, e9, h9, hl9⟩
          refine ⟨_, _, _, _, _, rfl, e9, hl9, ?_, ?_⟩
          · rw [List.length_map, List.take_length, List.length_append, flat_len]
            omega
          · rw [List.length_map, List.take_length]
            exact hrd
      · rintro σ' H' ⟨a, b, c, d, f, rfl, eH, hl, hf, hrd⟩
        rw [hll, List.drop_length] at hrd
        change _ = Except.ok f at hrd
        rw [hrd] at k
        have hfl : (f.map iv).length = f.length := List.length_map _
        dsimp only
        refine q_ifN (b := !decide (L.getLast?.getD [] = [])) (et_test ?_) (fun hb H5 e5 => ?_) fun hb H5 e5 => ?_
        · exact ev_op (x := tv (L.getLast?.getD [])) (y := tv []) (ev_var rfl) ev_c rv_neC
        · have hb' : ¬ (L.getLast?.getD [] = []) := by simpa using hb
          change rdK C (if L.getLast?.getD [] = [] then _ else _) H Q E at k
          rw [if_neg hb'] at k
          refine mk_nt (ea_cons (ev_is (ev_cb1 (ev_var rfl) (rc_lenL (sq_of (e5 _ _ (eH _ _ h3))))) (w := iv (L.length - 1)) (by rw [hll, hdl]; rfl)) ea_nil) fun d H' e hd hx => ?_
          exact k d H' (((hex0.trans eH).trans e5).trans e) (fresh_back ((hex0.trans eH).trans e5) hd) hx
        · have hb' : L.getLast?.getD [] = [] := by simpa using hb
          change rdK C (if L.getLast?.getD [] = [] then _ else _) H Q E at k
          rw [if_pos hb'] at k
          refine ⟨_, rfl, l, _, rfl, .inl ⟨sq_of (e5 _ _ hl), fun q hq => ?_⟩⟩
          exact k q _ (((hex0.trans eH).trans e5).trans (Ex.new hq)) (fresh_back ((hex0.trans eH).trans e5) hq) upd_same
    · refine q_ifN (b := true) (et_not (a := false) ?_) (fun _ H1 e1 => ?_) (fun z => nomatch z)
      · exact et_test (fun H1 e1 Q q => ⟨_, rfl, by
          obtain ⟨a, ty, hk⟩ := hv H1 e1
          exact .inl ⟨_, _, _, _, _, rfl, .ty "str", ty, kit_ty hk, q H1 (Ex.refl _)⟩⟩)
      · exact mk_nt (ea_cons ev_c ea_nil) fun d H' e hd hx => k d H' (e1.trans e) (fresh_back e1 hd) hx
end
end K85
set_option maxRecDepth 100000
set_option maxHeartbeats 1000000
namespace K85
open PySem PySem.Spec PyProof.Rows L2 Evl MB
section
variable {P : Program} {w : World} {K : PySem.W.Frag} {mg : Str → Option Value} {base : Heap}
/-! ### _law_pen -/
theorem ok_law_pen {f : Addr} {fd : FuncData} (F : Fun K "_law_pen" "_law_pen" s_law_pen f fd) (T : T0 mg) : FnOk P w K mg base CX0 1 f fd p_law_pen (spPen K) := by
  refine F.ok sc_law_pen (fun vs H Q E h => ?_) (fun cdv A outer s H vs Q E hr h => ?_)
  · obtain ⟨a, ns, rfl, _⟩ := h
    rfl
  · obtain ⟨a, ns, rfl, ha, k⟩ := h
    refine ⟨_, (pss_one (ps_ret (pe_disp (pps_cons pe_str (pe_callTy call_list_of (by rfl) T.n_list MB.bo_list (pa_cons (pe_slice (MB.sl_K (K := K) rfl) (pv 0) po_none (po_some pe_int)) pa_nil)) (pps_cons pe_str pe_int (pps_cons pe_str pe_int pps_nil))) (by rfl) (by rfl) (fun z => by cases z) (by decide)))), ?_⟩
    intro p hp
    have e0 : Ex H (upd H p (.dK [])) := Ex.new hp
    have hcut : cutV (ns.map V.int) none (some 63) = (ns.take 63).map V.int := by
      have := cut_nat V.int ns 0 63
      rw [List.drop_zero] at this
      exact this
    refine (els_sl (els_val (ev_var rfl) ha) eo_none (eo_some ev_c) : EvL _ _ H _) _ e0 _ fun c H1 hc e1 h1 => ?_
    refine ⟨c, _, rfl, .inl (sq_of h1), fun l hl => ⟨?_, [(.inr "cells", .ref l), (.inr "at", .int 0), (.inr "left", .int 0)], rfl, by show 3 ≤ 15; decide, ?_⟩⟩
    · have hp1 := e1 _ _ upd_same
      rw [upd_ne (ne_of_none hp1 hl)]
      exact hp1
    · have hp1 := e1 _ _ upd_same
      have hm : mergeK [] ([(.inr "cells", .ref l), (.inr "at", .int 0), (.inr "left", .int 0)] : List (Key × V)) = penL l 0 0 := by
        unfold mergeK
        show putK (putK (putK [] (Sum.inr "cells" : Key) (V.ref l)) (Sum.inr "at") (.int 0)) (Sum.inr "left") (.int 0) = _
        have q1 : putK [] (.inr "cells") (V.ref l) = [((.inr "cells" : Key), V.ref l)] := rfl
        have q2 : putK [((.inr "cells" : Key), V.ref l)] (.inr "at") (V.int 0) = [((.inr "cells" : Key), V.ref l), (.inr "at", .int 0)] := by
          unfold putK
          rw [if_neg (by simp only [List.any_cons, List.any_nil, decide_eq_false k_la]; decide)]
          rfl
        rw [q1, q2]
        unfold putK
        rw [if_neg (by simp only [List.any_cons, List.any_nil, decide_eq_false k_ll, decide_eq_false k_al]; decide)]
        rfl
      rw [hm]
      refine k p l _ (Ex.mut ((e0.trans e1).trans (Ex.new hl)) hp) hp ⟨(ns.take 63), 0, 0, ⟨upd_same, ?_, ?_, Int.le_refl _, Int.le_refl _⟩, Int.le_refl _⟩
      · rw [upd_ne (Ne.symm (ne_of_none hp1 hl)), upd_same, hcut]
      · rw [List.length_take]
        omega
/-! ### _law_draw -/
theorem ok_law_draw {f : Addr} {fd : FuncData} (F : Fun K "_law_draw" "_law_draw" s_law_draw f fd) (T : T0 mg) : FnOk P w K mg base CX0 1 f fd p_law_draw spDraw := by
  refine F.ok sc_law_draw (fun vs H Q E h => ?_) (fun cdv A outer s H vs Q E hr h => ?_)
  · obtain ⟨p, lc, m, n, rfl, _⟩ := h
    rfl
  · obtain ⟨p, lc, m, n, rfl, hm0, hm1, ⟨cs, a, l, ⟨h1, h2, h3, ha0, hl0⟩, han⟩, hn, k⟩ := h
    have hu64 := hu64 hr
    have hu := hu_of hr
    have hne : lc ≠ p := fun z => by rw [z, h1] at h2; cases h2
    have hdiv : CDiv l m := ⟨hm0, by omega⟩
    refine ⟨_, (pss_cons (ps_if (pt_cmpR op_gt (pe_dget hu (pv 0) pe_str (fun _ _ => rfl)) pe_int (nomark _)) (pss_cons (ps_set (i := 2) sc_law_draw.nd rfl (Or.inl rfl) (pe_op op_mod (pe_dget hu (pv 0) pe_str (fun _ _ => rfl)) (pv 1)))
      (pss_cons (ps_dput hu (pv 0) pe_str (pe_op op_fdiv (pe_dget hu (pv 0) pe_str (fun _ _ => rfl)) (pv 1)) rfl)
      (pss_one (ps_ret (pv 2))))) pss_nil)
      (pss_cons (ps_set (i := 3) sc_law_draw.nd rfl (Or.inl rfl) (pe_dget hu (pv 0) pe_str (fun _ _ => rfl)))
      (pss_cons (ps_dput hu (pv 0) pe_str (pe_op (MB.op_addK (K := K) rfl) (pv 3) pe_int) rfl)
      (pss_cons (ps_set (i := 4) sc_law_draw.nd rfl (Or.inl rfl) (pe_op (MB.op_addK (K := K) rfl) (pe_op (MB.op_mulK (K := K) rfl) pe_int (pv 3)) pe_int))
      (Evl.pss_cut (ps_if (pt_cmpR (MB.op_neK (K := K) rfl hu64) (pe_dget hu (pv 0) pe_str (fun _ _ => rfl)) (pe_lst pa_nil) (nomark _)) (pss_one (ps_set (i := 4) sc_law_draw.nd rfl (Or.inl rfl) (pe_ix (MB.ix_K (K := K) rfl) (pe_dget hu (pv 0) pe_str (fun _ _ => rfl)) (pe_op op_mod (pv 3) (pe_callB (MB.call_lenK (K := K) rfl) (by rfl) T.n_len MB.bo_len (pa_cons (pe_dget hu (pv 0) pe_str (fun _ _ => rfl)) pa_nil))) (fun _ _ => rfl)))) pss_nil)
      (pss_cons (ps_if (PW.pt (pw_and (pt_cmpR op_lt (pv 3) (pe_callB (MB.call_lenK (K := K) rfl) (by rfl) T.n_len MB.bo_len (pa_cons (pe_dget hu (pv 0) pe_str (fun _ _ => rfl)) pa_nil)) (nomark _)) (pw_and1 (pt_cmpR op_ge (pe_callB call_abs (by rfl) T.n_abs MB.bo_abs (pa_cons (pv 4) pa_nil)) (pe_op op_pow pe_int pe_int) (nomark _))))) (pss_cons (ps_set (i := 5) sc_law_draw.nd rfl (Or.inl rfl) (pe_op (MB.op_addK (K := K) rfl) (pe_op (MB.op_mulK (K := K) rfl) pe_int (pe_callB call_abs (by rfl) T.n_abs MB.bo_abs (pa_cons (pv 4) pa_nil))) (pe_callTy MB.call_intA (by rfl) T.n_int MB.bo_int (pa_cons (pe_cmpR op_lt (pv 4) pe_int (nomark _)) pa_nil))))
      (pss_cons (ps_dput hu (pv 0) pe_str (pe_op op_fdiv (pv 5) (pv 1)) rfl)
      (pss_one (ps_ret (pe_op op_mod (pv 5) (pv 1)))))) pss_nil)
      (pss_cons (ps_set (i := 6) sc_law_draw.nd rfl (Or.inl rfl) (pe_op op_mod (pe_op op_pow (pe_op (MB.op_addK (K := K) rfl) (pe_op (MB.op_addK (K := K) rfl) (pe_op op_mod (pv 4) pe_int) (pe_op (MB.op_mulK (K := K) rfl) pe_int (pv 3))) pe_int) pe_int) pe_int))
      (pss_cons (ps_set (i := 7) sc_law_draw.nd rfl (Or.inl rfl) (pe_op op_mod (pe_op op_pow (pe_op (MB.op_addK (K := K) rfl) (pe_op (MB.op_mulK (K := K) rfl) (pv 6) (pe_op (MB.op_addK (K := K) rfl) (pv 3) pe_int)) (pe_op (MB.op_mulK (K := K) rfl) (pe_op (MB.op_mulK (K := K) rfl) pe_int (pv 3)) (pv 3))) pe_int) pe_int))
      (pss_one (ps_ret (pe_op op_mod (pe_op op_fdiv (pv 7) pe_int) (pv 1)))))))))))), ?_⟩
    refine q_ifN (b := decide (0 < l)) (et_test (ev_op (ev_dget (.inr "left") (ev_var rfl) h1 (pen_left lc a l)) ev_c rv_I0)) (fun hb H1 e1 => ?_) fun hb H1 e1 => ?_
    · -- the rest of a great cell
      refine q_asg (ev_op (ev_dget (.inr "left") (ev_var rfl) (e1 _ _ h1) (pen_left lc a l)) (ev_var rfl) (rv_I hm0)) fun H2 e2 => ?_
      refine q_dput (.inr "left") (ev_op (ev_dget (.inr "left") (ev_var rfl) ((e1.trans e2) _ _ h1) (pen_left lc a l)) (ev_var rfl) (rv_I hdiv)) (ev_var rfl) ((e1.trans e2) _ _ h1) (by show 3 ≤ 1000; decide) fun H3 e3 => ?_
      rw [put_left]
      have e03 := (e1.trans e2).trans e3
      refine s_ret (ev_var rfl) fun H4 e4 => k _ H4 (Int.emod_nonneg _ (by omega)) (Int.emod_lt_of_pos _ hm0) ⟨cs, a, l / m, ⟨e4 _ _ upd_same, e4 _ _ ?_, h3, ha0, Int.ediv_nonneg hl0 (by omega)⟩, by omega⟩ fun b o hb hbo => e4 _ _ ?_
      · rw [upd_ne hne]
        exact e03 _ _ h2
      · rw [upd_ne hb]
        exact e03 _ _ hbo
    refine q_asg (ev_dget (.inr "at") (ev_var rfl) (e1 _ _ h1) (pen_at lc a l)) fun H2 e2 => ?_
    refine q_dput (.inr "at") (ev_op (ev_var rfl) ev_c rv_addI) (ev_var rfl) ((e1.trans e2) _ _ h1) (by show 3 ≤ 1000; decide) fun H3 e3 => ?_
    rw [put_at]
    have e03 := (e1.trans e2).trans e3
    have hp4 : upd H3 p (.dK (penL lc (a + 1) l)) p = some (.dK (penL lc (a + 1) l)) := upd_same
    have hc4 : upd H3 p (.dK (penL lc (a + 1) l)) lc = some (.lst (cs.map V.int)) := by rw [upd_ne hne]; exact e03 _ _ h2
    have hb4 : But p H (upd H3 p (.dK (penL lc (a + 1) l))) := fun b o hb hbo => by rw [upd_ne hb]; exact e03 _ _ hbo
    revert hp4 hc4 hb4
    generalize upd H3 p (.dK (penL lc (a + 1) l)) = H4
    intro hp4 hc4 hb4
    refine q_asg (ev_op (ev_op ev_c (ev_var rfl) (rv_mulI (.inl (by decide)))) ev_c rv_addI) fun H5 e5 => ?_
    have hcl : (cs.map V.int).length = cs.length := List.length_map _
    refine ⟨fun σ' H' => ∃ c : Int, σ' = [some (.ref p), some (.int m), none, some (.int a), some (.int c), none, none, none] ∧ But p H H' ∧ H' p = some (.dK (penL lc (a + 1) l)) ∧ H' lc = some (.lst (cs.map V.int)), ?_, ?_⟩
    · refine s_ifN (b := !decide (cs = [])) (et_test ?_) (fun hb H6 e6 => ?_) fun hb H6 e6 => ?_
      · rw [← ints_ne_nil]
        exact ev_opL (ev_dget (.inr "cells") (ev_var rfl) (e5 _ _ hp4) (pen_cells lc _ l)) (el_lst ea_nil (by decide)) fun q H6 hq e6 => rv_neD (.lst (sq_of (e6 _ _ (e5 _ _ hc4))) (dpAll_ints cs)) (.lst (sq_of hq) .nil) (PySem.W.ke_shaped_ints cs) rfl
      · have hcs : cs ≠ [] := by simpa using hb
        have hpos : 0 < cs.length := List.length_pos_iff.mpr hcs
        have hlt : (a % (cs.length : Int)).toNat < cs.length := by
          have := Int.emod_lt_of_pos a (b := (cs.length : Int)) (by omega)
          have := Int.emod_nonneg a (b := (cs.length : Int)) (by omega)
          omega
        have hat : atI (cs.map V.int) (a % (cs.length : Int)) = some (.int (cs[(a % (cs.length : Int)).toNat])) := by
          have h0 := Int.emod_nonneg a (b := (cs.length : Int)) (by omega)
          have hj : (((a % (cs.length : Int)).toNat : Nat) : Int) = a % (cs.length : Int) := by omega
          have h9 : atI (cs.map V.int) (((a % (cs.length : Int)).toNat : Nat) : Int) = some (.int (cs[(a % (cs.length : Int)).toNat])) := MB.atI_nat (by
            rw [List.getElem?_map, List.getElem?_eq_getElem hlt]
            rfl)
          rw [hj] at h9
          exact h9
        have e56 := e5.trans e6
        refine s_asg (ev_op (ev_dget (.inr "cells") (ev_var rfl) (e56 _ _ hp4) (pen_cells lc _ l)) (ev_op (ev_var rfl) (ev_cb1 (ev_dget (.inr "cells") (ev_var rfl) (e56 _ _ hp4) (pen_cells lc _ l)) (rc_lenL (sq_of (e56 _ _ hc4)))) (rv_I (by rw [hcl]; omega))) (rv_xL (sq_of (e56 _ _ hc4)) (by rw [hcl]; exact hat))) fun H7 e7 => ?_
        exact ⟨_, rfl, hb4.trans (.of (e56.trans e7)), (e56.trans e7) _ _ hp4, (e56.trans e7) _ _ hc4⟩
      · have e56 := e5.trans e6
        exact ⟨_, rfl, hb4.trans (.of e56), e56 _ _ hp4, e56 _ _ hc4⟩
    rintro σ' H6 ⟨c, rfl, hb6, hp6, hc6⟩
    have pen7 : ∀ H7, Ex H6 H7 → Pen H7 p lc (n + 1) := fun H7 e7 => ⟨cs, a + 1, l, ⟨e7 _ _ hp6, e7 _ _ hc6, h3, by omega, hl0⟩, by omega⟩
    have habs : 0 ≤ (if c < 0 then -c else c) := by
      by_cases h : c < 0
      · rw [if_pos h]; omega
      · rw [if_neg h]; omega
    refine q_ifN (b := decide (a < (cs.length : Int)) && decide ((10 : Int) ^ 18 ≤ (if c < 0 then -c else c))) (et_and (et_test ?_) fun _ => et_test ?_) (fun hb H7 e7 => ?_) fun hb H7 e7 => ?_
    · rw [← hcl]
      exact ev_op (ev_var rfl) (ev_cb1 (ev_dget (.inr "cells") (ev_var rfl) hp6 (pen_cells lc _ l)) (rc_lenL (sq_of hc6))) rv_I0
    · exact ev_op (ev_cb1 (ev_var rfl) rc_abs) (ev_op ev_c ev_c (rv_I ⟨by decide, by decide, by decide⟩)) rv_I0
    · -- a great cell
      refine q_asg (ev_op (ev_op ev_c (ev_cb1 (ev_var rfl) rc_abs) (rv_mulI (.inl (by decide)))) (ev_cb1 (ev_op (ev_var rfl) ev_c rv_I0) rc_intB) rv_addI) fun H8 e8 => ?_
      have hw0 : 0 ≤ 2 * (if c < 0 then -c else c) + (if decide (c < 0) = true then (1 : Int) else 0) := by
        have : (0 : Int) ≤ (if decide (c < 0) = true then (1 : Int) else 0) := by split <;> omega
        omega
      revert hw0
      generalize 2 * (if c < 0 then -c else c) + (if decide (c < 0) = true then (1 : Int) else 0) = wh
      intro hw0
      refine q_dput (.inr "left") (ev_op (ev_var rfl) (ev_var rfl) (rv_I ⟨hm0, by omega⟩)) (ev_var rfl) ((e7.trans e8) _ _ hp6) (by show 3 ≤ 1000; decide) fun H9 e9 => ?_
      rw [put_left]
      have e69 := (e7.trans e8).trans e9
      refine s_ret (ev_op (ev_var rfl) (ev_var rfl) (rv_I hm0)) fun H10 e10 => k _ H10 (Int.emod_nonneg _ (by omega)) (Int.emod_lt_of_pos _ hm0) ⟨cs, a + 1, wh / m, ⟨e10 _ _ upd_same, e10 _ _ ?_, h3, by omega, Int.ediv_nonneg hw0 (by omega)⟩, by omega⟩ fun b o hb hbo => e10 _ _ ?_
      · rw [upd_ne hne]
        exact e69 _ _ hc6
      · rw [upd_ne hb]
        exact e69 _ _ (hb6 _ _ hb hbo)
    · have hr1 := Int.emod_nonneg c (b := 2147483587) (by omega)
      have hr2 := Int.emod_lt_of_pos c (b := 2147483587) (by omega)
      refine q_asg (ev_op (ev_op (ev_op (ev_op (ev_op (ev_var rfl) ev_c (rv_I (by show (0 : Int) < 2147483587; decide))) (ev_op ev_c (ev_var rfl) (rv_mulI (.inl (by decide)))) rv_addI) ev_c rv_addI) ev_c (rv_I ⟨by decide, by decide, by omega⟩)) ev_c (rv_I (by show (0 : Int) < 2147483647; decide))) fun H8 e8 => ?_
      have ho1 := Int.emod_nonneg ((c % 2147483587 + 70913 * a + 53) ^ (5 : Int).toNat) (b := 2147483647) (by omega)
      have ho2 := Int.emod_lt_of_pos ((c % 2147483587 + 70913 * a + 53) ^ (5 : Int).toNat) (b := 2147483647) (by omega)
      revert ho1 ho2
      generalize (c % 2147483587 + 70913 * a + 53) ^ (5 : Int).toNat % 2147483647 = one
      intro ho1 ho2
      have hz : (one * (a + 65551) + 86291 * a * a).natAbs < 2 ^ 64 := by
        have q1 : 0 ≤ one * (a + 65551) := Int.mul_nonneg ho1 (by omega)
        have q2 : one * (a + 65551) ≤ 2147483647 * 1065551 := Int.mul_le_mul (by omega) (by omega) (by omega) (by omega)
        have q3 : 0 ≤ 86291 * a * a := Int.mul_nonneg (by omega) ha0
        have q4 : 86291 * a * a ≤ 86291000000 * 1000000 := Int.mul_le_mul (by omega) (by omega) ha0 (by omega)
        omega
      refine q_asg (ev_op (ev_op (ev_op (ev_op (ev_var rfl) (ev_op (ev_var rfl) ev_c rv_addI) (rv_mulI (.inl ⟨by omega, by omega⟩))) (ev_op (ev_op ev_c (ev_var rfl) (rv_mulI (.inl (by decide)))) (ev_var rfl) (rv_mulI (.inl ⟨by omega, by omega⟩))) rv_addI) ev_c (rv_I ⟨by decide, by decide, hz⟩)) ev_c (rv_I (by show (0 : Int) < 2147483477; decide))) fun H9 e9 => ?_
      refine s_ret (ev_op (ev_op (ev_var rfl) ev_c (rv_I ⟨by decide, by decide⟩)) (ev_var rfl) (rv_I hm0)) fun H10 e10 => ?_
      have e610 := ((e7.trans e8).trans e9).trans e10
      exact k _ H10 (Int.emod_nonneg _ (by omega)) (Int.emod_lt_of_pos _ hm0) (pen7 _ e610) (hb6.trans (.of e610))
/-! ### _law_numbers -/
theorem ok_law_numbers {f : Addr} {fd : FuncData} (F : Fun K "_law_numbers" "_law_numbers" s_law_numbers f fd) (T : T0 mg) (c_law_draw : MB.Cl P w K mg base 1 "_law_draw" spDraw) : FnOk P w K mg base CX0 2 f fd p_law_numbers spNumbers := by
  refine F.ok sc_law_numbers (fun vs H Q E h => ?_) (fun cdv A outer s H vs Q E hr h => ?_)
  · obtain ⟨p, lc, m, l, n, rfl, _⟩ := h
    rfl
  · obtain ⟨p, lc, many, lim, n, rfl, hm, hl0, hl1, hpen, hn, k⟩ := h
    refine ⟨_, (pss_cons (ps_set (i := 3) sc_law_numbers.nd rfl (Or.inr rfl) (pe_lst (pa_cons pe_int (pa_cons pe_int (pa_cons (pe_op op_sub (pv 2) pe_int) (pa_cons (pe_op op_fdiv (pv 2) pe_int) pa_nil))))))
      (pss_one (ps_ret (pe_callTy call_tuple_of (by rfl) T.n_tuple MB.bo_tuple (pa_cons (pe_lc (own := [("_law_k", 4)]) (by rfl) sc_law_numbers.nd (pi_range1 (by rfl) T.n_range (pa_cons (pv 1) pa_nil)) (blkOk_by (own := [("_law_k", 4)]) (N := n_law_numbers) (sc := defScope s_law_numbers) (by decide +kernel)) (fun _ _ _ _ _ => (pg_name (i := 4) sc_law_numbers.nd rfl (.inl rfl))) (fun _ _ _ _ _ => pts_nil) (fun _ _ _ _ _ => (pe_ix (MB.ix_K (K := K) rfl) (pe_lst (pa_cons (pe_ix (MB.ix_K (K := K) rfl) (pv 3) (MB.pe_cl c_law_draw hr (by decide) (by rfl) passL (pa_cons (pv 0) (pa_cons pe_int pa_nil))) (fun _ _ => rfl)) (pa_cons (MB.pe_cl c_law_draw hr (by decide) (by rfl) passL (pa_cons (pv 0) (pa_cons (pv 2) pa_nil))) pa_nil))) (MB.pe_cl c_law_draw hr (by decide) (by rfl) passL (pa_cons (pv 0) (pa_cons pe_int pa_nil))) (fun _ _ => rfl)))) pa_nil))))), ?_⟩
    refine q_asgL (el_lst (ea_cons ev_c (ea_cons ev_c (ea_cons (ev_op (ev_var rfl) ev_c rv_I0) (ea_cons (ev_op (ev_var rfl) ev_c (rv_I ⟨by decide, by decide⟩)) ea_nil)))) (by show 4 ≤ 100000; decide)) fun le H1 hle e1 h1 => ?_
    have hends : ∀ r : Int, 0 ≤ r → r < 4 → ∃ e : Nat, (e : Int) < lim ∧ atI ([V.int 0, V.int 1, V.int (lim - 1), V.int (lim / 2)] : List V) r = some (.int (e : Int)) := by
      intro r h0 h4
      have : r = 0 ∨ r = 1 ∨ r = 2 ∨ r = 3 := by omega
      rcases this with rfl | rfl | rfl | rfl
      · exact ⟨0, by omega, rfl⟩
      · exact ⟨1, by omega, rfl⟩
      · exact ⟨(lim - 1).toNat, by omega, by rw [show (((lim - 1).toNat : Nat) : Int) = lim - 1 by omega]; rfl⟩
      · exact ⟨(lim / 2).toNat, by omega, by rw [show (((lim / 2).toNat : Nat) : Int) = lim / 2 by omega]; rfl⟩
    have hpe := hpen.ex e1
    refine ⟨_, rfl, (many : Int), rfl, by omega, by omega, fun Dl hD => lc_range (lo := 0) (n := (many : Int).toNat) (fun i H' => ∃ ns : List Nat, ns.length = i ∧ (∀ x ∈ ns, (x : Int) < lim) ∧ H' Dl = some (.lst (ns.map fun (k : Nat) => V.int (k : Int))) ∧ Pen H' p lc (n + 3 * i) ∧ But p H1 H') ?_ ?_ ?_⟩
    · exact ⟨[], rfl, by simp, upd_same, hpe.ex (Ex.new hD), But.of (Ex.new hD)⟩
    · rintro i H2 hi ⟨ns, hnl, hns, hd2, hp2, hb2⟩
      rw [Int.toNat_natCast] at hi
      refine ⟨by rfl, ?_⟩
      refine t_yes ?_
      have hle2 : H2 le = some (.lst [V.int 0, V.int 1, V.int (lim - 1), V.int (lim / 2)]) := hb2 _ _ (hpe.ne h1) h1
      refine ⟨_, rfl, ev_draw (m := 4) (ev_var rfl) ev_c (by decide) (by decide) hp2 (by omega) fun r H3 hr0 hr1 hp3 hb3 => ?_⟩
      obtain ⟨e, he, hat⟩ := hends r hr0 hr1
      refine .inl ⟨le, _, r, _, rfl, rfl, sq_of (hb3 _ _ (hp2.ne hle2) hle2), hat, ?_⟩
      refine ev_draw (m := lim) (ev_var rfl) (ev_var rfl) (by omega) (by omega) hp3 (by omega) fun r2 H4 hr20 hr21 hp4 hb4 => ?_
      refine ⟨by show 2 ≤ sizeLine; decide, fun q hq => ?_⟩
      have hp5 := hp4.ex (Ex.new (o := .lst [V.int (e : Int), V.int r2]) hq)
      refine ev_draw (m := 2) (ev_var rfl) ev_c (by decide) (by decide) hp5 (by omega) fun r3 H6 hr30 hr31 hp6 hb6 => ?_
      have hq6 : H6 q = some (.lst [V.int (e : Int), V.int r2]) := hb6 _ _ (hp5.ne upd_same) upd_same
      have hDp : Dl ≠ p := hp2.ne hd2
      have hd6 : H6 Dl = some (.lst (ns.map fun (k : Nat) => V.int (k : Int))) := hb6 _ _ hDp (by
        have hd4 := hb4 _ _ hDp (hb3 _ _ hDp hd2)
        rw [upd_ne (ne_of_none hd4 hq)]
        exact hd4)
      have hval : ∃ z : Nat, (z : Int) < lim ∧ atI ([V.int (e : Int), V.int r2] : List V) r3 = some (.int (z : Int)) := by
        have : r3 = 0 ∨ r3 = 1 := by omega
        rcases this with rfl | rfl
        · exact ⟨e, he, rfl⟩
        · exact ⟨r2.toNat, by omega, by rw [show ((r2.toNat : Nat) : Int) = r2 by omega]; rfl⟩
      obtain ⟨z, hz, hatz⟩ := hval
      refine .inl ⟨q, _, r3, _, rfl, rfl, sq_of hq6, hatz, _, hd6, ?_, ns ++ [z], ?_, ?_, ?_, ?_, ?_⟩
      · rw [List.length_map, hnl]
        have : (100000 : Nat) ≤ sizeLine := by decide
        omega
      · rw [List.length_append, hnl]
        rfl
      · intro x hx
        rw [List.mem_append, List.mem_singleton] at hx
        rcases hx with hx | rfl
        · exact hns x hx
        · exact hz
      · rw [upd_same, List.map_append]
        rfl
      · exact (hp6.le (by omega)).upd (hpe.off hD).1 (hpe.off hD).2
      · refine But.mut ?_ hD
        exact ((((hb2.trans hb3).trans hb4).trans (But.of (Ex.new hq)))).trans hb6
    · rintro H2 ⟨ns, hnl, hns, hd2, hp2, hb2⟩
      rw [Int.toNat_natCast] at hnl hp2
      refine ⟨Dl, _, rfl, .inl ⟨sq_of hd2, fun q hq => ?_⟩⟩
      refine k ns q _ hnl hns ?_ upd_same (hp2.ex (Ex.new hq)) ((But.of e1).trans (hb2.trans (But.of (Ex.new hq))))
      exact fresh_back e1 (hb2.fresh hp2 hq)
end
end K85
set_option maxRecDepth 100000
set_option maxHeartbeats 1000000
namespace K85
open PySem PySem.Spec PyProof.Rows L2 Evl MB
def fB (n : Nat) : Nat := 8 * n + 40
def tv' (w : List Nat) : V := .str (SX.S w)
section
variable {P : Program} {w : World} {K : PySem.W.Frag} {mg : Str → Option Value} {base : Heap}
/-! ### _law_sign_bent -/
theorem ok_law_sign_bent {f : Addr} {fd : FuncData} (F : Fun K "_law_sign_bent" "_law_sign_bent" s_law_sign_bent f fd) (T : T0 mg) (c_law_draw : MB.Cl P w K mg base 1 "_law_draw" spDraw) : FnOk P w K mg base CX0 2 f fd p_law_sign_bent (spBent 0 fB) := by
  refine F.ok sc_law_sign_bent (fun vs H Q E h => ?_) (fun cdv A outer s H vs Q E hr h => ?_)
  · obtain ⟨p, lc, t, n, more, rfl, hm, _⟩ := h
    rw [List.length_cons, List.length_cons, hm]
    rfl
  · obtain ⟨p, lc, t, n, more, rfl, hm, hp, hn, ht, _, k⟩ := h
    obtain rfl : more = [] := List.length_eq_zero_iff.mp hm
    refine ⟨_, (pss_cons (ps_set (i := 2) sc_law_sign_bent.nd rfl (Or.inl rfl) pe_str)
      (pss_cons (ps_set (i := 3) sc_law_sign_bent.nd rfl (Or.inl rfl) (pe_ix (MB.ix_K (K := K) rfl) (pv 2) (MB.pe_cl c_law_draw hr (by decide) (by rfl) passL (pa_cons (pv 0) (pa_cons (pe_callB (MB.call_lenK (K := K) rfl) (by rfl) T.n_len MB.bo_len (pa_cons (pv 2) pa_nil)) pa_nil))) (fun _ _ => rfl)))
      (pss_cons (ps_set (i := 4) sc_law_sign_bent.nd rfl (Or.inl rfl) (MB.pe_cl c_law_draw hr (by decide) (by rfl) passL (pa_cons (pv 0) (pa_cons (pe_op (MB.op_addK (K := K) rfl) (pe_callB (MB.call_lenK (K := K) rfl) (by rfl) T.n_len MB.bo_len (pa_cons (pv 1) pa_nil)) pe_int) pa_nil))))
      (pss_cons (ps_set (i := 5) sc_law_sign_bent.nd rfl (Or.inl rfl) (MB.pe_cl c_law_draw hr (by decide) (by rfl) passL (pa_cons (pv 0) (pa_cons pe_int pa_nil))))
      (pss_one (ps_ret (pe_op (MB.op_addK (K := K) rfl) (pe_op (MB.op_addK (K := K) rfl) (pe_slice (MB.sl_K (K := K) rfl) (pv 1) po_none (po_some (pv 4))) (pe_ix (MB.ix_K (K := K) rfl) (pe_lst (pa_cons (pv 3) (pa_cons (pv 3) (pa_cons pe_str (pa_cons (pe_op (MB.op_mulK (K := K) rfl) (pe_slice (MB.sl_K (K := K) rfl) (pv 1) (po_some (pv 4)) (po_some (pe_op (MB.op_addK (K := K) rfl) (pv 4) pe_int))) pe_int) pa_nil))))) (pv 5) (fun _ _ => rfl))) (pe_slice (MB.sl_K (K := K) rfl) (pv 1) (po_some (pe_op (MB.op_addK (K := K) rfl) (pv 4) (pe_callTy MB.call_intA (by rfl) T.n_int MB.bo_int (pa_cons (pe_cmpR op_gt (pv 5) pe_int (nomark _)) pa_nil)))) po_none)))))))), ?_⟩
    refine q_asg ev_c fun H1 e1 => ?_
    refine ⟨_, rfl, ev_draw (ev_var rfl) (ev_cb1 (ev_var rfl) (rc_lenStr (by decide +kernel))) (by decide +kernel) (by decide +kernel) (hp.ex e1) (by omega) fun r H2 r0 r1 hp2 hb2 => ?_⟩
    obtain ⟨c, _, hat⟩ := atI_in (i := r) (by omega) (show r < _ by exact r1)
    refine .inr (.inr ⟨_, r, c, rfl, rfl, by decide +kernel, hat, ?_⟩)
    refine q_draw (m := (t.length : Int) + 1) (ev_var rfl) (ev_op (ev_cb1 (ev_var rfl) (rc_lenStr (by omega))) ev_c rv_addI) (by omega) (by omega) hp2 (by omega) fun at1 H3 a0 a1 hp3 hb3 => ?_
    refine q_draw (m := 4) (ev_var rfl) ev_c (by decide) (by decide) hp3 (by omega) fun way H4 w0 w1 hp4 hb4 => ?_
    have ht8 : t.length ≤ 8000000 := by omega
    have hc1 := cutS_le t (some at1) (some (at1 + 1))
    have hmul : (Txt.mul (cutS t (some at1) (some (at1 + 1))) 2).length ≤ t.length * 2 := len_mul_leN hc1 (by decide)
    obtain ⟨v, hv, hatw⟩ := atI_in (l := [V.str ⟨#[c]⟩, V.str ⟨#[c]⟩, V.str (Str.ofString ""), V.str (Txt.mul (cutS t (some at1) (some (at1 + 1))) 2)]) (i := way) (by show -(4 : Int) ≤ _; omega) (by show _ < (4 : Int); exact w1)
    have hv2 : ∃ u : Str, v = .str u ∧ u.length ≤ t.length * 2 + 1 := by
      simp only [List.mem_cons, List.not_mem_nil, or_false] at hv
      rcases hv with rfl | rfl | rfl | rfl
      · exact ⟨_, rfl, by show 1 ≤ _; omega⟩
      · exact ⟨_, rfl, by show 1 ≤ _; omega⟩
      · exact ⟨_, rfl, by show (0 : Nat) ≤ _; omega⟩
      · exact ⟨_, rfl, by omega⟩
    obtain ⟨u, rfl, hu⟩ := hv2
    have hc2 := cutS_le t none (some at1)
    refine s_ret (ev_op (ev_op (ev_slStr (ev_var rfl) eo_none (eo_some (ev_var rfl)) ht8) (ev_opLs (els_new (el_lst (ea_cons (ev_var rfl) (ea_cons (ev_var rfl) (ea_cons ev_c (ea_cons (ev_op (ev_slStr (ev_var rfl) (eo_some (ev_var rfl)) (eo_some (ev_op (ev_var rfl) ev_c rv_addI)) ht8) ev_c (rv_mulStr (by decide) (by decide) ?_)) ea_nil)))) (by show 4 ≤ 100000; decide))) (ev_var rfl) fun q H1 hq e => rv_xL hq hatw) (rv_addStr ?_))
      (ev_slStr (ev_var rfl) (eo_some (ev_op (ev_var rfl) (ev_cb1 (ev_op (ev_var rfl) ev_c rv_I0) rc_intB) rv_addI)) eo_none ht8) (rv_addStr ?_)) fun H5 e5 => k _ H5 ?_ ((hp4.ex e5).le (by omega)) ((But.of e1).trans (hb2.trans (hb3.trans (hb4.trans (But.of e5)))))
    · show _ * 2 ≤ _
      omega
    · omega
    · rw [PySem.Str.length_append]
      have := cutS_le t (some (at1 + if decide (0 < way) = true then 1 else 0)) none
      omega
    · rw [PySem.Str.length_append, PySem.Str.length_append]
      have := cutS_le t (some (at1 + if decide (0 < way) = true then 1 else 0)) none
      unfold fB
      omega
/-! ### _law_word_bent -/
theorem ok_law_word_bent {f : Addr} {fd : FuncData} (F : Fun K "_law_word_bent" "_law_word_bent" s_law_word_bent f fd) (T : T0 mg) (c_law_draw : MB.Cl P w K mg base 1 "_law_draw" spDraw) : FnOk P w K mg base CX0 2 f fd p_law_word_bent (spBent 1 fB) := by
  refine fun_okT F sc_law_word_bent (by decide +kernel) (by decide) (fun vs H Q E h => ?_) (fun cdv A outer s H vs Q E hr h => ?_)
  · obtain ⟨p, lc, t, n, more, rfl, hm, _⟩ := h
    rw [List.length_cons, List.length_cons, hm]
    rfl
  · obtain ⟨p, lc, t, n, more, rfl, hm, hp, hn, ht, hmore, k⟩ := h
    obtain ⟨v0, rfl⟩ : ∃ v, more = [v] := List.length_eq_one_iff.mp hm
    obtain ⟨l0, ws0, rfl, hl0, hn0, hw0⟩ := hmore _ (List.mem_singleton.mpr rfl)
    refine ⟨_, (psst_cons (MB.pst_set (i := 3) sc_law_word_bent.nd rfl (Or.inl rfl) (MB.pet_m1 PySem.F.slot_str_split PySem.F.type_str_split mt_split (CwR.pet_replC (pv 1)) pe_str))
      (psst_cons (PST.of (ps_set (i := 4) sc_law_word_bent.nd rfl (Or.inl rfl) (MB.pe_cl c_law_draw hr (by decide) (by rfl) passL (pa_cons (pv 0) (pa_cons (pe_callB (MB.call_lenK (K := K) rfl) (by rfl) T.n_len MB.bo_len (pa_cons (pv 3) pa_nil)) pa_nil)))))
      (psst_cons (PST.of (ps_set (i := 5) sc_law_word_bent.nd rfl (Or.inl rfl) (pe_ix (MB.ix_K (K := K) rfl) (pe_op (MB.op_addK (K := K) rfl) (pv 2) (pe_lst (pa_cons (pe_ix (MB.ix_K (K := K) rfl) (pv 3) (pe_op op_sub (pv 4) pe_int) (fun _ _ => rfl)) pa_nil))) (MB.pe_cl c_law_draw hr (by decide) (by rfl) passL (pa_cons (pv 0) (pa_cons (pe_op (MB.op_addK (K := K) rfl) (pe_callB (MB.call_lenK (K := K) rfl) (by rfl) T.n_len MB.bo_len (pa_cons (pv 2) pa_nil)) pe_int) pa_nil))) (fun _ _ => rfl))))
      (psst_cons (PST.of (ps_set (i := 6) sc_law_word_bent.nd rfl (Or.inl rfl) (pe_lst (pa_cons (pe_op (MB.op_addK (K := K) rfl) (pe_slice (MB.sl_K (K := K) rfl) (pv 3) po_none (po_some (pv 4))) (pe_slice (MB.sl_K (K := K) rfl) (pv 3) (po_some (pe_op (MB.op_addK (K := K) rfl) (pv 4) pe_int)) po_none)) (pa_cons (pe_op (MB.op_addK (K := K) rfl) (pe_slice (MB.sl_K (K := K) rfl) (pv 3) po_none (po_some (pe_op (MB.op_addK (K := K) rfl) (pv 4) pe_int))) (pe_slice (MB.sl_K (K := K) rfl) (pv 3) (po_some (pv 4)) po_none)) (pa_cons (pe_op (MB.op_addK (K := K) rfl) (pe_op (MB.op_addK (K := K) rfl) (pe_slice (MB.sl_K (K := K) rfl) (pv 3) po_none (po_some (pv 4))) (pe_lst (pa_cons (pv 5) pa_nil))) (pe_slice (MB.sl_K (K := K) rfl) (pv 3) (po_some (pe_op (MB.op_addK (K := K) rfl) (pv 4) pe_int)) po_none)) pa_nil))))))
      (psst_cons (PST.of (ps_expr (pe_bm PySem.F.plainAttrs_list PySem.F.slot_list_append PySem.F.type_list_append mt_append (pv 6) (pa_cons (pe_op (MB.op_addK (K := K) rfl) (pe_op (MB.op_addK (K := K) rfl) (pe_slice (MB.sl_K (K := K) rfl) (pv 3) po_none (po_some (pv 4))) (pe_lst (pa_cons (pv 5) pa_nil))) (pe_slice (MB.sl_K (K := K) rfl) (pv 3) (po_some (pv 4)) po_none)) pa_nil))))
      (CwR.psst_one (CwR.pst_ret (CwR.pet_replC (MB.pe_joinK (K := K) rfl pe_str (pe_ix (MB.ix_K (K := K) rfl) (pv 6) (MB.pe_cl c_law_draw hr (by decide) (by rfl) passL (pa_cons (pv 0) (pa_cons pe_int pa_nil))) (fun _ _ => rfl))))))))))), ?_⟩
    have hrl := TK.replace_len t (Str.ofString "\n") (Str.ofString " \n ")
    have hz3 : (Str.ofString " \n ").length = 3 := by decide +kernel
    rw [hz3] at hrl
    -- the words
    refine ⟨_, rfl, t, rfl, ?_, ⟨_, rfl⟩, ⟨_, _, rfl, rfl, by decide +kernel, ?_, fun q hq => ?_⟩⟩
    · rw [hz3]
      omega
    · have : (1000000 : Nat) ≤ sizeLine := by decide
      omega
    have e1 : Ex H (upd H q (.lst ((Txt.split (Txt.replace t (Str.ofString "\n") (Str.ofString " \n ")) (Str.ofString " ")).map V.str))) := Ex.new hq
    have h1 : upd H q (.lst ((Txt.split (Txt.replace t (Str.ofString "\n") (Str.ofString " \n ")) (Str.ofString " ")).map V.str)) q = some (.lst ((Txt.split (Txt.replace t (Str.ofString "\n") (Str.ofString " \n ")) (Str.ofString " ")).map V.str)) := upd_same
    revert e1 h1
    generalize hH1 : upd H q (.lst ((Txt.split (Txt.replace t (Str.ofString "\n") (Str.ofString " \n ")) (Str.ofString " ")).map V.str)) = H1
    intro e1 h1
    have hsp : Txt.split (Txt.replace t (Str.ofString "\n") (Str.ofString " \n ")) (Str.ofString " ") = (TL.spl [32] 0 [] (Txt.replace t (Str.ofString "\n") (Str.ofString " \n ")).cps.toList).map SX.S := by
      have := SX.split_S (a := (Txt.replace t (Str.ofString "\n") (Str.ofString " \n ")).cps.toList) (b := [32]) (by decide) (by decide)
      rw [SX.S_tl] at this
      exact this
    rw [hsp, List.map_map] at h1
    have hmu : mu (TL.spl [32] 0 [] (Txt.replace t (Str.ofString "\n") (Str.ofString " \n ")).cps.toList) ≤ 4 * t.length + 4 := by
      rw [mu_spl]
      have : (Txt.replace t (Str.ofString "\n") (Str.ofString " \n ")).cps.toList.length = (Txt.replace t (Str.ofString "\n") (Str.ofString " \n ")).length := by simp [Str.length]
      rw [this, List.length_nil]
      omega
    have hne := spl_ne [32] (Txt.replace t (Str.ofString "\n") (Str.ofString " \n ")).cps.toList 0 []
    revert h1 hmu hne
    generalize TL.spl [32] 0 [] (Txt.replace t (Str.ofString "\n") (Str.ofString " \n ")).cps.toList = W
    intro h1 hmu hne
    change H1 q = some (.lst (W.map tv')) at h1
    have hWl : (W.map tv').length = W.length := List.length_map _
    have hWm := mu_len W
    have hWp : 0 < W.length := List.length_pos_iff.mpr hne
    have hp1 := hp.ex e1
    refine q_draw (m := (W.length : Int)) (ev_var rfl) (ev_is (ev_cb1 (ev_var rfl) (rc_lenL (sq_of h1))) (by rw [hWl])) (by omega) (by omega) hp1 (by omega) fun r H2 r0 r1 hp2 hb2 => ?_
    obtain ⟨i, rfl⟩ : ∃ i : Nat, r = (i : Int) := ⟨r.toNat, by omega⟩
    have hi : i < W.length := by omega
    have h2 := hb2 _ _ (hp1.ne h1) h1
    have hl2 := hb2 _ _ (hp1.ne (e1 _ _ hl0)) (e1 _ _ hl0)
    -- the new word
    obtain ⟨x1, hx1, hat1⟩ := atI_in (l := W.map tv') (i := (i : Int) - 1) (by rw [hWl]; omega) (by rw [hWl]; omega)
    obtain ⟨wd, hwd, rfl⟩ := List.mem_map.mp hx1
    refine (el_cat (ep_val (ev_var rfl) hl2) (ep_new (el_lst (ea_cons (ev_op (ev_var rfl) (ev_op (ev_var rfl) ev_c rv_I0) (rv_xL (sq_of h2) hat1)) ea_nil) (by show 1 ≤ 100000; decide))) (by rw [List.length_map]; show _ + 1 ≤ _; omega) : EvL _ _ H2 _) H2 (Ex.refl _) _ fun qn H3 _ e3 h3 => ?_
    have hp3 := hp2.ex e3
    have hl0l : (ws0.map fun w => V.str (SX.S w)).length = ws0.length := List.length_map _
    refine ev_draw (m := (ws0.length : Int) + 1) (ev_var rfl) (ev_op (ev_is (ev_cb1 (ev_var rfl) (rc_lenL (sq_of (e3 _ _ hl2)))) (by rw [hl0l])) ev_c rv_addI) (by omega) (by omega) hp3 (by omega) fun r2 H4 r20 r21 hp4 hb4 => ?_
    obtain ⟨x2, hx2, hat2⟩ := atI_in (l := (ws0.map fun w => V.str (SX.S w)) ++ [tv' wd]) (i := r2) (by omega) (by rw [List.length_append, hl0l]; exact r21)
    have hnw : ∃ nw : List Nat, x2 = tv' nw ∧ nw.length ≤ mu W + 20 := by
      rcases List.mem_append.mp hx2 with hx | hx
      · obtain ⟨u, hu, rfl⟩ := List.mem_map.mp hx
        exact ⟨u, rfl, by have := hw0 u hu; omega⟩
      · rw [List.mem_singleton] at hx
        exact ⟨wd, hx, by have := mu_mem hwd; omega⟩
    obtain ⟨nw, rfl, hnwl⟩ := hnw
    refine .inl ⟨qn, _, r2, _, rfl, rfl, sq_of (hb4 _ _ (hp3.ne h3) h3), hat2, ?_⟩
    have h4 := hb4 _ _ (hp3.ne (e3 _ _ h2)) (e3 _ _ h2)
    have hi1 : ((i : Int) + 1) = ((i + 1 : Nat) : Int) := by omega
    have ht1 : ∀ {σ : L2.St} {H' : Hp}, Ex H4 H' → σ[3]? = some (some (.ref q)) → σ[4]? = some (some (.int (i : Int))) → EvL (tSl (rSl K) (tVar 3) tNoPart (tPart (tVar 4))) σ H' ((W.take i).map tv') := fun e s3 s4 => el_is (els_sl (els_val (ev_var s3) (sq_of (e _ _ h4))) eo_none (eo_some (ev_var s4))) (cut_to _ _ _)
    have ht2 : ∀ {σ : L2.St} {H' : Hp}, Ex H4 H' → σ[3]? = some (some (.ref q)) → σ[4]? = some (some (.int (i : Int))) → EvL (tSl (rSl K) (tVar 3) tNoPart (tPart (tOp (rAddA K) (tVar 4) (tC (.int 1))))) σ H' ((W.take (i + 1)).map tv') := fun e s3 s4 => el_is (els_sl (els_val (ev_var s3) (sq_of (e _ _ h4))) eo_none (eo_some (ev_op (ev_var s4) ev_c rv_addI))) (by rw [hi1, cut_to])
    have ht3 : ∀ {σ : L2.St} {H' : Hp}, Ex H4 H' → σ[3]? = some (some (.ref q)) → σ[4]? = some (some (.int (i : Int))) → EvL (tSl (rSl K) (tVar 3) (tPart (tVar 4)) tNoPart) σ H' ((W.drop i).map tv') := fun e s3 s4 => el_is (els_sl (els_val (ev_var s3) (sq_of (e _ _ h4))) (eo_some (ev_var s4)) eo_none) (cut_from _ _ _)
    have ht4 : ∀ {σ : L2.St} {H' : Hp}, Ex H4 H' → σ[3]? = some (some (.ref q)) → σ[4]? = some (some (.int (i : Int))) → EvL (tSl (rSl K) (tVar 3) (tPart (tOp (rAddA K) (tVar 4) (tC (.int 1)))) tNoPart) σ H' ((W.drop (i + 1)).map tv') := fun e s3 s4 => el_is (els_sl (els_val (ev_var s3) (sq_of (e _ _ h4))) (eo_some (ev_op (ev_var s4) ev_c rv_addI)) eo_none) (by rw [hi1, cut_from])
    have hW8 : W.length ≤ 1000000 := by omega
    have lt : ∀ j, ((W.take j).map tv').length ≤ 1000000 := fun j => by rw [List.length_map, List.length_take]; omega
    have ld : ∀ j, ((W.drop j).map tv').length ≤ 1000000 := fun j => by rw [List.length_map, List.length_drop]; omega
    have l1 : ∀ u : V, ([u] : List V).length = 1 := fun _ => rfl
    refine (el_is (el_cat (ep_new (ht1 (Ex.refl _) rfl rfl)) (ep_new (ht4 (Ex.refl _) rfl rfl)) (by have := lt i; have := ld (i + 1); omega)) List.map_append.symm : EvL _ _ H4 _) H4 (Ex.refl _) _ fun a1 H5 _ e5 g1 => ?_
    refine (el_is (el_cat (ep_new (ht2 e5 rfl rfl)) (ep_new (ht3 e5 rfl rfl)) (by have := lt (i + 1); have := ld i; omega)) List.map_append.symm : EvL _ _ H5 _) H5 (Ex.refl _) _ fun a2 H6 _ e6 g2 => ?_
    have e46 := e5.trans e6
    refine (el_is (el_cat (ep_new (el_cat (ep_new (ht1 e46 rfl rfl)) (ep_new (el_lst (ea_cons (ev_var rfl) ea_nil) (by show 1 ≤ 100000; decide))) (by have := lt i; rw [l1]; omega))) (ep_new (ht4 e46 rfl rfl)) (by have := lt i; have := ld (i + 1); rw [List.length_append, l1]; omega)) (ys := (W.take i ++ [nw] ++ W.drop (i + 1)).map tv') (by rw [List.map_append, List.map_append]; rfl) : EvL _ _ H6 _) H6 (Ex.refl _) _ fun a3 H7 _ e7 g3 => ?_
    refine ⟨by show 3 ≤ sizeLine; decide, fun qs hqs => ?_⟩
    have e47 := e46.trans e7
    have e48 : Ex H4 (upd H7 qs (.lst [.ref a1, .ref a2, .ref a3])) := e47.trans (Ex.new hqs)
    have e78 : Ex H7 (upd H7 qs (.lst [.ref a1, .ref a2, .ref a3])) := Ex.new hqs
    have h8 : upd H7 qs (.lst [.ref a1, .ref a2, .ref a3]) qs = some (.lst [.ref a1, .ref a2, .ref a3]) := upd_same
    have hqs4 := fresh_back e47 hqs
    revert e48 e78 h8
    generalize upd H7 qs (.lst [.ref a1, .ref a2, .ref a3]) = H8
    intro e48 e78 h8
    refine ⟨_, rfl, .inl ⟨rfl, _, sq_of h8⟩, ?_⟩
    refine (el_is (el_cat (ep_new (el_cat (ep_new (ht1 e48 rfl rfl)) (ep_new (el_lst (ea_cons (ev_var rfl) ea_nil) (by show 1 ≤ 100000; decide))) (by have := lt i; rw [l1]; omega))) (ep_new (ht3 e48 rfl rfl)) (by have := lt i; have := ld i; rw [List.length_append, l1]; omega)) (ys := (W.take i ++ [nw] ++ W.drop i).map tv') (by rw [List.map_append, List.map_append]; rfl) : EvL _ _ H8 _) H8 (Ex.refl _) _ fun a4 H9 ha4 e9 g4 => ?_
    refine ⟨qs, _, _, rfl, rfl, e9 _ _ h8, by show 3 < sizeLine; decide, ?_⟩
    have e410 : Ex H4 (upd H9 qs (.lst ([.ref a1, .ref a2, .ref a3] ++ [.ref a4]))) := Ex.mut (e48.trans e9) hqs4
    have ne : ∀ {a : Addr} {xs : List V}, H7 a = some (.lst xs) → a ≠ qs := fun g => ne_of_none g hqs
    have k1 : upd H9 qs (.lst ([.ref a1, .ref a2, .ref a3] ++ [.ref a4])) a1 = some (.lst ((W.take i ++ W.drop (i + 1)).map tv')) := by rw [upd_ne (ne (e7 _ _ (e6 _ _ g1)))]; exact e9 _ _ (e78 _ _ (e7 _ _ (e6 _ _ g1)))
    have k2 : upd H9 qs (.lst ([.ref a1, .ref a2, .ref a3] ++ [.ref a4])) a2 = some (.lst ((W.take (i + 1) ++ W.drop i).map tv')) := by rw [upd_ne (ne (e7 _ _ g2))]; exact e9 _ _ (e78 _ _ (e7 _ _ g2))
    have k3 : upd H9 qs (.lst ([.ref a1, .ref a2, .ref a3] ++ [.ref a4])) a3 = some (.lst ((W.take i ++ [nw] ++ W.drop (i + 1)).map tv')) := by rw [upd_ne (ne g3)]; exact e9 _ _ (e78 _ _ g3)
    have k4 : upd H9 qs (.lst ([.ref a1, .ref a2, .ref a3] ++ [.ref a4])) a4 = some (.lst ((W.take i ++ [nw] ++ W.drop i).map tv')) := by
      rw [upd_ne (Ne.symm (ne_of_none h8 ha4))]
      exact g4
    have kq : upd H9 qs (.lst ([.ref a1, .ref a2, .ref a3] ++ [.ref a4])) qs = some (.lst ([a1, a2, a3, a4].map V.ref)) := upd_same
    have hp10 := hp4.ex e410
    have m1 := mu_take_drop W i
    have m2 := mu_drop1 hi
    have m3 := mu_take1 hi
    have m4 : W[i].length + 1 ≤ mu W := mu_mem (List.getElem_mem hi)
    have m5 : mu [nw] = nw.length + 1 := rfl
    dsimp only [tRet, CwR.tReplC]
    refine join_pick (M := 2 * mu W + 21) (n := n + 3) (lc := lc) (as := [a1, a2, a3, a4]) (c := 32) rfl rfl kq rfl ?_ (by omega) (hp10.le (by omega)) (by omega) fun ws H11 hm11 hp11 hb11 => ?_
    · intro a ha
      simp only [List.mem_cons, List.not_mem_nil, or_false] at ha
      rcases ha with rfl | rfl | rfl | rfl
      · exact ⟨_, k1, by rw [mu_append]; omega⟩
      · exact ⟨_, k2, by rw [mu_append]; omega⟩
      · exact ⟨_, k3, by rw [mu_append, mu_append]; omega⟩
      · exact ⟨_, k4, by rw [mu_append, mu_append]; omega⟩
    · have hj := mu_join (c := 32) ws
      refine ⟨_, rfl, ?_, ?_⟩
      · have hz1 : (Str.ofString "\n").length = 1 := by decide +kernel
        rw [hz1, SX.S_len]
        omega
      · refine k _ H11 ?_ (hp11.le (by omega)) ((But.of e1).trans (hb2.trans ((But.of e3).trans (hb4.trans ((But.of e410).trans hb11)))))
        have hr := replace_le (x := SX.S (TL.joinL [32] ws)) (y := Str.ofString " \n ") (z := Str.ofString "\n") (by decide +kernel)
        show _ ≤ 8 * t.length + 40
        exact Nat.le_trans hr (by rw [SX.S_len]; omega)
end
end K85
set_option maxRecDepth 100000
set_option maxHeartbeats 1000000
namespace K85
open PySem PySem.Spec PyProof.Rows L2 Evl MB
def spBentL (f : Nat → Nat) : Sp := fun vs H Q _ => ∃ (p lc : Addr) (t : Str) (n : Nat), vs = [.ref p, .str t] ∧ Pen H p lc n ∧ n + 11 ≤ 1000000 ∧ t.length ≤ 100000 ∧
  ∀ (t' : Str) H', t'.length ≤ f t.length → Pen H' p lc (n + 11) → But p H H' → Q (.str t') H'
section
variable {P : Program} {w : World} {K : PySem.W.Frag} {mg : Str → Option Value} {base : Heap}
/-! ### _law_line_bent -/
theorem ok_law_line_bent {f : Addr} {fd : FuncData} (F : Fun K "_law_line_bent" "_law_line_bent" s_law_line_bent f fd) (T : T0 mg) (c_law_draw : MB.Cl P w K mg base 1 "_law_draw" spDraw) : FnOk P w K mg base CX0 2 f fd p_law_line_bent (spBent 1 fB) := by
  refine F.ok sc_law_line_bent (fun vs H Q E h => ?_) (fun cdv A outer s H vs Q E hr h => ?_)
  · obtain ⟨p, lc, t, n, more, rfl, hm, _⟩ := h
    rw [List.length_cons, List.length_cons, hm]
    rfl
  · obtain ⟨p, lc, t, n, more, rfl, hm, hp, hn, ht, hmore, k⟩ := h
    obtain ⟨v0, rfl⟩ : ∃ v, more = [v] := List.length_eq_one_iff.mp hm
    obtain ⟨l0, ws0, rfl, hl0, hn0, hw0⟩ := hmore _ (List.mem_singleton.mpr rfl)
    refine ⟨_, (pss_cons (ps_set (i := 3) sc_law_line_bent.nd rfl (Or.inl rfl) (pe_split (pv 1) pe_str))
      (pss_cons (ps_set (i := 4) sc_law_line_bent.nd rfl (Or.inl rfl) (MB.pe_cl c_law_draw hr (by decide) (by rfl) passL (pa_cons (pv 0) (pa_cons (pe_callB (MB.call_lenK (K := K) rfl) (by rfl) T.n_len MB.bo_len (pa_cons (pv 3) pa_nil)) pa_nil))))
      (pss_cons (ps_set (i := 5) sc_law_line_bent.nd rfl (Or.inl rfl) (MB.pe_cl c_law_draw hr (by decide) (by rfl) passL (pa_cons (pv 0) (pa_cons (pe_callB (MB.call_lenK (K := K) rfl) (by rfl) T.n_len MB.bo_len (pa_cons (pv 3) pa_nil)) pa_nil))))
      (pss_cons (ps_set (i := 6) sc_law_line_bent.nd rfl (Or.inl rfl) (pe_ix (MB.ix_K (K := K) rfl) (pe_op (MB.op_addK (K := K) rfl) (pv 2) (pe_lst (pa_cons (pe_ix (MB.ix_K (K := K) rfl) (pv 3) (pv 5) (fun _ _ => rfl)) pa_nil))) (MB.pe_cl c_law_draw hr (by decide) (by rfl) passL (pa_cons (pv 0) (pa_cons (pe_op (MB.op_addK (K := K) rfl) (pe_callB (MB.call_lenK (K := K) rfl) (by rfl) T.n_len MB.bo_len (pa_cons (pv 2) pa_nil)) pe_int) pa_nil))) (fun _ _ => rfl)))
      (pss_cons (ps_set (i := 7) sc_law_line_bent.nd rfl (Or.inl rfl) (pe_callTy call_list_of (by rfl) T.n_list MB.bo_list (pa_cons (pv 3) pa_nil)))
      (pss_cons (ps_asg (pe_ix (MB.ix_K (K := K) rfl) (pv 3) (pv 5) (fun _ _ => rfl)) (pg_sub (pv 7) (pv 4) set_list))
      (pss_cons (ps_asg (pe_ix (MB.ix_K (K := K) rfl) (pv 3) (pv 4) (fun _ _ => rfl)) (pg_sub (pv 7) (pv 5) set_list))
      (pss_cons (ps_set (i := 8) sc_law_line_bent.nd rfl (Or.inl rfl) (pe_lst (pa_cons (pe_op (MB.op_addK (K := K) rfl) (pe_slice (MB.sl_K (K := K) rfl) (pv 3) po_none (po_some (pv 4))) (pe_slice (MB.sl_K (K := K) rfl) (pv 3) (po_some (pe_op (MB.op_addK (K := K) rfl) (pv 4) pe_int)) po_none)) (pa_cons (pe_op (MB.op_addK (K := K) rfl) (pe_slice (MB.sl_K (K := K) rfl) (pv 3) po_none (po_some (pe_op (MB.op_addK (K := K) rfl) (pv 4) pe_int))) (pe_slice (MB.sl_K (K := K) rfl) (pv 3) (po_some (pv 4)) po_none)) (pa_cons (pv 7) (pa_cons (pe_op (MB.op_addK (K := K) rfl) (pe_op (MB.op_addK (K := K) rfl) (pe_slice (MB.sl_K (K := K) rfl) (pv 3) po_none (po_some (pv 4))) (pe_lst (pa_cons (pv 6) pa_nil))) (pe_slice (MB.sl_K (K := K) rfl) (pv 3) (po_some (pv 4)) po_none)) pa_nil))))))
      (pss_one (ps_ret (MB.pe_joinK (K := K) rfl pe_str (pe_ix (MB.ix_K (K := K) rfl) (pv 8) (MB.pe_cl c_law_draw hr (by decide) (by rfl) passL (pa_cons (pv 0) (pa_cons pe_int pa_nil))) (fun _ _ => rfl))))))))))))), ?_⟩
    obtain ⟨tl, rfl⟩ : ∃ tl, t = SX.S tl := ⟨t.cps.toList, (SX.S_tl t).symm⟩
    rw [SX.S_len] at ht
    refine q_asgL (el_split (w := tl) (sep := [10]) (ev_var rfl) ev_c (by decide) (by decide) (by omega)) fun q H1 hq e1 h1 => ?_
    have hmu : mu (TL.spl [10] 0 [] tl) = tl.length + 1 := by rw [mu_spl, List.length_nil]; omega
    have hne := spl_ne [10] tl 0 []
    revert h1 hmu hne
    generalize TL.spl [10] 0 [] tl = W
    intro h1 hmu hne
    change H1 q = some (.lst (W.map tv')) at h1
    have hWl : (W.map tv').length = W.length := List.length_map _
    have hWm := mu_len W
    have hWp : 0 < W.length := List.length_pos_iff.mpr hne
    have hp1 := hp.ex e1
    refine q_draw (m := (W.length : Int)) (ev_var rfl) (ev_is (ev_cb1 (ev_var rfl) (rc_lenL (sq_of h1))) (by rw [hWl])) (by omega) (by omega) hp1 (by omega) fun r H2 r0 r1 hp2 hb2 => ?_
    obtain ⟨i, rfl⟩ : ∃ i : Nat, r = (i : Int) := ⟨r.toNat, by omega⟩
    have hi : i < W.length := by omega
    have h2 := hb2 _ _ (hp1.ne h1) h1
    have hl2 := hb2 _ _ (hp1.ne (e1 _ _ hl0)) (e1 _ _ hl0)
    refine q_draw (m := (W.length : Int)) (ev_var rfl) (ev_is (ev_cb1 (ev_var rfl) (rc_lenL (sq_of h2))) (by rw [hWl])) (by omega) (by omega) hp2 (by omega) fun r' H2' r0' r1' hp2' hb2' => ?_
    obtain ⟨j, rfl⟩ : ∃ i : Nat, r' = (i : Int) := ⟨r'.toNat, by omega⟩
    have hj : j < W.length := by omega
    have h2' := hb2' _ _ (hp2.ne h2) h2
    have hl2' := hb2' _ _ (hp2.ne hl2) hl2
    -- the new line
    have hatj : atI (W.map tv') (j : Int) = some (tv' W[j]) := MB.atI_nat (by rw [List.getElem?_map, List.getElem?_eq_getElem hj]; rfl)
    have hati : atI (W.map tv') (i : Int) = some (tv' W[i]) := MB.atI_nat (by rw [List.getElem?_map, List.getElem?_eq_getElem hi]; rfl)
    refine (el_cat (ep_val (ev_var rfl) hl2') (ep_new (el_lst (ea_cons (ev_op (ev_var rfl) (ev_var rfl) (rv_xL (sq_of h2') hatj)) ea_nil) (by show 1 ≤ 100000; decide))) (by rw [List.length_map]; show _ + 1 ≤ _; omega) : EvL _ _ H2' _) H2' (Ex.refl _) _ fun qn H3 _ e3 h3 => ?_
    have hp3 := hp2'.ex e3
    have hl0l : (ws0.map fun w => V.str (SX.S w)).length = ws0.length := List.length_map _
    refine ev_draw (m := (ws0.length : Int) + 1) (ev_var rfl) (ev_op (ev_is (ev_cb1 (ev_var rfl) (rc_lenL (sq_of (e3 _ _ hl2')))) (by rw [hl0l])) ev_c rv_addI) (by omega) (by omega) hp3 (by omega) fun r2 H4 r20 r21 hp4 hb4 => ?_
    have hWj : W[j].length + 1 ≤ mu W := mu_mem (List.getElem_mem hj)
    have hWi : W[i].length + 1 ≤ mu W := mu_mem (List.getElem_mem hi)
    obtain ⟨x2, hx2, hat2⟩ := atI_in (l := (ws0.map fun w => V.str (SX.S w)) ++ [tv' W[j]]) (i := r2) (by omega) (by rw [List.length_append, hl0l]; exact r21)
    have hnw : ∃ nw : List Nat, x2 = tv' nw ∧ nw.length ≤ mu W + 20 := by
      rcases List.mem_append.mp hx2 with hx | hx
      · obtain ⟨u, hu, rfl⟩ := List.mem_map.mp hx
        exact ⟨u, rfl, by have := hw0 u hu; omega⟩
      · rw [List.mem_singleton] at hx
        exact ⟨_, hx, by omega⟩
    obtain ⟨nw, rfl, hnwl⟩ := hnw
    refine .inl ⟨qn, _, r2, _, rfl, rfl, sq_of (hb4 _ _ (hp3.ne h3) h3), hat2, ?_⟩
    have h4a := hb4 _ _ (hp3.ne (e3 _ _ h2')) (e3 _ _ h2')
    -- the turned lines
    refine ⟨_, rfl, q, _, rfl, .inl (sq_of h4a), fun tu htu => ?_⟩
    have e4b : Ex H4 (upd H4 tu (.lst (W.map tv'))) := Ex.new htu
    have htu1 : upd H4 tu (.lst (W.map tv')) tu = some (.lst (W.map tv')) := upd_same
    have hqtu : q ≠ tu := ne_of_none h4a htu
    have ix : ∀ m : Nat, m < W.length → ixN (W.map tv').length (m : Int) = some m := fun m hm => ixN_nat (by rw [hWl]; exact hm)
    refine ⟨_, rfl, _, rfl, .inl ⟨q, _, _, _, rfl, rfl, sq_of (e4b _ _ h4a), hatj, _, rfl, _, rfl, tu, _, _, i, rfl, rfl, htu1, ix i hi, ?_⟩⟩
    refine ⟨_, rfl, _, rfl, .inl ⟨q, _, _, _, rfl, rfl, sq_of (by rw [upd_ne hqtu]; exact e4b _ _ h4a), hati, _, rfl, _, rfl, tu, _, _, j, rfl, rfl, upd_same, (by rw [List.length_set]; exact ix j hj), ?_⟩⟩
    have e45 : Ex H4 (upd (upd (upd H4 tu (.lst (W.map tv'))) tu (.lst ((W.map tv').set i (tv' W[j])))) tu (.lst (((W.map tv').set i (tv' W[j])).set j (tv' W[i])))) := Ex.mut (Ex.mut (Ex.mut (Ex.refl _) htu) htu) htu
    have h5t : upd (upd (upd H4 tu (.lst (W.map tv'))) tu (.lst ((W.map tv').set i (tv' W[j])))) tu (.lst (((W.map tv').set i (tv' W[j])).set j (tv' W[i]))) tu = some (.lst (((W.set i W[j]).set j W[i]).map tv')) := by
      rw [upd_same, List.map_set, List.map_set]
    revert e45 h5t
    generalize upd (upd (upd H4 tu (.lst (W.map tv'))) tu (.lst ((W.map tv').set i (tv' W[j])))) tu (.lst (((W.map tv').set i (tv' W[j])).set j (tv' W[i]))) = H5
    intro e45 h5t
    have h5 := e45 _ _ h4a
    have hi1 : ((i : Int) + 1) = ((i + 1 : Nat) : Int) := by omega
    have ht1 : ∀ {σ : L2.St} {H' : Hp}, Ex H5 H' → σ[3]? = some (some (.ref q)) → σ[4]? = some (some (.int (i : Int))) → EvL (tSl (rSl K) (tVar 3) tNoPart (tPart (tVar 4))) σ H' ((W.take i).map tv') := fun e s3 s4 => el_is (els_sl (els_val (ev_var s3) (sq_of (e _ _ h5))) eo_none (eo_some (ev_var s4))) (cut_to _ _ _)
    have ht2 : ∀ {σ : L2.St} {H' : Hp}, Ex H5 H' → σ[3]? = some (some (.ref q)) → σ[4]? = some (some (.int (i : Int))) → EvL (tSl (rSl K) (tVar 3) tNoPart (tPart (tOp (rAddA K) (tVar 4) (tC (.int 1))))) σ H' ((W.take (i + 1)).map tv') := fun e s3 s4 => el_is (els_sl (els_val (ev_var s3) (sq_of (e _ _ h5))) eo_none (eo_some (ev_op (ev_var s4) ev_c rv_addI))) (by rw [hi1, cut_to])
    have ht3 : ∀ {σ : L2.St} {H' : Hp}, Ex H5 H' → σ[3]? = some (some (.ref q)) → σ[4]? = some (some (.int (i : Int))) → EvL (tSl (rSl K) (tVar 3) (tPart (tVar 4)) tNoPart) σ H' ((W.drop i).map tv') := fun e s3 s4 => el_is (els_sl (els_val (ev_var s3) (sq_of (e _ _ h5))) (eo_some (ev_var s4)) eo_none) (cut_from _ _ _)
    have ht4 : ∀ {σ : L2.St} {H' : Hp}, Ex H5 H' → σ[3]? = some (some (.ref q)) → σ[4]? = some (some (.int (i : Int))) → EvL (tSl (rSl K) (tVar 3) (tPart (tOp (rAddA K) (tVar 4) (tC (.int 1)))) tNoPart) σ H' ((W.drop (i + 1)).map tv') := fun e s3 s4 => el_is (els_sl (els_val (ev_var s3) (sq_of (e _ _ h5))) (eo_some (ev_op (ev_var s4) ev_c rv_addI)) eo_none) (by rw [hi1, cut_from])
    have lt : ∀ j, ((W.take j).map tv').length ≤ 1000000 := fun j => by rw [List.length_map, List.length_take]; omega
    have ld : ∀ j, ((W.drop j).map tv').length ≤ 1000000 := fun j => by rw [List.length_map, List.length_drop]; omega
    have l1 : ∀ u : V, ([u] : List V).length = 1 := fun _ => rfl
    refine (el_is (el_cat (ep_new (ht1 (Ex.refl _) rfl rfl)) (ep_new (ht4 (Ex.refl _) rfl rfl)) (by have := lt i; have := ld (i + 1); omega)) List.map_append.symm : EvL _ _ H5 _) H5 (Ex.refl _) _ fun a1 H6 _ e6 g1 => ?_
    refine (el_is (el_cat (ep_new (ht2 e6 rfl rfl)) (ep_new (ht3 e6 rfl rfl)) (by have := lt (i + 1); have := ld i; omega)) List.map_append.symm : EvL _ _ H6 _) H6 (Ex.refl _) _ fun a2 H7 _ e7 g2 => ?_
    have e57 := e6.trans e7
    refine ⟨_, rfl, ?_⟩
    refine (el_is (el_cat (ep_new (el_cat (ep_new (ht1 e57 rfl rfl)) (ep_new (el_lst (ea_cons (ev_var rfl) ea_nil) (by show 1 ≤ 100000; decide))) (by have := lt i; rw [l1]; omega))) (ep_new (ht3 e57 rfl rfl)) (by have := lt i; have := ld i; rw [List.length_append, l1]; omega)) (ys := (W.take i ++ [nw] ++ W.drop i).map tv') (by rw [List.map_append, List.map_append]; rfl) : EvL _ _ H7 _) H7 (Ex.refl _) _ fun a4 H8 _ e8 g4 => ?_
    refine ⟨by show 4 ≤ sizeLine; decide, fun qs hqs => ?_⟩
    have e58 := e57.trans e8
    have e89 : Ex H8 (upd H8 qs (.lst [.ref a1, .ref a2, .ref tu, .ref a4])) := Ex.new hqs
    have kq : upd H8 qs (.lst [.ref a1, .ref a2, .ref tu, .ref a4]) qs = some (.lst ([a1, a2, tu, a4].map V.ref)) := upd_same
    have e49 := (e45.trans e58).trans e89
    have hp10 := hp4.ex e49
    have m1 := mu_take_drop W i
    have m2 := mu_drop1 hi
    have m3 := mu_take1 hi
    have m5 : mu [nw] = nw.length + 1 := rfl
    have m6 := mu_set (W.set i W[j]) j W[i]
    have m7 := mu_set W i W[j]
    dsimp only [tRet]
    refine join_pick (M := 3 * mu W + 21) (n := n + 4) (lc := lc) (as := [a1, a2, tu, a4]) (c := 10) rfl rfl kq rfl ?_ (by omega) (hp10.le (by omega)) (by omega) fun ws H11 hm11 hp11 hb11 => ?_
    · intro a ha
      simp only [List.mem_cons, List.not_mem_nil, or_false] at ha
      rcases ha with rfl | rfl | rfl | rfl
      · exact ⟨_, e89 _ _ (e8 _ _ (e7 _ _ g1)), by rw [mu_append]; omega⟩
      · exact ⟨_, e89 _ _ (e8 _ _ g2), by rw [mu_append]; omega⟩
      · exact ⟨_, e89 _ _ (e58 _ _ h5t), by omega⟩
      · exact ⟨_, e89 _ _ g4, by rw [mu_append, mu_append]; omega⟩
    · have hj := mu_join (c := 10) ws
      refine k _ H11 ?_ (hp11.le (by omega)) ((But.of e1).trans (hb2.trans (hb2'.trans ((But.of e3).trans (hb4.trans ((But.of e49).trans hb11))))))
      rw [SX.S_len, SX.S_len]
      show _ ≤ 8 * tl.length + 40
      omega
/-! ### _law_bent -/
theorem ok_law_bent {f : Addr} {fd : FuncData} (F : Fun K "_law_bent" "_law_bent" s_law_bent f fd) (T : T0 mg) (c_law_draw : MB.Cl P w K mg base 1 "_law_draw" spDraw) (c_law_sign_bent : MB.Cl P w K mg base 2 "_law_sign_bent" (spBent 0 fB)) (c_law_word_bent : MB.Cl P w K mg base 2 "_law_word_bent" (spBent 1 fB)) (c_law_line_bent : MB.Cl P w K mg base 2 "_law_line_bent" (spBent 1 fB)) : FnOk P w K mg base CX0 3 f fd p_law_bent (spBentL fB) := by
  refine F.ok sc_law_bent (fun vs H Q E h => ?_) (fun cdv A outer s H vs Q E hr h => ?_)
  · obtain ⟨p, lc, t, n, rfl, _⟩ := h
    rfl
  · obtain ⟨p, lc, t, n, rfl, hp, hn, ht, k⟩ := h
    have hu64 := hu64 hr
    refine ⟨_, (pss_cons (ps_set (i := 2) sc_law_bent.nd rfl (Or.inl rfl) (pe_lst (pa_cons pe_str (pa_cons pe_str (pa_cons pe_str (pa_cons pe_str (pa_cons pe_str (pa_cons pe_str (pa_cons pe_str (pa_cons pe_str pa_nil))))))))))
      (pss_cons (ps_set (i := 3) sc_law_bent.nd rfl (Or.inl rfl) (pe_lst (pa_cons pe_str (pa_cons pe_str (pa_cons pe_str (pa_cons pe_str pa_nil))))))
      (pss_cons (ps_set (i := 4) sc_law_bent.nd rfl (Or.inl rfl) (MB.pe_cl c_law_draw hr (by decide) (by rfl) passL (pa_cons (pv 0) (pa_cons pe_int pa_nil))))
      (pss_cons (ps_if (pt_cmpR (MB.op_eqK (K := K) rfl hu64) (pv 4) pe_int (nomark _)) (pss_one (ps_ret (MB.pe_cl c_law_sign_bent hr (by decide) (by rfl) passL (pa_cons (pv 0) (pa_cons (pv 1) pa_nil))))) pss_nil)
      (pss_cons (ps_if (pt_cmpR (MB.op_eqK (K := K) rfl hu64) (pv 4) pe_int (nomark _)) (pss_one (ps_ret (MB.pe_cl c_law_word_bent hr (by decide) (by rfl) passL (pa_cons (pv 0) (pa_cons (pv 1) (pa_cons (pv 2) pa_nil)))))) pss_nil)
      (pss_one (ps_ret (MB.pe_cl c_law_line_bent hr (by decide) (by rfl) passL (pa_cons (pv 0) (pa_cons (pv 1) (pa_cons (pv 3) pa_nil))))))))))), ?_⟩
    refine q_asgL (el_lst (ea_cons ev_c (ea_cons ev_c (ea_cons ev_c (ea_cons ev_c (ea_cons ev_c (ea_cons ev_c (ea_cons ev_c (ea_cons ev_c ea_nil)))))))) (by show 8 ≤ 100000; decide)) fun l1 H1 hl1 e1 h1 => ?_
    refine q_asgL (el_lst (ea_cons ev_c (ea_cons ev_c (ea_cons ev_c (ea_cons ev_c ea_nil)))) (by show 4 ≤ 100000; decide)) fun l2 H2 hl2 e2 h2 => ?_
    refine q_draw (m := 3) (ev_var rfl) ev_c (by decide) (by decide) (hp.ex (e1.trans e2)) (by omega) fun r H3 r0 r1 hp3 hb3 => ?_
    have e12 := e1.trans e2
    have hl1 : H3 l1 = some (.lst (([Str.ofString "00000000", Str.ofString "ffffffff", Str.ofString "0000000", Str.ofString "000000000", Str.ofString "FFFFFFFF", Str.ofString "", Str.ofString "0000000g", Str.ofString "12 34"].map fun z => z.cps.toList).map fun w => V.str (SX.S w))) := by
      have := hb3 _ _ ((hp.ex e12).ne (e2 _ _ h1)) (e2 _ _ h1)
      simp only [List.map_cons, List.map_nil, SX.S_tl]
      exact this
    have hl2 : H3 l2 = some (.lst (([Str.ofString "00000000", Str.ofString "", Str.ofString "0 0", Str.ofString "ffffffff ffffffff"].map fun z => z.cps.toList).map fun w => V.str (SX.S w))) := by
      have := hb3 _ _ ((hp.ex e12).ne h2) h2
      simp only [List.map_cons, List.map_nil, SX.S_tl]
      exact this
    have fin : ∀ (t' : Str) H', t'.length ≤ fB t.length → Pen H' p lc (n + 1 + 10) → But p H3 H' → Q (.str t') H' := fun t' H' a b c => k t' H' a (b.le (by omega)) ((But.of e12).trans (hb3.trans c))
    refine q_ifN (b := decide (r = 0)) (et_test (ev_op (ev_var rfl) ev_c rv_eqI)) (fun _ H4 e4 => ?_) fun _ H4 e4 => ?_
    · exact s_retC (ea_cons (ev_var rfl) (ea_cons (ev_var rfl) ea_nil)) fun H5 e5 => ⟨p, lc, t, n + 1, [], rfl, rfl, hp3.ex (e4.trans e5), by omega, ht, by simp, fun t' H' a b c => fin t' H' a b ((But.of (e4.trans e5)).trans c)⟩
    refine q_ifN (b := decide (r = 1)) (et_test (ev_op (ev_var rfl) ev_c rv_eqI)) (fun _ H5 e5 => ?_) fun _ H5 e5 => ?_
    · refine s_retC (ea_cons (ev_var rfl) (ea_cons (ev_var rfl) (ea_cons (ev_var rfl) ea_nil))) fun H6 e6 => ⟨p, lc, t, n + 1, [.ref l1], rfl, rfl, hp3.ex ((e4.trans e5).trans e6), by omega, ht, ?_, fun t' H' a b c => fin t' H' a b ((But.of ((e4.trans e5).trans e6)).trans c)⟩
      intro v hv
      rw [List.mem_singleton] at hv
      exact ⟨l1, _, hv, ((e4.trans e5).trans e6) _ _ hl1, by decide +kernel, by decide +kernel⟩
    · refine s_retC (ea_cons (ev_var rfl) (ea_cons (ev_var rfl) (ea_cons (ev_var rfl) ea_nil))) fun H6 e6 => ⟨p, lc, t, n + 1, [.ref l2], rfl, rfl, hp3.ex ((e4.trans e5).trans e6), by omega, ht, ?_, fun t' H' a b c => fin t' H' a b ((But.of ((e4.trans e5).trans e6)).trans c)⟩
      intro v hv
      rw [List.mem_singleton] at hv
      exact ⟨l2, _, hv, ((e4.trans e5).trans e6) _ _ hl2, by decide +kernel, by decide +kernel⟩
end
end K85
set_option maxRecDepth 100000
set_option maxHeartbeats 1000000
namespace K85
open PySem PySem.Spec PyProof.Rows L2 Evl MB
/-! ### the law's own forms -/
def figT (len k : Nat) : List Nat := if k % 32 = 31 ∨ k = len - 1 then [10] else if k % 4 = 3 then [32] else []
def figL (len : Nat) : Nat → List Nat → List Nat
  | _, [] => []
  | k, n :: r => pr n ++ figT len k ++ figL len (k + 1) r
theorem figL_app (len : Nat) : ∀ (a b : List Nat) (k : Nat), figL len k (a ++ b) = figL len k a ++ figL len (k + a.length) b
  | [], b, k => rfl
  | n :: a, b, k => by
    show pr n ++ figT len k ++ figL len (k + 1) (a ++ b) = pr n ++ figT len k ++ figL len (k + 1) a ++ _
    rw [figL_app len a b (k + 1), List.length_cons, List.append_assoc, List.append_assoc, List.append_assoc, show k + 1 + a.length = k + (a.length + 1) by omega]
theorem figL_le (len : Nat) : ∀ (a : List Nat) (k : Nat), (figL len k a).length ≤ 3 * a.length
  | [], k => Nat.zero_le _
  | n :: a, k => by
    have := figL_le len a (k + 1)
    have h2 : (figT len k).length ≤ 1 := by
      unfold figT
      split
      · exact Nat.le_refl 1
      · split
        · exact Nat.le_refl 1
        · exact Nat.zero_le 1
    show (pr n ++ figT len k ++ figL len (k + 1) a).length ≤ _
    rw [List.length_append, List.length_append, List.length_cons]
    show 2 + _ + _ ≤ _
    omega
def badW (ws : List (List Nat)) : Bool := ws.any fun w => decide (w.length ≠ 8)
def badS (ws : List (List Nat)) : Bool := (TL.joinL [] ws).any fun c => !decide (c ∈ FG)
def badGo : Bool → Nat → List (List Nat) → Option Nat
  | _, _, [] => none
  | full, n, l :: r => if (!full || (decide (124 < n) || (decide (8 < (TL.spl [32] 0 [] l).length) || badW (TL.spl [32] 0 [] l)))) = true then some n else if badS (TL.spl [32] 0 [] l) = true then some n else badGo (decide ((TL.spl [32] 0 [] l).length = 8)) (n + 1) r
def badLine (t : List Nat) : Int :=
  match badGo true 0 (lns t).dropLast with
  | some n => (n : Int)
  | none => if (lns t).getLast?.getD [] = [] then -1 else ((lns t).length : Int) - 1
section
variable {P : Program} {w : World} {K : PySem.W.Frag} {mg : Str → Option Value} {base : Heap}
/-! ### _law_figures -/
def sp_figures (K : PySem.W.Frag) : Sp := fun vs H Q _ => ∃ (p : Addr) (ns : List Nat), vs = [.ref p] ∧ SqT K H p (ns.map iv) ∧ ns.length ≤ 4000 ∧ (∀ n ∈ ns, n < 256) ∧ ∀ H', Ex H H' → Q (tv (figL ns.length 0 ns)) H'
theorem ok_law_figures {f : Addr} {fd : FuncData} (F : Fun K "_law_figures" "_law_figures" s_law_figures f fd) (T : T0 mg) : FnOk P w K mg base CX0 1 f fd p_law_figures (sp_figures K) := by
  refine F.ok sc_law_figures (fun vs H Q E h => ?_) (fun cdv A outer s H vs Q E hr h => ?_)
  · obtain ⟨p, ns, rfl, _⟩ := h
    rfl
  · obtain ⟨p, ns, rfl, hp, hz, hn, k⟩ := h
    have hu64 := hu64 hr
    refine ⟨_, (pss_cons (ps_set (i := 1) sc_law_figures.nd rfl (Or.inl rfl) pe_str)
      (pss_cons (ps_for PassesOwn.never rfl (MB.pi_enumT (by rfl) T.n_enumerate (pa_cons (pv 0) pa_nil)) (pg_tup rfl (pgs_cons (pg_name (i := 2) sc_law_figures.nd rfl (.inl rfl)) (pgs_cons (pg_name (i := 3) sc_law_figures.nd rfl (.inl rfl)) pgs_nil)))
      (pss_cons (ps_set (i := 1) sc_law_figures.nd rfl (Or.inl rfl) (pe_op (MB.op_addK (K := K) rfl) (pe_op (MB.op_addK (K := K) rfl) (pv 1) (pe_ix (MB.ix_K (K := K) rfl) pe_str (pe_op op_fdiv (pv 3) pe_int) (fun _ _ => rfl))) (pe_ix (MB.ix_K (K := K) rfl) pe_str (pe_op op_mod (pv 3) pe_int) (fun _ _ => rfl))))
      (pss_one (ps_if (PW.pt (pw_or (pt_cmpR (MB.op_eqK (K := K) rfl hu64) (pe_op op_mod (pv 2) pe_int) pe_int (nomark _)) (pw_or1 (pt_cmpR (MB.op_eqK (K := K) rfl hu64) (pv 2) (pe_op op_sub (pe_callB (MB.call_lenK (K := K) rfl) (by rfl) T.n_len MB.bo_len (pa_cons (pv 0) pa_nil)) pe_int) (nomark _))))) (pss_one (ps_set (i := 1) sc_law_figures.nd rfl (Or.inl rfl) (pe_op (MB.op_addK (K := K) rfl) (pv 1) pe_str))) (pss_one (ps_if (pt_cmpR (MB.op_eqK (K := K) rfl hu64) (pe_op op_mod (pv 2) pe_int) pe_int (nomark _)) (pss_one (ps_set (i := 1) sc_law_figures.nd rfl (Or.inl rfl) (pe_op (MB.op_addK (K := K) rfl) (pv 1) pe_str))) pss_nil))))))
      (pss_one (ps_ret (pv 1))))), ?_⟩
    have hnl : (ns.map iv).length = ns.length := List.length_map _
    refine q_asg ev_c fun H1 e1 => ?_
    rw [fig_S]
    refine ⟨_, rfl, p, _, rfl, ex_t e1 hp, for_enumT (xs := ns.map iv) (fun i σ' H' => ∃ a b, σ' = [some (.ref p), some (tv (figL ns.length 0 (ns.take i))), a, b] ∧ Ex H H') ?_ ?_ ?_ ?_⟩
    · exact ⟨none, none, rfl, e1⟩
    · rintro i σ' H' _ ⟨a, b, rfl, e⟩
      exact ex_t e hp
    · rintro i x σ' H' T1 H2 hx ⟨a, b, rfl, e⟩ hT1 e2 hT k5
      rw [List.getElem?_map, Option.map_eq_some_iff] at hx
      obtain ⟨n, hni, rfl⟩ := hx
      have hlt : i < ns.length := (List.getElem?_eq_some_iff.mp hni).1
      have hn256 := hn n (List.mem_of_getElem? hni)
      have e02 : Ex H H2 := e.trans e2
      have hle := figL_le ns.length (ns.take i) 0
      rw [List.length_take] at hle
      have hnext : figL ns.length 0 (ns.take (i + 1)) = figL ns.length 0 (ns.take i) ++ (pr n ++ figT ns.length i) := by
        rw [List.take_succ, hni, figL_app, List.length_take, Nat.min_eq_left (by omega)]
        show _ ++ (pr n ++ figT ns.length (0 + i) ++ []) = _
        rw [List.append_nil, Nat.zero_add]
      refine ⟨T1, _, rfl, st_of hT, rfl, _, _, rfl, _, _, rfl, rfl, ?_⟩
      refine q_asg (v := tv (figL ns.length 0 (ns.take i) ++ [hx (n / 16)] ++ [hx (n % 16)])) (ev_op (ev_op (ev_var rfl) (ev_op (y := iv (n / 16)) ev_c (ev_op (ev_var rfl) ev_c (rv_I ⟨by decide, by decide⟩)) (rv_xS (by decide) (hx_at (by omega)))) (rv_addC ?_)) (ev_op (y := iv (n % 16)) ev_c (ev_op (ev_var rfl) ev_c (rv_I (by show (0 : Int) < 16; decide))) (rv_xS (by decide) (hx_at (by omega)))) (rv_addC ?_)) fun H3 e3 => ?_
      · show _ + 1 ≤ _
        omega
      · rw [List.length_append]
        show _ + 1 + 1 ≤ _
        omega
      have hpre : figL ns.length 0 (ns.take i) ++ [hx (n / 16)] ++ [hx (n % 16)] = figL ns.length 0 (ns.take i) ++ pr n := by rw [List.append_assoc]; rfl
      rw [hpre]
      have e03 := e02.trans e3
      refine s_if (b := decide (i % 32 = 31) || decide (i = ns.length - 1)) (et_or (et_test (ev_is (ev_op (ev_op (ev_var rfl) ev_c (rv_I (by show (0 : Int) < 32; decide))) ev_c rv_eqI) ?_)) fun _ => et_test (ev_is (ev_op (ev_var rfl) (ev_op (ev_cb1 (ev_var rfl) (rc_lenT (ex_t e03 hp))) ev_c rv_I0) rv_eqI) ?_)) (fun hb H4 e4 => ?_) fun hb H4 e4 => ?_
      · exact congrArg V.bl (decide_eq_decide.mpr (by omega))
      · exact congrArg V.bl (by rw [hnl]; exact decide_eq_decide.mpr (by omega))
      · refine s_asg (v := tv (figL ns.length 0 (ns.take i) ++ pr n ++ [10])) (ev_op (ev_var rfl) ev_c (rv_addC ?_)) fun H5 e5 => ⟨some (.int (i : Int)), some (iv n), ?_, (e03.trans e4).trans e5⟩
        · rw [List.length_append]
          show _ + 2 + 1 ≤ _
          omega
        · have : figT ns.length i = [10] := if_pos (by simpa using hb)
          rw [hnext, this, List.append_assoc]
          rfl
      · have hb' : ¬ (i % 32 = 31 ∨ i = ns.length - 1) := by simpa using hb
        refine s_ifN (b := decide (i % 4 = 3)) (et_test (ev_is (ev_op (ev_op (ev_var rfl) ev_c (rv_I (by show (0 : Int) < 4; decide))) ev_c rv_eqI) (congrArg V.bl (decide_eq_decide.mpr (by omega))))) (fun hc H5 e5 => ?_) fun hc H5 e5 => ?_
        · refine s_asg (v := tv (figL ns.length 0 (ns.take i) ++ pr n ++ [32])) (ev_op (ev_var rfl) ev_c (rv_addC ?_)) fun H6 e6 => ⟨some (.int (i : Int)), some (iv n), ?_, ((e03.trans e4).trans e5).trans e6⟩
          · rw [List.length_append]
            show _ + 2 + 1 ≤ _
            omega
          · have : figT ns.length i = [32] := by unfold figT; rw [if_neg hb', if_pos (by simpa using hc)]
            rw [hnext, this, List.append_assoc]
            rfl
        · refine ⟨some (.int (i : Int)), some (iv n), ?_, (e03.trans e4).trans e5⟩
          have : figT ns.length i = [] := by unfold figT; rw [if_neg hb', if_neg (by simpa using hc)]
          rw [hnext, this, List.append_nil]
          rfl
    · rintro σ' H' ⟨a, b, rfl, e⟩
      rw [hnl, List.take_length]
      exact s_ret (ev_var rfl) fun H2 e2 => k H2 (e.trans e2)
theorem q_forRng {ta : TA} {g : TG} {tb tz : TS} {D : Ends} {σ : L2.St} {H : Hp} {j : Int} (h : EvA ta σ H [.int j]) (h0 : -(2 ^ 62) ≤ j) (h1 : j < 2 ^ 62) (k : ∀ H1, Ex H H1 → ∃ W : Nat → Nat → L2.St → Hp → Prop, (∃ m, W 0 m σ H1) ∧ ∀ i m σ H, W i m σ H →
      ((Itr 0 j.toNat).stop i H ∧ ({ D with nx := tz D } : Ends).nx σ H) ∨ ((Itr 0 j.toNat).go i H ∧ ∃ N : L2.St → Hp → Prop, (∀ σ' H', N σ' H' → ∃ m', m' < m ∧ W (i + 1) m' σ' H') ∧ ∀ x H', (Itr 0 j.toNat).yld i H x H' → g x σ H' fun σ2 H2 => tb { ({ D with nx := tz D } : Ends) with nx := N, ct := N, bk := ({ D with nx := tz D } : Ends).nx } σ2 H2)) :
    tSeq (tFor (iRng1 ta) g tb) tz D σ H := h H (Ex.refl H) _ fun H1 e1 => ⟨j, rfl, h0, h1, k H1 e1⟩
/-! ### _law_bad_line -/
def sp_bad_line : Sp := fun vs H Q _ => ∃ t : List Nat, vs = [tv t] ∧ t.length ≤ 100000 ∧ ∀ H', Ex H H' → Q (.int (badLine t)) H'
theorem any_filter {α : Type} (l : List α) (b : α → Bool) : (!((l.filter b).isEmpty)) = l.any b := by
  induction l with
  | nil => rfl
  | cons a l ih =>
    rw [List.filter_cons, List.any_cons]
    cases h : b a with
    | true => rfl
    | false => rw [if_neg Bool.false_ne_true, ih, Bool.false_or]
theorem ok_law_bad_line {f : Addr} {fd : FuncData} (F : Fun K "_law_bad_line" "_law_bad_line" s_law_bad_line f fd) (T : T0 mg) : FnOk P w K mg base CX0 1 f fd p_law_bad_line sp_bad_line := by
  refine F.ok sc_law_bad_line (fun vs H Q E h => ?_) (fun cdv A outer s H vs Q E hr h => ?_)
  · obtain ⟨t, rfl, _⟩ := h
    rfl
  · obtain ⟨t, rfl, ht, k⟩ := h
    have hu64 := hu64 hr
    refine ⟨_, (pss_cons (ps_set (i := 1) sc_law_bad_line.nd rfl (Or.inl rfl) (pe_split (pv 0) pe_str))
      (pss_cons (ps_set (i := 2) sc_law_bad_line.nd rfl (Or.inl rfl) pe_bl)
      (pss_cons (ps_for PassesOwn.never rfl (pi_range1 (by rfl) T.n_range (pa_cons (pe_op op_sub (pe_callB (MB.call_lenK (K := K) rfl) (by rfl) T.n_len MB.bo_len (pa_cons (pv 1) pa_nil)) pe_int) pa_nil)) (pg_name (i := 3) sc_law_bad_line.nd rfl (.inl rfl))
      (pss_cons (ps_set (i := 4) sc_law_bad_line.nd rfl (Or.inl rfl) (pe_split (pe_ix (MB.ix_K (K := K) rfl) (pv 1) (pv 3) (fun _ _ => rfl)) pe_str))
      (pss_cons (ps_if (PW.pt (pw_or (pt_not (pt_val (pv 2))) (pw_or (pt_cmpR op_gt (pv 3) pe_int (nomark _)) (pw_or (pt_cmpR op_gt (pe_callB (MB.call_lenK (K := K) rfl) (by rfl) T.n_len MB.bo_len (pa_cons (pv 4) pa_nil)) pe_int (nomark _)) (pw_or1 (pt_cmpR (MB.op_neNil (K := K) rfl (Nat.lt_of_le_of_lt (Nat.le_add_right _ 64) hu64)) (pe_lc (own := [("_law_word", 5)]) (by rfl) sc_law_bad_line.nd (pi_list (pv 4)) (blkOk_by (own := [("_law_word", 5)]) (N := n_law_bad_line) (sc := defScope s_law_bad_line) (by decide +kernel)) (fun _ _ _ _ _ => (pg_name (i := 5) sc_law_bad_line.nd rfl (.inl rfl))) (fun _ _ _ _ _ => (pts_one (pt_cmpR (MB.op_neK (K := K) rfl hu64) (pe_callB (MB.call_lenK (K := K) rfl) (by rfl) T.n_len MB.bo_len (pa_cons (pv 5) pa_nil)) pe_int (nomark _)))) (fun _ _ _ _ _ => (pv 5))) (pe_lst pa_nil) (nomark _))))))) (pss_one (ps_ret (pv 3))) pss_nil)
      (pss_cons (ps_if (pt_cmpR (MB.op_neNil (K := K) rfl (Nat.lt_of_le_of_lt (Nat.le_add_right _ 64) hu64)) (pe_lc (own := [("_law_sign", 6)]) (by rfl) sc_law_bad_line.nd (pi_str (MB.pe_joinK (K := K) rfl pe_str (pv 4))) (blkOk_by (own := [("_law_sign", 6)]) (N := n_law_bad_line) (sc := defScope s_law_bad_line) (by decide +kernel)) (fun _ _ _ _ _ => (pg_name (i := 6) sc_law_bad_line.nd rfl (.inl rfl))) (fun _ _ _ _ _ => (pts_one (pt_cmpR (MB.op_niK (K := K) rfl) (pv 6) pe_str rfl))) (fun _ _ _ _ _ => (pv 6))) (pe_lst pa_nil) (nomark _)) (pss_one (ps_ret (pv 3))) pss_nil)
      (pss_one (ps_set (i := 2) sc_law_bad_line.nd rfl (Or.inl rfl) (pe_cmpR (MB.op_eqK (K := K) rfl hu64) (pe_callB (MB.call_lenK (K := K) rfl) (by rfl) T.n_len MB.bo_len (pa_cons (pv 4) pa_nil)) pe_int (nomark _))))))))
      (pss_one (ps_ret (pe_ix (MB.ix_K (K := K) rfl) (pe_lst (pa_cons (pe_un un_neg pe_int) (pa_cons (pe_op op_sub (pe_callB (MB.call_lenK (K := K) rfl) (by rfl) T.n_len MB.bo_len (pa_cons (pv 1) pa_nil)) pe_int) pa_nil))) (pe_callTy MB.call_intA (by rfl) T.n_int MB.bo_int (pa_cons (pe_cmpR (MB.op_neK (K := K) rfl hu64) (pe_ix (MB.ix_K (K := K) rfl) (pv 1) (pe_un un_neg pe_int) (fun _ _ => rfl)) pe_str (nomark _)) pa_nil)) (fun _ _ => rfl))))))), ?_⟩
    refine q_asgL (el_split (w := t) (sep := [10]) (ev_var rfl) ev_c (by decide) (by decide) (by omega)) fun pl H1 hpl e1 h1 => ?_
    have hL : (TL.spl [10] 0 [] t).length ≤ 100001 := Nat.le_trans (spl_length _ _ _ _) (by omega)
    have hm1 : ∀ l ∈ TL.spl [10] 0 [] t, l.length ≤ 100000 := fun l h => by have := spl_mem _ _ _ _ _ h; rw [List.length_nil] at this; omega
    have hne := spl_ne [10] t 0 []
    have hbl : badLine t = (match badGo true 0 (TL.spl [10] 0 [] t).dropLast with
      | some n => (n : Int)
      | none => if (TL.spl [10] 0 [] t).getLast?.getD [] = [] then -1 else ((TL.spl [10] 0 [] t).length : Int) - 1) := rfl
    generalize TL.spl [10] 0 [] t = L at h1 hL hm1 hne hbl
    change H1 pl = some (.lst (L.map tv)) at h1
    have hpos : 0 < L.length := List.length_pos_iff.mpr hne
    have hml : (L.map tv).length = L.length := List.length_map _
    have hdl : L.dropLast.length = L.length - 1 := List.length_dropLast
    refine q_asg ev_c fun H2 e2 => ?_
    have h2 := e2 _ _ h1
    have e02 := e1.trans e2
    refine q_forRng (ea_cons (ev_op (ev_cb1 (ev_var rfl) (rc_lenL (sq_of h2))) ev_c rv_I0) ea_nil) (by rw [hml]; omega) (by rw [hml]; omega) fun H3 e3 => for_range (lo := 0) (n := (((L.map tv).length : Int) - 1).toNat) (fun i σ' H' => ∃ (fu : Bool) (a b c d : Option V), σ' = [some (tv t), some (.ref pl), some (.bl fu), a, b, c, d] ∧ Ex H2 H' ∧ badGo true 0 L.dropLast = badGo fu i (L.dropLast.drop i)) ?_ ?_ ?_
    · exact ⟨true, none, none, none, none, rfl, e3, rfl⟩
    · rintro i σ' H4 hi ⟨fu, a, b, c, d, rfl, e4, hg⟩
      rw [hml] at hi
      have hi' : i < L.dropLast.length := by omega
      have hiL : i < L.length := by omega
      have hdr : L.dropLast.drop i = L[i] :: L.dropLast.drop (i + 1) := by
        rw [List.drop_eq_getElem_cons hi', List.getElem_dropLast]
      have h4 := e4 _ _ h2
      have hLi : L[i].length ≤ 100000 := hm1 _ (List.getElem_mem hiL)
      have hat : atI (L.map tv) (0 + (i : Int)) = some (tv L[i]) := by
        rw [Int.zero_add]
        exact MB.atI_nat (by rw [List.getElem?_map, List.getElem?_eq_getElem hiL]; rfl)
      rw [hdr] at hg
      change _ = (if (!fu || (decide (124 < i) || (decide (8 < (TL.spl [32] 0 [] L[i]).length) || badW (TL.spl [32] 0 [] L[i])))) = true then some i else if badS (TL.spl [32] 0 [] L[i]) = true then some i else badGo (decide ((TL.spl [32] 0 [] L[i]).length = 8)) (i + 1) (L.dropLast.drop (i + 1))) at hg
      refine q_asgL (el_split (w := L[i]) (sep := [32]) (ev_op (ev_var rfl) (ev_var rfl) (rv_xL (sq_of h4) hat)) ev_c (by decide) (by decide) (by omega)) fun pw H5 hpw e5 h5 => ?_
      have hW : (TL.spl [32] 0 [] L[i]).length ≤ 100001 := Nat.le_trans (spl_length _ _ _ _) (by omega)
      have hmw : ∀ w ∈ TL.spl [32] 0 [] L[i], w.length ≤ 100000 := fun w h => by have h1 := spl_mem _ _ _ _ _ h; rw [List.length_nil] at h1; omega
      have hmuW : mu (TL.spl [32] 0 [] L[i]) ≤ 100001 := by rw [mu_spl, List.length_nil]; omega
      generalize TL.spl [32] 0 [] L[i] = ws at hg h5 hW hmw hmuW
      change H5 pw = some (.lst (ws.map tv)) at h5
      have hwl : (ws.map tv).length = ws.length := List.length_map _
      have hjl : (TL.joinL [] ws).length ≤ 100001 := by
        have h1 := joinL_len [] ws
        have h2 := mu_sum ws
        rw [List.length_nil] at h1
        omega
      have fin : ∀ {H' : Hp}, Ex H5 H' → badGo true 0 L.dropLast = some i → Q (.int (0 + (i : Int))) H' := fun e hb => by
        have := k _ (((e02.trans e4).trans e5).trans e)
        rw [hbl, hb] at this
        rw [Int.zero_add]
        exact this
      have tW : EvT (tTest (tOp (rNeNil K) (tLc (iList K (tVar 4)) (gName 5) (tTest (tOp (rNeA K) (tCB (rLenA K) (tCons (tVar 5) tNil)) (tC (.int 8)))) (tVar 5) (List.map (fun x => x.snd) [(Str.ofString "_law_word", 5)])) (tLst tNil))) [some (tv t), some (.ref pl), some (.bl fu), some (.int (0 + (i : Int))), some (.ref pw), c, d] H5 (badW ws) := by
        refine et_test (ev_is (ev_neNil (el_lcLs (ds := ws) tv (fun w => decide (w.length ≠ 8)) tv (els_val (ev_var rfl) (sq_of h5)) (by omega) (fun _ => by rfl) (fun w hw => et_test (ev_is (ev_op (ev_cb1 (ev_var rfl) (rc_lenS (by have := hmw w hw; omega))) ev_c rv_neI) ?_)) fun w hw _ => ev_var rfl) (el_lst ea_nil (by decide))) ?_)
        · by_cases h8 : w.length = 8
          · have h9 : (w.length : Int) = 8 := by omega
            simp [h8]
          · have h9 : ¬ (w.length : Int) = 8 := by omega
            simp [h8, h9]
        · rw [List.isEmpty_map, any_filter]
          rfl
      refine q_ifN (b := !fu || (decide (124 < i) || (decide (8 < ws.length) || badW ws))) (et_or (et_not (et_test (ev_var rfl))) fun _ => et_or (et_test (ev_is (ev_op (ev_var rfl) ev_c rv_I0) (congrArg V.bl (decide_eq_decide.mpr (by omega))))) fun _ => et_or (et_test (ev_is (ev_op (ev_cb1 (ev_var rfl) (rc_lenL (sq_of h5))) ev_c rv_I0) (congrArg V.bl (by rw [hwl]; exact decide_eq_decide.mpr (by omega))))) fun _ => tW) (fun hb H6 e6 => ?_) fun hb H6 e6 => ?_
      · rw [if_pos hb] at hg
        exact s_ret (ev_var rfl) fun H7 e7 => fin (e6.trans e7) hg
      rw [if_neg (by rw [hb]; exact Bool.false_ne_true)] at hg
      refine q_ifN (b := badS ws) (et_test (ev_is (ev_neNil (el_lcS (w := TL.joinL [] ws) (fun c => !decide (c ∈ FG)) (fun c => .str (SX.S [c])) (ev_join (sep := []) (ys := ws) ev_c (els_val (ev_var rfl) (sq_of (e6 _ _ h5))) ?_) (by omega) (fun _ => by rfl) (fun c hc => et_test (ev_op (ev_var rfl) ev_c fun H1 _ _ q => .inl ⟨c, Str.ofString "0123456789abcdef", rfl, rfl, ?_⟩)) fun c hc _ => ev_var rfl) (el_lst ea_nil (by decide))) ?_)) (fun hb2 H7 e7 => ?_) fun hb2 H7 e7 => ?_
      · have h2 := mu_sum ws
        show _ + _ * 0 ≤ _
        omega
      · rw [fig_S]
        exact q H1 (Ex.refl H1)
      · rw [List.isEmpty_map, any_filter]
        rfl
      · rw [if_pos hb2] at hg
        exact s_ret (ev_var rfl) fun H8 e8 => fin ((e6.trans e7).trans e8) hg
      rw [if_neg (by rw [hb2]; exact Bool.false_ne_true)] at hg
      refine s_asg (v := .bl (decide (ws.length = 8))) (ev_is (ev_op (ev_cb1 (ev_var rfl) (rc_lenL (sq_of (e7 _ _ (e6 _ _ h5))))) ev_c rv_eqI) (congrArg V.bl (by rw [hwl]; exact decide_eq_decide.mpr (by omega)))) fun H8 e8 => ?_
      exact ⟨_, some (.int (0 + (i : Int))), some (.ref pw), c, d, rfl, (((e4.trans e5).trans e6).trans e7).trans e8, hg⟩
    · rintro σ' H4 ⟨fu, a, b, c, d, rfl, e4, hg⟩
      rw [hml, List.drop_eq_nil_of_le (by omega)] at hg
      change _ = (none : Option Nat) at hg
      have h4 := e4 _ _ h2
      rw [hg] at hbl
      have hlast : atI (L.map tv) (-1) = some (tv (L.getLast?.getD [])) := by
        unfold atI ixN
        rw [if_neg (by decide), hml, if_pos (by omega)]
        show (L.map tv)[(-1 + (L.length : Int)).toNat]? = _
        rw [show (-1 + (L.length : Int)).toNat = L.length - 1 by omega, List.getElem?_map, List.getLast?_eq_getElem?, List.getElem?_eq_getElem (by omega)]
        rfl
      refine s_ret (v := .int (badLine t)) (ev_opLs (els_new (el_lst (ea_cons (ev_un ev_c ru_neg) (ea_cons (ev_op (ev_cb1 (ev_var rfl) (rc_lenL (sq_of h4))) ev_c rv_I0) ea_nil)) (by show 2 ≤ 100000; decide))) (ev_cb1 (ev_op (ev_op (ev_var rfl) (ev_un ev_c ru_neg) (rv_xL (sq_of h4) hlast)) ev_c (rv_neC (b := []))) rc_intB) fun q H5 hq e => rv_xL hq ?_) fun H5 e5 => k H5 ((e02.trans e4).trans e5)
      rw [hbl, hml]
      by_cases hz : L.getLast?.getD [] = []
      · rw [hz]
        rfl
      · rw [decide_eq_false hz]
        dsimp only
        rw [if_neg hz]
        rfl
end
end K85
set_option maxRecDepth 100000
set_option maxHeartbeats 1000000
namespace K85
open PySem PySem.Spec PyProof.Rows L2 Evl MB
/-! ## the plain law -/
abbrev jo : List Nat → List (List Nat) → List Nat := TL.joinL
abbrev sp1 (c : Nat) (l : List Nat) : List (List Nat) := TL.spl [c] 0 [] l
theorem jo_cons0 (a : List Nat) (l : List (List Nat)) : jo [] (a :: l) = a ++ jo [] l := by
  cases l with
  | nil => show a = a ++ []; rw [List.append_nil]
  | cons b r => rfl
theorem jo_mem {c : Nat} : ∀ {l : List (List Nat)}, c ∈ jo [] l ↔ ∃ w ∈ l, c ∈ w
  | [] => by simp [jo, TL.joinL]
  | a :: l => by
    rw [jo_cons0, List.mem_append, jo_mem (l := l)]
    simp
theorem jo_app : ∀ a b : List (List Nat), jo [] (a ++ b) = jo [] a ++ jo [] b
  | [], b => rfl
  | x :: a, b => by rw [List.cons_append, jo_cons0, jo_cons0, jo_app a b, List.append_assoc]
/-- a text is its parts joined -/
theorem jo_spl (c : Nat) : ∀ (l acc : List Nat), jo [c] (TL.spl [c] 0 acc l) = acc ++ l
  | [], acc => by rw [TL.spl_nil, List.append_nil]; rfl
  | d :: r, acc => by
    cases h : TL.pre [c] (d :: r) with
    | true =>
      have hd : d = c := by
        have : ((d :: r).take 1 == [c]) = true := h
        have := eq_of_beq this
        injection this
      rw [TL.spl_hit h, show ([c] : List Nat).length - 1 = 0 from rfl]
      have ne := spl_ne [c] r 0 []
      have ih := jo_spl c r []
      revert ih ne
      cases TL.spl [c] 0 [] r with
      | nil => intro ne _; exact absurd rfl ne
      | cons p q =>
        intro _ ih
        show acc ++ ([c] ++ jo [c] (p :: q)) = _
        rw [ih, hd]
        rfl
    | false =>
      rw [TL.spl_miss h, jo_spl c r, List.append_assoc]
      rfl
theorem spl_jo {c : Nat} {ws : List (List Nat)} (hne : ws ≠ []) (h : ∀ w ∈ ws, c ∉ w) : sp1 c (jo [c] ws) = ws := SX.spl_join hne h
theorem jo_end (c : Nat) : ∀ l : List (List Nat), jo [c] (l ++ [[]]) = jo [] (l.map (· ++ [c]))
  | [] => rfl
  | [a] => by
    show a ++ ([c] ++ []) = a ++ [c]
    rw [List.append_nil]
  | a :: b :: l => by
    have ih := jo_end c (b :: l)
    rw [List.map_cons, jo_cons0, ← ih]
    show a ++ ([c] ++ jo [c] (b :: l ++ [[]])) = a ++ [c] ++ jo [c] (b :: l ++ [[]])
    rw [List.append_assoc]
/-! ### words -/
theorem good_iff {w : List Nat} : good w = true ↔ w.length = 8 ∧ ∀ c ∈ w, c ∈ FG := by
  unfold good
  rw [Bool.and_eq_true, decide_eq_true_eq, List.all_eq_true]
  constructor
  · rintro ⟨h1, h2⟩
    exact ⟨h1, fun c hc => of_decide_eq_true (h2 c hc)⟩
  · rintro ⟨h1, h2⟩
    exact ⟨h1, fun c hc => decide_eq_true (h2 c hc)⟩
theorem vl_lt : ∀ c ∈ FG, vl c < 16 := by decide +kernel
theorem hx_vl : ∀ c ∈ FG, hx (vl c) = c := by decide +kernel
theorem vl_hx : ∀ n, n < 16 → vl (hx n) = n ∧ hx n ∈ FG := by decide +kernel
theorem pr_of {a b : Nat} (ha : a ∈ FG) (hb : b ∈ FG) : pr (16 * vl a + vl b) = [a, b] := by
  have h1 := vl_lt a ha
  have h2 := vl_lt b hb
  have h3 : (16 * vl a + vl b) / 16 = vl a := by omega
  have h4 : (16 * vl a + vl b) % 16 = vl b := by omega
  unfold pr
  rw [h3, h4, hx_vl a ha, hx_vl b hb]
theorem nums_pr {w : List Nat} (h : good w = true) : jo [] ((nums w).map pr) = w ∧ ∀ n ∈ nums w, n < 256 := by
  obtain ⟨hl, hm⟩ := good_iff.mp h
  match w, hl, hm with
  | [a, b, c, d, e, f, g, i], _, hm =>
    have ha := hm a (by simp)
    have hb := hm b (by simp)
    have hc := hm c (by simp)
    have hd := hm d (by simp)
    have he := hm e (by simp)
    have hf := hm f (by simp)
    have hg := hm g (by simp)
    have hi := hm i (by simp)
    have e1 : nums [a, b, c, d, e, f, g, i] = [16 * vl a + vl b, 16 * vl c + vl d, 16 * vl e + vl f, 16 * vl g + vl i] := rfl
    rw [e1]
    refine ⟨?_, ?_⟩
    · simp only [List.map_cons, List.map_nil]
      rw [pr_of ha hb, pr_of hc hd, pr_of he hf, pr_of hg hi]
      rfl
    · intro n hn
      have := vl_lt a ha
      have := vl_lt b hb
      have := vl_lt c hc
      have := vl_lt d hd
      have := vl_lt e he
      have := vl_lt f hf
      have := vl_lt g hg
      have := vl_lt i hi
      simp only [List.mem_cons, List.not_mem_nil, or_false] at hn
      rcases hn with rfl | rfl | rfl | rfl <;> omega
/-- the cell of four numbers -/
def c4 (a b c d : Nat) : List Nat := pr a ++ (pr b ++ (pr c ++ pr d))
theorem c4_good {a b c d : Nat} (ha : a < 256) (hb : b < 256) (hc : c < 256) (hd : d < 256) : good (c4 a b c d) = true ∧ nums (c4 a b c d) = [a, b, c, d] := by
  have v : ∀ n, n < 256 → vl (hx (n / 16)) = n / 16 ∧ hx (n / 16) ∈ FG ∧ vl (hx (n % 16)) = n % 16 ∧ hx (n % 16) ∈ FG := fun n hn =>
    ⟨(vl_hx _ (by omega)).1, (vl_hx _ (by omega)).2, (vl_hx _ (by omega)).1, (vl_hx _ (by omega)).2⟩
  obtain ⟨a1, a2, a3, a4⟩ := v a ha
  obtain ⟨b1, b2, b3, b4⟩ := v b hb
  obtain ⟨c1, c2, c3, c4'⟩ := v c hc
  obtain ⟨d1, d2, d3, d4⟩ := v d hd
  refine ⟨good_iff.mpr ⟨rfl, ?_⟩, ?_⟩
  · intro x hx
    simp only [c4, pr, List.cons_append, List.nil_append, List.mem_cons, List.not_mem_nil, or_false] at hx
    rcases hx with rfl | rfl | rfl | rfl | rfl | rfl | rfl | rfl <;> assumption
  · have e1 : nums (c4 a b c d) = [16 * vl (hx (a / 16)) + vl (hx (a % 16)), 16 * vl (hx (b / 16)) + vl (hx (b % 16)), 16 * vl (hx (c / 16)) + vl (hx (c % 16)), 16 * vl (hx (d / 16)) + vl (hx (d % 16))] := rfl
    rw [e1, a1, a3, b1, b3, c1, c3, d1, d3]
    congr 1
    · omega
    congr 1
    · omega
    congr 1
    · omega
    congr 1
    omega
theorem cellT_0 (a b c d : Nat) (r : List Nat) : cellT (a :: b :: c :: d :: r) 0 = c4 a b c d := rfl
theorem cellT_s (a b c d : Nat) (r : List Nat) (k : Nat) : cellT (a :: b :: c :: d :: r) (k + 1) = cellT r k := by
  unfold cellT
  rw [show 4 * (k + 1) = 4 * k + 1 + 1 + 1 + 1 by omega]
  rfl
theorem cells_cons (a b c d : Nat) (r : List Nat) : cells (a :: b :: c :: d :: r) = c4 a b c d :: cells r := by
  unfold cells
  rw [show (a :: b :: c :: d :: r).length / 4 = r.length / 4 + 1 by simp only [List.length_cons]; omega, List.range_succ_eq_map, List.map_cons, List.map_map, cellT_0]
  congr 1
theorem cells_nil : cells [] = [] := rfl
/-- by fours -/
theorem by4 {p : List Nat → Prop} (h0 : p []) (h4 : ∀ a b c d r, r.length % 4 = 0 → p r → p (a :: b :: c :: d :: r)) : ∀ ns : List Nat, ns.length % 4 = 0 → p ns
  | [], _ => h0
  | [_], h => by simp at h
  | [_, _], h => by simp at h
  | [_, _, _], h => by simp at h
  | a :: b :: c :: d :: r, h => by
    have hr : r.length % 4 = 0 := by
      simp only [List.length_cons] at h
      omega
    exact h4 a b c d r hr (by4 h0 h4 r hr)
theorem cells_good : ∀ {ns : List Nat}, ns.length % 4 = 0 → (∀ n ∈ ns, n < 256) → (∀ w ∈ cells ns, good w = true) ∧ (cells ns).flatMap nums = ns ∧ 4 * (cells ns).length = ns.length := fun {ns} h => by
  refine by4 (p := fun ns => (∀ n ∈ ns, n < 256) → (∀ w ∈ cells ns, good w = true) ∧ (cells ns).flatMap nums = ns ∧ 4 * (cells ns).length = ns.length) (fun _ => ⟨fun w hw => absurd hw (by rw [cells_nil]; exact List.not_mem_nil), rfl, rfl⟩) (fun a b c d r hr ih hn => ?_) ns h
  obtain ⟨i1, i2, i3⟩ := ih fun n hn2 => hn n (by simp [hn2])
  obtain ⟨g1, g2⟩ := c4_good (hn a (by simp)) (hn b (by simp)) (hn c (by simp)) (hn d (by simp))
  rw [cells_cons]
  refine ⟨fun w hw => ?_, ?_, ?_⟩
  · rcases List.mem_cons.mp hw with rfl | hw
    · exact g1
    · exact i1 w hw
  · rw [List.flatMap_cons, g2, i2]
    rfl
  · simp only [List.length_cons]
    omega
theorem cells_nums : ∀ {ws : List (List Nat)}, (∀ w ∈ ws, good w = true) → cells (ws.flatMap nums) = ws
  | [], _ => rfl
  | w :: r, h => by
    have hw := h w (List.mem_cons_self ..)
    have ih := cells_nums fun x hx => h x (List.mem_cons_of_mem _ hx)
    have hp := (nums_pr hw).1
    rw [List.flatMap_cons]
    match hn : nums w, nums_len w with
    | [a, b, c, d], _ =>
      rw [hn] at hp
      show cells (a :: b :: c :: d :: r.flatMap nums) = _
      rw [cells_cons, ih]
      congr 1
/-! ### rows of eight -/
def rowT (ws : List (List Nat)) : List Nat := jo [32] ws ++ [10]
def Full8 : List (List (List Nat)) → Prop
  | [] => True
  | [ws] => ws ≠ [] ∧ ws.length ≤ 8
  | ws :: r => ws.length = 8 ∧ Full8 r
theorem full8_head {ws : List (List Nat)} {r : List (List (List Nat))} (h : Full8 (ws :: r)) : ws ≠ [] ∧ ws.length ≤ 8 ∧ (r ≠ [] → ws.length = 8) ∧ Full8 r := by
  cases r with
  | nil => exact ⟨h.1, h.2, fun z => absurd rfl z, True.intro⟩
  | cons a b =>
    have h1 := h.1
    refine ⟨fun z => ?_, by omega, fun _ => h1, h.2⟩
    rw [z] at h1
    cases h1
theorem showC_nil : showC [] = [] := rfl
theorem showC_last {ws : List (List Nat)} (h0 : ws ≠ []) (h8 : ws.length ≤ 8) : showC ws = rowT ws := by
  have hp := List.length_pos_iff.mpr h0
  unfold showC
  rw [show (ws.length + 7) / 8 = 1 by omega]
  show TL.joinL [] [lineT ws 0] = _
  show lineT ws 0 = _
  unfold lineT rowT
  rw [show 8 * 0 = 0 from rfl, List.drop_zero, List.take_of_length_le h8]
theorem showC_cons {ws r : List (List Nat)} (h8 : ws.length = 8) : showC (ws ++ r) = rowT ws ++ showC r := by
  unfold showC
  rw [show ((ws ++ r).length + 7) / 8 = (r.length + 7) / 8 + 1 by rw [List.length_append]; omega, List.range_succ_eq_map, List.map_cons, List.map_map]
  refine (jo_cons0 _ _).trans ?_
  congr 1
  · unfold lineT rowT
    rw [show 8 * 0 = 0 from rfl, List.drop_zero, ← h8, List.take_left]
  · congr 1
    refine List.map_congr_left fun k _ => ?_
    show lineT (ws ++ r) (k + 1) = lineT r k
    unfold lineT
    rw [show 8 * (k + 1) = ws.length + 8 * k by omega, List.drop_append, List.drop_eq_nil_of_le (by omega), List.nil_append, Nat.add_sub_cancel_left]
theorem showC_rows : ∀ {rows : List (List (List Nat))}, Full8 rows → showC rows.flatten = jo [] (rows.map rowT)
  | [], _ => rfl
  | ws :: r, h => by
    obtain ⟨h1, h2, h3, h4⟩ := full8_head h
    have ih := showC_rows h4
    rw [List.flatten_cons, List.map_cons, jo_cons0, ← ih]
    by_cases hr : r = []
    · subst hr
      rw [List.flatten_nil, List.append_nil, showC_last h1 h2, showC_nil, List.append_nil]
    · exact showC_cons (h3 hr)
theorem rows_of : ∀ (n : Nat) (W : List (List Nat)), W.length ≤ n → ∃ rows, Full8 rows ∧ rows.flatten = W
  | 0, W, h => ⟨[], True.intro, by
    have : W = [] := List.length_eq_zero_iff.mp (by omega)
    rw [this]
    rfl⟩
  | n + 1, W, h => by
    by_cases h8 : W.length ≤ 8
    · by_cases h0 : W = []
      · exact ⟨[], True.intro, by rw [h0]; rfl⟩
      · exact ⟨[W], ⟨h0, h8⟩, by simp⟩
    · obtain ⟨rows, h1, h2⟩ := rows_of n (W.drop 8) (by rw [List.length_drop]; omega)
      have ht : (W.take 8).length = 8 := by rw [List.length_take]; omega
      refine ⟨W.take 8 :: rows, ?_, by rw [List.flatten_cons, h2, List.take_append_drop]⟩
      cases rows with
      | nil =>
        have : W.drop 8 = [] := h2.symm
        have := congrArg List.length this
        rw [List.length_drop] at this
        simp at this
        omega
      | cons a b => exact ⟨ht, h1⟩
/-! ### reading rows -/
theorem fg_no : (32 : Nat) ∉ FG ∧ (10 : Nat) ∉ FG := by decide
theorem readRows_rows : ∀ {rows : List (List (List Nat))} {n : Nat} {f : List Nat}, Full8 rows → (∀ ws ∈ rows, ∀ w ∈ ws, good w = true) → f.length = 32 * n → f.length + 4 * rows.flatten.length ≤ 4000 →
    readRows n (rows.map (jo [32])) f = .ok (f ++ rows.flatten.flatMap nums)
  | [], n, f, _, _, _, _ => by
    show Except.ok f = Except.ok (f ++ [])
    rw [List.append_nil]
  | ws :: r, n, f, h, hg, hf, hb => by
    obtain ⟨h1, h2, h3, h4⟩ := full8_head h
    have hs : TL.spl [32] 0 [] (jo [32] ws) = ws := spl_jo h1 fun w hw hc => fg_no.1 ((good_iff.mp (hg ws (List.mem_cons_self ..) w hw)).2 _ hc)
    rw [List.flatten_cons, List.length_append] at hb
    have b1 : bad1 ws = false := by
      unfold bad1
      rw [List.all_eq_true.mpr fun w hw => hg ws (List.mem_cons_self ..) w hw]
      simp
      omega
    have b2 : bad2 f.length n ws = false := by
      unfold bad2
      simp
      omega
    rw [List.map_cons]
    show (if bad1 (TL.spl [32] 0 [] (jo [32] ws)) = true then Except.error n else if bad2 f.length n (TL.spl [32] 0 [] (jo [32] ws)) = true then Except.error n else readRows (n + 1) (r.map (jo [32])) (f ++ (TL.spl [32] 0 [] (jo [32] ws)).flatMap nums)) = _
    rw [hs, b1, b2, if_neg Bool.false_ne_true, if_neg Bool.false_ne_true, List.flatten_cons, List.flatMap_append, ← List.append_assoc]
    by_cases hr : r = []
    · subst hr
      show Except.ok _ = Except.ok (_ ++ [])
      rw [List.append_nil]
    · refine readRows_rows h4 (fun ws hw => hg ws (List.mem_cons_of_mem _ hw)) ?_ ?_
      · rw [List.length_append, flat_len, h3 hr]
        omega
      · rw [List.length_append, flat_len]
        omega
theorem show_read {ns : List Nat} (h : ns.length % 4 = 0) (hz : ns.length ≤ 4000) (hn : ∀ n ∈ ns, n < 256) : readF (showF ns) = .ok ns := by
  obtain ⟨g1, g2, g3⟩ := cells_good h hn
  obtain ⟨rows, r1, r2⟩ := rows_of _ (cells ns) (Nat.le_refl _)
  have hg : ∀ ws ∈ rows, ∀ w ∈ ws, good w = true := fun ws hw w hww => g1 w (by rw [← r2]; exact List.mem_flatten.mpr ⟨ws, hw, hww⟩)
  have e1 : showF ns = jo [10] (rows.map (jo [32]) ++ [[]]) := by
    unfold showF
    rw [← r2, showC_rows r1, jo_end, List.map_map]
    rfl
  have e2 : lns (showF ns) = rows.map (jo [32]) ++ [[]] := by
    unfold lns
    rw [e1]
    refine spl_jo (by simp) fun p hp hc => ?_
    rcases List.mem_append.mp hp with hp | hp
    · obtain ⟨ws, hws, rfl⟩ := List.mem_map.mp hp
      -- a row's signs
      have : ∀ (l : List (List Nat)), (∀ w ∈ l, good w = true) → (10 : Nat) ∉ jo [32] l := by
        intro l
        induction l with
        | nil => intro _ z; cases z
        | cons a l ih =>
          intro hl z
          have ha : (10 : Nat) ∉ a := fun q => fg_no.2 ((good_iff.mp (hl a (List.mem_cons_self ..))).2 _ q)
          cases l with
          | nil => exact ha z
          | cons b l =>
            have z2 : (10 : Nat) ∈ a ++ ([32] ++ jo [32] (b :: l)) := z
            rw [List.mem_append, List.mem_append, List.mem_singleton] at z2
            rcases z2 with z2 | z2 | z2
            · exact ha z2
            · cases z2
            · exact ih (fun w hw => hl w (List.mem_cons_of_mem _ hw)) z2
      exact this ws (hg ws hws) hc
    · rw [List.mem_singleton] at hp
      rw [hp] at hc
      cases hc
  have e3 := readRows_rows (n := 0) (f := []) r1 hg rfl (by rw [r2]; simp only [List.length_nil]; omega)
  rw [List.nil_append, r2, g2] at e3
  unfold readF
  rw [e2, List.dropLast_concat, e3, List.getLast?_concat]
  rfl
/-! ### where a text can't stand -/
theorem badWS {ws : List (List Nat)} (h1 : badW ws = false) (h2 : badS ws = false) : ∀ w ∈ ws, good w = true := fun w hw => by
  unfold badW at h1
  unfold badS at h2
  rw [List.any_eq_false] at h1 h2
  refine good_iff.mpr ⟨by simpa using h1 w hw, fun c hc => ?_⟩
  simpa using h2 c (jo_mem.mpr ⟨w, hw, hc⟩)
theorem good_badWS {ws : List (List Nat)} (h : ∀ w ∈ ws, good w = true) : badW ws = false ∧ badS ws = false := by
  unfold badW badS
  rw [List.any_eq_false, List.any_eq_false]
  refine ⟨fun w hw => by simpa using (good_iff.mp (h w hw)).1, fun c hc => ?_⟩
  obtain ⟨w, hw, hcw⟩ := jo_mem.mp hc
  simpa using (good_iff.mp (h w hw)).2 c hcw
theorem bad_rows : ∀ (ls : List (List Nat)) (full : Bool) (n : Nat) (f : List Nat), (full = true → f.length = 32 * n) → (full = false → f.length < 32 * n) →
    (∃ k, badGo full n ls = some k ∧ readRows n ls f = .error k) ∨ (badGo full n ls = none ∧ (ls ≠ [] → full = true) ∧ ∃ rows, ls = rows.map (jo [32]) ∧ Full8 rows ∧ (∀ ws ∈ rows, ∀ w ∈ ws, good w = true) ∧ (ls ≠ [] → f.length + 4 * rows.flatten.length ≤ 4000))
  | [], full, n, f, _, _ => .inr ⟨rfl, fun z => absurd rfl z, [], rfl, True.intro, fun ws hw => absurd hw List.not_mem_nil, fun z => absurd rfl z⟩
  | l :: r, full, n, f, h1, h2 => by
    have hne := spl_ne [32] l 0 []
    have hjo := jo_spl 32 l []
    rw [List.nil_append] at hjo
    have eb : badGo full n (l :: r) = (if (!full || (decide (124 < n) || (decide (8 < (TL.spl [32] 0 [] l).length) || badW (TL.spl [32] 0 [] l)))) = true then some n else if badS (TL.spl [32] 0 [] l) = true then some n else badGo (decide ((TL.spl [32] 0 [] l).length = 8)) (n + 1) r) := rfl
    have er : readRows n (l :: r) f = (if bad1 (TL.spl [32] 0 [] l) = true then .error n else if bad2 f.length n (TL.spl [32] 0 [] l) = true then .error n else readRows (n + 1) r (f ++ (TL.spl [32] 0 [] l).flatMap nums)) := rfl
    revert hne hjo eb er
    generalize TL.spl [32] 0 [] l = ws
    intro hne hjo eb er
    have hp := List.length_pos_iff.mpr hne
    by_cases hB : (!full || (decide (124 < n) || (decide (8 < ws.length) || badW ws))) = true ∨ badS ws = true
    · left
      refine ⟨n, ?_, ?_⟩
      · rw [eb]
        by_cases hx : (!full || (decide (124 < n) || (decide (8 < ws.length) || badW ws))) = true
        · rw [if_pos hx]
        · rw [if_neg hx, if_pos (hB.resolve_left hx)]
      · rw [er]
        by_cases hb1 : bad1 ws = true
        · rw [if_pos hb1]
        · rw [if_neg hb1]
          have hb1' : bad1 ws = false := by simpa using hb1
          unfold bad1 at hb1'
          rw [Bool.or_eq_false_iff] at hb1'
          have hall : ∀ w ∈ ws, good w = true := List.all_eq_true.mp (by simpa using hb1'.1)
          have h8 : ws.length ≤ 8 := by simpa using hb1'.2
          obtain ⟨q1, q2⟩ := good_badWS hall
          rw [q1, q2] at hB
          have hB2 : full = false ∨ 124 < n := by
            rcases hB with hB | hB
            · simp only [Bool.or_false, Bool.or_eq_true, Bool.not_eq_true', decide_eq_true_eq] at hB
              rcases hB with hB | hB | hB
              · exact .inl hB
              · exact .inr hB
              · omega
            · cases hB
          rw [if_pos]
          unfold bad2
          rw [Bool.or_eq_true, decide_eq_true_eq, decide_eq_true_eq]
          rcases hB2 with hB2 | hB2
          · exact .inl (h2 hB2)
          · cases hf : full with
            | false => exact .inl (h2 hf)
            | true =>
              have := h1 hf
              right
              omega
    · have hB1 : (!full || (decide (124 < n) || (decide (8 < ws.length) || badW ws))) = false := by
        cases hq : (!full || (decide (124 < n) || (decide (8 < ws.length) || badW ws))) with
        | false => rfl
        | true => exact absurd (.inl hq) hB
      have hB2 : badS ws = false := by
        cases hq : badS ws with
        | false => rfl
        | true => exact absurd (.inr hq) hB
      rw [hB1, hB2, if_neg Bool.false_ne_true, if_neg Bool.false_ne_true] at eb
      simp only [Bool.or_eq_false_iff, Bool.not_eq_false', decide_eq_false_iff_not] at hB1
      obtain ⟨hf, hn, h8, hW⟩ := hB1
      have hall := badWS hW hB2
      have hfl := h1 hf
      have b1 : bad1 ws = false := by
        unfold bad1
        rw [List.all_eq_true.mpr hall]
        simp
        omega
      have b2 : bad2 f.length n ws = false := by
        unfold bad2
        simp
        omega
      rw [b1, b2, if_neg Bool.false_ne_true, if_neg Bool.false_ne_true] at er
      have hl' : (f ++ ws.flatMap nums).length = 32 * n + 4 * ws.length := by rw [List.length_append, flat_len, hfl]
      rcases bad_rows r (decide (ws.length = 8)) (n + 1) (f ++ ws.flatMap nums) (fun z => by
          have := of_decide_eq_true z
          omega) (fun z => by
          have := of_decide_eq_false z
          omega) with ⟨k, k1, k2⟩ | ⟨k1, k2, rows, k3, k4, k5, k6⟩
      · exact .inl ⟨k, eb.trans k1, er.trans k2⟩
      · refine .inr ⟨eb.trans k1, fun _ => hf, ws :: rows, ?_, ?_, ?_, fun _ => ?_⟩
        · rw [List.map_cons, ← k3]
          congr 1
          exact hjo.symm
        · cases rows with
          | nil => exact ⟨hne, by omega⟩
          | cons x y =>
            refine ⟨?_, k4⟩
            have : r ≠ [] := by
              rw [k3]
              simp
            exact of_decide_eq_true (k2 this)
        · intro us hus
          rcases List.mem_cons.mp hus with rfl | hus
          · exact hall
          · exact k5 us hus
        · rw [List.flatten_cons, List.length_append]
          by_cases hr : r = []
          · subst hr
            have : rows = [] := by
              cases rows with
              | nil => rfl
              | cons x y => cases k3
            subst this
            simp only [List.flatten_nil, List.length_nil]
            omega
          · have := k6 hr
            omega
theorem bad_read (t : List Nat) : (∃ k : Nat, badLine t = (k : Int) ∧ readF t = .error k) ∨ (badLine t = -1 ∧ ∃ ns, readF t = .ok ns ∧ showF ns = t ∧ ns.length ≤ 4000 ∧ ns.length % 4 = 0 ∧ ∀ n ∈ ns, n < 256) := by
  have hne : lns t ≠ [] := spl_ne [10] t 0 []
  have hjo : jo [10] (lns t) = t := (jo_spl 10 t []).trans (List.nil_append t)
  have hpos := List.length_pos_iff.mpr hne
  rcases bad_rows (lns t).dropLast true 0 [] (fun _ => rfl) (fun z => nomatch z) with ⟨k, k1, k2⟩ | ⟨k1, _, rows, k3, k4, k5, k6⟩
  · left
    refine ⟨k, ?_, ?_⟩
    · unfold badLine
      rw [k1]
    · unfold readF
      rw [k2]
  · have hb : 4 * rows.flatten.length ≤ 4000 := by
      by_cases hd : (lns t).dropLast = []
      · rw [hd] at k3
        have : rows = [] := by
          cases rows with
          | nil => rfl
          | cons x y => cases k3
        rw [this]
        decide
      · have := k6 hd
        simp only [List.length_nil] at this
        omega
    have hr := readRows_rows (n := 0) (f := []) k4 k5 rfl (by simp only [List.length_nil]; omega)
    rw [← k3, List.nil_append] at hr
    by_cases hl : (lns t).getLast?.getD [] = []
    · right
      refine ⟨?_, rows.flatten.flatMap nums, ?_, ?_, ?_, ?_, ?_⟩
      · unfold badLine
        rw [k1]
        dsimp only
        rw [if_pos hl]
      · unfold readF
        rw [hr]
        dsimp only
        rw [if_pos hl]
      · have hg : ∀ w ∈ rows.flatten, good w = true := fun w hw => by
          obtain ⟨ws, h1, h2⟩ := List.mem_flatten.mp hw
          exact k5 ws h1 w h2
        unfold showF
        rw [cells_nums hg, showC_rows k4]
        have e : lns t = rows.map (jo [32]) ++ [[]] := by
          rw [← k3]
          have hlast : (lns t).getLast hne = [] := by
            rw [List.getLast?_eq_some_getLast hne] at hl
            exact hl
          conv => lhs; rw [← List.dropLast_concat_getLast hne, hlast]
        rw [e, jo_end, List.map_map] at hjo
        exact hjo
      · rw [flat_len]
        exact hb
      · rw [flat_len]
        omega
      · intro n hn
        obtain ⟨w, hw, hnw⟩ := List.mem_flatMap.mp hn
        obtain ⟨ws, h1, h2⟩ := List.mem_flatten.mp hw
        exact (nums_pr (k5 ws h1 w h2)).2 n hnw
    · left
      refine ⟨(lns t).length - 1, ?_, ?_⟩
      · unfold badLine
        rw [k1]
        dsimp only
        rw [if_neg hl]
        omega
      · unfold readF
        rw [hr]
        dsimp only
        rw [if_neg hl]
/-! ### the law's own figures -/
def wF (m : Nat) : Nat → List (List Nat) → List Nat
  | _, [] => []
  | j, w :: r => w ++ ((if j % 8 = 7 ∨ j = m - 1 then [10] else [32]) ++ wF m (j + 1) r)
theorem fig_wF (M : Nat) : ∀ ns : List Nat, ns.length % 4 = 0 → ∀ j, 4 * j + ns.length = 4 * M → figL (4 * M) (4 * j) ns = wF M j (cells ns) := by
  refine by4 (fun j _ => rfl) fun a b c d r hr ih j hj => ?_
  simp only [List.length_cons] at hj
  have ihj := ih (j + 1) (by omega)
  rw [show 4 * (j + 1) = 4 * j + 1 + 1 + 1 + 1 by omega] at ihj
  rw [cells_cons]
  show pr a ++ figT (4 * M) (4 * j) ++ (pr b ++ figT (4 * M) (4 * j + 1) ++ (pr c ++ figT (4 * M) (4 * j + 1 + 1) ++ (pr d ++ figT (4 * M) (4 * j + 1 + 1 + 1) ++ figL (4 * M) (4 * j + 1 + 1 + 1 + 1) r))) = c4 a b c d ++ ((if j % 8 = 7 ∨ j = M - 1 then [10] else [32]) ++ wF M (j + 1) (cells r))
  have no : ∀ k, k % 4 ≠ 3 → figT (4 * M) k = [] := fun k hk => by
    unfold figT
    rw [if_neg (by omega), if_neg hk]
  have last : figT (4 * M) (4 * j + 1 + 1 + 1) = if j % 8 = 7 ∨ j = M - 1 then [10] else [32] := by
    unfold figT
    by_cases h : j % 8 = 7 ∨ j = M - 1
    · rw [if_pos h, if_pos (by omega)]
    · rw [if_neg h, if_neg (by omega), if_pos (by omega)]
  rw [no _ (by omega), no _ (by omega), no _ (by omega), last, ihj, List.append_nil, List.append_nil, List.append_nil]
  unfold c4
  simp only [List.append_assoc]
theorem wF_row (m : Nat) : ∀ (ws : List (List Nat)) (j : Nat) (r : List (List Nat)), ws ≠ [] → (∀ i, i + 1 < ws.length → ¬((j + i) % 8 = 7 ∨ j + i = m - 1)) → ((j + ws.length - 1) % 8 = 7 ∨ j + ws.length - 1 = m - 1) → wF m j (ws ++ r) = rowT ws ++ wF m (j + ws.length) r
  | [], _, _, h, _, _ => absurd rfl h
  | [w], j, r, _, _, h2 => by
    show w ++ ((if j % 8 = 7 ∨ j = m - 1 then [10] else [32]) ++ wF m (j + 1) r) = (w ++ [10]) ++ wF m (j + 1) r
    have h3 : j % 8 = 7 ∨ j = m - 1 := h2
    rw [if_pos h3, List.append_assoc]
  | w :: x :: l, j, r, _, h1, h2 => by
    have ih := wF_row m (x :: l) (j + 1) r (List.cons_ne_nil _ _) (fun i hi => by
      have := h1 (i + 1) (by simp only [List.length_cons] at hi ⊢; omega)
      rw [show j + 1 + i = j + (i + 1) by omega]
      exact this) (by
      rw [show j + 1 + (x :: l).length - 1 = j + (w :: x :: l).length - 1 by simp only [List.length_cons]; omega]
      exact h2)
    have h0 := h1 0 (by simp)
    rw [Nat.add_zero] at h0
    show w ++ ((if j % 8 = 7 ∨ j = m - 1 then [10] else [32]) ++ wF m (j + 1) (x :: l ++ r)) = (w ++ ([32] ++ jo [32] (x :: l)) ++ [10]) ++ wF m (j + (l.length + 1 + 1)) r
    rw [if_neg h0, ih, show j + 1 + (x :: l).length = j + (l.length + 1 + 1) by simp only [List.length_cons]; omega]
    unfold rowT
    simp only [List.append_assoc]
theorem wF_rows (m : Nat) : ∀ (rows : List (List (List Nat))) (j : Nat), Full8 rows → j % 8 = 0 → j + rows.flatten.length = m → wF m j rows.flatten = jo [] (rows.map rowT)
  | [], _, _, _, _ => rfl
  | ws :: r, j, h, hj, hm => by
    obtain ⟨h1, h2, h3, h4⟩ := full8_head h
    have hp := List.length_pos_iff.mpr h1
    rw [List.flatten_cons, List.length_append] at hm
    rw [List.flatten_cons, List.map_cons, jo_cons0]
    by_cases hr : r = []
    · subst hr
      rw [List.flatten_nil, List.length_nil] at hm
      rw [List.flatten_nil, wF_row m ws j [] h1 (fun i hi => by omega) (by omega)]
      rfl
    · have h8 := h3 hr
      have hr1 : 0 < r.flatten.length := by
        cases r with
        | nil => exact absurd rfl hr
        | cons x y =>
          have := List.length_pos_iff.mpr (full8_head h4).1
          rw [List.flatten_cons, List.length_append]
          omega
      rw [wF_row m ws j _ h1 (fun i hi => by omega) (by omega), wF_rows m r (j + ws.length) h4 (by omega) (by omega)]
theorem show_figs {ns : List Nat} (h : ns.length % 4 = 0) (hz : ns.length ≤ 4000) (hn : ∀ n ∈ ns, n < 256) : showF ns = figL ns.length 0 ns := by
  obtain ⟨_, _, g3⟩ := cells_good h hn
  obtain ⟨rows, r1, r2⟩ := rows_of _ (cells ns) (Nat.le_refl _)
  have e := fig_wF (cells ns).length ns h 0 (by omega)
  rw [g3, Nat.mul_zero] at e
  rw [e, ← r2, wF_rows _ rows 0 r1 rfl (by omega), ← showC_rows r1, r2]
  rfl
end K85
set_option maxRecDepth 100000
set_option maxHeartbeats 1000000
namespace K85
open PySem PySem.Spec PyProof.Rows L2 Evl MB
/-- the classes that the law's _law_refusal names -/
structure RefT (K : PySem.W.Frag) (mg : Str → Option Value) (C B : Addr) (cs ds : List Addr) : Prop where
  ec : EC K C
  nf : PySem.W.findIn K (.ref C) "line" = some none
  kB : PySem.W.exmOne K (.ref C) (.ref B) = some true
  gB : mg "TornError" = some (.ref B)
  gC : mg "NoText" = some (.ref C)
  k1 : PySem.W.kitAny K (.ref C) (cs.map Value.ref) = some false
  k2 : PySem.W.kitAny K (.ref C) (ds.map Value.ref) = some false
  kV : PySem.W.kitOne K (.ref C) (.type "ValueError") = some true
  kC : PySem.W.kitOne K (.ref C) (.ref C) = some true
  gs : ∃ a1 a2 a3 a4 a5 a6 a7 a8 a9 a10 a11, cs = [a1, a2, a3, a4, a5, a6, a7, a8, a9, a10, a11] ∧ mg "Busy" = some (.ref a1) ∧ mg "NoDeed" = some (.ref a2) ∧ mg "NoGrid" = some (.ref a3) ∧ mg "NoLine" = some (.ref a4) ∧ mg "NoPiece" = some (.ref a5) ∧ mg "NoShare" = some (.ref a6) ∧
    mg "NoTable" = some (.ref a7) ∧ mg "NoTag" = some (.ref a8) ∧ mg "NoWay" = some (.ref a9) ∧ mg "Raw" = some (.ref a10) ∧ mg "Spoilt" = some (.ref a11)
  hs : ∃ a1 a2 a3 a4, ds = [a1, a2, a3, a4] ∧ mg "Taken" = some (.ref a1) ∧ mg "TooDeep" = some (.ref a2) ∧ mg "TooGreat" = some (.ref a3) ∧ mg "TooMany" = some (.ref a4)
/-- what a line may be: None or an int -/
def LineV (v : V) : Prop := v = .non ∨ ∃ i : Int, v = .int i
/-- what _law_refusal makes of what it is asked -/
def TTref (C : Addr) : (XK → Hp → VK → Prop) → Hp → VK → Prop := fun tl H Q => ∀ (E' : XK) (Q' : VK),
  (∀ dd v H', H' dd = some (.xd [("line", v)]) → LineV v → (∀ p H'', Ex H' H'' → H'' p = some (.tup [v]) → Q (.ref p) H'') → E' (.ref C) (some dd) H') → (∀ v H', (∀ p H'', Ex H' H'' → H'' p = some (.lst [v]) → Q (.ref p) H'') → Q' v H') → tl E' H Q'
theorem call_isiXK {X : Cx} {K : PySem.W.Frag} (h : X.K = K) : CallR X (.builtin "isinstance") (rIsiX K) := h ▸ call_isiX
theorem refs_cls : ∀ as : List Addr, Paired ClsV (as.map V.ref) (as.map Value.ref)
  | [] => .nil
  | a :: r => .cons (.own a) (refs_cls r)
theorem ref_gives {X : Cx} {g C B : Addr} {cs ds : List Addr} {cdg : Value} {q : Str} (T : T0 X.mg) (R : RefT X.K X.mg C B cs ds) :
    LamX.GivesTo X n_law_refusal "_law_refusal" (defScope s_law_refusal) g cdg (defBody s_law_refusal) "_law_ask" q (TTref C) := by
  intro f c' s H Q tl act hc h
  obtain ⟨a1, a2, a3, a4, a5, a6, a7, a8, a9, a10, a11, ecs, g1, g2, g3, g4, g5, g6, g7, g8, g9, g10, g11⟩ := R.gs
  obtain ⟨b1, b2, b3, b4, eds, h1, h2, h3, h4⟩ := R.hs
  have ff : ∀ {x : Str} {a : Addr}, X.mg x = some (.ref a) → ∃ u, X.mg x = some u ∧ RelV (.ref a) u := fun h => ⟨_, h, rfl⟩
  let K := X.K
  refine ⟨_, pss_cons (ps_set (i := 1) sc_law_refusal.nd rfl (Or.inl rfl) pe_non) (pss_cons (ps_set (i := 2) sc_law_refusal.nd rfl (Or.inl rfl) pe_non)
    (pss_cons (ps_try_keep (X := (cxOf C8.CX0 X.prog X.w X.K X.mg X.base n_law_refusal "_law_refusal" (defScope s_law_refusal) g cdg X.A X.stack s H C8.E0).nox) (c := .ref B) (i := 3) (j := 1) (Wout := fun _ _ _ _ => False)
        (tb := fun W D σ H => ∃ Ech : XK, (∀ cls d σ' H', Ech cls d H' → W cls d σ' H') ∧ σ[0]? = some (some (.ref f)) ∧ H c' = some (LamX.CodeO c' q) ∧ tl Ech H fun v H1 => D.nx (σ.set 2 (some v)) H1)
        rfl rfl rfl sc_law_refusal.nd rfl rfl rfl rfl ⟨by rfl, by decide, .inl R.gB⟩ takes0 (by decide) (by decide) rfl (fun W pn xe tk ho => ?_))
    (pss_cons (ps_if (pt_cmpR MB.op_isA (pv 1) pe_non (nomark _)) (pss_one (ps_ret (pe_lst (pa_cons (pv 2) pa_nil)))) pss_nil)
    (pss_cons (ps_if (pt_val (pe_callB (call_isiXK (K := X.K) rfl) (by rfl) T.n_isinstance MB.bo_isinstance (pa_cons (pv 1) (pa_cons (pe_tup (pa_cons (pe_gc (by rfl) (ff g1)) (pa_cons (pe_gc (by rfl) (ff g2)) (pa_cons (pe_gc (by rfl) (ff g3)) (pa_cons (pe_gc (by rfl) (ff g4)) (pa_cons (pe_gc (by rfl) (ff g5)) (pa_cons (pe_gc (by rfl) (ff g6)) (pa_cons (pe_gc (by rfl) (ff g7)) (pa_cons (pe_gc (by rfl) (ff g8)) (pa_cons (pe_gc (by rfl) (ff g9)) (pa_cons (pe_gc (by rfl) (ff g10)) (pa_cons (pe_gc (by rfl) (ff g11)) pa_nil)))))))))))) pa_nil)))) (pss_one (ps_ret (pe_tup pa_nil))) pss_nil)
    (pss_cons (ps_if (PW.pt (pw_or (pt_val (pe_callB (call_isiXK (K := X.K) rfl) (by rfl) T.n_isinstance MB.bo_isinstance (pa_cons (pv 1) (pa_cons (pe_tup (pa_cons (pe_gc (by rfl) (ff h1)) (pa_cons (pe_gc (by rfl) (ff h2)) (pa_cons (pe_gc (by rfl) (ff h3)) (pa_cons (pe_gc (by rfl) (ff h4)) pa_nil))))) pa_nil)))) (pw_or1 (pt_not (pt_val (pe_callB (call_isiXK (K := X.K) rfl) (by rfl) T.n_isinstance MB.bo_isinstance (pa_cons (pv 1) (pa_cons (pe_bltn (v := .ty "ValueError") (by rfl) T.n_ValueError MB.bo_ValueError rfl) pa_nil)))))))) (pss_one (ps_ret (pe_tup pa_nil))) pss_nil)
    (pss_cons (ps_if (PW.pt (pw_or (pt_not (pt_val (pe_callB (call_isiXK (K := X.K) rfl) (by rfl) T.n_isinstance MB.bo_isinstance (pa_cons (pv 1) (pa_cons (pe_gc (by rfl) (ff R.gC)) pa_nil))))) (pw_or1 (pt_val (pe_callB (MB.call_isiK (K := X.K) rfl) (by rfl) T.n_isinstance MB.bo_isinstance (pa_cons (pe_xv (pv 1) rfl) (pa_cons (pe_bltn (v := .ty "bool") (by rfl) T.n_bool MB.bo_bool rfl) pa_nil))))))) (pss_one (ps_ret (pe_tup pa_nil))) pss_nil)
    (pss_one (ps_ret (pe_tup (pa_cons (pe_xv (pv 1) rfl) pa_nil)))))))))), ?_⟩
  · refine ⟨fun pins s' σ H' D I h' => ?_⟩
    obtain ⟨Ech, hW, q1, q2, q3⟩ := h'
    exact PSs.run (pss_one (ps_set (i := 2) sc_law_refusal.nd rfl (Or.inl rfl) (act W pn xe Ech _ _ tk hW))) pins s' σ H' D I ⟨q1, q2, q3⟩
  · refine ⟨fun cls d H' => ∀ σ', wKeep X.K (.ref B) 3 1 4 (fun _ _ _ _ => False) _ cls d σ' H', fun cls d σ' H' e => e σ', rfl, hc, h _ _ ?_ ?_⟩
    · -- an exception
      intro dd v H' hdd hv k σ'
      refine ⟨true, R.kB, fun _ a ha hl => ?_, fun z => nomatch z⟩
      have e1 : Ex H' (upd H' a (ExcV a (.ref C) (some dd))) := Ex.new ha
      have hka : upd H' a (ExcV a (.ref C) (some dd)) a = some (ExcV a (.ref C) (some dd)) := upd_same
      have hkd := e1 _ _ hdd
      revert e1 hka hkd
      generalize upd H' a (ExcV a (.ref C) (some dd)) = H1
      intro e1 hka hkd
      have s1 : (((σ'.set 3 (some (V.ref a))).set 1 (some (V.ref a))).set 3 none)[1]? = some (some (.ref a)) := by
        rw [List.getElem?_set_ne (by decide), List.getElem?_set_self (by rw [List.length_set]; omega)]
      have kp : ∀ {H2 : Hp}, Ex H1 H2 → KeptAt H2 a C (some dd) := fun e => ⟨e _ _ hka, fun d2 h2 => by
        cases h2
        exact ⟨_, e _ _ hkd⟩⟩
      have nn : ∀ {H2 : Hp}, RV rIsA (V.ref a) V.non H2 (.bl false) := fun H1 _ _ q => .inl ⟨rfl, by
        have : decide (V.ref a = V.non) = false := decide_eq_false fun z => nomatch z
        rw [this]
        exact q H1 (Ex.refl H1)⟩
      dsimp only
      refine q_ifN (b := false) (et_test (ev_op (ev_var s1) ev_c nn)) (fun z => nomatch z) fun _ H2 e2 => ?_
      have isT : ∀ {H2 : Hp} {ta : TE} {as : List Addr} {σ : L2.St}, Ex H1 H2 → σ[1]? = some (some (.ref a)) → PySem.W.kitAny X.K (.ref C) (as.map Value.ref) = some false → EvU ta σ H2 (as.map V.ref) → Ev (tCB (rIsiX X.K) (tCons (tVar 1) (tCons ta tNil))) σ H2 (.bl false) := fun {H2 ta as σ} e hs hk hu => fun H3 e3 Q q =>
        ⟨_, hs, hu H3 e3 _ fun p H4 _ e4 hp => .inr ⟨a, C, some dd, p, as.map V.ref, as.map Value.ref, false, rfl, kp ((e.trans e3).trans e4), R.ec, hp, refs_cls as, hk, q H4 e4⟩⟩
      refine q_ifN (b := false) (et_B (isT (as := cs) e2 s1 R.k1 (by
        rw [ecs]
        exact eu_tup (ea_cons ev_c (ea_cons ev_c (ea_cons ev_c (ea_cons ev_c (ea_cons ev_c (ea_cons ev_c (ea_cons ev_c (ea_cons ev_c (ea_cons ev_c (ea_cons ev_c (ea_cons ev_c ea_nil))))))))))) (by show 11 ≤ 100000; decide)))) (fun z => nomatch z) fun _ H3 e3 => ?_
      have e13 := e2.trans e3
      refine q_ifN (b := false) (et_or (a := false) (b := false) (et_B (isT (as := ds) e13 s1 R.k2 (by
        rw [eds]
        exact eu_tup (ea_cons ev_c (ea_cons ev_c (ea_cons ev_c (ea_cons ev_c ea_nil)))) (by show 4 ≤ 100000; decide)))) fun _ => et_not (a := true) (et_B (ev_cb2 (ev_var s1) ev_c fun H4 e4 Q q => .inl ⟨a, C, some dd, .ty "ValueError", .type "ValueError", true, rfl, kp (e13.trans e4), R.ec, .ty _, R.kV, q H4 (Ex.refl _)⟩))) (fun z => nomatch z) fun _ H4 e4 => ?_
      have e14 := e13.trans e4
      have evl : ∀ {H2 : Hp} {σ : L2.St}, Ex H1 H2 → σ[1]? = some (some (.ref a)) → Ev (tXV X.K (Str.ofString "line") (tVar 1)) σ H2 v := fun {H2 σ} e hs => fun H3 e3 Q q =>
        ⟨_, hs, a, C, dd, _, v, rfl, (e.trans e3) _ _ hka, R.ec, R.nf, (e.trans e3) _ _ hkd, by simp [List.lookup], q H3 (Ex.refl _)⟩
      refine q_ifN (b := false) (et_or (a := false) (b := false) (et_not (a := true) (et_B (ev_cb2 (ev_var s1) ev_c fun H5 e5 Q q => .inl ⟨a, C, some dd, .ref C, .ref C, true, rfl, kp (e14.trans e5), R.ec, .own C, R.kC, q H5 (Ex.refl _)⟩))) fun _ => et_B (ev_cb2 (evl e14 s1) ev_c ?_)) (fun z => nomatch z) fun _ H5 e5 => ?_
      · rcases hv with rfl | ⟨i, rfl⟩
        · exact rc_isi (.base .non) (by decide +kernel) fun _ _ => .base .non
        · exact rc_isiInt (by decide +kernel)
      have e15 := e14.trans e5
      exact s_retU (eu_tup (ea_cons (evl e15 s1) ea_nil) (by show 1 ≤ 100000; decide)) fun p H6 _ e6 hp => k p H6 ((e1.trans e15).trans e6) hp
    · intro v H' k
      dsimp only
      refine q_ifN (b := true) (et_test (ev_op (ev_var rfl) ev_c fun H1 _ _ q => .inl ⟨rfl, q H1 (Ex.refl H1)⟩)) (fun _ H1 e1 => ?_) (fun z => nomatch z)
      exact s_retL (el_lst (ea_cons (ev_var rfl) ea_nil) (by show 1 ≤ 100000; decide)) fun p H2 _ e2 hp => k p H2 (e1.trans e2) hp
end K85
set_option maxRecDepth 100000
set_option maxHeartbeats 1000000
namespace K85
open PySem PySem.Spec PyProof.Rows L2 Evl MB
/-- _law_refusal, a def that gets a lambda -/
structure RefF (K : PySem.W.Frag) (mg : Str → Option Value) (C B : Addr) (cs ds : List Addr) : Prop where
  R : RefT K mg C B cs ds
  ex : ∃ (g : Addr) (cdg : Value) (oc : Value) (od : Option Addr) (kV doc pm : Value) (an : Option Addr) (ct : Value) (osl : Array (Option Value)), mg "_law_refusal" = some (.ref g) ∧ PySem.W.keepIn K (.ref g) = true ∧
    K.lookup g = some ⟨oc, od, .func (PySem.W.fnOf "_law_refusal" "_law_refusal" (defArgs s_law_refusal) (defBody s_law_refusal) (defScope s_law_refusal) .none kV doc pm an cdg ct), osl⟩ ∧ PySem.W.codeIn K cdg "_law_refusal" = true ∧
    Binds K (PySem.W.fnOf "_law_refusal" "_law_refusal" (defArgs s_law_refusal) (defBody s_law_refusal) (defScope s_law_refusal) .none kV doc pm an cdg ct) ["_law_ask"] []
/-- _law_refusal(lambda: read_file(x)), x in slot i -/
theorem pe_refusal {X : Cx} {C B c Pt : Addr} {cs ds : List Addr} {TL : List (Addr × Str)} {i j : Nat} {x : Str} {params : Arguments} {scope : Scope} {p lpos pos q1 q2 q3 : Pos} (T : T0 X.mg) (RF : RefF X.K X.mg C B cs ds) (c_read_file : MB.Cl X.prog X.w X.K X.mg X.base 3 "read_file" (sp_read_file X.K C))
    (hg : Gl X "_law_refusal") (TB : LamX.TabB X.base X.mg c Pt) (hcode : X.env.code = .ref c) (hmT : (Pt, X.env.qual ++ "<lambda>") ∈ TL) (hu : ∀ p ∈ TL, p.1 = Pt → p.2 = X.env.qual ++ "<lambda>") (hr : Room j X.A) (hj : 5 ≤ j) (L : LamX.LamS X.env.scope scope) (hdef : defaultsOf params X.env = ([], []))
    (hbind : ∀ (q : Str) (cl : List (Str × Addr)) (pm cv ctv : Value), bindArgs (PySem.W.kla_fn "<lambda>" q params (.Call (.Name "read_file" q1) [.Name x q2] [] q3) scope cl pm cv ctv) ⟨[], []⟩ = pure [])
    (hgl : scope.names.lookup ("read_file" : Str) = some NameKind.globalImplicit) (hx : X.N[i]? = some x) (hv : Vis scope x) (hd : (x == ("__debug__" : Str)) = false := by decide) (hcd : (x == ("__classdict__" : Str)) = false := by decide) :
    PE X (.Call (.Name "_law_refusal" p) [.Lambda params (.Call (.Name "read_file" q1) [.Name x q2] [] q3) scope lpos] [] pos) (LamX.tLam TL (TTref C) fun E => tCall (sp_read_file X.K C) [] E (tCons (tVar i) tNil)) := by
  obtain ⟨g, cdg, oc, od, kV, doc, pm, an, ct, osl, gm, gk, gl, gc, gb⟩ := RF.ex
  refine LamX.pe_lamcall (k := 3) (Ng := n_law_refusal) hg gm gk gl gc gb sc_law_refusal rfl (.inl rfl) (ref_gives T RF.R) TB hcode hmT hu (hr.mono hj) L hdef hbind (fun A outer s H E f c' hr2 => ?_)
  exact pe_cl (X := LamX.lamCx X A outer s H E scope f c') c_read_file hr2 (by decide) hgl (passes_call (W := fun cls d _ H => E cls d H) (takes_of rfl rfl rfl rfl) fun _ _ _ _ h => h) (pa_cons (pe_var hx hv hd hcd) pa_nil)
theorem Pen.extN {H H' : Hp} {p lc : Addr} {n : Nat} (e : LamX.ExtN H H') (h : Pen H p lc n) : Pen H' p lc n := by
  obtain ⟨cs, a, l, ⟨h1, h2, h3⟩, h4⟩ := h
  exact ⟨cs, a, l, ⟨e _ _ h1 (fun _ z => nomatch z), e _ _ h2 (fun _ z => nomatch z), h3⟩, h4⟩
/-! ### _law_right -/
def sp_right (TL : List (Addr × Str)) : Sp := fun vs H Q _ => ∃ t : List Nat, vs = [tv t] ∧ t.length ≤ 100000 ∧ LamX.Tabs TL H ∧ ∀ H', LamX.ExtN H H' → LamX.Tabs TL H' → Q (.bl true) H'
section
variable {P : Program} {w : World} {K : PySem.W.Frag} {mg : Str → Option Value} {base : Heap}
theorem line_data {K : PySem.W.Frag} {H : Hp} {p : Addr} {k : Int} (h : H p = some (.tup [.int k])) : Dp K H (.ref p) (.tuple [.int k]) := .tup (st_of h) (.cons (.int k) .nil)
theorem ok_law_right {C B c Pt : Addr} {cs ds : List Addr} {TL : List (Addr × Str)} {f : Addr} {kV doc pm ct oc : Value} {an od : Option Addr} {osl : Array (Option Value)} (lk : K.lookup f = some ⟨oc, od, .func (PySem.W.fnOf "_law_right" "_law_right" (defArgs s_law_right) (defBody s_law_right) (defScope s_law_right) .none kV doc pm an (.ref c) ct), osl⟩)
    (hcd : PySem.W.codeIn K (.ref c) "_law_right" = true) (T : T0 mg) (RF : RefF K mg C B cs ds) (c_read_file : MB.Cl P w K mg base 3 "read_file" (sp_read_file K C)) (c_law_bad_line : MB.Cl P w K mg base 1 "_law_bad_line" sp_bad_line) (c_show_file : MB.Cl P w K mg base 3 "show_file" (sp_show_file K))
    (TB : LamX.TabB base mg c Pt) (hmT : (Pt, Str.ofString "_law_right" ++ Str.ofString ".<locals>." ++ Str.ofString "<lambda>") ∈ TL) (hu : ∀ p ∈ TL, p.1 = Pt → p.2 = Str.ofString "_law_right" ++ Str.ofString ".<locals>." ++ Str.ofString "<lambda>") :
    FnOk P w K mg base CX0 6 f (PySem.W.fnOf "_law_right" "_law_right" (defArgs s_law_right) (defBody s_law_right) (defScope s_law_right) .none kV doc pm an (.ref c) ct) p_law_right (sp_right TL) := by
  refine fn_of lk hcd sc_law_right (fun vs H Q E h => ?_) (fun A outer s H vs Q E hr h => ?_)
  · obtain ⟨t, rfl, _⟩ := h
    rfl
  · obtain ⟨t, rfl, ht, hT, k⟩ := h
    have hu64 := hu64 hr
    refine ⟨_, (pss_cons (ps_set (i := 1) sc_law_right.nd rfl (Or.inl rfl) (MB.pe_cl c_law_bad_line hr (by decide) (by rfl) passL (pa_cons (pv 0) pa_nil)))
      (pss_cons (ps_set (i := 2) sc_law_right.nd rfl (Or.inl rfl) (pe_refusal (i := 0) T RF c_read_file (by rfl) TB rfl hmT hu hr (by decide) (LamX.lamS_by (show LamX.lamSB (defScope s_law_right) _ = true by decide +kernel)) rfl (fun _ _ _ _ _ => rfl) (by rfl) (by rfl) (by first | exact .inr (.inl rfl) | exact .inr (.inr rfl))))
      (pss_cons (ps_if (pt_cmpR op_ge (pv 1) pe_int (nomark _)) (pss_one (ps_ret (pe_cmpR (MB.op_eqK (K := K) rfl hu64) (pv 2) (pe_tup (pa_cons (pv 1) pa_nil)) (nomark _)))) pss_nil)
      (pss_one (ps_ret (pe_and (pe_cmpR (MB.op_eqK (K := K) rfl hu64) (pe_callB (MB.call_lenK (K := K) rfl) (by rfl) T.n_len MB.bo_len (pa_cons (pv 2) pa_nil)) pe_int (nomark _)) (pe_and (pe_callB (MB.call_isiK (K := K) rfl) (by rfl) T.n_isinstance MB.bo_isinstance (pa_cons (pv 2) (pa_cons (pe_bltn (v := .ty "list") (by rfl) T.n_list MB.bo_list rfl) pa_nil))) (pe_one (pe_cmpR (MB.op_eqK (K := K) rfl hu64) (MB.pe_cl c_show_file hr (by decide) (by rfl) passL (pa_cons (pe_ix (MB.ix_K (K := K) rfl) (pv 2) pe_int (fun _ _ => rfl)) pa_nil)) (pv 0) (nomark _)))))))))), ?_⟩
    refine q_asg (v := .int (badLine t)) (ev_call (ea_cons (ev_var rfl) ea_nil) fun H1 e Q q E => ⟨t, rfl, ht, q⟩) fun H1 e1 => ?_
    refine ⟨hT.ext e1, fun H2 n2 hT2 => ?_⟩
    have fin : ∀ {H' : Hp}, Ex H2 H' → Q (.bl true) H' := fun e => k _ (((LamX.ExtN.of e1).trans n2).trans (LamX.ExtN.of e)) (hT2.ext e)
    intro E' Q' hE hQ
    refine (ea_cons (ev_var rfl) ea_nil : EvA _ _ H2 _) H2 (Ex.refl _) _ fun H3 e3 => ?_
    refine .inl ⟨t, rfl, ht, ?_⟩
    rcases bad_read t with ⟨b, hb, hrd⟩ | ⟨hb, ns, hrd, hsh, hz, _, hn⟩
    · rw [hrd]
      intro d H4 e4 hd4 hx
      refine hE d _ H4 hx (.inr ⟨_, rfl⟩) fun p H5 e5 hp => ?_
      rw [hb]
      refine q_ifN (b := decide ((0 : Int) ≤ (b : Int))) (et_test (ev_op (ev_var rfl) ev_c rv_I0)) (fun _ H6 e6 => ?_) fun hf => absurd hf (by simp)
      refine s_ret (ev_is (ev_opU (xs := [.int (b : Int)]) (ev_var rfl) (eu_tup (ea_cons (ev_var rfl) ea_nil) (by show 1 ≤ 100000; decide)) fun q H7 hq e7 => rv_eqD (line_data (e7 _ _ (e6 _ _ hp))) (line_data hq)) ?_) fun H7 e7 => fin ((((e3.trans e4).trans e5).trans e6).trans e7)
      show V.bl ((((b : Int) == (b : Int)) && true)) = V.bl true
      simp
    · rw [hrd]
      intro p H4 e4 hp4 hp
      refine hQ _ H4 fun l H5 e5 hl => ?_
      rw [hb]
      refine q_ifN (b := false) (et_test (ev_is (ev_op (ev_var rfl) ev_c rv_I0) (w := .bl false) rfl)) (fun z => nomatch z) fun _ H6 e6 => ?_
      have hl6 := e6 _ _ hl
      have hp6 := e6 _ _ (e5 _ _ hp)
      refine s_ret (v := .bl true) (ev_is (ev_andV (a := true) (b := true) (ev_is (ev_op (ev_cb1 (ev_var rfl) (rc_lenL (sq_of hl6))) ev_c rv_eqI) rfl) fun _ => ev_is (ev_andV (a := true) (b := true) (ev_cb2 (ev_var rfl) ev_c (rc_isi (.base (.lst hl6)) (by decide +kernel) fun _ e => .base (.lst (e _ _ hl6)))) fun _ =>
        ev_is (ev_op (x := tv (showF ns)) (y := tv t) (ev_call (ea_cons (ev_op (ev_var rfl) ev_c (rv_xL (sq_of hl6) rfl)) ea_nil) fun H7 e7 Q q E => ⟨p, ns, rfl, st_of (e7 _ _ hp6), hz, hn, q⟩) (ev_var rfl) rv_eqC) (congrArg V.bl (by rw [hsh]; exact decide_eq_true rfl))) rfl) rfl) fun H7 e7 => fin ((((e3.trans e4).trans e5).trans e6).trans e7)
end
end K85
set_option maxRecDepth 100000
set_option maxHeartbeats 2000000
namespace K85
open PySem PySem.Spec PyProof.Rows L2 Evl MB
abbrev jn : List Nat → List (List Nat) → List Nat := TL.joinL
/-- all that the law's def asks of what it calls -/
structure Calls (P : Program) (w : World) (K : PySem.W.Frag) (mg : Str → Option Value) (base : Heap) (C : Addr) (TL : List (Addr × Str)) : Prop where
  pen : MB.Cl P w K mg base 1 "_law_pen" (spPen K)
  draw : MB.Cl P w K mg base 1 "_law_draw" spDraw
  numbers : MB.Cl P w K mg base 2 "_law_numbers" spNumbers
  show_ : MB.Cl P w K mg base 3 "show_file" (sp_show_file K)
  figs : MB.Cl P w K mg base 1 "_law_figures" (sp_figures K)
  read : MB.Cl P w K mg base 3 "read_file" (sp_read_file K C)
  isf : MB.Cl P w K mg base 3 "is_file" (sp_is_file K)
  bent : MB.Cl P w K mg base 3 "_law_bent" (spBentL fB)
  right : MB.Cl P w K mg base 6 "_law_right" (sp_right TL)
section
variable {P : Program} {w : World} {K : PySem.W.Frag} {mg : Str → Option Value} {base : Heap}
theorem q_numbers {σ : L2.St} {H : Hp} {E E' : XK} {D : Ends} {tz : TS} {p lc : Addr} {n : Nat} {i : Nat} (h1 : σ[1]? = some (some (.ref p))) (hp : Pen H p lc n) (hn : n ≤ 900000)
    (k : ∀ (ns : List Nat) q H', ns.length ≤ 160 → ns.length % 4 = 0 → (∀ x ∈ ns, x < 256) → H' q = some (.tup (ns.map iv)) → Pen H' p lc (n + 481) → But p H H' → tz D (σ.set i (some (.ref q))) H') :
    tSeq (tAsg (tCall spNumbers [] E (tCons (tVar 1) (tCons (tOp (rMulB K) (tC (.int 4)) (tCall spDraw [] E' (tCons (tVar 1) (tCons (tC (.int 41)) tNil)))) (tCons (tC (.int 256)) tNil)))) (gName i)) tz D σ H := by
  refine ⟨_, h1, ?_⟩
  refine ev_draw (m := 41) (ev_var h1) ev_c (by decide) (by decide) hp (by omega) fun r H2 r0 r1 hp2 hb2 => ?_
  obtain ⟨m, rfl⟩ : ∃ m : Nat, r = (m : Int) := ⟨r.toNat, by omega⟩
  refine .inr (.inl ⟨4, _, rfl, rfl, .inl (by decide), ?_⟩)
  refine ⟨p, lc, 4 * m, 256, n + 1, ?_, by omega, by decide, by decide, hp2, by omega, fun ns q H3 hl hs _ hq hp3 hb3 => ?_⟩
  · show [V.ref p, V.int (4 * (m : Int)), V.int 256] = _
    rw [show ((4 * m : Nat) : Int) = 4 * (m : Int) by omega]
  · exact k ns q H3 (by omega) (by omega) (fun x hx => by have := hs x hx; omega) hq (hp3.le (by omega)) (hb2.trans hb3)
theorem q_asgZ {σ : L2.St} {H : Hp} {D : Ends} {tz : TS} {te : TE} {b i : Nat} (h : EvZ te σ H b) (k : ∀ z H1, z.length ≤ b → Ex H H1 → tz D (σ.set i (some (.str z))) H1) : tSeq (tAsg te (gName i)) tz D σ H := by
  obtain ⟨z, hz, e⟩ := h
  exact q_asg e fun H1 e1 => k z H1 hz e1
theorem q_asgAZ {σ : L2.St} {H : Hp} {D : Ends} {tz : TS} {ta : TA} {n b i : Nat} (h : EvAZ ta σ H n b) (hn : n ≤ 1000) (k : ∀ (zs : List Str) p H1, zs.length = n → (∀ z ∈ zs, z.length ≤ b) → Ex H H1 → H1 p = some (.lst (zs.map V.str)) → tz D (σ.set i (some (.ref p))) H1) : tSeq (tAsg (tLst ta) (gName i)) tz D σ H := by
  obtain ⟨zs, h1, h2, h3⟩ := h
  exact q_asgL (el_lst h3 (by rw [List.length_map]; omega)) fun p H1 _ e hp => k zs p H1 h1 h2 e hp
theorem q_more {σ : L2.St} {H : Hp} {D : Ends} {tz : TS} {ta : TA} {tv0 : TE} {n b i : Nat} {pt : Addr} {zs0 : List Str} (h0 : Ev tv0 σ H (.ref pt)) (hp0 : H pt = some (.lst (zs0.map V.str))) (hz0 : zs0.length ≤ 1000) (hb0 : ∀ z ∈ zs0, z.length ≤ b) (h : EvAZ ta σ H n b) (hn : n ≤ 1000)
    (k : ∀ (zs : List Str) p H1, zs.length = zs0.length + n → (∀ z ∈ zs, z.length ≤ b) → Ex H H1 → H1 p = some (.lst (zs.map V.str)) → tz D (σ.set i (some (.ref p))) H1) : tSeq (tAsg (tOp (rAddA K) tv0 (tLst ta)) (gName i)) tz D σ H := by
  obtain ⟨zs, h1, h2, h3⟩ := h
  refine q_asgL (el_cat (ep_val h0 hp0) (ep_new (el_lst h3 (by rw [List.length_map]; omega))) (by rw [List.length_map, List.length_map]; omega)) fun p H1 _ e hp => k (zs0 ++ zs) p H1 (by rw [List.length_append, h1]) (fun z hz => ?_) e (by rw [List.map_append]; exact hp)
  rcases List.mem_append.mp hz with hz | hz
  · exact hb0 z hz
  · exact h2 z hz
theorem q_drawIf {σ : L2.St} {H : Hp} {E : XK} {D : Ends} {tu : TS} {p lc : Addr} {n : Nat} {m : Int} (h1 : σ[1]? = some (some (.ref p))) (hm0 : 0 < m) (hm1 : m < 1000000) (hp : Pen H p lc n) (hn : n ≤ 900000)
    (k1 : ∀ H', Pen H' p lc (n + 1) → But p H H' → tu D σ H') (k2 : ∀ H', Pen H' p lc (n + 1) → But p H H' → D.nx σ H') :
    tIfS (tTest (tOp (rEqA K) (tCall spDraw [] E (tCons (tVar 1) (tCons (tC (.int m)) tNil))) (tC (.int 0)))) tu tNext D σ H := by
  refine ev_draw (ev_var h1) ev_c hm0 hm1 hp (by omega) fun r H2 r0 r1 hp2 hb2 => ?_
  refine .inl ⟨rfl, _, rfl, ?_⟩
  have e : decide (V.int r = V.int 0) = decide (r = 0) := by simp
  rw [e]
  by_cases hr : r = 0
  · rw [decide_eq_true hr]
    exact k1 H2 hp2 hb2
  · rw [decide_eq_false hr]
    exact k2 H2 hp2 hb2
theorem s_thousand {σ : L2.St} {H : Hp} {E : XK} {D : Ends} {p lc : Addr} {n i : Nat} (h1 : σ[1]? = some (some (.ref p))) (hp : Pen H p lc n) (hn : n ≤ 900000)
    (k : ∀ (ns : List Nat) q H', ns.length = 4000 → (∀ x ∈ ns, x < 256) → H' q = some (.tup (ns.map iv)) → Pen H' p lc (n + 12) → But p H H' → D.nx (σ.set i (some (.ref q))) H') :
    tAsg (tOp (rMulB K) (tCall spNumbers [] E (tCons (tVar 1) (tCons (tC (.int 4)) (tCons (tC (.int 256)) tNil)))) (tC (.int 1000))) (gName i) D σ H := by
  refine ⟨_, h1, ?_⟩
  refine ⟨p, lc, 4, 256, n, rfl, by decide, by decide, by decide, hp, by omega, fun ns q H3 hl hs _ hq hp3 hb3 => ?_⟩
  refine .inr (.inr (.inr ⟨q, 1000, ns.map iv, rfl, rfl, st_of hq, fun z => ?_, by decide, by decide, by rw [List.length_map]; omega, fun r hr => ?_⟩))
  · rw [List.map_eq_nil_iff] at z
    rw [z] at hl
    cases hl
  · have e : (List.replicate (1000 : Int).toNat (ns.map iv)).flatten = ((List.replicate 1000 ns).flatten).map iv := by
      rw [List.map_flatten, List.map_replicate]
      rfl
    rw [e]
    refine k _ r _ ?_ ?_ upd_same (hp3.ex (Ex.new hr)) (hb3.trans (But.of (Ex.new hr)))
    · rw [List.length_flatten, List.map_replicate, hl]
      decide +kernel
    · intro x hx
      rw [List.mem_flatten] at hx
      obtain ⟨l, hl2, hx⟩ := hx
      rw [List.mem_replicate] at hl2
      rw [hl2.2] at hx
      have := hs x hx
      omega
theorem etp_read {σ : L2.St} {H : Hp} {E : XK} {ta : TE} {C : Addr} {t ns : List Nat} (h : Ev ta σ H (tv t)) (ht : t.length ≤ 100000) (hr : readF t = .ok ns) : EvTp K (tCall (sp_read_file K C) [] E (tCons ta tNil)) σ H (ns.map iv) := fun H1 e Q q =>
  h H1 e _ fun H2 e2 => .inl ⟨t, rfl, ht, by
    rw [hr]
    exact fun p H3 e3 _ hp => q p H3 (e2.trans e3) (st_of hp)⟩
theorem ev_reprTp {σ : L2.St} {H : Hp} {te : TE} {ns : List Nat} (h : EvTp K te σ H (ns.map iv)) (hz : ns.length ≤ 4000) (hn : ∀ n ∈ ns, n < 256) : Ev (tCB (rReprD K) (tCons te tNil)) σ H (.str (dT ns).shown) := fun H1 e Q q =>
  h H1 e _ fun p H2 e2 hp => rc_reprT hp hz hn H2 (Ex.refl _) _ fun H3 e3 => q H3 (e2.trans e3)
theorem ev_isf {σ : L2.St} {H : Hp} {E : XK} {te : TE} {ns : List Nat} (h : EvTp K te σ H (ns.map iv)) (hz : ns.length ≤ 4000) (h4 : ns.length % 4 = 0) (hn : ∀ n ∈ ns, n < 256) : Ev (tCall (sp_is_file K) [] E (tCons te tNil)) σ H (.bl true) := fun H1 e Q q =>
  h H1 e _ fun p H2 e2 hp => ⟨p, ns, rfl, hp, hz, h4, hn, fun H3 e3 => q H3 (e2.trans e3)⟩
theorem rv_neSame {H : Hp} {z : Str} : RV (rNeA K) (.str z) (.str z) H (.bl false) := fun H1 _ _ q => .inl ⟨rfl, by
  have e : (!decide (V.str z = V.str z)) = false := by simp
  rw [e]
  exact q H1 (Ex.refl H1)⟩
theorem s_forRng {ta : TA} {g : TG} {tb : TS} {D : Ends} {σ : L2.St} {H : Hp} {j : Int} (h : EvA ta σ H [.int j]) (h0 : -(2 ^ 62) ≤ j) (h1 : j < 2 ^ 62) (k : ∀ H1, Ex H H1 → ∃ W : Nat → Nat → L2.St → Hp → Prop, (∃ m, W 0 m σ H1) ∧ ∀ i m σ H, W i m σ H →
      ((Itr 0 j.toNat).stop i H ∧ D.nx σ H) ∨ ((Itr 0 j.toNat).go i H ∧ ∃ N : L2.St → Hp → Prop, (∀ σ' H', N σ' H' → ∃ m', m' < m ∧ W (i + 1) m' σ' H') ∧ ∀ x H', (Itr 0 j.toNat).yld i H x H' → g x σ H' fun σ2 H2 => tb { D with nx := N, ct := N, bk := D.nx } σ2 H2)) :
    tFor (iRng1 ta) g tb D σ H := h H (Ex.refl H) _ fun H1 e1 => ⟨j, rfl, h0, h1, k H1 e1⟩
/-- what is no text -/
def Thing (H : Hp) (x : V) : Prop := x = .non ∨ (∃ b, x = .bl b) ∨ (∃ i, x = .int i) ∨ (∃ a xs, x = .ref a ∧ H a = some (.lst xs)) ∨ (∃ a xs, x = .ref a ∧ H a = some (.tup xs)) ∨ ∃ a kvs, x = .ref a ∧ H a = some (.dK kvs)
theorem Thing.ext {H H' : Hp} {x : V} (e : LamX.ExtN H H') (h : Thing H x) : Thing H' x := by
  rcases h with h | h | h | ⟨a, xs, h, g⟩ | ⟨a, xs, h, g⟩ | ⟨a, xs, h, g⟩
  · exact .inl h
  · exact .inr (.inl h)
  · exact .inr (.inr (.inl h))
  · exact .inr (.inr (.inr (.inl ⟨a, xs, h, e _ _ g fun _ z => nomatch z⟩)))
  · exact .inr (.inr (.inr (.inr (.inl ⟨a, xs, h, e _ _ g fun _ z => nomatch z⟩))))
  · exact .inr (.inr (.inr (.inr (.inr ⟨a, xs, h, e _ _ g fun _ z => nomatch z⟩))))
theorem Thing.not {H : Hp} {x : V} (h : Thing H x) : NotStr K H x := fun H' e => by
  rcases h with rfl | ⟨b, rfl⟩ | ⟨i, rfl⟩ | ⟨a, xs, rfl, g⟩ | ⟨a, xs, rfl, g⟩ | ⟨a, xs, rfl, g⟩
  · exact ⟨_, .base .non, by decide +kernel⟩
  · exact ⟨_, .base (.bl b), by decide +kernel⟩
  · exact ⟨_, .base (.int i), by decide +kernel⟩
  · exact ⟨_, .base (.lst (e _ _ g)), by decide +kernel⟩
  · exact ⟨_, .base (.tup (e _ _ g)), by decide +kernel⟩
  · exact ⟨_, .base (.dK (e _ _ g)), by decide +kernel⟩
/-- the texts, each judged: nothing is found -/
theorem lc_judge {σ : L2.St} {H : Hp} {E : XK} {TL : List (Addr × Str)} {pt : Addr} {zs : List Str} {Q : VK} (h4 : σ[4]? = some (some (.ref pt))) (hpt : H pt = some (.lst (zs.map V.str))) (hb : ∀ z ∈ zs, z.length ≤ 1000000) (hT : LamX.Tabs TL H)
    (hw : ∀ x, wipe ((wipe σ [8]).set 8 (some x)) [8] = wipe σ [8]) (hs : ∀ x, ((wipe σ [8]).set 8 (some x))[8]? = some (some x)) (q : ∀ Dl H', H' Dl = some (.lst []) → LamX.Tabs TL H' → Q (.ref Dl) H') :
    tLc (iList K (tVar 4)) (gName 8) (tAnd (tTest (tOp (rI0 fun i j => V.bl (decide (i < j))) (tCB (rLenA K) (tCons (tVar 8) tNil)) (tC (V.int 10000)))) (tNot (tB (tCall (sp_right TL) [] E (tCons (tVar 8) tNil))))) (tVar 8) [8] σ H Q := by
  refine ⟨_, h4, pt, rfl, ⟨_, sq_of hpt⟩, fun Dl hD => lc_list (xs := zs.map V.str) (fun i H' => H' Dl = some (.lst []) ∧ H' pt = some (.lst (zs.map V.str)) ∧ LamX.Tabs TL H') ⟨upd_same, ?_, hT.ext (Ex.new hD)⟩ (fun i H' _ p => sq_of p.2.1) ?_ (fun H' p => q Dl H' p.1 p.2.2)⟩
  · rw [upd_ne (ne_of_none hpt hD)]
    exact hpt
  · rintro i x H' hi ⟨h1, h2, h3⟩
    rw [List.getElem?_map, Option.map_eq_some_iff] at hi
    obtain ⟨z, hz, rfl⟩ := hi
    refine ⟨hw _, ?_⟩
    have hzb := hb z (List.mem_of_getElem? hz)
    have et : EvT (tTest (tOp (rI0 fun i j => V.bl (decide (i < j))) (tCB (rLenA K) (tCons (tVar 8) tNil)) (tC (V.int 10000)))) ((wipe σ [8]).set 8 (some (V.str z))) H' (decide ((z.length : Int) < 10000)) := et_test (ev_op (ev_cb1 (ev_var (hs _)) (rc_lenStr (by omega))) ev_c rv_I0)
    refine et H' (Ex.refl _) _ fun H3 e3 => ?_
    by_cases hlt : (z.length : Int) < 10000
    · rw [decide_eq_true hlt, if_pos rfl]
      refine ⟨_, hs _, z.cps.toList, ?_, ?_, h3.ext e3, fun H4 n4 hT4 => ⟨true, rfl, ?_⟩⟩
      · show [V.str z] = [V.str (SX.S z.cps.toList)]
        rw [SX.S_tl]
      · have : z.cps.toList.length = z.length := by simp [Str.length]
        omega
      · exact ⟨n4 _ _ (e3 _ _ h1) (fun _ z => nomatch z), n4 _ _ (e3 _ _ h2) (fun _ z => nomatch z), hT4⟩
    · rw [decide_eq_false hlt, if_neg Bool.false_ne_true]
      exact ⟨e3 _ _ h1, e3 _ _ h2, h3.ext e3⟩
theorem q_judged {σ : L2.St} {H : Hp} {D : Ends} {tu tz : TS} {te : TE} {TL : List (Addr × Str)} (h : ∀ Q : VK, (∀ Dl H', H' Dl = some (.lst []) → LamX.Tabs TL H' → Q (.ref Dl) H') → te σ H Q) (k : ∀ H', LamX.Tabs TL H' → tz D σ H') :
    tSeq (tIfS (tTest (tOp (rNeNil K) te (tLst tNil))) tu tNext) tz D σ H :=
  h _ fun Dl H1 h1 hT1 => ⟨by show 0 ≤ sizeLine; decide, fun q hq => ⟨Dl, q, [], rfl, rfl, sq_of (by rw [upd_ne (ne_of_none h1 hq)]; exact h1), sq_of upd_same, false, rfl, k _ (hT1.ext (Ex.new hq))⟩⟩
/-- the law's def at a caller that guards nothing -/
theorem law_body {C B c Pt : Addr} {cs ds : List Addr} {TL : List (Addr × Str)} {f : Addr} {A : Around} {outer : List Env} {s : Shared} {H : Hp} {Q : VK} {E : XK} {a : Addr} {script : List Int} (hgA : A.guards = some []) (hr : Room 6 (A.deeper (envOfC "law" (defScope s_law) s.heap.objs.size f (.ref c))))
    (T : T0 mg) (RF : RefF K mg C B cs ds) (cl : Calls P w K mg base C TL) (TB : LamX.TabB base mg c Pt) (hmT : (Pt, Str.ofString "law" ++ Str.ofString ".<locals>." ++ Str.ofString "<lambda>") ∈ TL) (hu : ∀ p ∈ TL, p.1 = Pt → p.2 = Str.ofString "law" ++ Str.ofString ".<locals>." ++ Str.ofString "<lambda>")
    (ha : SqL K H a (script.map V.int)) (hT : LamX.Tabs TL H) (k : ∀ H', Q (.bl true) H') :
    ∃ t, PSs (cxOf CX0 P w K mg base n_law "law" (defScope s_law) f (.ref c) A outer s H E).nox (defBody s_law) t ∧ t { nx := fun _ H' => Q .non H', rt := Q } (L2.start n_law [.ref a]) H := by
  have hu64 := hu64 hr
  have hgd : (A.deeper (envOfC "law" (defScope s_law) s.heap.objs.size f (.ref c))).guards = some [] := hgA
  have hu2 := hu64
  have c_law_pen := cl.pen
  have c_law_draw := cl.draw
  have c_law_numbers := cl.numbers
  have c_show_file := cl.show_
  have c_law_figures := cl.figs
  have c_read_file := cl.read
  have c_is_file := cl.isf
  have c_law_bent := cl.bent
  have c_law_right := cl.right
  have hone : Str.ofString "3c3cec07" = SX.S [51, 99, 51, 99, 101, 99, 48, 55] := by decide +kernel
  refine ⟨_, (pss_cons (ps_set (i := 1) sc_law.nd rfl (Or.inl rfl) (MB.pe_cl c_law_pen hr (by decide) (by rfl) passL (pa_cons (pv 0) pa_nil)))
      (pss_cons (ps_set (i := 2) sc_law.nd rfl (Or.inl rfl) pe_str)
      (pss_cons (ps_set (i := 3) sc_law.nd rfl (Or.inl rfl) (pe_op (MB.op_addK (K := K) rfl) (MB.pe_joinK (K := K) rfl pe_str (pe_op (MB.op_mulK (K := K) rfl) (pe_lst (pa_cons (pv 2) pa_nil)) pe_int)) pe_str))
      (pss_cons (ps_set (i := 4) sc_law.nd rfl (Or.inl rfl) (pe_lst (pa_cons pe_str (pa_cons pe_str (pa_cons (pv 2) (pa_cons (pe_op (MB.op_addK (K := K) rfl) (pv 2) pe_str) (pa_cons (pe_op (MB.op_addK (K := K) rfl) (pv 3) pe_str) (pa_cons (pe_op (MB.op_addK (K := K) rfl) (pe_op (MB.op_addK (K := K) rfl) (pe_op (MB.op_addK (K := K) rfl) (pe_slice (MB.sl_K (K := K) rfl) (pv 3) po_none (po_some (pe_un un_neg pe_int))) pe_str) (pv 2)) pe_str) (pa_cons (pe_op (MB.op_addK (K := K) rfl) (pe_slice (MB.sl_K (K := K) rfl) (pv 3) (po_some pe_int) po_none) (pv 3)) (pa_cons pe_str pa_nil))))))))))
      (pss_cons (ps_set (i := 4) sc_law.nd rfl (Or.inl rfl) (pe_op (MB.op_addK (K := K) rfl) (pv 4) (pe_lst (pa_cons (pe_op (MB.op_mulK (K := K) rfl) (pv 3) pe_int) (pa_cons (pe_op (MB.op_addK (K := K) rfl) (pe_op (MB.op_addK (K := K) rfl) (pe_op (MB.op_mulK (K := K) rfl) (pv 3) pe_int) (pv 2)) pe_str) (pa_cons (pe_op (MB.op_addK (K := K) rfl) (pe_op (MB.op_addK (K := K) rfl) (pe_op (MB.op_mulK (K := K) rfl) (pv 3) pe_int) (pv 2)) pe_str) (pa_cons (pe_op (MB.op_addK (K := K) rfl) (pv 2) pe_str) (pa_cons (pe_op (MB.op_addK (K := K) rfl) (pe_op (MB.op_addK (K := K) rfl) pe_str (pv 2)) pe_str) pa_nil))))))))
      (pss_cons (ps_for PassesOwn.never rfl (pi_range1 (by rfl) T.n_range (pa_cons pe_int pa_nil)) (pg_name (i := 5) sc_law.nd rfl (.inl rfl))
      (pss_cons (ps_set (i := 6) sc_law.nd rfl (Or.inl rfl) (MB.pe_cl c_law_numbers hr (by decide) (by rfl) passL (pa_cons (pv 1) (pa_cons (pe_op (MB.op_mulK (K := K) rfl) pe_int (MB.pe_cl c_law_draw hr (by decide) (by rfl) passL (pa_cons (pv 1) (pa_cons pe_int pa_nil)))) (pa_cons pe_int pa_nil)))))
      (Evl.pss_cut (ps_if (pt_cmpR (MB.op_eqK (K := K) rfl hu64) (MB.pe_cl c_law_draw hr (by decide) (by rfl) passL (pa_cons (pv 1) (pa_cons pe_int pa_nil))) pe_int (nomark _)) (pss_one (ps_set (i := 6) sc_law.nd rfl (Or.inl rfl) (pe_op (MB.op_mulK (K := K) rfl) (MB.pe_cl c_law_numbers hr (by decide) (by rfl) passL (pa_cons (pv 1) (pa_cons pe_int (pa_cons pe_int pa_nil)))) pe_int))) pss_nil)
      (pss_cons (ps_set (i := 7) sc_law.nd rfl (Or.inl rfl) (pe_callB (MB.call_reprD hgd hu2) (by rfl) T.n_repr MB.bo_repr (pa_cons (pv 6) pa_nil)))
      (pss_cons (ps_set (i := 8) sc_law.nd rfl (Or.inl rfl) (MB.pe_cl c_show_file hr (by decide) (by rfl) passL (pa_cons (pv 6) pa_nil)))
      (pss_cons (ps_if (PW.pt (pw_or (pt_not (pt_val (pe_callB (MB.call_isiK (K := K) rfl) (by rfl) T.n_isinstance MB.bo_isinstance (pa_cons (pv 8) (pa_cons (pe_bltn (v := .ty "str") (by rfl) T.n_str MB.bo_str rfl) pa_nil))))) (pw_or (pt_cmpR (MB.op_neK (K := K) rfl hu64) (pv 8) (MB.pe_cl c_law_figures hr (by decide) (by rfl) passL (pa_cons (pv 6) pa_nil)) (nomark _)) (pw_or1 (pt_cmpR (MB.op_neK (K := K) rfl hu64) (pe_callB (MB.call_reprD hgd hu2) (by rfl) T.n_repr MB.bo_repr (pa_cons (MB.pe_cl c_read_file hr (by decide) (by rfl) passL (pa_cons (pv 8) pa_nil)) pa_nil)) (pv 7) (nomark _)))))) (pss_one (ps_ret pe_bl)) pss_nil)
      (pss_cons (ps_if (PW.pt (pw_or (pt_cmpR (MB.op_neK (K := K) rfl hu64) (pe_callB (MB.call_reprD hgd hu2) (by rfl) T.n_repr MB.bo_repr (pa_cons (pv 6) pa_nil)) (pv 7) (nomark _)) (pw_or1 (pt_cmpR MB.op_isNotA (MB.pe_cl c_is_file hr (by decide) (by rfl) passL (pa_cons (MB.pe_cl c_read_file hr (by decide) (by rfl) passL (pa_cons (pv 8) pa_nil)) pa_nil)) pe_bl (nomark _))))) (pss_one (ps_ret pe_bl)) pss_nil)
      (pss_one (ps_for PassesOwn.never rfl (pi_range1 (by rfl) T.n_range (pa_cons pe_int pa_nil)) (pg_name (i := 9) sc_law.nd rfl (.inl rfl))
      (pss_cons (ps_set (i := 10) sc_law.nd rfl (Or.inl rfl) (MB.pe_cl c_law_bent hr (by decide) (by rfl) passL (pa_cons (pv 1) (pa_cons (pv 8) pa_nil))))
      (pss_one (ps_set (i := 4) sc_law.nd rfl (Or.inl rfl) (pe_op (MB.op_addK (K := K) rfl) (pv 4) (pe_lst (pa_cons (pv 10) (pa_cons (MB.pe_cl c_law_bent hr (by decide) (by rfl) passL (pa_cons (pv 1) (pa_cons (pv 10) pa_nil))) pa_nil))))))))))))))))
      (pss_cons (ps_if (pt_cmpR (MB.op_neNil (K := K) rfl (Nat.lt_of_le_of_lt (Nat.le_add_right _ 64) hu64)) (pe_lc (own := [("_law_text", 8)]) (by rfl) sc_law.nd (pi_list (pv 4)) (blkOk_by (own := [("_law_text", 8)]) (N := n_law) (sc := defScope s_law) (by decide +kernel)) (fun _ _ _ _ _ => (pg_name (i := 8) sc_law.nd rfl (.inl rfl))) (fun _ _ _ _ _ => (pts_one (PW.pt (pw_and (pt_cmpR op_lt (pe_callB (MB.call_lenK (K := K) rfl) (by rfl) T.n_len MB.bo_len (pa_cons (pv 8) pa_nil)) pe_int (nomark _)) (pw_and1 (pt_not (pt_val (MB.pe_cl c_law_right hr (by decide) (by rfl) passL (pa_cons (pv 8) pa_nil))))))))) (fun _ _ _ _ _ => (pv 8))) (pe_lst pa_nil) (nomark _)) (pss_one (ps_ret pe_bl)) pss_nil)
      (pss_cons (ps_for PassesOwn.never rfl (pi_list (pe_lst (pa_cons pe_non (pa_cons pe_bl (pa_cons pe_int (pa_cons (pe_lst pa_nil) (pa_cons (pe_lst (pa_cons (pv 2) pa_nil)) (pa_cons (pe_tup (pa_cons (pv 2) pa_nil)) (pa_cons pe_dnewK (pa_cons (pe_tup (pa_cons pe_int (pa_cons pe_int (pa_cons pe_int (pa_cons pe_int pa_nil))))) pa_nil)))))))))) (pg_name (i := 11) sc_law.nd rfl (.inr rfl))
      (pss_one (ps_if (pt_cmpR (MB.op_neK (K := K) rfl hu64) (pe_refusal (i := 11) T RF c_read_file (by rfl) TB rfl hmT hu hr (by decide) (LamX.lamS_by (show LamX.lamSB (defScope s_law) _ = true by decide +kernel)) rfl (fun _ _ _ _ _ => rfl) (by rfl) (by rfl) (by first | exact .inr (.inl rfl) | exact .inr (.inr rfl))) (pe_tup (pa_cons pe_non pa_nil)) (nomark _)) (pss_one (ps_ret pe_bl)) pss_nil)))
      (pss_one (ps_ret pe_bl)))))))))), ?_⟩
  rw [hone]
  refine q_asgC (ea_cons (ev_var rfl) ea_nil) fun H1 e1 => ⟨a, script, rfl, ex_l e1 ha, fun p lc H2 e2 hpn hp2 => ?_⟩
  have hT2 := hT.ext (e1.trans e2)
  refine q_asg ev_c fun H3 e3 => ?_
  have l8 : (SX.S [51, 99, 51, 99, 101, 99, 48, 55]).length ≤ 8 := by decide
  refine q_asgZ (b := 72) ⟨_, ?_, ev_op (x := .str (SX.S (jn [32] (List.replicate 8 [51, 99, 51, 99, 101, 99, 48, 55])))) (ev_join ev_c (els_new (el_is (el_rep (k := 8) (ep_new (el_lst (ea_cons (ev_var rfl) ea_nil) (by show 1 ≤ 100000; decide))) (by decide) (by show 1 * 8 ≤ 8000000; decide)) rfl)) (by decide +kernel)) ev_c (rv_addC (a := jn [32] (List.replicate 8 [51, 99, 51, 99, 101, 99, 48, 55])) (b := [10]) (by decide +kernel))⟩ fun E8 H4 h8 e4 => ?_
  · decide +kernel
  have lz : ∀ {z : Str}, z.length ≤ 100 → z.length ≤ 100 := fun h => h
  have o : ∀ {σ : L2.St} {H : Hp}, σ[2]? = some (some (.str (SX.S [51, 99, 51, 99, 101, 99, 48, 55]))) → EvZ (tVar 2) σ H 8 := fun h => evz_var h l8
  have g : ∀ {σ : L2.St} {H : Hp}, σ[3]? = some (some (.str E8)) → EvZ (tVar 3) σ H 72 := fun h => evz_var h h8
  refine q_asgAZ (n := 8) (b := 20000) (eaz_cons (evz_c (b := 100) (by decide +kernel)) (eaz_cons (evz_c (b := 100) (by decide +kernel)) (eaz_cons (o rfl) (eaz_cons (evz_add (o rfl) (evz_c (b := 100) (by decide +kernel)) (by decide)) (eaz_cons (evz_add (g rfl) (evz_c (b := 100) (by decide +kernel)) (by decide))
    (eaz_cons (evz_add (evz_add (evz_add (evz_sl (g rfl) eo_none (eo_some (ev_un ev_c ru_neg)) (by decide)) (evz_c (b := 100) (by decide +kernel)) (by decide)) (o rfl) (by decide)) (evz_c (b := 100) (by decide +kernel)) (by decide)) (eaz_cons (evz_add (evz_sl (g rfl) (eo_some ev_c) eo_none (by decide)) (g rfl) (by decide)) (eaz_cons (evz_c (b := 100) (by decide +kernel)) eaz_nil)))))))) (by decide) fun zs1 pt1 H5 hz1 hb1 e5 hpt1 => ?_
  refine q_more (n := 5) (b := 20000) (ev_var rfl) hpt1 (by omega) hb1 (eaz_cons (evz_mul (n := 125) (g rfl) (by decide) (by decide)) (eaz_cons (evz_add (evz_add (evz_mul (n := 125) (g rfl) (by decide) (by decide)) (o rfl) (by decide)) (evz_c (b := 100) (by decide +kernel)) (by decide)) (eaz_cons (evz_add (evz_add (evz_mul (n := 124) (g rfl) (by decide) (by decide)) (o rfl) (by decide)) (evz_c (b := 100) (by decide +kernel)) (by decide))
    (eaz_cons (evz_add (o rfl) (evz_c (b := 100) (by decide +kernel)) (by decide)) (eaz_cons (evz_add (evz_add (evz_c (b := 100) (by decide +kernel)) (o rfl) (by decide)) (evz_c (b := 100) (by decide +kernel)) (by decide)) eaz_nil))))) (by decide) fun zs2 pt2 H6 hz2 hb2 e6 hpt2 => ?_
  have e26 := ((e3.trans e4).trans e5).trans e6
  refine q_forRng (ea_cons ev_c ea_nil) (by decide) (by decide) fun H7 e7 => for_range (lo := 0) (n := (3 : Int).toNat) (fun i σ' H' => ∃ (pt : Addr) (zs : List Str) (a5 a6 a7 a8 a9 a10 a11 : Option V), σ' = [some (.ref a), some (.ref p), some (.str (SX.S [51, 99, 51, 99, 101, 99, 48, 55])), some (.str E8), some (.ref pt), a5, a6, a7, a8, a9, a10, a11] ∧
    Pen H' p lc (1000 * i) ∧ H' pt = some (.lst (zs.map V.str)) ∧ zs.length ≤ 13 + 12 * i ∧ (∀ z ∈ zs, z.length ≤ 1000000) ∧ LamX.Tabs TL H') ?_ ?_ ?_
  · exact ⟨pt2, zs2, none, none, none, none, none, none, none, rfl, hp2.ex (e26.trans e7), e7 _ _ hpt2, by omega, fun z hz => by have := hb2 z hz; omega, hT2.ext (e26.trans e7)⟩
  · rintro i σ' H8 hi ⟨pt, zs, a5, a6, a7, a8, a9, a10, a11, rfl, hp8, hpt8, hzl, hzb, hT8⟩
    have hi3 : i < 3 := by
      have : (3 : Int).toNat = 3 := rfl
      omega
    refine q_numbers rfl hp8 (by omega) fun ns q H9 hnl hn4 hn hq hp9 hb9 => ?_
    refine ⟨fun σ' H' => ∃ (q : Addr) (ns : List Nat), σ' = [some (.ref a), some (.ref p), some (.str (SX.S [51, 99, 51, 99, 101, 99, 48, 55])), some (.str E8), some (.ref pt), some (.int (0 + (i : Int))), some (.ref q), a7, a8, a9, a10, a11] ∧ ns.length ≤ 4000 ∧ ns.length % 4 = 0 ∧ (∀ x ∈ ns, x < 256) ∧
      H' q = some (.tup (ns.map iv)) ∧ Pen H' p lc (1000 * i + 500) ∧ But p H8 H', ?_, ?_⟩
    · refine q_drawIf rfl (by decide) (by decide) hp9 (by omega) (fun H10 hp10 hb10 => ?_) fun H10 hp10 hb10 => ?_
      · refine s_thousand rfl hp10 (by omega) fun ns2 q2 H11 hl2 hs2 hq2 hp11 hb11 => ?_
        exact ⟨q2, ns2, rfl, by omega, by omega, hs2, hq2, hp11.le (by omega), hb9.trans (hb10.trans hb11)⟩
      · exact ⟨q, ns, rfl, by omega, hn4, hn, hb10 _ _ (hp9.neT hq) hq, hp10.le (by omega), hb9.trans hb10⟩
    clear hq hn hn4 hnl hp9 hb9
    rintro σ' H10 ⟨q, ns, rfl, hnl, hn4, hn, hq, hp10, hb10⟩
    refine q_asg (v := .str (dT ns).shown) (ev_cb1 (ev_var rfl) (rc_reprT (st_of hq) hnl hn)) fun H11 e11 => ?_
    refine q_asg (v := tv (showF ns)) (ev_call (ea_cons (ev_var rfl) ea_nil) fun H1 e Q q' E => ⟨q, ns, rfl, st_of (e _ _ (e11 _ _ hq)), hnl, hn, q'⟩) fun H12 e12 => ?_
    have e1012 := e11.trans e12
    have hq12 := e1012 _ _ hq
    have hsl : (showF ns).length ≤ 12000 := by
      rw [show_figs hn4 hnl hn]
      have := figL_le ns.length ns 0
      omega
    have hrd := show_read hn4 hnl hn
    refine q_ifN (b := false) (et_or (a := false) (b := false) (et_not (a := true) (et_B (ev_cb2 (ev_var rfl) ev_c (rc_isiStr (by decide +kernel))))) fun _ => et_or (a := false) (b := false) (et_test (ev_is (ev_op (x := tv (showF ns)) (y := tv (figL ns.length 0 ns)) (ev_var rfl) (ev_call (ea_cons (ev_var rfl) ea_nil) fun H1 e Q q' E => ⟨q, ns, rfl, st_of (e _ _ hq12), hnl, hn, q'⟩) rv_neC) ?_)) fun _ =>
      et_test (ev_op (ev_reprTp (etp_read (ev_var rfl) (by omega) hrd) hnl hn) (ev_var rfl) rv_neSame)) (fun z => nomatch z) fun _ H13 e13 => ?_
    · rw [show_figs hn4 hnl hn]
      simp
    have hq13 := e13 _ _ hq12
    refine q_ifN (b := false) (et_or (a := false) (b := false) (et_test (ev_op (ev_cb1 (ev_var rfl) (rc_reprT (st_of hq13) hnl hn)) (ev_var rfl) rv_neSame)) fun _ =>
      et_test (ev_op (ev_isf (etp_read (ev_var rfl) (by omega) hrd) hnl hn4 hn) ev_c fun H1 _ _ q => .inr ⟨true, true, rfl, rfl, q H1 (Ex.refl H1)⟩)) (fun z => nomatch z) fun _ H14 e14 => ?_
    have e1014 := (e1012.trans e13).trans e14
    have hp14 := hp10.ex e1014
    have hpt14 := e1014 _ _ (hb10 _ _ (hp8.ne hpt8) hpt8)
    have hT14 := (tabs_but hp8 hb10 hT8).ext e1014
    refine s_forRng (ea_cons ev_c ea_nil) (by decide) (by decide) fun H15 e15 => for_range (lo := 0) (n := (6 : Int).toNat) (fun j σ' H' => ∃ (pt : Addr) (zs : List Str) (a9 a10 : Option V), σ' = [some (.ref a), some (.ref p), some (.str (SX.S [51, 99, 51, 99, 101, 99, 48, 55])), some (.str E8), some (.ref pt), some (.int (0 + (i : Int))), some (.ref q), some (.str (dT ns).shown), some (tv (showF ns)), a9, a10, a11] ∧
      Pen H' p lc (1000 * i + 500 + 22 * j) ∧ H' pt = some (.lst (zs.map V.str)) ∧ zs.length ≤ 13 + 12 * i + 2 * j ∧ (∀ z ∈ zs, z.length ≤ 1000000) ∧ LamX.Tabs TL H') ?_ ?_ ?_
    · exact ⟨pt, zs, a9, a10, rfl, hp14.ex e15, e15 _ _ hpt14, hzl, hzb, hT14.ext e15⟩
    · rintro j σ' H16 hj ⟨pt, zs, b9, b10, rfl, hp16, hpt16, hzl16, hzb16, hT16⟩
      have hj6 : j < 6 := by
        have : (6 : Int).toNat = 6 := rfl
        omega
      refine q_asgC (ea_cons (ev_var rfl) (ea_cons (ev_var rfl) ea_nil)) fun H17 e17 => ⟨p, lc, SX.S (showF ns), _, rfl, hp16.ex e17, by omega, by rw [SX.S_len]; omega, fun t1 H18 ht1 hp18 hb18 => ?_⟩
      have ht1b : t1.length ≤ 100000 := by
        have h8 : t1.length ≤ 8 * (SX.S (showF ns)).length + 40 := ht1
        have h9 : (SX.S (showF ns)).length = (showF ns).length := SX.S_len _
        omega
      have hpt18 := hb18 _ _ ((hp16.ex e17).ne (e17 _ _ hpt16)) (e17 _ _ hpt16)
      refine ⟨_, rfl, _, rfl, _, rfl, _, rfl, ⟨p, lc, t1, _, rfl, hp18, by omega, ht1b, fun t2 H19 ht2 hp19 hb19 => ⟨by show 2 ≤ sizeLine; decide, fun l hl => .inr (.inr (.inl ⟨pt, l, zs.map V.str, [V.str t1, V.str t2], rfl, rfl, ?_, upd_same, ?_, fun r hr => ?_⟩))⟩⟩⟩
      · have := hb19 _ _ (hp18.ne hpt18) hpt18
        rw [upd_ne (ne_of_none this hl)]
        exact this
      · rw [List.length_map]
        show _ + 2 ≤ sizeLine
        have : (100000 : Nat) ≤ sizeLine := by decide
        omega
      · have e1 : Ex H19 (upd H19 l (.lst [V.str t1, V.str t2])) := Ex.new hl
        have e2 : Ex (upd H19 l (.lst [V.str t1, V.str t2])) (upd (upd H19 l (.lst [V.str t1, V.str t2])) r (.lst (zs.map V.str ++ [V.str t1, V.str t2]))) := Ex.new hr
        refine ⟨r, zs ++ [t1, t2], some (.int (0 + (j : Int))), some (.str t1), rfl, (hp19.ex (e1.trans e2)).le (by omega), ?_, ?_, ?_, ?_⟩
        · rw [upd_same, List.map_append]
          rfl
        · rw [List.length_append]
          show _ + 2 ≤ _
          omega
        · intro z hz
          rcases List.mem_append.mp hz with hz | hz
          · exact hzb16 z hz
          · have ht2b : t2.length ≤ 8 * t1.length + 40 := ht2
            simp only [List.mem_cons, List.not_mem_nil, or_false] at hz
            rcases hz with rfl | rfl <;> omega
        · exact (tabs_but hp18 hb19 (tabs_but (hp16.ex e17) hb18 (hT16.ext e17))).ext (e1.trans e2)
    · rintro σ' H16 ⟨pt, zs, b9, b10, rfl, hp16, hpt16, hzl16, hzb16, hT16⟩
      exact ⟨pt, zs, _, _, _, _, _, _, _, rfl, hp16.le (by show _ + 22 * 6 ≤ _; omega), hpt16, by have h6 : zs.length ≤ 13 + 12 * i + 2 * 6 := hzl16; omega, hzb16, hT16⟩
  · rintro σ' H8 ⟨pt, zs, a5, a6, a7, a8, a9, a10, a11, rfl, hp8, hpt8, hzl, hzb, hT8⟩
    -- every text is judged rightly
    dsimp only
    refine q_judged (TL := TL) (fun Q' q' => lc_judge rfl hpt8 hzb hT8 (fun _ => rfl) (fun _ => rfl) q') fun H9 hT9 => ?_
    refine ⟨by show 0 ≤ sizeLine; decide, fun l1 hl1 => ?_⟩
    have n1 : Ex H9 (upd H9 l1 (.lst [])) := Ex.new hl1
    have g1 : Thing (upd H9 l1 (.lst [])) (.ref l1) := .inr (.inr (.inr (.inl ⟨l1, _, rfl, upd_same⟩)))
    have hT10 := hT9.ext n1
    generalize upd H9 l1 (.lst []) = H10 at g1 hT10
    refine ⟨_, rfl, by show 1 ≤ sizeLine; decide, fun l2 hl2 => ?_⟩
    have n2 := Ex.new (o := HO.lst [V.str (SX.S [51, 99, 51, 99, 101, 99, 48, 55])]) hl2
    have g2 : Thing (upd H10 l2 (.lst [V.str (SX.S [51, 99, 51, 99, 101, 99, 48, 55])])) (.ref l2) := .inr (.inr (.inr (.inl ⟨l2, _, rfl, upd_same⟩)))
    have hT11 := hT10.ext n2
    have g1 := g1.ext (LamX.ExtN.of n2)
    generalize upd H10 l2 (.lst [V.str (SX.S [51, 99, 51, 99, 101, 99, 48, 55])]) = H11 at g1 g2 hT11
    refine ⟨_, rfl, by show 1 ≤ sizeLine; decide, fun t1 ht1 => ?_⟩
    have n3 := Ex.new (o := HO.tup [V.str (SX.S [51, 99, 51, 99, 101, 99, 48, 55])]) ht1
    have g3 : Thing (upd H11 t1 (.tup [V.str (SX.S [51, 99, 51, 99, 101, 99, 48, 55])])) (.ref t1) := .inr (.inr (.inr (.inr (.inl ⟨t1, _, rfl, upd_same⟩))))
    have hT12 := hT11.ext n3
    have g1 := g1.ext (LamX.ExtN.of n3)
    have g2 := g2.ext (LamX.ExtN.of n3)
    generalize upd H11 t1 (.tup [V.str (SX.S [51, 99, 51, 99, 101, 99, 48, 55])]) = H12 at g1 g2 g3 hT12
    intro d1 hd1
    have n4 := Ex.new (o := HO.dK []) hd1
    have g4 : Thing (upd H12 d1 (.dK [])) (.ref d1) := .inr (.inr (.inr (.inr (.inr ⟨d1, _, rfl, upd_same⟩))))
    have hT13 := hT12.ext n4
    have g1 := g1.ext (LamX.ExtN.of n4)
    have g2 := g2.ext (LamX.ExtN.of n4)
    have g3 := g3.ext (LamX.ExtN.of n4)
    generalize upd H12 d1 (.dK []) = H13 at g1 g2 g3 g4 hT13
    refine ⟨by show 4 ≤ sizeLine; decide, fun t2 ht2 => ?_⟩
    have n5 := Ex.new (o := HO.tup [V.int 60, V.int 60, V.int 236, V.int 7]) ht2
    have g5 : Thing (upd H13 t2 (.tup [V.int 60, V.int 60, V.int 236, V.int 7])) (.ref t2) := .inr (.inr (.inr (.inr (.inl ⟨t2, _, rfl, upd_same⟩))))
    have hT14 := hT13.ext n5
    have g1 := g1.ext (LamX.ExtN.of n5)
    have g2 := g2.ext (LamX.ExtN.of n5)
    have g3 := g3.ext (LamX.ExtN.of n5)
    have g4 := g4.ext (LamX.ExtN.of n5)
    generalize upd H13 t2 (.tup [V.int 60, V.int 60, V.int 236, V.int 7]) = H14 at g1 g2 g3 g4 g5 hT14
    refine ⟨by show 8 ≤ sizeLine; decide, fun pl hpl => ?_⟩
    have n6 := Ex.new (o := HO.lst [V.non, V.bl true, V.int 0, V.ref l1, V.ref l2, V.ref t1, V.ref d1, V.ref t2]) hpl
    have hth : ∀ x ∈ [V.non, V.bl true, V.int 0, V.ref l1, V.ref l2, V.ref t1, V.ref d1, V.ref t2], Thing H14 x := by
      intro x hx
      simp only [List.mem_cons, List.not_mem_nil, or_false] at hx
      rcases hx with rfl | rfl | rfl | rfl | rfl | rfl | rfl | rfl
      · exact .inl rfl
      · exact .inr (.inl ⟨_, rfl⟩)
      · exact .inr (.inr (.inl ⟨_, rfl⟩))
      · exact g1
      · exact g2
      · exact g3
      · exact g4
      · exact g5
    have hth2 : ∀ x ∈ [V.non, V.bl true, V.int 0, V.ref l1, V.ref l2, V.ref t1, V.ref d1, V.ref t2], Thing (upd H14 pl (.lst [V.non, V.bl true, V.int 0, V.ref l1, V.ref l2, V.ref t1, V.ref d1, V.ref t2])) x := fun x hx => (hth x hx).ext (LamX.ExtN.of n6)
    have hT15 := hT14.ext n6
    have hpl15 : upd H14 pl (.lst [V.non, V.bl true, V.int 0, V.ref l1, V.ref l2, V.ref t1, V.ref d1, V.ref t2]) pl = some (.lst [V.non, V.bl true, V.int 0, V.ref l1, V.ref l2, V.ref t1, V.ref d1, V.ref t2]) := upd_same
    clear hth g1 g2 g3 g4 g5
    generalize upd H14 pl (.lst [V.non, V.bl true, V.int 0, V.ref l1, V.ref l2, V.ref t1, V.ref d1, V.ref t2]) = H15 at hth2 hT15 hpl15
    generalize [V.non, V.bl true, V.int 0, V.ref l1, V.ref l2, V.ref t1, V.ref d1, V.ref t2] = things at hth2 hpl15 ⊢
    refine ⟨pl, rfl, ⟨_, sq_of hpl15⟩, for_list (xs := things) (fun i σ' H' => (∃ x11, σ' = [some (.ref a), some (.ref p), some (.str (SX.S [51, 99, 51, 99, 101, 99, 48, 55])), some (.str E8), some (.ref pt), a5, a6, a7, a8, a9, a10, x11]) ∧ H' pl = some (.lst things) ∧ (∀ x ∈ things, Thing H' x) ∧ LamX.Tabs TL H') ?_ ?_ ?_ ?_⟩
    · exact ⟨⟨_, rfl⟩, hpl15, hth2, hT15⟩
    · rintro i σ' H' _ ⟨_, h, _⟩
      exact sq_of h
    · rintro i x σ' H16 hx ⟨⟨x11, rfl⟩, hpl16, hth16, hT16⟩
      have hxm : x ∈ things := List.mem_of_getElem? hx
      refine ⟨hT16, fun H17 n17 hT17 => ?_⟩
      intro E' Q' hE hQ
      refine ⟨_, rfl, .inr ⟨x, rfl, ((hth16 x hxm).ext n17).not, fun d H18 e18 hd hdd => hE d .non H18 hdd (.inl rfl) fun p2 H19 e19 hp2 => ?_⟩⟩
      have e79 := e18.trans e19
      refine ⟨by show 1 ≤ sizeLine; decide, fun q hq => .inr ⟨.tuple [.none], .tuple [.none], .tup (st_of ((Ex.new hq) _ _ hp2)) (.cons .non .nil), .tup (st_of upd_same) (.cons .non .nil), rfl, rfl, false, rfl, ?_⟩⟩
      have n : LamX.ExtN H16 (upd H19 q (.tup [V.non])) := n17.trans (LamX.ExtN.of (e79.trans (Ex.new hq)))
      exact ⟨⟨_, rfl⟩, n _ _ hpl16 (fun _ z => nomatch z), fun x hx => (hth16 x hx).ext n, hT17.ext (e79.trans (Ex.new hq))⟩
    · rintro σ' H16 ⟨⟨x11, rfl⟩, _⟩
      exact k H16
end
end K85
set_option maxRecDepth 100000
set_option maxHeartbeats 2000000
namespace K85
open PySem PySem.Spec PyProof.Rows L2 Evl MB
def LawAtG (l : PySem.W.OpenLaw) (w : World) (K : PySem.W.Frag) (n : Nat) (mg : Str → Option Value) (fa : Addr) (h : Heap) : Prop :=
  ∃ cs : List (Addr × Addr), (∀ b ∈ cs.map (·.2), h.get? b = some { cls := .none, data := .fields #[] }) ∧ (∀ b ∈ cs.map (·.2), K.lookup b = none) ∧ (∀ p ∈ cs, PySem.W.CodeHd h p.1 p.2) ∧
    ∀ (base : Heap) (H : Hp) (s : Shared) (a : Addr) (ns : List Int), ns.length ≤ n → K.In base → base.Ns mainGlobals mg → (∀ p ∈ cs, LamX.TabB base mg p.1 p.2) → Env0 l.prog w K mg base callerA [] s H → (∀ p ∈ cs, H p.2 = some (.tbl #[])) → SqL K H a (ns.map V.int) →
      codeAny (model l.prog w) callerA (.call (.ref fa) ⟨[.ref a], []⟩) (CR C8.CX0 [] l.prog w H s (fun v _ => v = .bl true) fun _ _ _ => False) s
theorem walkG {l : PySem.W.OpenLaw} {n : Nat} {q : Program} {loose : List Str} {XP : (Str → Option Value) → Heap → Prop} {YP : World → Heap → Prop} {d : DefRec} {K : Params → PySem.W.Frag} (hn : l.most = some n) (hn2 : n ≤ sizeLine) (hdf : d.params.defaults = []) (hY : ∀ (w : World) (h : Heap), YP w h → (K w.params).In h)
    (F : ∀ (w : World) (s₀ : Shared) (mg mb : Str → Option Value) (fa : Addr) (h : Heap), PySem.W.Ground q loose [] XP w s₀ mg mb h → YP w h → (K w.params).In h → mg d.name = some (.ref fa) → LawAtG l w (K w.params) n mg fa h) :
    PySem.W.WalkO q loose XP YP l.row.toRowW d [] (fun f vs => PySem.call f vs) := by
  refine Att.attach_callB hn hdf fun w s₀ s₁ mg mb fa o pm cd doc a vs ns G Y ho hd hcd hmg hobj hints hlen hbits hg => ?_
  have KX := hY w _ Y
  obtain ⟨cs, h1, h2, h3, hF⟩ := F w s₀ mg mb fa _ G Y KX hmg
  exact law_callG (cs := cs) ⟨KX, G.T.g, G.T.b, G.T.builtins, G.T.nolimit, hg, h1, h2, h3, G.T.bmain, hobj, hints, Nat.le_trans hlen hn2⟩ fun base H k1 k2 k3 k4 k5 k6 => hF base H s₁ a ns hlen k1 k2 k3 k4 k5 k6
theorem tabIn_of {K : PySem.W.Frag} {x : Str} {f c P : Addr} {oc e0 : Value} {od e1 : Option Addr} {fd : FuncData} {sl e3 : Array (Option Value)} {vs : Array Value} (a : PySem.W.nsIn K mainGlobals x = some (some (.ref f))) (l : K.lookup f = some ⟨oc, od, .func fd, sl⟩) (hc : fd.code = .ref c) (e : K.lookup c = some ⟨e0, e1, .fields vs, e3⟩) (v : (vs[11]? : Option Value) = some (.ref P)) :
    PySem.W.tabIn K x = some (c, P) := by
  unfold PySem.W.tabIn
  rw [a]
  dsimp only
  rw [l]
  dsimp only
  rw [hc]
  dsimp only
  rw [e]
  dsimp only
  rw [v]
theorem mk85 {l : PySem.W.OpenLaw} {q : Program} {loose : List Str} {XP : (Str → Option Value) → Heap → Prop} {w : World} {s₀ : Shared} {mg mb : Str → Option Value} {K : PySem.W.Frag} {fa : Addr} {h : Heap} (Gr : PySem.W.Ground q loose [] XP w s₀ mg mb h) (X : K.In h) (hfa : mg "law" = some (.ref fa))
    {f_is_whole : Addr} {od_is_whole an_is_whole : Option Addr} {sl_is_whole : Array (Option Value)} {oc_is_whole kV_is_whole dc_is_whole pm_is_whole ct_is_whole : Value} {cd_is_whole : Value} {f_are_small : Addr} {od_are_small an_are_small : Option Addr} {sl_are_small : Array (Option Value)} {oc_are_small kV_are_small dc_are_small pm_are_small ct_are_small : Value} {cd_are_small : Value} {f_is_file : Addr} {od_is_file an_is_file : Option Addr} {sl_is_file : Array (Option Value)} {oc_is_file kV_is_file dc_is_file pm_is_file ct_is_file : Value} {cd_is_file : Value} {f_many_cells : Addr} {od_many_cells an_many_cells : Option Addr} {sl_many_cells : Array (Option Value)} {oc_many_cells kV_many_cells dc_many_cells pm_many_cells ct_many_cells : Value} {cd_many_cells : Value} {f_pair_of : Addr} {od_pair_of an_pair_of : Option Addr} {sl_pair_of : Array (Option Value)} {oc_pair_of kV_pair_of dc_pair_of pm_pair_of ct_pair_of : Value} {cd_pair_of : Value} {f_show_cell : Addr} {od_show_cell an_show_cell : Option Addr} {sl_show_cell : Array (Option Value)} {oc_show_cell kV_show_cell dc_show_cell pm_show_cell ct_show_cell : Value} {cd_show_cell : Value} {f_show_file : Addr} {od_show_file an_show_file : Option Addr} {sl_show_file : Array (Option Value)} {oc_show_file kV_show_file dc_show_file pm_show_file ct_show_file : Value} {cd_show_file : Value} {f_is_cell_text : Addr} {od_is_cell_text an_is_cell_text : Option Addr} {sl_is_cell_text : Array (Option Value)} {oc_is_cell_text kV_is_cell_text dc_is_cell_text pm_is_cell_text ct_is_cell_text : Value} {cd_is_cell_text : Value} {f_numbers_of : Addr} {od_numbers_of an_numbers_of : Option Addr} {sl_numbers_of : Array (Option Value)} {oc_numbers_of kV_numbers_of dc_numbers_of pm_numbers_of ct_numbers_of : Value} {cd_numbers_of : Value} {f_read_file : Addr} {od_read_file an_read_file : Option Addr} {sl_read_file : Array (Option Value)} {oc_read_file kV_read_file dc_read_file pm_read_file ct_read_file : Value} {cd_read_file : Value} {f_law_pen : Addr} {od_law_pen an_law_pen : Option Addr} {sl_law_pen : Array (Option Value)} {oc_law_pen kV_law_pen dc_law_pen pm_law_pen ct_law_pen : Value} {cd_law_pen : Value} {f_law_draw : Addr} {od_law_draw an_law_draw : Option Addr} {sl_law_draw : Array (Option Value)} {oc_law_draw kV_law_draw dc_law_draw pm_law_draw ct_law_draw : Value} {cd_law_draw : Value} {f_law_numbers : Addr} {od_law_numbers an_law_numbers : Option Addr} {sl_law_numbers : Array (Option Value)} {oc_law_numbers kV_law_numbers dc_law_numbers pm_law_numbers ct_law_numbers : Value} {cd_law_numbers : Value} {f_law_refusal : Addr} {od_law_refusal an_law_refusal : Option Addr} {sl_law_refusal : Array (Option Value)} {oc_law_refusal kV_law_refusal dc_law_refusal pm_law_refusal ct_law_refusal : Value} {cd_law_refusal : Value} {f_law_sign_bent : Addr} {od_law_sign_bent an_law_sign_bent : Option Addr} {sl_law_sign_bent : Array (Option Value)} {oc_law_sign_bent kV_law_sign_bent dc_law_sign_bent pm_law_sign_bent ct_law_sign_bent : Value} {cd_law_sign_bent : Value} {f_law_word_bent : Addr} {od_law_word_bent an_law_word_bent : Option Addr} {sl_law_word_bent : Array (Option Value)} {oc_law_word_bent kV_law_word_bent dc_law_word_bent pm_law_word_bent ct_law_word_bent : Value} {cd_law_word_bent : Value} {f_law_line_bent : Addr} {od_law_line_bent an_law_line_bent : Option Addr} {sl_law_line_bent : Array (Option Value)} {oc_law_line_bent kV_law_line_bent dc_law_line_bent pm_law_line_bent ct_law_line_bent : Value} {cd_law_line_bent : Value} {f_law_figures : Addr} {od_law_figures an_law_figures : Option Addr} {sl_law_figures : Array (Option Value)} {oc_law_figures kV_law_figures dc_law_figures pm_law_figures ct_law_figures : Value} {cd_law_figures : Value} {f_law_bad_line : Addr} {od_law_bad_line an_law_bad_line : Option Addr} {sl_law_bad_line : Array (Option Value)} {oc_law_bad_line kV_law_bad_line dc_law_bad_line pm_law_bad_line ct_law_bad_line : Value} {cd_law_bad_line : Value} {f_law_right : Addr} {od_law_right an_law_right : Option Addr} {sl_law_right : Array (Option Value)} {oc_law_right kV_law_right dc_law_right pm_law_right ct_law_right : Value} {cc_law_right pt_law_right : Addr} {e0_law_right : Value} {e1_law_right : Option Addr} {e2_law_right : Array Value} {e3_law_right : Array (Option Value)} {f_law_bent : Addr} {od_law_bent an_law_bent : Option Addr} {sl_law_bent : Array (Option Value)} {oc_law_bent kV_law_bent dc_law_bent pm_law_bent ct_law_bent : Value} {cd_law_bent : Value} {f_law : Addr} {od_law an_law : Option Addr} {sl_law : Array (Option Value)} {oc_law kV_law dc_law pm_law ct_law : Value} {cc_law pt_law : Addr} {e0_law : Value} {e1_law : Option Addr} {e2_law : Array Value} {e3_law : Array (Option Value)} {C B fI : Addr} {odI anI : Option Addr} {slI : Array (Option Value)} {ocI kVI dcI pmI cdI ctI : Value} {u0 : Addr} {u1 : Addr} {u2 : Addr} {u3 : Addr} {u4 : Addr} {u5 : Addr} {u6 : Addr} {u7 : Addr} {u8 : Addr} {u9 : Addr} {u10 : Addr} {v0 : Addr} {v1 : Addr} {v2 : Addr} {v3 : Addr} {t_BASE : Tok} {t_WIDE : Tok} {t_MOST_CELLS : Tok} {t_IN_LINE : Tok} {t_FIGURES : Tok}
    (a_is_whole : PySem.W.nsIn K mainGlobals "is_whole" = some (some (.ref f_is_whole)))
    (l_is_whole : K.lookup f_is_whole = some ⟨oc_is_whole, od_is_whole, .func (PySem.W.fnOf "is_whole" "is_whole" (defArgs s_is_whole) (defBody s_is_whole) (defScope s_is_whole) .none kV_is_whole dc_is_whole pm_is_whole an_is_whole cd_is_whole ct_is_whole), sl_is_whole⟩)
    (c_is_whole : PySem.W.codeIn K cd_is_whole "is_whole" = true)
    (k_is_whole : PySem.W.keepIn K (.ref f_is_whole) = true)
    (a_are_small : PySem.W.nsIn K mainGlobals "are_small" = some (some (.ref f_are_small)))
    (l_are_small : K.lookup f_are_small = some ⟨oc_are_small, od_are_small, .func (PySem.W.fnOf "are_small" "are_small" (defArgs s_are_small) (defBody s_are_small) (defScope s_are_small) .none kV_are_small dc_are_small pm_are_small an_are_small cd_are_small ct_are_small), sl_are_small⟩)
    (c_are_small : PySem.W.codeIn K cd_are_small "are_small" = true)
    (k_are_small : PySem.W.keepIn K (.ref f_are_small) = true)
    (a_is_file : PySem.W.nsIn K mainGlobals "is_file" = some (some (.ref f_is_file)))
    (l_is_file : K.lookup f_is_file = some ⟨oc_is_file, od_is_file, .func (PySem.W.fnOf "is_file" "is_file" (defArgs s_is_file) (defBody s_is_file) (defScope s_is_file) .none kV_is_file dc_is_file pm_is_file an_is_file cd_is_file ct_is_file), sl_is_file⟩)
    (c_is_file : PySem.W.codeIn K cd_is_file "is_file" = true)
    (k_is_file : PySem.W.keepIn K (.ref f_is_file) = true)
    (a_many_cells : PySem.W.nsIn K mainGlobals "many_cells" = some (some (.ref f_many_cells)))
    (l_many_cells : K.lookup f_many_cells = some ⟨oc_many_cells, od_many_cells, .func (PySem.W.fnOf "many_cells" "many_cells" (defArgs s_many_cells) (defBody s_many_cells) (defScope s_many_cells) .none kV_many_cells dc_many_cells pm_many_cells an_many_cells cd_many_cells ct_many_cells), sl_many_cells⟩)
    (c_many_cells : PySem.W.codeIn K cd_many_cells "many_cells" = true)
    (k_many_cells : PySem.W.keepIn K (.ref f_many_cells) = true)
    (a_pair_of : PySem.W.nsIn K mainGlobals "pair_of" = some (some (.ref f_pair_of)))
    (l_pair_of : K.lookup f_pair_of = some ⟨oc_pair_of, od_pair_of, .func (PySem.W.fnOf "pair_of" "pair_of" (defArgs s_pair_of) (defBody s_pair_of) (defScope s_pair_of) .none kV_pair_of dc_pair_of pm_pair_of an_pair_of cd_pair_of ct_pair_of), sl_pair_of⟩)
    (c_pair_of : PySem.W.codeIn K cd_pair_of "pair_of" = true)
    (k_pair_of : PySem.W.keepIn K (.ref f_pair_of) = true)
    (a_show_cell : PySem.W.nsIn K mainGlobals "show_cell" = some (some (.ref f_show_cell)))
    (l_show_cell : K.lookup f_show_cell = some ⟨oc_show_cell, od_show_cell, .func (PySem.W.fnOf "show_cell" "show_cell" (defArgs s_show_cell) (defBody s_show_cell) (defScope s_show_cell) .none kV_show_cell dc_show_cell pm_show_cell an_show_cell cd_show_cell ct_show_cell), sl_show_cell⟩)
    (c_show_cell : PySem.W.codeIn K cd_show_cell "show_cell" = true)
    (k_show_cell : PySem.W.keepIn K (.ref f_show_cell) = true)
    (a_show_file : PySem.W.nsIn K mainGlobals "show_file" = some (some (.ref f_show_file)))
    (l_show_file : K.lookup f_show_file = some ⟨oc_show_file, od_show_file, .func (PySem.W.fnOf "show_file" "show_file" (defArgs s_show_file) (defBody s_show_file) (defScope s_show_file) .none kV_show_file dc_show_file pm_show_file an_show_file cd_show_file ct_show_file), sl_show_file⟩)
    (c_show_file : PySem.W.codeIn K cd_show_file "show_file" = true)
    (k_show_file : PySem.W.keepIn K (.ref f_show_file) = true)
    (a_is_cell_text : PySem.W.nsIn K mainGlobals "is_cell_text" = some (some (.ref f_is_cell_text)))
    (l_is_cell_text : K.lookup f_is_cell_text = some ⟨oc_is_cell_text, od_is_cell_text, .func (PySem.W.fnOf "is_cell_text" "is_cell_text" (defArgs s_is_cell_text) (defBody s_is_cell_text) (defScope s_is_cell_text) .none kV_is_cell_text dc_is_cell_text pm_is_cell_text an_is_cell_text cd_is_cell_text ct_is_cell_text), sl_is_cell_text⟩)
    (c_is_cell_text : PySem.W.codeIn K cd_is_cell_text "is_cell_text" = true)
    (k_is_cell_text : PySem.W.keepIn K (.ref f_is_cell_text) = true)
    (a_numbers_of : PySem.W.nsIn K mainGlobals "numbers_of" = some (some (.ref f_numbers_of)))
    (l_numbers_of : K.lookup f_numbers_of = some ⟨oc_numbers_of, od_numbers_of, .func (PySem.W.fnOf "numbers_of" "numbers_of" (defArgs s_numbers_of) (defBody s_numbers_of) (defScope s_numbers_of) .none kV_numbers_of dc_numbers_of pm_numbers_of an_numbers_of cd_numbers_of ct_numbers_of), sl_numbers_of⟩)
    (c_numbers_of : PySem.W.codeIn K cd_numbers_of "numbers_of" = true)
    (k_numbers_of : PySem.W.keepIn K (.ref f_numbers_of) = true)
    (a_read_file : PySem.W.nsIn K mainGlobals "read_file" = some (some (.ref f_read_file)))
    (l_read_file : K.lookup f_read_file = some ⟨oc_read_file, od_read_file, .func (PySem.W.fnOf "read_file" "read_file" (defArgs s_read_file) (defBody s_read_file) (defScope s_read_file) .none kV_read_file dc_read_file pm_read_file an_read_file cd_read_file ct_read_file), sl_read_file⟩)
    (c_read_file : PySem.W.codeIn K cd_read_file "read_file" = true)
    (k_read_file : PySem.W.keepIn K (.ref f_read_file) = true)
    (a_law_pen : PySem.W.nsIn K mainGlobals "_law_pen" = some (some (.ref f_law_pen)))
    (l_law_pen : K.lookup f_law_pen = some ⟨oc_law_pen, od_law_pen, .func (PySem.W.fnOf "_law_pen" "_law_pen" (defArgs s_law_pen) (defBody s_law_pen) (defScope s_law_pen) .none kV_law_pen dc_law_pen pm_law_pen an_law_pen cd_law_pen ct_law_pen), sl_law_pen⟩)
    (c_law_pen : PySem.W.codeIn K cd_law_pen "_law_pen" = true)
    (k_law_pen : PySem.W.keepIn K (.ref f_law_pen) = true)
    (a_law_draw : PySem.W.nsIn K mainGlobals "_law_draw" = some (some (.ref f_law_draw)))
    (l_law_draw : K.lookup f_law_draw = some ⟨oc_law_draw, od_law_draw, .func (PySem.W.fnOf "_law_draw" "_law_draw" (defArgs s_law_draw) (defBody s_law_draw) (defScope s_law_draw) .none kV_law_draw dc_law_draw pm_law_draw an_law_draw cd_law_draw ct_law_draw), sl_law_draw⟩)
    (c_law_draw : PySem.W.codeIn K cd_law_draw "_law_draw" = true)
    (k_law_draw : PySem.W.keepIn K (.ref f_law_draw) = true)
    (a_law_numbers : PySem.W.nsIn K mainGlobals "_law_numbers" = some (some (.ref f_law_numbers)))
    (l_law_numbers : K.lookup f_law_numbers = some ⟨oc_law_numbers, od_law_numbers, .func (PySem.W.fnOf "_law_numbers" "_law_numbers" (defArgs s_law_numbers) (defBody s_law_numbers) (defScope s_law_numbers) .none kV_law_numbers dc_law_numbers pm_law_numbers an_law_numbers cd_law_numbers ct_law_numbers), sl_law_numbers⟩)
    (c_law_numbers : PySem.W.codeIn K cd_law_numbers "_law_numbers" = true)
    (k_law_numbers : PySem.W.keepIn K (.ref f_law_numbers) = true)
    (a_law_refusal : PySem.W.nsIn K mainGlobals "_law_refusal" = some (some (.ref f_law_refusal)))
    (l_law_refusal : K.lookup f_law_refusal = some ⟨oc_law_refusal, od_law_refusal, .func (PySem.W.fnOf "_law_refusal" "_law_refusal" (defArgs s_law_refusal) (defBody s_law_refusal) (defScope s_law_refusal) .none kV_law_refusal dc_law_refusal pm_law_refusal an_law_refusal cd_law_refusal ct_law_refusal), sl_law_refusal⟩)
    (c_law_refusal : PySem.W.codeIn K cd_law_refusal "_law_refusal" = true)
    (k_law_refusal : PySem.W.keepIn K (.ref f_law_refusal) = true)
    (a_law_sign_bent : PySem.W.nsIn K mainGlobals "_law_sign_bent" = some (some (.ref f_law_sign_bent)))
    (l_law_sign_bent : K.lookup f_law_sign_bent = some ⟨oc_law_sign_bent, od_law_sign_bent, .func (PySem.W.fnOf "_law_sign_bent" "_law_sign_bent" (defArgs s_law_sign_bent) (defBody s_law_sign_bent) (defScope s_law_sign_bent) .none kV_law_sign_bent dc_law_sign_bent pm_law_sign_bent an_law_sign_bent cd_law_sign_bent ct_law_sign_bent), sl_law_sign_bent⟩)
    (c_law_sign_bent : PySem.W.codeIn K cd_law_sign_bent "_law_sign_bent" = true)
    (k_law_sign_bent : PySem.W.keepIn K (.ref f_law_sign_bent) = true)
    (a_law_word_bent : PySem.W.nsIn K mainGlobals "_law_word_bent" = some (some (.ref f_law_word_bent)))
    (l_law_word_bent : K.lookup f_law_word_bent = some ⟨oc_law_word_bent, od_law_word_bent, .func (PySem.W.fnOf "_law_word_bent" "_law_word_bent" (defArgs s_law_word_bent) (defBody s_law_word_bent) (defScope s_law_word_bent) .none kV_law_word_bent dc_law_word_bent pm_law_word_bent an_law_word_bent cd_law_word_bent ct_law_word_bent), sl_law_word_bent⟩)
    (c_law_word_bent : PySem.W.codeIn K cd_law_word_bent "_law_word_bent" = true)
    (k_law_word_bent : PySem.W.keepIn K (.ref f_law_word_bent) = true)
    (a_law_line_bent : PySem.W.nsIn K mainGlobals "_law_line_bent" = some (some (.ref f_law_line_bent)))
    (l_law_line_bent : K.lookup f_law_line_bent = some ⟨oc_law_line_bent, od_law_line_bent, .func (PySem.W.fnOf "_law_line_bent" "_law_line_bent" (defArgs s_law_line_bent) (defBody s_law_line_bent) (defScope s_law_line_bent) .none kV_law_line_bent dc_law_line_bent pm_law_line_bent an_law_line_bent cd_law_line_bent ct_law_line_bent), sl_law_line_bent⟩)
    (c_law_line_bent : PySem.W.codeIn K cd_law_line_bent "_law_line_bent" = true)
    (k_law_line_bent : PySem.W.keepIn K (.ref f_law_line_bent) = true)
    (a_law_figures : PySem.W.nsIn K mainGlobals "_law_figures" = some (some (.ref f_law_figures)))
    (l_law_figures : K.lookup f_law_figures = some ⟨oc_law_figures, od_law_figures, .func (PySem.W.fnOf "_law_figures" "_law_figures" (defArgs s_law_figures) (defBody s_law_figures) (defScope s_law_figures) .none kV_law_figures dc_law_figures pm_law_figures an_law_figures cd_law_figures ct_law_figures), sl_law_figures⟩)
    (c_law_figures : PySem.W.codeIn K cd_law_figures "_law_figures" = true)
    (k_law_figures : PySem.W.keepIn K (.ref f_law_figures) = true)
    (a_law_bad_line : PySem.W.nsIn K mainGlobals "_law_bad_line" = some (some (.ref f_law_bad_line)))
    (l_law_bad_line : K.lookup f_law_bad_line = some ⟨oc_law_bad_line, od_law_bad_line, .func (PySem.W.fnOf "_law_bad_line" "_law_bad_line" (defArgs s_law_bad_line) (defBody s_law_bad_line) (defScope s_law_bad_line) .none kV_law_bad_line dc_law_bad_line pm_law_bad_line an_law_bad_line cd_law_bad_line ct_law_bad_line), sl_law_bad_line⟩)
    (c_law_bad_line : PySem.W.codeIn K cd_law_bad_line "_law_bad_line" = true)
    (k_law_bad_line : PySem.W.keepIn K (.ref f_law_bad_line) = true)
    (a_law_right : PySem.W.nsIn K mainGlobals "_law_right" = some (some (.ref f_law_right)))
    (l_law_right : K.lookup f_law_right = some ⟨oc_law_right, od_law_right, .func (PySem.W.fnOf "_law_right" "_law_right" (defArgs s_law_right) (defBody s_law_right) (defScope s_law_right) .none kV_law_right dc_law_right pm_law_right an_law_right (.ref cc_law_right) ct_law_right), sl_law_right⟩)
    (c_law_right : PySem.W.codeIn K (.ref cc_law_right) "_law_right" = true)
    (k_law_right : PySem.W.keepIn K (.ref f_law_right) = true)
    (e_law_right : K.lookup cc_law_right = some ⟨e0_law_right, e1_law_right, .fields e2_law_right, e3_law_right⟩)
    (v_law_right : (e2_law_right[11]? : Option Value) = some (.ref pt_law_right))
    (nn_law_right : (K.lookup pt_law_right).isNone = true)
    (a_law_bent : PySem.W.nsIn K mainGlobals "_law_bent" = some (some (.ref f_law_bent)))
    (l_law_bent : K.lookup f_law_bent = some ⟨oc_law_bent, od_law_bent, .func (PySem.W.fnOf "_law_bent" "_law_bent" (defArgs s_law_bent) (defBody s_law_bent) (defScope s_law_bent) .none kV_law_bent dc_law_bent pm_law_bent an_law_bent cd_law_bent ct_law_bent), sl_law_bent⟩)
    (c_law_bent : PySem.W.codeIn K cd_law_bent "_law_bent" = true)
    (k_law_bent : PySem.W.keepIn K (.ref f_law_bent) = true)
    (a_law : PySem.W.nsIn K mainGlobals "law" = some (some (.ref f_law)))
    (l_law : K.lookup f_law = some ⟨oc_law, od_law, .func (PySem.W.fnOf "law" "law" (defArgs s_law) (defBody s_law) (defScope s_law) .none kV_law dc_law pm_law an_law (.ref cc_law) ct_law), sl_law⟩)
    (c_law : PySem.W.codeIn K (.ref cc_law) "law" = true)
    (k_law : PySem.W.keepIn K (.ref f_law) = true)
    (e_law : K.lookup cc_law = some ⟨e0_law, e1_law, .fields e2_law, e3_law⟩)
    (v_law : (e2_law[11]? : Option Value) = some (.ref pt_law))
    (nn_law : (K.lookup pt_law).isNone = true)
    (aC : PySem.W.nsIn K mainGlobals "NoText" = some (some (.ref C)))
    (aB : PySem.W.nsIn K mainGlobals "TornError" = some (some (.ref B)))
    (iC : PySem.W.findIn K (.ref C) "__init__" = some (some (.ref fI)))
    (tI : PySem.W.typeIn K (.ref fI) = some (.type "function"))
    (lI : K.lookup fI = some ⟨ocI, odI, .func (PySem.W.fnOf "__init__" "NoText.__init__" (defArgs s_NoText_init) (defBody s_NoText_init) (defScope s_NoText_init) .none kVI dcI pmI anI cdI ctI), slI⟩)
    (cI : PySem.W.codeIn K cdI "NoText.__init__" = true)
    (kI : PySem.W.keepIn K (.ref fI) = true)
    (xC : ∃ nm q N bs bm sn sub ab col dd k0 k1 k2 k3 k5, K.lookup C = some (excClassObj nm q C N bs bm true sn sub ab col dd k0 k1 k2 k3 k5 "ValueError.__new__") ∧ PySem.HandSPX.refsVE bm = true)
    (saC : PySem.W.findIn K (.ref C) "__setattr__" = some (some (.builtin "object.__setattr__")))
    (exC : PySem.W.subIn K (.ref C) (.type "BaseException") = some true)
    (tyC : PySem.W.typeIn K (.ref C) = some (.type "type"))
    (kC : PySem.W.keepIn K (.ref C) = true)
    (nfC : PySem.W.findIn K (.ref C) "line" = some none)
    (rdB : PySem.W.readsIn K B (.type "type") = true)
    (gaB : PySem.W.specialIn K (.ref B) "__getattribute__" = some (some (.builtin "type.__getattribute__")))
    (vB : PySem.W.findCls K (.ref B) (.type "type") "__init__" = some (.val (.builtin "ValueError.__init__")))
    (ecC : MB.ecB K C = true)
    (exm : PySem.W.exmOne K (.ref C) (.ref B) = some true)
    (g1_Busy : PySem.W.nsIn K mainGlobals "Busy" = some (some (.ref u0)))
    (g1_NoDeed : PySem.W.nsIn K mainGlobals "NoDeed" = some (some (.ref u1)))
    (g1_NoGrid : PySem.W.nsIn K mainGlobals "NoGrid" = some (some (.ref u2)))
    (g1_NoLine : PySem.W.nsIn K mainGlobals "NoLine" = some (some (.ref u3)))
    (g1_NoPiece : PySem.W.nsIn K mainGlobals "NoPiece" = some (some (.ref u4)))
    (g1_NoShare : PySem.W.nsIn K mainGlobals "NoShare" = some (some (.ref u5)))
    (g1_NoTable : PySem.W.nsIn K mainGlobals "NoTable" = some (some (.ref u6)))
    (g1_NoTag : PySem.W.nsIn K mainGlobals "NoTag" = some (some (.ref u7)))
    (g1_NoWay : PySem.W.nsIn K mainGlobals "NoWay" = some (some (.ref u8)))
    (g1_Raw : PySem.W.nsIn K mainGlobals "Raw" = some (some (.ref u9)))
    (g1_Spoilt : PySem.W.nsIn K mainGlobals "Spoilt" = some (some (.ref u10)))
    (g2_Taken : PySem.W.nsIn K mainGlobals "Taken" = some (some (.ref v0)))
    (g2_TooDeep : PySem.W.nsIn K mainGlobals "TooDeep" = some (some (.ref v1)))
    (g2_TooGreat : PySem.W.nsIn K mainGlobals "TooGreat" = some (some (.ref v2)))
    (g2_TooMany : PySem.W.nsIn K mainGlobals "TooMany" = some (some (.ref v3)))
    (k1 : PySem.W.kitAny K (.ref C) [.ref u0, .ref u1, .ref u2, .ref u3, .ref u4, .ref u5, .ref u6, .ref u7, .ref u8, .ref u9, .ref u10] = some false)
    (k2 : PySem.W.kitAny K (.ref C) [.ref v0, .ref v1, .ref v2, .ref v3] = some false)
    (kV : PySem.W.kitOne K (.ref C) (.type "ValueError") = some true)
    (kCC : PySem.W.kitOne K (.ref C) (.ref C) = some true)
    (z_len : PySem.W.nsIn K mainGlobals "len" = some none)
    (z_isinstance : PySem.W.nsIn K mainGlobals "isinstance" = some none)
    (z_all : PySem.W.nsIn K mainGlobals "all" = some none)
    (z_repr : PySem.W.nsIn K mainGlobals "repr" = some none)
    (z_abs : PySem.W.nsIn K mainGlobals "abs" = some none)
    (z_int : PySem.W.nsIn K mainGlobals "int" = some none)
    (z_str : PySem.W.nsIn K mainGlobals "str" = some none)
    (z_bool : PySem.W.nsIn K mainGlobals "bool" = some none)
    (z_tuple : PySem.W.nsIn K mainGlobals "tuple" = some none)
    (z_list : PySem.W.nsIn K mainGlobals "list" = some none)
    (z_range : PySem.W.nsIn K mainGlobals "range" = some none)
    (z_enumerate : PySem.W.nsIn K mainGlobals "enumerate" = some none)
    (z_ValueError : PySem.W.nsIn K mainGlobals "ValueError" = some none)
    (w_BASE : PySem.W.nsIn K mainGlobals "BASE" = some (some (.int 256 t_BASE)))
    (w_WIDE : PySem.W.nsIn K mainGlobals "WIDE" = some (some (.int 4 t_WIDE)))
    (w_MOST_CELLS : PySem.W.nsIn K mainGlobals "MOST_CELLS" = some (some (.int 1000 t_MOST_CELLS)))
    (w_IN_LINE : PySem.W.nsIn K mainGlobals "IN_LINE" = some (some (.int 8 t_IN_LINE)))
    (w_FIGURES : PySem.W.nsIn K mainGlobals "FIGURES" = some (some (.str "0123456789abcdef" t_FIGURES)))
    (ne : (pt_law_right != pt_law) = true)
    (hcR : PySem.W.CodeHd h cc_law_right pt_law_right)
    (htR : h.get? pt_law_right = some { cls := .none, data := .fields #[] })
    (hcL : PySem.W.CodeHd h cc_law pt_law)
    (htL : h.get? pt_law = some { cls := .none, data := .fields #[] }) : LawAtG l w K 63 mg fa h := by
  have G := Gr.T.g
  have hfa2 := hfa.symm.trans (PySem.W.mg_of X G a_law)
  cases hfa2
  have T : T0 mg := ⟨PySem.W.mg_none_of X G z_len, PySem.W.mg_none_of X G z_isinstance, PySem.W.mg_none_of X G z_all, PySem.W.mg_none_of X G z_repr, PySem.W.mg_none_of X G z_abs, PySem.W.mg_none_of X G z_int, PySem.W.mg_none_of X G z_str, PySem.W.mg_none_of X G z_bool, PySem.W.mg_none_of X G z_tuple, PySem.W.mg_none_of X G z_list, PySem.W.mg_none_of X G z_range, PySem.W.mg_none_of X G z_enumerate, PySem.W.mg_none_of X G z_ValueError, ⟨_, PySem.W.mg_of X G w_BASE, ⟨_, rfl⟩⟩, ⟨_, PySem.W.mg_of X G w_WIDE, ⟨_, rfl⟩⟩, ⟨_, PySem.W.mg_of X G w_MOST_CELLS, ⟨_, rfl⟩⟩, ⟨_, PySem.W.mg_of X G w_IN_LINE, ⟨_, rfl⟩⟩, ⟨_, PySem.W.mg_of X G w_FIGURES, ⟨_, rfl⟩⟩⟩
  have F_is_whole := fun_mk (st := s_is_whole) l_is_whole c_is_whole k_is_whole
  have b_is_whole := F_is_whole.binds (ps := p_is_whole) fun _ _ _ _ _ _ us hl => match us, hl with | [_, _, _], _ => rfl
  have F_are_small := fun_mk (st := s_are_small) l_are_small c_are_small k_are_small
  have b_are_small := F_are_small.binds (ps := p_are_small) fun _ _ _ _ _ _ us hl => match us, hl with | [_], _ => rfl
  have F_is_file := fun_mk (st := s_is_file) l_is_file c_is_file k_is_file
  have b_is_file := F_is_file.binds (ps := p_is_file) fun _ _ _ _ _ _ us hl => match us, hl with | [_], _ => rfl
  have F_many_cells := fun_mk (st := s_many_cells) l_many_cells c_many_cells k_many_cells
  have b_many_cells := F_many_cells.binds (ps := p_many_cells) fun _ _ _ _ _ _ us hl => match us, hl with | [_], _ => rfl
  have F_pair_of := fun_mk (st := s_pair_of) l_pair_of c_pair_of k_pair_of
  have b_pair_of := F_pair_of.binds (ps := p_pair_of) fun _ _ _ _ _ _ us hl => match us, hl with | [_], _ => rfl
  have F_show_cell := fun_mk (st := s_show_cell) l_show_cell c_show_cell k_show_cell
  have b_show_cell := F_show_cell.binds (ps := p_show_cell) fun _ _ _ _ _ _ us hl => match us, hl with | [_, _], _ => rfl
  have F_show_file := fun_mk (st := s_show_file) l_show_file c_show_file k_show_file
  have b_show_file := F_show_file.binds (ps := p_show_file) fun _ _ _ _ _ _ us hl => match us, hl with | [_], _ => rfl
  have F_is_cell_text := fun_mk (st := s_is_cell_text) l_is_cell_text c_is_cell_text k_is_cell_text
  have b_is_cell_text := F_is_cell_text.binds (ps := p_is_cell_text) fun _ _ _ _ _ _ us hl => match us, hl with | [_], _ => rfl
  have F_numbers_of := fun_mk (st := s_numbers_of) l_numbers_of c_numbers_of k_numbers_of
  have b_numbers_of := F_numbers_of.binds (ps := p_numbers_of) fun _ _ _ _ _ _ us hl => match us, hl with | [_], _ => rfl
  have F_read_file := fun_mk (st := s_read_file) l_read_file c_read_file k_read_file
  have b_read_file := F_read_file.binds (ps := p_read_file) fun _ _ _ _ _ _ us hl => match us, hl with | [_], _ => rfl
  have F_law_pen := fun_mk (st := s_law_pen) l_law_pen c_law_pen k_law_pen
  have b_law_pen := F_law_pen.binds (ps := p_law_pen) fun _ _ _ _ _ _ us hl => match us, hl with | [_], _ => rfl
  have F_law_draw := fun_mk (st := s_law_draw) l_law_draw c_law_draw k_law_draw
  have b_law_draw := F_law_draw.binds (ps := p_law_draw) fun _ _ _ _ _ _ us hl => match us, hl with | [_, _], _ => rfl
  have F_law_numbers := fun_mk (st := s_law_numbers) l_law_numbers c_law_numbers k_law_numbers
  have b_law_numbers := F_law_numbers.binds (ps := p_law_numbers) fun _ _ _ _ _ _ us hl => match us, hl with | [_, _, _], _ => rfl
  have F_law_refusal := fun_mk (st := s_law_refusal) l_law_refusal c_law_refusal k_law_refusal
  have b_law_refusal := F_law_refusal.binds (ps := p_law_refusal) fun _ _ _ _ _ _ us hl => match us, hl with | [_], _ => rfl
  have F_law_sign_bent := fun_mk (st := s_law_sign_bent) l_law_sign_bent c_law_sign_bent k_law_sign_bent
  have b_law_sign_bent := F_law_sign_bent.binds (ps := p_law_sign_bent) fun _ _ _ _ _ _ us hl => match us, hl with | [_, _], _ => rfl
  have F_law_word_bent := fun_mk (st := s_law_word_bent) l_law_word_bent c_law_word_bent k_law_word_bent
  have b_law_word_bent := F_law_word_bent.binds (ps := p_law_word_bent) fun _ _ _ _ _ _ us hl => match us, hl with | [_, _, _], _ => rfl
  have F_law_line_bent := fun_mk (st := s_law_line_bent) l_law_line_bent c_law_line_bent k_law_line_bent
  have b_law_line_bent := F_law_line_bent.binds (ps := p_law_line_bent) fun _ _ _ _ _ _ us hl => match us, hl with | [_, _, _], _ => rfl
  have F_law_figures := fun_mk (st := s_law_figures) l_law_figures c_law_figures k_law_figures
  have b_law_figures := F_law_figures.binds (ps := p_law_figures) fun _ _ _ _ _ _ us hl => match us, hl with | [_], _ => rfl
  have F_law_bad_line := fun_mk (st := s_law_bad_line) l_law_bad_line c_law_bad_line k_law_bad_line
  have b_law_bad_line := F_law_bad_line.binds (ps := p_law_bad_line) fun _ _ _ _ _ _ us hl => match us, hl with | [_], _ => rfl
  have F_law_right := fun_mk (st := s_law_right) l_law_right c_law_right k_law_right
  have b_law_right := F_law_right.binds (ps := p_law_right) fun _ _ _ _ _ _ us hl => match us, hl with | [_], _ => rfl
  have F_law_bent := fun_mk (st := s_law_bent) l_law_bent c_law_bent k_law_bent
  have b_law_bent := F_law_bent.binds (ps := p_law_bent) fun _ _ _ _ _ _ us hl => match us, hl with | [_, _], _ => rfl
  have F_law := fun_mk (st := s_law) l_law c_law k_law
  have b_law := F_law.binds (ps := p_law) fun _ _ _ _ _ _ us hl => match us, hl with | [_], _ => rfl
  have FI := fun_mk (st := s_NoText_init) lI cI kI
  have bI := FI.binds (ps := ["self", "line"]) fun _ _ _ _ _ _ us hl => match us, hl with | [_, _], _ => rfl
  have ox : OexC K C := ⟨xC, saC, exC, tyC, kC⟩
  have gC := PySem.W.mg_of X G aC
  have gB := PySem.W.mg_of X G aB
  have N0 : NT0 K mg C B (.type "type") := ⟨ox, gC, gB, ⟨rdB, gaB⟩, vB, nfC⟩
  have RT : RefT K mg C B [u0, u1, u2, u3, u4, u5, u6, u7, u8, u9, u10] [v0, v1, v2, v3] := ⟨ec_of ecC, nfC, exm, gB, gC, k1, k2, kV, kCC, ⟨_, _, _, _, _, _, _, _, _, _, _, rfl, PySem.W.mg_of X G g1_Busy, PySem.W.mg_of X G g1_NoDeed, PySem.W.mg_of X G g1_NoGrid, PySem.W.mg_of X G g1_NoLine, PySem.W.mg_of X G g1_NoPiece, PySem.W.mg_of X G g1_NoShare, PySem.W.mg_of X G g1_NoTable, PySem.W.mg_of X G g1_NoTag, PySem.W.mg_of X G g1_NoWay, PySem.W.mg_of X G g1_Raw, PySem.W.mg_of X G g1_Spoilt⟩, ⟨_, _, _, _, rfl, PySem.W.mg_of X G g2_Taken, PySem.W.mg_of X G g2_TooDeep, PySem.W.mg_of X G g2_TooGreat, PySem.W.mg_of X G g2_TooMany⟩⟩
  have RF : RefF K mg C B [u0, u1, u2, u3, u4, u5, u6, u7, u8, u9, u10] [v0, v1, v2, v3] := ⟨RT, _, _, _, _, _, _, _, _, _, _, PySem.W.mg_of X G a_law_refusal, k_law_refusal, l_law_refusal, c_law_refusal, b_law_refusal⟩
  have nR : K.lookup pt_law_right = none := by simpa using nn_law_right
  have nL : K.lookup pt_law = none := by simpa using nn_law
  have hne : pt_law_right ≠ pt_law := by simpa using ne
  refine ⟨[(cc_law_right, pt_law_right), (cc_law, pt_law)], ?_, ?_, ?_, fun base H s a ns hlen kb gb tb e0 ht hs => ?_⟩
  · intro b hb
    simp only [List.map_cons, List.map_nil, List.mem_cons, List.not_mem_nil, or_false] at hb
    rcases hb with rfl | rfl
    · exact htR
    · exact htL
  · intro b hb
    simp only [List.map_cons, List.map_nil, List.mem_cons, List.not_mem_nil, or_false] at hb
    rcases hb with rfl | rfl
    · exact nR
    · exact nL
  · intro b hb
    simp only [List.mem_cons, List.not_mem_nil, or_false] at hb
    rcases hb with rfl | rfl
    · exact hcR
    · exact hcL
  let TL : List (Addr × Str) := [(pt_law_right, Str.ofString "_law_right" ++ Str.ofString ".<locals>." ++ Str.ofString "<lambda>"), (pt_law, Str.ofString "law" ++ Str.ofString ".<locals>." ++ Str.ofString "<lambda>")]
  have q_is_whole : MB.Cl l.prog w K mg base 1 "is_whole" sp_is_whole := MB.cl_of (ok_is_whole F_is_whole T) (PySem.W.mg_of X G a_is_whole) k_is_whole b_is_whole
  have q_are_small : MB.Cl l.prog w K mg base 2 "are_small" (sp_are_small K) := MB.cl_of (ok_are_small F_are_small T q_is_whole) (PySem.W.mg_of X G a_are_small) k_are_small b_are_small
  have q_is_file : MB.Cl l.prog w K mg base 3 "is_file" (sp_is_file K) := MB.cl_of (ok_is_file F_is_file T q_are_small) (PySem.W.mg_of X G a_is_file) k_is_file b_is_file
  have q_many_cells : MB.Cl l.prog w K mg base 1 "many_cells" (sp_many_cells K) := MB.cl_of (ok_many_cells F_many_cells T) (PySem.W.mg_of X G a_many_cells) k_many_cells b_many_cells
  have q_pair_of : MB.Cl l.prog w K mg base 1 "pair_of" sp_pair_of := MB.cl_of (ok_pair_of F_pair_of T) (PySem.W.mg_of X G a_pair_of) k_pair_of b_pair_of
  have q_show_cell : MB.Cl l.prog w K mg base 2 "show_cell" (sp_show_cell K) := MB.cl_of (ok_show_cell F_show_cell T q_pair_of) (PySem.W.mg_of X G a_show_cell) k_show_cell b_show_cell
  have q_show_file : MB.Cl l.prog w K mg base 3 "show_file" (sp_show_file K) := MB.cl_of (ok_show_file F_show_file T q_many_cells q_show_cell) (PySem.W.mg_of X G a_show_file) k_show_file b_show_file
  have q_is_cell_text : MB.Cl l.prog w K mg base 1 "is_cell_text" sp_is_cell_text := MB.cl_of (ok_is_cell_text F_is_cell_text T) (PySem.W.mg_of X G a_is_cell_text) k_is_cell_text b_is_cell_text
  have q_numbers_of : MB.Cl l.prog w K mg base 1 "numbers_of" sp_numbers_of := MB.cl_of (ok_numbers_of F_numbers_of T) (PySem.W.mg_of X G a_numbers_of) k_numbers_of b_numbers_of
  have NX : NT l.prog w K mg base C := ⟨ox, gC, fI, _, MB.fn_toX (ok_nt FI N0), iC, tI, bI⟩
  have q_read_file : MB.Cl l.prog w K mg base 3 "read_file" (sp_read_file K C) := MB.cl_ofX (ok_read_file F_read_file T NX q_is_cell_text q_numbers_of) (PySem.W.mg_of X G a_read_file) k_read_file b_read_file
  have q_law_pen : MB.Cl l.prog w K mg base 1 "_law_pen" (spPen K) := MB.cl_of (ok_law_pen F_law_pen T) (PySem.W.mg_of X G a_law_pen) k_law_pen b_law_pen
  have q_law_draw : MB.Cl l.prog w K mg base 1 "_law_draw" spDraw := MB.cl_of (ok_law_draw F_law_draw T) (PySem.W.mg_of X G a_law_draw) k_law_draw b_law_draw
  have q_law_numbers : MB.Cl l.prog w K mg base 2 "_law_numbers" spNumbers := MB.cl_of (ok_law_numbers F_law_numbers T q_law_draw) (PySem.W.mg_of X G a_law_numbers) k_law_numbers b_law_numbers
  have q_law_sign_bent : MB.Cl l.prog w K mg base 2 "_law_sign_bent" (spBent 0 fB) := MB.cl_of (ok_law_sign_bent F_law_sign_bent T q_law_draw) (PySem.W.mg_of X G a_law_sign_bent) k_law_sign_bent b_law_sign_bent
  have q_law_word_bent : MB.Cl l.prog w K mg base 2 "_law_word_bent" (spBent 1 fB) := MB.cl_of (ok_law_word_bent F_law_word_bent T q_law_draw) (PySem.W.mg_of X G a_law_word_bent) k_law_word_bent b_law_word_bent
  have q_law_line_bent : MB.Cl l.prog w K mg base 2 "_law_line_bent" (spBent 1 fB) := MB.cl_of (ok_law_line_bent F_law_line_bent T q_law_draw) (PySem.W.mg_of X G a_law_line_bent) k_law_line_bent b_law_line_bent
  have q_law_figures : MB.Cl l.prog w K mg base 1 "_law_figures" (sp_figures K) := MB.cl_of (ok_law_figures F_law_figures T) (PySem.W.mg_of X G a_law_figures) k_law_figures b_law_figures
  have q_law_bad_line : MB.Cl l.prog w K mg base 1 "_law_bad_line" sp_bad_line := MB.cl_of (ok_law_bad_line F_law_bad_line T) (PySem.W.mg_of X G a_law_bad_line) k_law_bad_line b_law_bad_line
  have q_law_bent : MB.Cl l.prog w K mg base 3 "_law_bent" (spBentL fB) := MB.cl_of (ok_law_bent F_law_bent T q_law_draw q_law_sign_bent q_law_word_bent q_law_line_bent) (PySem.W.mg_of X G a_law_bent) k_law_bent b_law_bent
  have q_law_right : MB.Cl l.prog w K mg base 6 "_law_right" (sp_right TL) := MB.cl_of (ok_law_right (TL := TL) l_law_right c_law_right T RF q_read_file q_law_bad_line q_show_file (tb _ (List.mem_cons_self ..)) (List.mem_cons_self ..) (fun p hp e => by
    simp only [TL, List.mem_cons, List.not_mem_nil, or_false] at hp
    rcases hp with rfl | rfl
    · rfl
    · exact absurd e.symm hne)) (PySem.W.mg_of X G a_law_right) k_law_right b_law_right
  have calls : Calls l.prog w K mg base C TL := ⟨q_law_pen, q_law_draw, q_law_numbers, q_show_file, q_law_figures, q_read_file, q_is_file, q_law_bent, q_law_right⟩
  have hT : LamX.Tabs TL H := fun p hp => by
    simp only [TL, List.mem_cons, List.not_mem_nil, or_false] at hp
    rcases hp with rfl | rfl
    · exact LamX.TabS.nil (ht (cc_law_right, pt_law_right) (List.mem_cons_self ..))
    · exact LamX.TabS.nil (ht (cc_law, pt_law) (List.mem_cons_of_mem _ (List.mem_cons_self ..)))
  refine LamX.run_ofS (k := 6) (N := n_law) (ps := p_law) (us := [.ref a]) (vs := [.ref a]) l_law c_law sc_law ⟨rfl, by decide, by decide⟩ e0 (.of_eq rfl) (.cons rfl .nil) rfl fun hr => ?_
  obtain ⟨t, h1, h2⟩ := law_body (P := l.prog) (w := w) (K := K) (mg := mg) (base := base) (C := C) (B := B) (c := cc_law) (Pt := pt_law) (TL := TL) (f := fa) (A := callerA) (outer := []) (s := s) (H := H) (Q := fun v _ => v = .bl true) (E := fun _ _ _ => False) (a := a) (script := ns) rfl hr T RF calls (tb _ (List.mem_cons_of_mem _ (List.mem_cons_self ..))) (List.mem_cons_of_mem _ (List.mem_cons_self ..)) (fun p hp e => by
    simp only [TL, List.mem_cons, List.not_mem_nil, or_false] at hp
    rcases hp with rfl | rfl
    · exact absurd e hne
    · rfl) hs hT fun _ => rfl
  exact ⟨t, h1.nox, h2⟩
end K85
set_option maxRecDepth 100000
open PySem PySem.W PyProof.Rows
set_option maxRecDepth 100000 in
set_option maxHeartbeats 0 in
theorem PySem.Challenge.cw_tornentries_k85_files_as_figures_holds : PySem.Challenge.rw_tornentries_k85_files_as_figures.Holds := by
  w_on; o_law; k_head; (case hw => w_witness2)
  k_fill
  refine K85.walkG (l := PySem.Challenge.rw_tornentries_k85_files_as_figures) rfl (by decide) rfl (fun w h Y => PySem.W.km_in_of Y) ?F
  case F =>
    intro w s₀ mg mb fa h Gr Y KX hmg
    refine' K85.mk85 Gr KX hmg ?a_is_whole ?l_is_whole ?c_is_whole ?k_is_whole ?a_are_small ?l_are_small ?c_are_small ?k_are_small ?a_is_file ?l_is_file ?c_is_file ?k_is_file ?a_many_cells ?l_many_cells ?c_many_cells ?k_many_cells ?a_pair_of ?l_pair_of ?c_pair_of ?k_pair_of ?a_show_cell ?l_show_cell ?c_show_cell ?k_show_cell ?a_show_file ?l_show_file ?c_show_file ?k_show_file ?a_is_cell_text ?l_is_cell_text ?c_is_cell_text ?k_is_cell_text ?a_numbers_of ?l_numbers_of ?c_numbers_of ?k_numbers_of ?a_read_file ?l_read_file ?c_read_file ?k_read_file ?a_law_pen ?l_law_pen ?c_law_pen ?k_law_pen ?a_law_draw ?l_law_draw ?c_law_draw ?k_law_draw ?a_law_numbers ?l_law_numbers ?c_law_numbers ?k_law_numbers ?a_law_refusal ?l_law_refusal ?c_law_refusal ?k_law_refusal ?a_law_sign_bent ?l_law_sign_bent ?c_law_sign_bent ?k_law_sign_bent ?a_law_word_bent ?l_law_word_bent ?c_law_word_bent ?k_law_word_bent ?a_law_line_bent ?l_law_line_bent ?c_law_line_bent ?k_law_line_bent ?a_law_figures ?l_law_figures ?c_law_figures ?k_law_figures ?a_law_bad_line ?l_law_bad_line ?c_law_bad_line ?k_law_bad_line ?a_law_right ?l_law_right ?c_law_right ?k_law_right ?e_law_right ?v_law_right ?nn_law_right ?a_law_bent ?l_law_bent ?c_law_bent ?k_law_bent ?a_law ?l_law ?c_law ?k_law ?e_law ?v_law ?nn_law ?aC ?aB ?iC ?tI ?lI ?cI ?kI ?xC ?saC ?exC ?tyC ?kC ?nfC ?rdB ?gaB ?vB ?ecC ?exm ?g1_Busy ?g1_NoDeed ?g1_NoGrid ?g1_NoLine ?g1_NoPiece ?g1_NoShare ?g1_NoTable ?g1_NoTag ?g1_NoWay ?g1_Raw ?g1_Spoilt ?g2_Taken ?g2_TooDeep ?g2_TooGreat ?g2_TooMany ?k1 ?k2 ?kV ?kCC ?z_len ?z_isinstance ?z_all ?z_repr ?z_abs ?z_int ?z_str ?z_bool ?z_tuple ?z_list ?z_range ?z_enumerate ?z_ValueError ?w_BASE ?w_WIDE ?w_MOST_CELLS ?w_IN_LINE ?w_FIGURES ?ne ?hcR ?htR ?hcL ?htL
    (case a_is_whole => first | k_is | rfl | with_unfolding_all rfl | kernel_rfl)
    (case l_is_whole => first | k_is | rfl | with_unfolding_all rfl | kernel_rfl)
    (case c_is_whole => first | k_is | rfl | with_unfolding_all rfl | kernel_rfl)
    (case k_is_whole => first | k_is | rfl | with_unfolding_all rfl | kernel_rfl)
    (case a_are_small => first | k_is | rfl | with_unfolding_all rfl | kernel_rfl)
    (case l_are_small => first | k_is | rfl | with_unfolding_all rfl | kernel_rfl)
    (case c_are_small => first | k_is | rfl | with_unfolding_all rfl | kernel_rfl)
    (case k_are_small => first | k_is | rfl | with_unfolding_all rfl | kernel_rfl)
    (case a_is_file => first | k_is | rfl | with_unfolding_all rfl | kernel_rfl)
    (case l_is_file => first | k_is | rfl | with_unfolding_all rfl | kernel_rfl)
    (case c_is_file => first | k_is | rfl | with_unfolding_all rfl | kernel_rfl)
    (case k_is_file => first | k_is | rfl | with_unfolding_all rfl | kernel_rfl)
    (case a_many_cells => first | k_is | rfl | with_unfolding_all rfl | kernel_rfl)
    (case l_many_cells => first | k_is | rfl | with_unfolding_all rfl | kernel_rfl)
    (case c_many_cells => first | k_is | rfl | with_unfolding_all rfl | kernel_rfl)
    (case k_many_cells => first | k_is | rfl | with_unfolding_all rfl | kernel_rfl)
    (case a_pair_of => first | k_is | rfl | with_unfolding_all rfl | kernel_rfl)
    (case l_pair_of => first | k_is | rfl | with_unfolding_all rfl | kernel_rfl)
    (case c_pair_of => first | k_is | rfl | with_unfolding_all rfl | kernel_rfl)
    (case k_pair_of => first | k_is | rfl | with_unfolding_all rfl | kernel_rfl)
    (case a_show_cell => first | k_is | rfl | with_unfolding_all rfl | kernel_rfl)
    (case l_show_cell => first | k_is | rfl | with_unfolding_all rfl | kernel_rfl)
    (case c_show_cell => first | k_is | rfl | with_unfolding_all rfl | kernel_rfl)
    (case k_show_cell => first | k_is | rfl | with_unfolding_all rfl | kernel_rfl)
    (case a_show_file => first | k_is | rfl | with_unfolding_all rfl | kernel_rfl)
    (case l_show_file => first | k_is | rfl | with_unfolding_all rfl | kernel_rfl)
    (case c_show_file => first | k_is | rfl | with_unfolding_all rfl | kernel_rfl)
    (case k_show_file => first | k_is | rfl | with_unfolding_all rfl | kernel_rfl)
    (case a_is_cell_text => first | k_is | rfl | with_unfolding_all rfl | kernel_rfl)
    (case l_is_cell_text => first | k_is | rfl | with_unfolding_all rfl | kernel_rfl)
    (case c_is_cell_text => first | k_is | rfl | with_unfolding_all rfl | kernel_rfl)
    (case k_is_cell_text => first | k_is | rfl | with_unfolding_all rfl | kernel_rfl)
    (case a_numbers_of => first | k_is | rfl | with_unfolding_all rfl | kernel_rfl)
    (case l_numbers_of => first | k_is | rfl | with_unfolding_all rfl | kernel_rfl)
    (case c_numbers_of => first | k_is | rfl | with_unfolding_all rfl | kernel_rfl)
    (case k_numbers_of => first | k_is | rfl | with_unfolding_all rfl | kernel_rfl)
    (case a_read_file => first | k_is | rfl | with_unfolding_all rfl | kernel_rfl)
    (case l_read_file => first | k_is | rfl | with_unfolding_all rfl | kernel_rfl)
    (case c_read_file => first | k_is | rfl | with_unfolding_all rfl | kernel_rfl)
    (case k_read_file => first | k_is | rfl | with_unfolding_all rfl | kernel_rfl)
    (case a_law_pen => first | k_is | rfl | with_unfolding_all rfl | kernel_rfl)
    (case l_law_pen => first | k_is | rfl | with_unfolding_all rfl | kernel_rfl)
    (case c_law_pen => first | k_is | rfl | with_unfolding_all rfl | kernel_rfl)
    (case k_law_pen => first | k_is | rfl | with_unfolding_all rfl | kernel_rfl)
    (case a_law_draw => first | k_is | rfl | with_unfolding_all rfl | kernel_rfl)
    (case l_law_draw => first | k_is | rfl | with_unfolding_all rfl | kernel_rfl)
    (case c_law_draw => first | k_is | rfl | with_unfolding_all rfl | kernel_rfl)
    (case k_law_draw => first | k_is | rfl | with_unfolding_all rfl | kernel_rfl)
    (case a_law_numbers => first | k_is | rfl | with_unfolding_all rfl | kernel_rfl)
    (case l_law_numbers => first | k_is | rfl | with_unfolding_all rfl | kernel_rfl)
    (case c_law_numbers => first | k_is | rfl | with_unfolding_all rfl | kernel_rfl)
    (case k_law_numbers => first | k_is | rfl | with_unfolding_all rfl | kernel_rfl)
    (case a_law_refusal => first | k_is | rfl | with_unfolding_all rfl | kernel_rfl)
    (case l_law_refusal => first | k_is | rfl | with_unfolding_all rfl | kernel_rfl)
    (case c_law_refusal => first | k_is | rfl | with_unfolding_all rfl | kernel_rfl)
    (case k_law_refusal => first | k_is | rfl | with_unfolding_all rfl | kernel_rfl)
    (case a_law_sign_bent => first | k_is | rfl | with_unfolding_all rfl | kernel_rfl)
    (case l_law_sign_bent => first | k_is | rfl | with_unfolding_all rfl | kernel_rfl)
    (case c_law_sign_bent => first | k_is | rfl | with_unfolding_all rfl | kernel_rfl)
    (case k_law_sign_bent => first | k_is | rfl | with_unfolding_all rfl | kernel_rfl)
    (case a_law_word_bent => first | k_is | rfl | with_unfolding_all rfl | kernel_rfl)
    (case l_law_word_bent => first | k_is | rfl | with_unfolding_all rfl | kernel_rfl)
    (case c_law_word_bent => first | k_is | rfl | with_unfolding_all rfl | kernel_rfl)
    (case k_law_word_bent => first | k_is | rfl | with_unfolding_all rfl | kernel_rfl)
    (case a_law_line_bent => first | k_is | rfl | with_unfolding_all rfl | kernel_rfl)
    (case l_law_line_bent => first | k_is | rfl | with_unfolding_all rfl | kernel_rfl)
    (case c_law_line_bent => first | k_is | rfl | with_unfolding_all rfl | kernel_rfl)
    (case k_law_line_bent => first | k_is | rfl | with_unfolding_all rfl | kernel_rfl)
    (case a_law_figures => first | k_is | rfl | with_unfolding_all rfl | kernel_rfl)
    (case l_law_figures => first | k_is | rfl | with_unfolding_all rfl | kernel_rfl)
    (case c_law_figures => first | k_is | rfl | with_unfolding_all rfl | kernel_rfl)
    (case k_law_figures => first | k_is | rfl | with_unfolding_all rfl | kernel_rfl)
    (case a_law_bad_line => first | k_is | rfl | with_unfolding_all rfl | kernel_rfl)
    (case l_law_bad_line => first | k_is | rfl | with_unfolding_all rfl | kernel_rfl)
    (case c_law_bad_line => first | k_is | rfl | with_unfolding_all rfl | kernel_rfl)
    (case k_law_bad_line => first | k_is | rfl | with_unfolding_all rfl | kernel_rfl)
    (case a_law_right => first | k_is | rfl | with_unfolding_all rfl | kernel_rfl)
    (case l_law_right => first | k_is | rfl | with_unfolding_all rfl | kernel_rfl)
    (case c_law_right => first | k_is | rfl | with_unfolding_all rfl | kernel_rfl)
    (case k_law_right => first | k_is | rfl | with_unfolding_all rfl | kernel_rfl)
    (case e_law_right => first | k_is | rfl | with_unfolding_all rfl | kernel_rfl)
    (case v_law_right => rfl)
    (case nn_law_right => first | k_is | rfl | with_unfolding_all rfl | kernel_rfl)
    (case a_law_bent => first | k_is | rfl | with_unfolding_all rfl | kernel_rfl)
    (case l_law_bent => first | k_is | rfl | with_unfolding_all rfl | kernel_rfl)
    (case c_law_bent => first | k_is | rfl | with_unfolding_all rfl | kernel_rfl)
    (case k_law_bent => first | k_is | rfl | with_unfolding_all rfl | kernel_rfl)
    (case a_law => first | k_is | rfl | with_unfolding_all rfl | kernel_rfl)
    (case l_law => first | k_is | rfl | with_unfolding_all rfl | kernel_rfl)
    (case c_law => first | k_is | rfl | with_unfolding_all rfl | kernel_rfl)
    (case k_law => first | k_is | rfl | with_unfolding_all rfl | kernel_rfl)
    (case e_law => first | k_is | rfl | with_unfolding_all rfl | kernel_rfl)
    (case v_law => rfl)
    (case nn_law => first | k_is | rfl | with_unfolding_all rfl | kernel_rfl)
    (case aC => first | k_is | rfl | with_unfolding_all rfl | kernel_rfl)
    (case aB => first | k_is | rfl | with_unfolding_all rfl | kernel_rfl)
    (case iC => first | k_is | rfl | with_unfolding_all rfl | kernel_rfl)
    (case tI => first | k_is | rfl | with_unfolding_all rfl | kernel_rfl)
    (case lI => first | k_is | rfl | with_unfolding_all rfl | kernel_rfl)
    (case cI => first | k_is | rfl | with_unfolding_all rfl | kernel_rfl)
    (case kI => first | k_is | rfl | with_unfolding_all rfl | kernel_rfl)
    (case xC => exact ⟨_, _, _, _, _, _, _, _, _, _, _, _, _, _, _, by k_is, by rfl⟩)
    (case saC => first | k_is | rfl | with_unfolding_all rfl | kernel_rfl)
    (case exC => first | k_is | rfl | with_unfolding_all rfl | kernel_rfl)
    (case tyC => first | k_is | rfl | with_unfolding_all rfl | kernel_rfl)
    (case kC => first | k_is | rfl | with_unfolding_all rfl | kernel_rfl)
    (case nfC => first | k_is | rfl | with_unfolding_all rfl | kernel_rfl)
    (case rdB => first | k_is | rfl | with_unfolding_all rfl | kernel_rfl)
    (case gaB => first | k_is | rfl | with_unfolding_all rfl | kernel_rfl)
    (case vB => first | k_is | rfl | with_unfolding_all rfl | kernel_rfl)
    (case ecC => first | k_is | rfl | with_unfolding_all rfl | kernel_rfl)
    (case exm => first | k_is | rfl | with_unfolding_all rfl | kernel_rfl)
    (case g1_Busy => first | k_is | rfl | with_unfolding_all rfl | kernel_rfl)
    (case g1_NoDeed => first | k_is | rfl | with_unfolding_all rfl | kernel_rfl)
    (case g1_NoGrid => first | k_is | rfl | with_unfolding_all rfl | kernel_rfl)
    (case g1_NoLine => first | k_is | rfl | with_unfolding_all rfl | kernel_rfl)
    (case g1_NoPiece => first | k_is | rfl | with_unfolding_all rfl | kernel_rfl)
    (case g1_NoShare => first | k_is | rfl | with_unfolding_all rfl | kernel_rfl)
    (case g1_NoTable => first | k_is | rfl | with_unfolding_all rfl | kernel_rfl)
    (case g1_NoTag => first | k_is | rfl | with_unfolding_all rfl | kernel_rfl)
    (case g1_NoWay => first | k_is | rfl | with_unfolding_all rfl | kernel_rfl)
    (case g1_Raw => first | k_is | rfl | with_unfolding_all rfl | kernel_rfl)
    (case g1_Spoilt => first | k_is | rfl | with_unfolding_all rfl | kernel_rfl)
    (case g2_Taken => first | k_is | rfl | with_unfolding_all rfl | kernel_rfl)
    (case g2_TooDeep => first | k_is | rfl | with_unfolding_all rfl | kernel_rfl)
    (case g2_TooGreat => first | k_is | rfl | with_unfolding_all rfl | kernel_rfl)
    (case g2_TooMany => first | k_is | rfl | with_unfolding_all rfl | kernel_rfl)
    (case k1 => first | k_is | rfl | with_unfolding_all rfl | kernel_rfl)
    (case k2 => first | k_is | rfl | with_unfolding_all rfl | kernel_rfl)
    (case kV => first | k_is | rfl | with_unfolding_all rfl | kernel_rfl)
    (case kCC => first | k_is | rfl | with_unfolding_all rfl | kernel_rfl)
    (case z_len => first | k_is | rfl | with_unfolding_all rfl | kernel_rfl)
    (case z_isinstance => first | k_is | rfl | with_unfolding_all rfl | kernel_rfl)
    (case z_all => first | k_is | rfl | with_unfolding_all rfl | kernel_rfl)
    (case z_repr => first | k_is | rfl | with_unfolding_all rfl | kernel_rfl)
    (case z_abs => first | k_is | rfl | with_unfolding_all rfl | kernel_rfl)
    (case z_int => first | k_is | rfl | with_unfolding_all rfl | kernel_rfl)
    (case z_str => first | k_is | rfl | with_unfolding_all rfl | kernel_rfl)
    (case z_bool => first | k_is | rfl | with_unfolding_all rfl | kernel_rfl)
    (case z_tuple => first | k_is | rfl | with_unfolding_all rfl | kernel_rfl)
    (case z_list => first | k_is | rfl | with_unfolding_all rfl | kernel_rfl)
    (case z_range => first | k_is | rfl | with_unfolding_all rfl | kernel_rfl)
    (case z_enumerate => first | k_is | rfl | with_unfolding_all rfl | kernel_rfl)
    (case z_ValueError => first | k_is | rfl | with_unfolding_all rfl | kernel_rfl)
    (case w_BASE => first | k_is | rfl | with_unfolding_all rfl | kernel_rfl)
    (case w_WIDE => first | k_is | rfl | with_unfolding_all rfl | kernel_rfl)
    (case w_MOST_CELLS => first | k_is | rfl | with_unfolding_all rfl | kernel_rfl)
    (case w_IN_LINE => first | k_is | rfl | with_unfolding_all rfl | kernel_rfl)
    (case w_FIGURES => first | k_is | rfl | with_unfolding_all rfl | kernel_rfl)
    (case ne => first | rfl | decide)
    (case hcR => exact PySem.W.codeHd_of_K KX (by first | k_is | rfl | with_unfolding_all rfl | kernel_rfl))
    (case htR => exact PySem.W.km_tabs_of Y _ (by decide))
    (case hcL => exact PySem.W.codeHd_of_K KX (by first | k_is | rfl | with_unfolding_all rfl | kernel_rfl))
    (case htL => exact PySem.W.km_tabs_of Y _ (by decide))
