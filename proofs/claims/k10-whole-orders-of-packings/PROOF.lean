import PyProof.Rows.All
import Wide.All
import OpenK.AllK
import Wide.FinOn
import PyProof.EqAt
import PyProof.EqKinds
import PyProof.TupleCall
import PyProof.TupleOfSeq
import KE.GoesMore
import KE.KIndexOf
import HandS.Base
import HandS.Call
import HandS.List
import HandS.Comp
import HandS.Ends
import HandS.Dict
import HandS.Iter
import HandS.Words
import HandS.WordsList
import HandS.WordsDict
import HandS.Set
import HandS.Strs
import HandS.SetFor
import HandS.Zip
import HandS.DictComp
import HandS.IsInst
import HandS.Star
import HandS.Conv
import HandS.Evl
import HandS.Flow
import HandS.Wide
import PySem.Challenge.RW_chipfloor_k10_whole_orders_of_packings
set_option Elab.async false
set_option linter.all false
set_option maxRecDepth 100000
set_option maxHeartbeats 4000000
/-! Rules that the layer lacks: enumerate, sorted, index, len(set(..)) over a tuple; each from the library's rules for whatever can be gone through. -/
namespace L2
open PySem PySem.Spec PyProof.Rows

/-! ### one argument, given by place -/
section
variable {X : Cx} {pins : List (Addr × Obj)} {σ : St} {H : Hp} {s : Shared} {x : Str} {e : Expr} {p pos : Pos} {Q : Value → Shared → Prop}
theorem cf_fun1 {id : String} (I : Inv X pins σ H s) (g : Gl X x) (m : X.mg x = none) (b : bootBuiltins x = some (.builtin id)) (n1 : x ≠ "__name__") (n2 : (x == ("__debug__" : Str)) = false) (one : starEach [e] X.env = [(false, eval e X.env)])
    (h : wpAny (model X.prog X.w) X.A (eval e X.env) (fun u s1 => wpAny (model X.prog X.w) X.A (call (.builtin id) [u]) Q X.xe s1) X.xe s) : wpAny (model X.prog X.w) X.A (eval (.Call (.Name x p) [e] [] pos) X.env) Q X.xe s :=
  Call_Name1 (ld_blt I g m b (PySem.callWith_builtin1 h) n1 n2) one
theorem cf_type1 {T : String} (I : Inv X pins σ H s) (g : Gl X x) (m : X.mg x = none) (b : bootBuiltins x = some (.type T)) (n1 : x ≠ "__name__") (n2 : (x == ("__debug__" : Str)) = false) (one : starEach [e] X.env = [(false, eval e X.env)])
    (h : wpAny (model X.prog X.w) X.A (eval e X.env) (fun u s1 => wpAny (model X.prog X.w) X.A (call (.type T) [u]) Q X.xe s1) X.xe s) : wpAny (model X.prog X.w) X.A (eval (.Call (.Name x p) [e] [] pos) X.env) Q X.xe s :=
  Call_Name1 (ld_blt I g m b (PySem.callWith_type1 h) n1 n2) one
end

/-! ### enumerate(t), t a tuple -/
section
open Sem (wp)
variable {prog : Program} {w : World} {A : Around} {E : Value → Shared → Prop} {s : Shared} {v : Value} {o : Obj} {G : Heap → Prop}
/-- what enumerate(v) lays behind the iterator at j -/
abbrev enumOb (j : Addr) : Obj := { cls := .type "enumerate", data := .fields #[.none, .bool false, .ref j, rawInt 0, .none, .none] }
theorem cf_enum_new (B : Begins v o G) : Meets (Builtin.«enumerate.__new__» ⟨[.type "enumerate", v], []⟩) (fun _ R s => G s.heap ∧
    R (.ok (.ret (.ref (s.heap.push o).objs.size))) { s with heap := (s.heap.push o).push (enumOb s.heap.objs.size) }) := by
  refine .of_wp fun prog w A R s hs => ?_
  rcases s with ⟨hp, gn, dr, tk, os⟩
  rcases hs with ⟨hv, hr⟩
  have known := sub_enumerate
  have start : ∀ {A' : Around} {E Q : Value → Shared → Prop}, Q (.ref hp.objs.size) ⟨hp.push o, gn, dr, tk, os⟩ → wpAny (model prog w) A' (pyIter v) Q E ⟨hp, gn, dr, tk, os⟩ := fun q => B.iter _ _ _ _ ⟨hp, gn, dr, tk, os⟩ _ hv q
  wp_walk using start
  apply wpAny_stack_any
  intro here
  apply wpAny_pure
  split
  case h_1 c _ _ _ _ _ => rcases (c == Value.type "enumerate") with _ | _ <;> (wp_walk using start; exact ⟨_, rfl, hr⟩)
  all_goals (wp_walk using start; exact ⟨_, rfl, hr⟩)
theorem cf_call_enum {Q : Value → Shared → Prop} (B : Begins v o G) (hv : G s.heap)
    (k : ∀ h', IsEnum h' (s.heap.objs.size + 1) s.heap.objs.size 0 .none → h'.get? s.heap.objs.size = some o → (∀ b z, s.heap.get? b = some z → h'.get? b = some z) → Q (.ref (s.heap.objs.size + 1)) { s with heap := h' }) :
    wpAny (model prog w) A (call (.type "enumerate") [v]) Q E s := by
  have one : (s.heap.push o).objs.size = s.heap.objs.size + 1 := Heap.size_push ..
  have ob : ((s.heap.push o).push (enumOb s.heap.objs.size)).get? (s.heap.objs.size + 1) = some (enumOb s.heap.objs.size) := one ▸ Heap.get?_push_size _ rfl
  apply callType_new F.called_enumerate (by decide) (F.typeCall_enumerate_1 v) (F.newCall_enumerate_1 v) (fun u => F.args_object_init_2 u v) F.entry_enumerate_new (cf_enum_new B)
  refine ⟨hv, ?_⟩
  simp only [one]
  exact ⟨⟨_, ob, rfl⟩, k _ ob (Heap.get?_push_of_some _ (Heap.get?_push_size _ B.free)) fun b z e => Heap.get?_push_of_some _ (Heap.get?_push_of_some _ e)⟩
end
/-- the tuple at a, each item in a new pair -/
def IteT (K : PySem.W.Frag) (a : Addr) : It where
  go i H := ∃ (xs : List V) (x : V), SqT K H a xs ∧ xs[i]? = some x
  yld i H v H' := ∃ T x, v = .ref T ∧ H T = none ∧ H' = upd H T (.tup [.int (i : Nat), x]) ∧ ∀ xs, SqT K H a xs → xs[i]? = some x
  stop i H := ∃ xs : List V, SqT K H a xs ∧ xs.length ≤ i
theorem cf_two {a b c : Addr} (h : a ∈ [b, c]) : a = b ∨ a = c := by simpa using h
/-- a tuple's iterator that has nothing more to give: drawing ends, at whatever place it stands -/
theorem cf_spent {prog : Program} {w : World} {A : Around} (hh : A.handled = none) (it t : Addr) (its : Array Value) (n : Nat) (hn : its.size ≤ n) :
    Draws prog w A it [it, t] n (fun _ _ => False) (fun i h => i = n ∧ h.IsTupleIter it t n ∧ h.IsTuple t its) where
  live _ _ st := st.2.1.elim fun o z => ⟨o, z.1⟩
  frame _ _ _ st k := ⟨st.1, st.2.1.at (k it (.head _)), st.2.2.at (k t (.tail _ (.head _)))⟩
  item i _ _ _ lt st := absurd st.1 (Nat.ne_of_lt lt)
  done _ _ _ st q := wpAny_nextOf_tuple_end hh st.2.1 st.2.2 (Array.getElem?_eq_none hn) q
theorem turn_enumT {P : Program} {w : World} {K : PySem.W.Frag} {elts : List Expr} {kk : Nat} {tpos : Pos} {a e it : Addr} (n1 : e ≠ it) (n2 : a ≠ e) (n3 : a ≠ it) :
    Turn P w K (.Tuple elts kk tpos) (IteT K a) [e, it] e (fun i h => (∃ old, IsEnum h e it (i : Nat) old) ∧ h.IsTupleIter it a i) := by
  refine ⟨.head _, ?_, fun i h h' ⟨⟨old, x⟩, y⟩ k => ⟨⟨old, k e (.head _) _ x⟩, y.at (k it (.tail _ (.head _)))⟩, ?_, ?_, fun A i s Q E ⟨⟨_, x⟩, _⟩ q => wpAny_pyIter_enum x q⟩
  · rintro i h ⟨⟨old, x⟩, o, y, _, yd⟩ b hb
    rcases cf_two hb with rfl | rfl
    · exact ⟨_, x, nofun⟩
    · exact ⟨o, y, fun v => by rw [yd]; nofun⟩
  · rintro X rfl rfl rfl calm i pins s σ H E I fp ⟨x, y⟩ ⟨xs, v, hq, hv⟩
    have ⟨its, vs, tu, _⟩ := I.tuple hq
    have ⟨u, hu, ru⟩ := vs.get hv
    have W := WalksT.enumerateD (prog := X.prog) (w := X.w) (A := X.A) (Draws.tuple (A := X.A.in1) (I.ok.hd calm) it a n3 its.toArray) e n1 (fun z => (cf_two z).elim n1 (Ne.symm n2)) (.head _)
    have inside : i < its.toArray.size := (List.getElem?_eq_some_iff.mp hu).1
    refine W.item i s _ _ inside ⟨x, y, tu⟩ fun T vals h1 tk pt above ht mid k1 => ⟨_, rfl, W.go elts kk tpos i T { s with heap := h1, toks := tk } _ _ mid fun h2 st k2 => ?_⟩
    have ⟨t, u', hu', ev⟩ := pt
    rw [List.getElem?_toArray, hu] at hu'
    injection hu' with eu
    subst eu ev
    have off : T ∉ [e, it] := W.apart _ _ _ mid
    have new : ObjOk X.prog X.w (upd H T (.tup [.int (i : Nat), v])) h2 T (.tup [.int (i : Nat), v]) := ⟨by show 2 ≤ sizeLine; decide, _, .cons ⟨t, rfl⟩ (.cons ru .nil), ht.at fun z => k2 T z off⟩
    refine ⟨.ref T, _, I.turnedNew (fun b z nb q => k2 b z nb (k1 b z nb q)) fp above new, rfl, ⟨T, v, rfl, I.hok.fresh above, rfl, fun ys hy => I.tuple_inj hy hq ▸ hv⟩, ⟨st.1, st.2.1⟩, fun b hb => ?_⟩
    exact (upd_ne fun z : b = T => off (z ▸ hb)).trans (fp b hb).1
  · rintro X rfl rfl rfl calm i pins s σ H E I fp ⟨⟨old, x⟩, y⟩ ⟨xs, hq, short⟩
    have ⟨its, vs, tu, _⟩ := I.tuple hq
    have ⟨f0, f1, f2, f3, f4, f5⟩ := fp it (.tail _ (.head _))
    exact wpAny_pyNext_enum_endD (cf_spent (prog := X.prog) (w := X.w) (A := X.A.in1) (I.ok.hd calm) it a its.toArray i (by rw [List.size_toArray, ← vs.length]; exact short)) x ⟨rfl, y, tu⟩ fun h1 k => ⟨rfl, I.turned (t' := s.toks) k f0 f1 f3 f4 f5⟩
def iEnumT (K : PySem.W.Frag) (ta : TA) : TI := fun σ H R => ta σ H fun vs H1 => ∃ a xs, vs = [.ref a] ∧ SqT K H1 a xs ∧ R (IteT K a) H1
theorem pi_enumT {X : Cx} {e : Expr} {ta : TA} {p pos tpos : Pos} {elts : List Expr} {kk : Nat} (hg : Gl X "enumerate") (hm : X.mg "enumerate" = none) (ha : PA X [e] ta) (hs : starEach [e] X.env = [(false, eval e X.env)] := by rfl) :
    PI X (.Tuple elts kk tpos) (.Call (.Name "enumerate" p) [e] [] pos) (iEnumT X.K ta) where
  run pins s σ H R I h := by
    refine Call_ (ld_blt I hg hm boot_enumerate ?_)
    refine PyProof.Rows.callWith_type1 (thn (ha.run pos pins s σ H _ I h) ?_) hs rfl
    rintro us s1 ⟨_, H1, I1, r1, a, xs, rfl, hq, q⟩
    obtain ⟨u, rfl, ru⟩ := vals1 r1
    obtain rfl : u = .ref a := ru
    have ⟨its, vs, tu, _⟩ := I1.tuple hq
    have old : a < s1.heap.objs.size := tu.lt
    refine cf_call_enum (begins_tuple a its.toArray) tu fun h' x y k => wpAny_pyIter_enum x ?_
    refine ⟨_, _, _, _, H1, rfl, I1.kept (t' := s1.toks) k, turn_enumT (Nat.succ_ne_self _) (Nat.ne_of_lt (Nat.lt_succ_of_lt old)) (Nat.ne_of_lt old), ⟨⟨_, x⟩, _, y, rfl, rfl⟩, fun b hb => ?_, q⟩
    have new : s1.heap.objs.size ≤ b := by rcases cf_two hb with rfl | rfl <;> omega
    exact I1.fpOk new (I1.hok.fresh new)

/-! ### sorted(t), t a tuple of ints -/
section
variable {prog : Program} {w : World} {A : Around} {E : Value → Shared → Prop} {s : Shared}
theorem cf_sorted {a : Addr} {vs : List Value} {ns : List Int} {Q : Value → Shared → Prop} (tu : s.heap.IsTuple a vs.toArray) (hi : IntsAre vs ns) (small : vs.length < 64)
    (k : ∀ (h1 h2 : Heap) (p : Addr) (n : Nat) (out : List Value) (ns' : List Int), (∀ b z, s.heap.get? b = some z → h1.get? b = some z) → h1.objs.size ≤ p → (∀ b z, h1.get? b = some z → h2.get? b = some z) →
      h2.get? p = some (seqObj "list" out.toArray n) → IntsAre out ns' → ns'.Perm ns → ns'.Pairwise (· ≤ ·) → Q (.ref p) { s with heap := h2 }) : wpAny (model prog w) A (call (.builtin "sorted") [.ref a]) Q E s := by
  have ⟨o, ho, hc, n, hd⟩ := tu
  have fits : vs.length ≤ sizeLine := small64 small
  apply Calls.call_function_entry kind_sorted plain_sorted entry_sorted (args_sorted1 _)
  show wpAny _ _ (checkCount "sorted" 1 1 1 >>= fun _ => collect (.ref a) >>= fun xs => newList xs >>= _) _ _ s
  apply wpAny_bind
  apply wpAny_pure
  apply wpAny_bind
  refine wpAny_collect_seq a (.inr rfl) ho hc hd (fun h1 k1 => ?_) (by simpa using fits)
  apply wpAny_bind
  refine wpAny_newList ?_ (by simpa using fits)
  have laid : (h1.push (seqObj "list" vs.toArray 0)).get? h1.objs.size = some (seqObj "list" vs.toArray 0) := Heap.get?_push_size _ rfl
  apply wpAny_bind
  apply wpAny_holding
  refine wpAny_call_entry slot_list_sort ⟨_, laid, rfl⟩ entry_list_sort (list_sort_tree laid hi small fun out ns' i1 i2 i3 => ⟨.none, rfl, wpAny_pure ⟨_, rfl, ?_⟩⟩) (args_list_sort _)
  have ⟨m, at'⟩ := sortedHeap_at (out := out) laid
  refine k h1 _ h1.objs.size m out.toList ns' k1 (Nat.le_refl _) (fun b z q => ?_) at' i1 i2 i3
  have lt := Heap.lt_size q
  rw [sortedHeap_old (Nat.ne_of_lt lt) (by rw [Heap.size_push]; exact Nat.lt_succ_of_lt lt)]
  exact Heap.get?_push_of_some _ q
end
def rSortedTp (K : PySem.W.Frag) : List V → Hp → VK → Prop := fun vs H Q => ∃ (a : Addr) (ns : List Int), vs = [.ref a] ∧ SqT K H a (ns.map V.int) ∧ ns.length < 64 ∧
  ∀ (ns' : List Int) (p : Addr), ns'.Perm ns → ns'.Pairwise (· ≤ ·) → H p = none → Q (.ref p) (upd H p (.lst (ns'.map V.int)))
theorem cr_sortedTp {X : Cx} : CallR X (.builtin "sorted") (rSortedTp X.K) := by
  rintro pins s σ H vs us Q I rs ⟨a, ns, rfl, hq, few, q⟩
  obtain ⟨u, rfl, ru⟩ := vals1 rs
  obtain rfl : u = .ref a := ru
  have ⟨its, is, tu, _⟩ := I.tuple hq
  have len : its.length < 64 := by rw [← is.length, List.length_map]; exact few
  refine cf_sorted tu (RZ.intsAre_vals is) len fun h1 h2 p n out ns' k1 above k2 at' i1 i2 i3 => ?_
  have I1 := I.kept (t' := s.toks) k1
  refine ⟨.ref p, upd H p (.lst (ns'.map V.int)), I1.laid (t' := s.toks) k2 above ⟨?_, out, n, vals_of_ints i1, at'⟩, rfl, q ns' p i2 i3 (I1.hok.fresh above)⟩
  rw [List.length_map, i2.length_eq]
  exact small64 few

/-! ### t.index(n), t a tuple of ints -/
theorem cf_flat_ints (ns : List Int) : (ns.map V.int).all flatV = true := by simp [flatV]
theorem cf_first {z : Int} : ∀ {ys : List Int} {j : Nat}, ys[j]? = some z → (∀ m, m < j → ys[m]? ≠ some z) → ys.idxOf z = j
  | [], _, h, _ => by simp at h
  | y :: ys, 0, h, _ => by
    obtain rfl : y = z := by simpa using h
    exact List.idxOf_cons_self
  | y :: ys, j + 1, h, no => by
    have ne : y ≠ z := fun e => no 0 (Nat.succ_pos j) (by simp [e])
    have later := cf_first (ys := ys) (j := j) (by simpa using h) fun m lt => by simpa using no (m + 1) (Nat.succ_lt_succ lt)
    simp [List.idxOf_cons, later, beq_eq_false_iff_ne.mpr ne]
theorem mt_tup_indexI {X : Cx} : MtR X "tuple.index" (fun x xs H Q => ∃ p, ∃ ys : List Int, ∃ (z : Int) (j : Nat), x = .ref p ∧ xs = [.int z] ∧ SqT X.K H p (ys.map V.int) ∧ ys[j]? = some z ∧ (∀ m, m < j → ys[m]? ≠ some z) ∧ Q (.int (j : Nat)) H) := by
  rintro pins s σ H x xs v us Q I rx rs ⟨p, ys, z, j, rfl, rfl, hq, hy, no, q⟩
  obtain rfl : v = .ref p := rx
  obtain ⟨_, rfl, t, rfl⟩ := vals1 rs
  have ⟨its, is, tu, _⟩ := I.tuple hq
  refine PySem.SeqAt.tuple_index_ints tu (RZ.intsAre_vals is) (List.mem_of_getElem? hy) ?_
  rw [cf_first hy no]
  exact ⟨.int j, H, I.tok _, ⟨_, rfl⟩, q⟩

/-! ### len(set(t)), t a tuple of unlike ints -/
theorem cf_len_le (l m : List Int) (nd : l.Nodup) (sub : ∀ a, a ∈ l → a ∈ m) : l.length ≤ m.length := by
  induction l generalizing m with
  | nil => exact Nat.zero_le _
  | cons a r ih =>
    have here := sub a (.head _)
    have apart := List.nodup_cons.mp nd
    have rest := ih (m.erase a) apart.2 fun b hb => (List.mem_erase_of_ne (by rintro rfl; exact apart.1 hb)).mpr (sub b (.tail _ hb))
    have less := List.length_erase_of_mem here
    have some' := List.length_pos_of_mem here
    simp only [List.length_cons]
    omega
theorem cf_len_set {X : Cx} {pins : List (Addr × Obj)} {σ : St} {H : Hp} {s : Shared} {Q : VK} {a : Addr} {ns : List Int} (I : Inv X pins σ H s) (calm : X.calm = true) (hq : SqT X.K H a (ns.map V.int)) (nd : ns.Nodup) (few : ns.length ≤ 4000) (q : Q (.int (ns.length : Nat)) H) :
    wpAny (model X.prog X.w) X.A (call (.type "set") [.ref a]) (fun v s1 => wpAny (model X.prog X.w) X.A (call (.builtin "len") [v]) (EP X pins σ Q) X.xe s1) X.xe s := by
  have ⟨its, is, tu, _⟩ := I.tuple hq
  refine call_set_tupI ns (I.ok.hd calm) tu (RZ.intsAre_vals is) (Nat.lt_of_le_of_lt (Nat.succ_le_succ few) (by decide)) fun h1 tk c ⟨o, es, ep, t, ho, ex, hd, _, un, mem, _, fit, _, _⟩ _ k => ?_
  have all : es.size = ns.length := by
    have le1 := cf_len_le _ ns un fun b hb => by simpa using (mem b).mpr hb
    have le2 := cf_len_le ns _ nd fun b hb => (mem b).mp (by simpa using hb)
    simp only [List.length_map, Array.length_toList] at le1 le2
    exact Nat.le_antisymm le1 le2
  exact call_len_set ho ex hd fit (by omega) ⟨.int ns.length, H, (I.kept (t' := tk) k).tok _, ⟨_, by rw [all]⟩, q⟩
def tLenSetT (K : PySem.W.Frag) (ta : TE) : TE := fun σ H Q => ta σ H fun x H1 => ∃ (l : Addr) (ns : List Int), x = .ref l ∧ SqT K H1 l (ns.map V.int) ∧ ns.Nodup ∧ ns.length ≤ 4000 ∧ Q (.int (ns.length : Nat)) H1
theorem pe_lenSetT {X : Cx} {a : Expr} {ta : TE} {p p2 q pos : Pos} (hg : Gl X "len") (hm : X.mg "len" = none) (hg2 : Gl X "set") (hm2 : X.mg "set" = none) (ha : PE X a ta) (calm : X.calm = true := by rfl)
    (one : starEach [a] X.env = [(false, eval a X.env)] := by rfl) : PE X (.Call (.Name "len" p) [.Call (.Name "set" p2) [a] [] q] [] pos) (tLenSetT X.K ta) where
  run pins s σ H Q I h := by
    refine cf_fun1 I hg hm boot_len (by decide) (by decide) rfl (cf_type1 I hg2 hm2 boot_set (by decide) (by decide) one (thn (ha.run pins s σ H _ I h) ?_))
    rintro v s1 ⟨_, H1, I1, r, l, ns, rfl, hq, nd, few, z⟩
    obtain rfl : v = .ref l := r
    exact cf_len_set I1 calm hq nd few z
end L2

/-! Chipfloor k10: the plain mathematics (no program in sight). -/
namespace CF

structure Sp4 where
  x : Int
  y : Int
  w : Int
  h : Int
  deriving DecidableEq

/-- two spots have a common inner point -/
def ovl (a b : Sp4) : Bool := (decide (a.x < b.x + b.w) && decide (b.x < a.x + a.w)) && (decide (a.y < b.y + b.h) && decide (b.y < a.y + a.h))
/-- one must stand ahead of another in the first (z) or second order -/
def ahead (z : Bool) (a b : Sp4) : Bool :=
  (decide (a.x + a.w ≤ b.x) || (if z then decide (b.y + b.h ≤ a.y) else decide (a.y + a.h ≤ b.y))) &&
    ((!decide (b.x + b.w ≤ a.x)) && (!(if z then decide (a.y + a.h ≤ b.y) else decide (b.y + b.h ≤ a.y))))

theorem ovl_false {a b : Sp4} (h : ovl a b = false) : b.x + b.w ≤ a.x ∨ a.x + a.w ≤ b.x ∨ b.y + b.h ≤ a.y ∨ a.y + a.h ≤ b.y := by
  unfold ovl at h
  simp only [Bool.and_eq_false_iff, decide_eq_false_iff_not] at h
  omega
theorem ovl_of {a b : Sp4} (h : b.x + b.w ≤ a.x ∨ a.x + a.w ≤ b.x ∨ b.y + b.h ≤ a.y ∨ a.y + a.h ≤ b.y) : ovl a b = false := by
  unfold ovl
  simp only [Bool.and_eq_false_iff, decide_eq_false_iff_not]
  omega
theorem ovl_symm {a b : Sp4} : ovl a b = ovl b a := by
  unfold ovl
  rw [Bool.and_comm (decide (a.x < b.x + b.w)), Bool.and_comm (decide (a.y < b.y + b.h))]

theorem exists_min (l : List Nat) (P : Nat → Prop) (g : Nat → Int) : (∃ i, i ∈ l ∧ P i) → ∃ i, i ∈ l ∧ P i ∧ ∀ j, j ∈ l → P j → g i ≤ g j := by
  induction l with
  | nil =>
    rintro ⟨i, h, _⟩
    cases h
  | cons a r ih =>
    rintro ⟨i, hi, pi⟩
    by_cases hr : ∃ i, i ∈ r ∧ P i
    · obtain ⟨m, hm, pm, le⟩ := ih hr
      by_cases ha : P a ∧ g a ≤ g m
      · refine ⟨a, List.mem_cons_self, ha.1, fun j hj pj => ?_⟩
        rcases List.mem_cons.mp hj with rfl | hj
        · exact Int.le_refl _
        · exact Int.le_trans ha.2 (le j hj pj)
      · refine ⟨m, List.mem_cons_of_mem _ hm, pm, fun j hj pj => ?_⟩
        rcases List.mem_cons.mp hj with rfl | hj
        · have : ¬ g j ≤ g m := fun q => ha ⟨pj, q⟩
          omega
        · exact le j hj pj
    · rcases List.mem_cons.mp hi with rfl | hi
      · refine ⟨i, List.mem_cons_self, pi, fun j hj pj => ?_⟩
        rcases List.mem_cons.mp hj with rfl | hj
        · exact Int.le_refl _
        · exact absurd ⟨j, hj, pj⟩ hr
      · exact absurd ⟨i, hi, pi⟩ hr

/-- among spots of which no two overlap there is one that nobody must stand ahead of (the first order) -/
theorem min_true (f : Nat → Sp4) (l : List Nat) (hne : ∃ i, i ∈ l) (pos : ∀ i, i ∈ l → 0 < (f i).w ∧ 0 < (f i).h)
    (dis : ∀ i, i ∈ l → ∀ j, j ∈ l → i ≠ j → ovl (f i) (f j) = false) : ∃ i, i ∈ l ∧ ∀ j, j ∈ l → j ≠ i → ahead true (f j) (f i) = false := by
  -- no spot of l is ahead of m by standing left of it
  let T : Nat → Prop := fun m => ∀ j, j ∈ l → j ≠ m → ¬ ((f j).x + (f j).w ≤ (f m).x ∧ ¬ (f j).y + (f j).h ≤ (f m).y)
  have hT : ∃ m, m ∈ l ∧ T m := by
    obtain ⟨m, hm, _, le⟩ := exists_min l (fun _ => True) (fun i => (f i).x) (let ⟨i, hi⟩ := hne; ⟨i, hi, trivial⟩)
    refine ⟨m, hm, fun j hj _ hh => ?_⟩
    have h1 := le j hj trivial
    have h2 := pos j hj
    omega
  obtain ⟨m, hm, tm, mx⟩ := exists_min l T (fun i => - (f i).y) hT
  refine ⟨m, hm, fun j hj hjm => ?_⟩
  cases ha : ahead true (f j) (f m) with
  | false => rfl
  | true =>
    exfalso
    obtain ⟨p, hp, ⟨hpm, pa⟩, pmin⟩ := exists_min l (fun i => i ≠ m ∧ ahead true (f i) (f m) = true) (fun i => (f i).x) ⟨j, hj, hjm, ha⟩
    have un : ∀ {a b : Sp4}, ahead true a b = true ↔ (a.x + a.w ≤ b.x ∨ b.y + b.h ≤ a.y) ∧ ¬ b.x + b.w ≤ a.x ∧ ¬ a.y + a.h ≤ b.y := fun {a b} => by
      unfold ahead
      simp
    have hpa := un.mp pa
    have tmp := tm p hp hpm
    have pm := pos m hm
    have pp := pos p hp
    have hpT : T p := by
      intro d hd hdp hh
      have pd := pos d hd
      by_cases hdm : d = m
      · subst hdm
        omega
      · have tmd := tm d hd hdm
        have ov := ovl_false (dis d hd m hm hdm)
        by_cases hda : ahead true (f d) (f m) = true
        · have := pmin d hd ⟨hdm, hda⟩
          omega
        · have hnd : ¬ (((f d).x + (f d).w ≤ (f m).x ∨ (f m).y + (f m).h ≤ (f d).y) ∧ ¬ (f m).x + (f m).w ≤ (f d).x ∧ ¬ (f d).y + (f d).h ≤ (f m).y) := fun q => hda (un.mpr q)
          omega
    have := mx p hp hpT
    omega

/-- the floor upside down -/
def flip (a : Sp4) : Sp4 := ⟨a.x, - (a.y + a.h), a.w, a.h⟩
theorem ahead_flip (a b : Sp4) : ahead true (flip a) (flip b) = ahead false a b := by
  have e1 : decide ((flip b).y + (flip b).h ≤ (flip a).y) = decide (a.y + a.h ≤ b.y) := by
    show decide (- (b.y + b.h) + b.h ≤ - (a.y + a.h)) = _
    exact decide_eq_decide.mpr (by omega)
  have e2 : decide ((flip a).y + (flip a).h ≤ (flip b).y) = decide (b.y + b.h ≤ a.y) := by
    show decide (- (a.y + a.h) + a.h ≤ - (b.y + b.h)) = _
    exact decide_eq_decide.mpr (by omega)
  unfold ahead
  simp only [if_true, if_false, Bool.false_eq_true]
  rw [e1, e2]
  rfl
theorem min_any (z : Bool) (f : Nat → Sp4) (l : List Nat) (hne : ∃ i, i ∈ l) (pos : ∀ i, i ∈ l → 0 < (f i).w ∧ 0 < (f i).h)
    (dis : ∀ i, i ∈ l → ∀ j, j ∈ l → i ≠ j → ovl (f i) (f j) = false) : ∃ i, i ∈ l ∧ ∀ j, j ∈ l → j ≠ i → ahead z (f j) (f i) = false := by
  cases z with
  | true => exact min_true f l hne pos dis
  | false =>
    obtain ⟨i, hi, hh⟩ := min_true (fun i => flip (f i)) l hne pos (fun i hi j hj hij => by
      have := ovl_false (dis i hi j hj hij)
      refine ovl_of ?_
      show (f j).x + (f j).w ≤ (f i).x ∨ (f i).x + (f i).w ≤ (f j).x ∨ - ((f j).y + (f j).h) + (f j).h ≤ - ((f i).y + (f i).h) ∨ - ((f i).y + (f i).h) + (f i).h ≤ - ((f j).y + (f j).h)
      omega)
    exact ⟨i, hi, fun j hj hji => by rw [← ahead_flip]; exact hh j hj hji⟩

/-- one is ahead of the other, or they stand apart: what two orders tell of two spots -/
theorem left_of {a b : Sp4} (pa : 0 < a.w ∧ 0 < a.h) (pb : 0 < b.w ∧ 0 < b.h) (ov : ovl a b = false) (h1 : ahead true b a = false) (h2 : ahead false b a = false) : a.x + a.w ≤ b.x := by
  have h1' : ¬ ahead true b a = true := by rw [h1]; decide
  have h2' : ¬ ahead false b a = true := by rw [h2]; decide
  unfold ahead at h1' h2'
  simp at h1' h2'
  have := ovl_false ov
  omega
theorem below_of {a b : Sp4} (pa : 0 < a.w ∧ 0 < a.h) (pb : 0 < b.w ∧ 0 < b.h) (ov : ovl a b = false) (h1 : ahead true a b = false) (h2 : ahead false b a = false) : a.y + a.h ≤ b.y := by
  have h1' : ¬ ahead true a b = true := by rw [h1]; decide
  have h2' : ¬ ahead false b a = true := by rw [h2]; decide
  unfold ahead at h1' h2'
  simp at h1' h2'
  have := ovl_false ov
  omega

/-! ### orders -/
/-- a list of all numbers below n -/
structure Perm (n : Nat) (l : List Nat) : Prop where
  nd : l.Nodup
  lt : ∀ a, a ∈ l → a < n
  len : l.length = n
theorem nd_len : ∀ {l m : List Nat}, l.Nodup → (∀ a, a ∈ l → a ∈ m) → l.length ≤ m.length
  | [], m, _, _ => Nat.zero_le _
  | a :: r, m, h, s => by
    obtain ⟨h1, h2⟩ := List.nodup_cons.mp h
    have ha : a ∈ m := s a List.mem_cons_self
    have ih := nd_len (l := r) (m := m.erase a) h2 fun b hb => (List.mem_erase_of_ne (fun e : b = a => h1 (by rw [← e]; exact hb))).mpr (s b (List.mem_cons_of_mem _ hb))
    rw [List.length_erase_of_mem ha] at ih
    have : 0 < m.length := List.length_pos_of_mem ha
    rw [List.length_cons]
    omega
theorem Perm.mem {n : Nat} {l : List Nat} (p : Perm n l) {a : Nat} (h : a < n) : a ∈ l := by
  by_cases hm : a ∈ l
  · exact hm
  · have q := nd_len (l := a :: l) (m := List.range n) (List.nodup_cons.mpr ⟨hm, p.nd⟩) fun b hb => by
      rcases List.mem_cons.mp hb with rfl | hb
      · exact List.mem_range.mpr h
      · exact List.mem_range.mpr (p.lt b hb)
    rw [List.length_cons, List.length_range, p.len] at q
    omega

/-! ### places in an order -/
theorem ix_lt {l : List Nat} {a : Nat} (h : a ∈ l) : l.idxOf a < l.length := List.idxOf_lt_length_iff.mpr h
theorem ix_get {l : List Nat} {a : Nat} (h : a ∈ l) : l[l.idxOf a]? = some a := by
  rw [List.getElem?_eq_getElem (ix_lt h), List.getElem_idxOf]
theorem ix_of {l : List Nat} (nd : l.Nodup) {i a : Nat} (h : l[i]? = some a) : l.idxOf a = i := by
  have hm := List.mem_of_getElem? h
  have h2 := ix_get hm
  obtain ⟨q1, e1⟩ := List.getElem?_eq_some_iff.mp h
  obtain ⟨q2, e2⟩ := List.getElem?_eq_some_iff.mp h2
  exact ((List.getElem_inj nd).mp (e1.trans e2.symm)).symm
theorem mem_take {l : List Nat} (nd : l.Nodup) {a i : Nat} (h : a ∈ l) : a ∈ l.take i ↔ l.idxOf a < i := by
  constructor
  · intro q
    obtain ⟨j, e⟩ := List.mem_iff_getElem?.mp q
    rw [List.getElem?_take] at e
    split at e
    · rw [ix_of nd e]; assumption
    · cases e
  · intro q
    refine List.mem_iff_getElem?.mpr ⟨l.idxOf a, ?_⟩
    rw [List.getElem?_take, if_pos q]
    exact ix_get h
theorem ix_inj {l : List Nat} {a b : Nat} (ha : a ∈ l) (hb : b ∈ l) (e : l.idxOf a = l.idxOf b) : a = b := by
  have h1 := ix_get ha
  have h2 := ix_get hb
  rw [e, h2] at h1
  exact (Option.some.inj h1).symm

/-- what sorted_by has found -/
structure Srt (z : Bool) (f : Nat → Sp4) (n : Nat) (l : List Nat) : Prop where
  nd : l.Nodup
  lt : ∀ a, a ∈ l → a < n
  ord : ∀ i a, l[i]? = some a → ∀ b, b < n → b ≠ a → b ∉ l.take i → ahead z (f b) (f a) = false
theorem Srt.nil {z : Bool} {f : Nat → Sp4} {n : Nat} : Srt z f n [] := ⟨List.nodup_nil, (fun _ h => by cases h), fun i a h => by simp at h⟩
theorem Srt.snoc {z : Bool} {f : Nat → Sp4} {n : Nat} {l : List Nat} {c : Nat} (s : Srt z f n l) (hc : c < n) (hn : c ∉ l) (h : ∀ b, b < n → b ∉ l → b ≠ c → ahead z (f b) (f c) = false) : Srt z f n (l ++ [c]) := by
  refine ⟨?_, fun a ha => ?_, fun i a hi b hb hba hbt => ?_⟩
  · refine List.nodup_append.mpr ⟨s.nd, by simp, fun a ha b hb => ?_⟩
    rw [List.mem_singleton] at hb
    subst hb
    exact fun e => hn (e ▸ ha)
  · rcases List.mem_append.mp ha with ha | ha
    · exact s.lt a ha
    · rw [List.mem_singleton] at ha; rw [ha]; exact hc
  · by_cases hil : i < l.length
    · rw [List.getElem?_append_left hil] at hi
      refine s.ord i a hi b hb hba fun q => hbt ?_
      rw [List.take_append_of_le_length (Nat.le_of_lt hil)]
      exact q
    · obtain ⟨q, _⟩ := List.getElem?_eq_some_iff.mp hi
      rw [List.length_append, List.length_singleton] at q
      have ei : i = l.length := by omega
      subst ei
      rw [List.getElem?_append_right (Nat.le_refl _), Nat.sub_self] at hi
      have ea : c = a := Option.some.inj hi
      subst ea
      refine h b hb (fun q => hbt ?_) hba
      rw [List.take_append_of_le_length (Nat.le_refl _), List.take_length]
      exact q
theorem Srt.perm {z : Bool} {f : Nat → Sp4} {n : Nat} {l : List Nat} (s : Srt z f n l) (h : l.length = n) : Perm n l := ⟨s.nd, s.lt, h⟩
theorem Srt.short {z : Bool} {f : Nat → Sp4} {n : Nat} {l : List Nat} (s : Srt z f n l) : l.length ≤ n := by
  have := nd_len (m := List.range n) s.nd fun a ha => List.mem_range.mpr (s.lt a ha)
  rwa [List.length_range] at this
/-- in a whole order: who stands later needn't stand ahead -/
theorem Srt.late {z : Bool} {f : Nat → Sp4} {n : Nat} {l : List Nat} (s : Srt z f n l) (h : l.length = n) {a b : Nat} (ha : a < n) (hb : b < n) (hab : l.idxOf a < l.idxOf b) : ahead z (f b) (f a) = false := by
  have p := s.perm h
  refine s.ord (l.idxOf a) a (ix_get (p.mem ha)) b hb (fun e => by rw [e] at hab; omega) fun q => ?_
  have := (mem_take s.nd (p.mem hb)).mp q
  omega

/-! ### least places -/
/-- X: each block at the least place of at least 0 behind those that R tells to be ahead of it -/
structure LP (n : Nat) (R : Nat → Nat → Prop) (w X : Nat → Int) : Prop where
  nn : ∀ b, b < n → 0 ≤ X b
  sup : ∀ b, b < n → ∀ a, a < n → R a b → X a + w a ≤ X b
  tight : ∀ b, b < n → X b = 0 ∨ ∃ a, a < n ∧ R a b ∧ X b = X a + w a
theorem LP.le {n : Nat} {R : Nat → Nat → Prop} {q : Nat → Nat} {w X Z : Nat → Int} (hq : ∀ a b, a < n → b < n → R a b → q a < q b) (h : LP n R w X) (zn : ∀ b, b < n → 0 ≤ Z b) (zs : ∀ b, b < n → ∀ a, a < n → R a b → Z a + w a ≤ Z b) :
    ∀ b, b < n → X b ≤ Z b := by
  have key : ∀ (k b : Nat), q b < k → b < n → X b ≤ Z b := by
    intro k
    induction k with
    | zero => intro b hb; omega
    | succ k ih =>
      intro b hk hb
      rcases h.tight b hb with e | ⟨a, ha, r, e⟩
      · rw [e]; exact zn b hb
      · have h1 := hq a b ha hb r
        have h2 := ih a (by omega) ha
        have h3 := zs b hb a ha r
        omega
  exact fun b hb => key (q b + 1) b (Nat.lt_succ_self _) hb
theorem LP.uniq {n : Nat} {R : Nat → Nat → Prop} {q : Nat → Nat} {w X Y : Nat → Int} (hq : ∀ a b, a < n → b < n → R a b → q a < q b) (h : LP n R w X) (h' : LP n R w Y) (b : Nat) (hb : b < n) : X b = Y b :=
  Int.le_antisymm (h.le hq h'.nn h'.sup b hb) (h'.le hq h.nn h.sup b hb)
theorem LP.bound {n : Nat} {R : Nat → Nat → Prop} {q : Nat → Nat} {w X : Nat → Int} {M : Int} (hq : ∀ a b, a < n → b < n → R a b → q a < q b) (h : LP n R w X) (hM : 0 ≤ M) (hw : ∀ a, a < n → w a ≤ M) (b : Nat) (hb : b < n) : X b ≤ M * (q b : Int) := by
  refine h.le (Z := fun c => M * (q c : Int)) hq (fun c _ => Int.mul_nonneg hM (Int.natCast_nonneg _)) (fun c hc a ha r => ?_) b hb
  have h1 := hq a c ha hc r
  have h2 := hw a ha
  have h3 : M * ((q a : Int) + 1) ≤ M * (q c : Int) := Int.mul_le_mul_of_nonneg_left (by omega) hM
  rw [Int.mul_add, Int.mul_one] at h3
  show M * (q a : Int) + w a ≤ M * (q c : Int)
  omega

/-- left of: ahead in both orders; below: ahead in the second one alone -/
def RL (p q : List Nat) (a b : Nat) : Prop := q.idxOf a < q.idxOf b ∧ p.idxOf a < p.idxOf b
def RB (p q : List Nat) (a b : Nat) : Prop := q.idxOf a < q.idxOf b ∧ ¬ p.idxOf a < p.idxOf b
instance {p q : List Nat} {a b : Nat} : Decidable (RL p q a b) := by unfold RL; infer_instance
instance {p q : List Nat} {a b : Nat} : Decidable (RB p q a b) := by unfold RB; infer_instance
theorem RL.q {n : Nat} {p q : List Nat} : ∀ a b, a < n → b < n → RL p q a b → q.idxOf a < q.idxOf b := fun _ _ _ _ h => h.1
theorem RB.q {n : Nat} {p q : List Nat} : ∀ a b, a < n → b < n → RB p q a b → q.idxOf a < q.idxOf b := fun _ _ _ _ h => h.1
theorem total {n : Nat} {p q : List Nat} (hp : Perm n p) (hq : Perm n q) {a b : Nat} (ha : a < n) (hb : b < n) (h : a ≠ b) : RL p q a b ∨ RL p q b a ∨ RB p q a b ∨ RB p q b a := by
  have h1 : p.idxOf a ≠ p.idxOf b := fun e => h (ix_inj (hp.mem ha) (hp.mem hb) e)
  have h2 : q.idxOf a ≠ q.idxOf b := fun e => h (ix_inj (hq.mem ha) (hq.mem hb) e)
  unfold RL RB
  omega

/-- what two orders tell: widths, heights, the least places -/
structure Pack (n : Nat) (p q : List Nat) (w h X Y : Nat → Int) : Prop where
  lx : LP n (RL p q) w X
  ly : LP n (RB p q) h Y
theorem Pack.uniq {n : Nat} {p q : List Nat} {w h X Y X' Y' : Nat → Int} (k : Pack n p q w h X Y) (k' : Pack n p q w h X' Y') (b : Nat) (hb : b < n) : X b = X' b ∧ Y b = Y' b :=
  ⟨k.lx.uniq (q := q.idxOf) RL.q k'.lx b hb, k.ly.uniq (q := q.idxOf) RB.q k'.ly b hb⟩
/-- spots by their places (times m) and sizes: no two overlap -/
theorem Pack.apart {n : Nat} {p q : List Nat} {w h X Y : Nat → Int} (hp : Perm n p) (hq : Perm n q) (k : Pack n p q w h X Y) {m : Int} (hm : 1 ≤ m) (hw : ∀ a, a < n → 0 < w a ∧ 0 < h a) {a b : Nat} (ha : a < n) (hb : b < n) (hab : a ≠ b) :
    ovl ⟨m * X a, m * Y a, w a, h a⟩ ⟨m * X b, m * Y b, w b, h b⟩ = false := by
  have mul : ∀ {u v s : Int}, 0 < s → u + s ≤ v → m * u + s ≤ m * v := fun {u v s} hs hh => by
    have h1 : m * (u + s) ≤ m * v := Int.mul_le_mul_of_nonneg_left hh (by omega)
    have h2 : 1 * s ≤ m * s := Int.mul_le_mul_of_nonneg_right hm (by omega)
    rw [Int.mul_add] at h1
    omega
  refine ovl_of ?_
  show m * X b + w b ≤ m * X a ∨ m * X a + w a ≤ m * X b ∨ m * Y b + h b ≤ m * Y a ∨ m * Y a + h a ≤ m * Y b
  rcases total hp hq ha hb hab with r | r | r | r
  · exact .inr (.inl (mul (hw a ha).1 (k.lx.sup b hb a ha r)))
  · exact .inl (mul (hw b hb).1 (k.lx.sup a ha b hb r))
  · exact .inr (.inr (.inr (mul (hw a ha).2 (k.ly.sup b hb a ha r))))
  · exact .inr (.inr (.inl (mul (hw b hb).2 (k.ly.sup a ha b hb r))))
/-- THE LAW: packed by the orders that were found, no block is further to the right or up -/
theorem Pack.law {n : Nat} {p q : List Nat} {f : Nat → Sp4} {X Y : Nat → Int} (sp : Srt true f n p) (sq : Srt false f n q) (lp : p.length = n) (lq : q.length = n)
    (pos : ∀ a, a < n → 0 < (f a).w ∧ 0 < (f a).h ∧ 0 ≤ (f a).x ∧ 0 ≤ (f a).y) (dis : ∀ a, a < n → ∀ b, b < n → a ≠ b → ovl (f a) (f b) = false)
    (k : Pack n p q (fun a => (f a).w) (fun a => (f a).h) X Y) (b : Nat) (hb : b < n) : X b ≤ (f b).x ∧ Y b ≤ (f b).y := by
  refine ⟨k.lx.le (q := q.idxOf) (Z := fun a => (f a).x) RL.q (fun a ha => (pos a ha).2.2.1) (fun b hb a ha r => ?_) b hb, k.ly.le (q := q.idxOf) (Z := fun a => (f a).y) RB.q (fun a ha => (pos a ha).2.2.2) (fun b hb a ha r => ?_) b hb⟩
  · have hab : a ≠ b := fun e => by subst e; exact absurd r.1 (Nat.lt_irrefl _)
    have p1 := pos a ha
    have p2 := pos b hb
    exact left_of ⟨p1.1, p1.2.1⟩ ⟨p2.1, p2.2.1⟩ (dis a ha b hb hab) (sp.late lp ha hb r.2) (sq.late lq ha hb r.1)
  · have hab : a ≠ b := fun e => by subst e; exact absurd r.1 (Nat.lt_irrefl _)
    have p1 := pos a ha
    have p2 := pos b hb
    have h2 : p.idxOf b < p.idxOf a := by
      have h1 : p.idxOf a ≠ p.idxOf b := fun e => hab (ix_inj ((sp.perm lp).mem ha) ((sp.perm lp).mem hb) e)
      have := r.2
      omega
    exact below_of ⟨p1.1, p1.2.1⟩ ⟨p2.1, p2.2.1⟩ (dis a ha b hb hab) (sp.late lp hb ha h2) (sq.late lq ha hb r.1)

/-! ### pushed step by step -/
def upF (X : Nat → Int) (b : Nat) (v : Int) : Nat → Int := fun c => if c = b then v else X c
theorem upF_same {X : Nat → Int} {b : Nat} {v : Int} : upF X b v b = v := if_pos rfl
theorem upF_ne {X : Nat → Int} {b c : Nat} {v : Int} (h : c ≠ b) : upF X b v c = X c := if_neg h
theorem map_set {X : Nat → Int} {b : Nat} {v : Int} (n : Nat) : ((List.range n).map X).set b v = (List.range n).map (upF X b v) := by
  refine List.ext_getElem? fun i => ?_
  rw [List.getElem?_set, List.getElem?_map, List.getElem?_map, List.length_map, List.length_range]
  by_cases hi : i < n
  · rw [List.getElem?_eq_getElem (by rw [List.length_range]; exact hi), List.getElem_range]
    by_cases e : b = i
    · subst e
      rw [if_pos rfl, if_pos hi, Option.map_some, upF_same]
    · rw [if_neg e, Option.map_some, Option.map_some, upF_ne (fun z => e z.symm)]
  · rw [List.getElem?_eq_none (by rw [List.length_range]; omega)]
    by_cases e : b = i
    · subst e
      rw [if_pos rfl, if_neg hi]
      rfl
    · rw [if_neg e]
      rfl
/-- one pair pushed -/
def relax (R : Nat → Nat → Prop) [∀ a b, Decidable (R a b)] (w X : Nat → Int) (a b : Nat) : Nat → Int := if R a b then upF X b (max (X b) (X a + w a)) else X
/-- round t, all pairs (a, b) with a < i done, and those with a = i, b < j -/
structure Rnd (n : Nat) (q : Nat → Nat) (R : Nat → Nat → Prop) (w X : Nat → Int) (t i j : Nat) : Prop where
  sat : ∀ b, b < n → q b < t → ∀ a, a < n → R a b → X a + w a ≤ X b
  nn : ∀ b, b < n → 0 ≤ X b
  snd : ∀ b, b < n → X b = 0 ∨ ∃ a, a < n ∧ R a b ∧ X b ≤ X a + w a
  part : ∀ b, b < n → q b = t → ∀ a, a < n → R a b → (a < i ∨ (a = i ∧ b < j)) → X a + w a ≤ X b
section
variable {n : Nat} {q : Nat → Nat} {R : Nat → Nat → Prop} [∀ a b, Decidable (R a b)] {w X : Nat → Int} {t i j : Nat}
theorem Rnd.start : Rnd n q R w (fun _ => 0) 0 0 0 := ⟨fun b _ h => absurd h (Nat.not_lt_zero _), fun _ _ => Int.le_refl _, fun _ _ => .inl rfl, fun b _ _ a _ _ h => by omega⟩
theorem Rnd.step (hq : ∀ a b, a < n → b < n → R a b → q a < q b) (h : Rnd n q R w X t i j) (hi : i < n) (hj : j < n) : Rnd n q R w (relax R w X i j) t i (j + 1) := by
  unfold relax
  by_cases r : R i j
  · rw [if_pos r]
    have qij := hq i j hi hj r
    have mono : ∀ c, X c ≤ upF X j (max (X j) (X i + w i)) c := fun c => by
      by_cases e : c = j
      · subst e; rw [upF_same]; exact Int.le_max_left _ _
      · rw [upF_ne e]; exact Int.le_refl _
    have stay : ∀ c, c < n → q c < q j → upF X j (max (X j) (X i + w i)) c = X c := fun c _ hc => upF_ne fun e => by subst e; exact absurd hc (Nat.lt_irrefl _)
    -- the blocks that are done stay
    have done : ∀ b, b < n → q b < t → upF X j (max (X j) (X i + w i)) b = X b := fun b hb hbt => by
      by_cases e : b = j
      · subst e
        rw [upF_same]
        have := h.sat b hb hbt i hi r
        omega
      · exact upF_ne e
    refine ⟨fun b hb hbt a ha ra => ?_, fun b hb => Int.le_trans (h.nn b hb) (mono b), fun b hb => ?_, fun b hb hbt a ha ra hx => ?_⟩
    · have qa := hq a b ha hb ra
      rw [done b hb hbt, done a ha (by omega)]
      exact h.sat b hb hbt a ha ra
    · by_cases e : b = j
      · subst e
        rw [upF_same]
        have e2 := stay i hi qij
        rcases h.snd b hb with z | ⟨a, ha, ra, z⟩
        · by_cases hc : X b ≤ X i + w i
          · refine .inr ⟨i, hi, r, ?_⟩
            rw [e2]
            omega
          · left
            omega
        · by_cases hc : X b ≤ X i + w i
          · refine .inr ⟨i, hi, r, ?_⟩
            rw [e2]
            omega
          · refine .inr ⟨a, ha, ra, ?_⟩
            have := mono a
            omega
      · rw [upF_ne e]
        rcases h.snd b hb with z | ⟨a, ha, ra, z⟩
        · exact .inl z
        · refine .inr ⟨a, ha, ra, ?_⟩
          have := mono a
          omega
    · have qa := hq a b ha hb ra
      rw [done a ha (by omega)]
      by_cases e : a = i ∧ b = j
      · obtain ⟨rfl, rfl⟩ := e
        rw [upF_same]
        exact Int.le_max_right _ _
      · have := h.part b hb hbt a ha ra (by omega)
        have := mono b
        omega
  · rw [if_neg r]
    refine ⟨h.sat, h.nn, h.snd, fun b hb hbt a ha ra hx => h.part b hb hbt a ha ra ?_⟩
    by_cases e : a = i ∧ b = j
    · obtain ⟨rfl, rfl⟩ := e
      exact absurd ra r
    · omega
theorem Rnd.row (h : Rnd n q R w X t i n) : Rnd n q R w X t (i + 1) 0 := ⟨h.sat, h.nn, h.snd, fun b hb hbt a ha ra hx => h.part b hb hbt a ha ra (by omega)⟩
theorem Rnd.round (h : Rnd n q R w X t n 0) : Rnd n q R w X (t + 1) 0 0 := by
  refine ⟨fun b hb hbt a ha ra => ?_, h.nn, h.snd, fun b _ _ a _ _ hx => by omega⟩
  by_cases e : q b < t
  · exact h.sat b hb e a ha ra
  · exact h.part b hb (by omega) a ha ra (.inl ha)
theorem Rnd.lp (hl : ∀ b, b < n → q b < n) (h : Rnd n q R w X n 0 0) : LP n R w X := by
  refine ⟨h.nn, fun b hb a ha r => h.sat b hb (hl b hb) a ha r, fun b hb => ?_⟩
  rcases h.snd b hb with z | ⟨a, ha, r, z⟩
  · exact .inl z
  · refine .inr ⟨a, ha, r, ?_⟩
    have := h.sat b hb (hl b hb) a ha r
    omega
end

/-! ### one block after another, by the second order -/
/-- the first i blocks of the second order stand -/
structure Got (n : Nat) (q : List Nat) (R : Nat → Nat → Prop) (w X : Nat → Int) (i : Nat) : Prop where
  nn : ∀ b, b < n → q.idxOf b < i → 0 ≤ X b
  sup : ∀ b, b < n → q.idxOf b < i → ∀ a, a < n → R a b → X a + w a ≤ X b
  tight : ∀ b, b < n → q.idxOf b < i → X b = 0 ∨ ∃ a, a < n ∧ R a b ∧ X b = X a + w a
theorem Got.start {n : Nat} {q : List Nat} {R : Nat → Nat → Prop} {w X : Nat → Int} : Got n q R w X 0 := ⟨fun _ _ h => absurd h (Nat.not_lt_zero _), fun _ _ h => absurd h (Nat.not_lt_zero _), fun _ _ h => absurd h (Nat.not_lt_zero _)⟩
theorem Got.step {n : Nat} {q : List Nat} {R : Nat → Nat → Prop} {w X : Nat → Int} {i c : Nat} {m : Int} (hR : ∀ a b, a < n → b < n → R a b → q.idxOf a < q.idxOf b) (hc : c < n) (hi : q.idxOf c = i) (hall : ∀ b, b < n → b ∈ q) (h : Got n q R w X i)
    (m0 : 0 ≤ m) (ms : ∀ a, a < n → R a c → X a + w a ≤ m) (mt : m = 0 ∨ ∃ a, a < n ∧ R a c ∧ m = X a + w a) : Got n q R w (upF X c m) (i + 1) := by
  have old : ∀ a, q.idxOf a < i → upF X c m a = X a := fun a ha => upF_ne fun e => by subst e; omega
  have same : ∀ b, b < n → q.idxOf b < i + 1 → ¬ q.idxOf b < i → b = c := fun b hb h1 h2 => ix_inj (hall b hb) (hall c hc) (by omega)
  refine ⟨fun b hb hbi => ?_, fun b hb hbi a ha r => ?_, fun b hb hbi => ?_⟩
  · by_cases e : q.idxOf b < i
    · rw [old b e]; exact h.nn b hb e
    · rw [same b hb hbi e, upF_same]; exact m0
  · have ra := hR a b ha hb r
    rw [old a (by omega)]
    by_cases e : q.idxOf b < i
    · rw [old b e]; exact h.sup b hb e a ha r
    · have := same b hb hbi e
      subst this
      rw [upF_same]; exact ms a ha r
  · by_cases e : q.idxOf b < i
    · rw [old b e]
      rcases h.tight b hb e with z | ⟨a, ha, r, z⟩
      · exact .inl z
      · exact .inr ⟨a, ha, r, by rw [old a (by have := hR a b ha hb r; omega)]; exact z⟩
    · have := same b hb hbi e
      subst this
      rw [upF_same]
      rcases mt with z | ⟨a, ha, r, z⟩
      · exact .inl z
      · exact .inr ⟨a, ha, r, by rw [old a (by have := hR a b ha hb r; omega)]; exact z⟩
theorem Got.lp {n : Nat} {q : List Nat} {R : Nat → Nat → Prop} {w X : Nat → Int} (hq : Perm n q) (h : Got n q R w X n) : LP n R w X := by
  have hl : ∀ b, b < n → q.idxOf b < n := fun b hb => by
    have := ix_lt (hq.mem hb)
    rw [hq.len] at this
    exact this
  exact ⟨fun b hb => h.nn b hb (hl b hb), fun b hb => h.sup b hb (hl b hb), fun b hb => h.tight b hb (hl b hb)⟩
end CF

namespace CF
open PySem PySem.Spec PyProof.Rows L2 Evl
def topS (i : Nat) : Stmt := PySem.Challenge.pw_chipfloor_k10_whole_orders_of_packings.main.body.getD i (.Pass ⟨0, 0, 0, 0⟩)
abbrev sIsInt : Stmt := topS 1
abbrev sIsIn : Stmt := topS 2
abbrev sIsList : Stmt := topS 3
abbrev sIsSize : Stmt := topS 12
abbrev sNeedSizes : Stmt := topS 15
abbrev sIsSpot : Stmt := topS 16
abbrev sOverlap : Stmt := topS 17
abbrev sNeedPacking : Stmt := topS 18
abbrev sIsOrder : Stmt := topS 19
abbrev sNeedOrders : Stmt := topS 20
abbrev sPackedIn : Stmt := topS 21
abbrev sPacked : Stmt := topS 22
abbrev sRelation : Stmt := topS 23
abbrev sIsAhead : Stmt := topS 24
abbrev sSortedBy : Stmt := topS 25
abbrev sOrdersOf : Stmt := topS 26
abbrev sTaken : Stmt := topS 28
abbrev sLSizes : Stmt := topS 29
abbrev sLOrder : Stmt := topS 30
abbrev sLOverlap : Stmt := topS 31
abbrev sLPacked : Stmt := topS 32
abbrev sLSpots : Stmt := topS 33
abbrev sLaw : Stmt := topS 34
abbrev nIsInt : List Str := ["value"]
abbrev nIsIn : List Str := ["value", "least", "most"]
abbrev nIsSize : List Str := ["value", "side"]
abbrev nNeedSizes : List Str := ["sizes", "index", "size"]
abbrev nIsSpot : List Str := ["value", "part"]
abbrev nOverlap : List Str := ["one", "other", "across"]
abbrev nNeedPacking : List Str := ["spots", "index", "spot", "other"]
abbrev nIsOrder : List Str := ["value", "many", "one"]
abbrev nNeedOrders : List Str := ["sizes", "first", "second"]
abbrev nPackedIn : List Str := ["sizes", "first", "second", "at", "block", "ranks", "lefts", "lows", "ahead", "one", "size"]
abbrev nRelation : List Str := ["one", "other", "left", "right"]
abbrev nIsAhead : List Str := ["one", "other", "number", "left", "right", "low", "high", "up", "down"]
abbrev nSortedBy : List Str := ["spots", "number", "found", "at", "left", "other"]
abbrev nTaken : List Str := ["_law_row", "_law_many", "_law_found", "_law_cell"]
abbrev nLSizes : List Str := ["_law_row", "_law_many", "_law_most", "_law_block"]
abbrev nLOrder : List Str := ["_law_row", "_law_many", "_law_left", "_law_found", "_law_turn"]
abbrev nLOverlap : List Str := ["_law_one", "_law_other", "_law_across"]
abbrev nLPacked : List Str := ["_law_sizes_here", "_law_first", "_law_second", "_law_lefts", "_law_lows", "_law_turn", "_law_one", "_law_other", "_law_ahead", "_law_at"]
abbrev nLSpots : List Str := ["_law_row", "_law_many", "_law_most", "_law_sizes_here", "_law_found", "_law_spots_here", "_law_spot", "_law_size", "_law_turn", "_law_place", "_law_fine", "_law_other"]
abbrev nLaw : List Str := ["_law_script", "_law_row", "_law_turn", "_law_spots_here", "_law_first", "_law_second", "_law_sizes_here", "_law_found", "_law_spot", "_law_at"]
theorem scIsInt : FnScope nIsInt ["value"] (defScope sIsInt) := ⟨rfl, rfl, rfl, by decide +kernel, rfl, by decide +kernel, by decide +kernel⟩
theorem scIsIn : FnScope nIsIn ["value", "least", "most"] (defScope sIsIn) := ⟨rfl, rfl, rfl, by decide +kernel, rfl, by decide +kernel, by decide +kernel⟩
theorem scIsList : FnScope nIsIn ["value", "least", "most"] (defScope sIsList) := ⟨rfl, rfl, rfl, by decide +kernel, rfl, by decide +kernel, by decide +kernel⟩
theorem scIsSize : FnScope nIsSize ["value"] (defScope sIsSize) := ⟨rfl, rfl, rfl, by decide +kernel, rfl, by decide +kernel, by decide +kernel⟩
theorem scNeedSizes : FnScope nNeedSizes ["sizes"] (defScope sNeedSizes) := ⟨rfl, rfl, rfl, by decide +kernel, rfl, by decide +kernel, by decide +kernel⟩
theorem scIsSpot : FnScope nIsSpot ["value"] (defScope sIsSpot) := ⟨rfl, rfl, rfl, by decide +kernel, rfl, by decide +kernel, by decide +kernel⟩
theorem scOverlap : FnScope nOverlap ["one", "other"] (defScope sOverlap) := ⟨rfl, rfl, rfl, by decide +kernel, rfl, by decide +kernel, by decide +kernel⟩
theorem scNeedPacking : FnScope nNeedPacking ["spots"] (defScope sNeedPacking) := ⟨rfl, rfl, rfl, by decide +kernel, rfl, by decide +kernel, by decide +kernel⟩
theorem scIsOrder : FnScope nIsOrder ["value", "many"] (defScope sIsOrder) := ⟨rfl, rfl, rfl, by decide +kernel, rfl, by decide +kernel, by decide +kernel⟩
theorem scNeedOrders : FnScope nNeedOrders ["sizes", "first", "second"] (defScope sNeedOrders) := ⟨rfl, rfl, rfl, by decide +kernel, rfl, by decide +kernel, by decide +kernel⟩
theorem scPackedIn : FnScope nPackedIn ["sizes", "first", "second"] (defScope sPackedIn) := ⟨rfl, rfl, rfl, by decide +kernel, rfl, by decide +kernel, by decide +kernel⟩
theorem scPacked : FnScope nNeedOrders ["sizes", "first", "second"] (defScope sPacked) := ⟨rfl, rfl, rfl, by decide +kernel, rfl, by decide +kernel, by decide +kernel⟩
theorem scRelation : FnScope nRelation ["one", "other"] (defScope sRelation) := ⟨rfl, rfl, rfl, by decide +kernel, rfl, by decide +kernel, by decide +kernel⟩
theorem scIsAhead : FnScope nIsAhead ["one", "other", "number"] (defScope sIsAhead) := ⟨rfl, rfl, rfl, by decide +kernel, rfl, by decide +kernel, by decide +kernel⟩
theorem scSortedBy : FnScope nSortedBy ["spots", "number"] (defScope sSortedBy) := ⟨rfl, rfl, rfl, by decide +kernel, rfl, by decide +kernel, by decide +kernel⟩
theorem scOrdersOf : FnScope ["spots"] ["spots"] (defScope sOrdersOf) := ⟨rfl, rfl, rfl, by decide +kernel, rfl, by decide +kernel, by decide +kernel⟩
theorem scTaken : FnScope nTaken ["_law_row", "_law_many"] (defScope sTaken) := ⟨rfl, rfl, rfl, by decide +kernel, rfl, by decide +kernel, by decide +kernel⟩
theorem scLSizes : FnScope nLSizes ["_law_row", "_law_many", "_law_most"] (defScope sLSizes) := ⟨rfl, rfl, rfl, by decide +kernel, rfl, by decide +kernel, by decide +kernel⟩
theorem scLOrder : FnScope nLOrder ["_law_row", "_law_many"] (defScope sLOrder) := ⟨rfl, rfl, rfl, by decide +kernel, rfl, by decide +kernel, by decide +kernel⟩
theorem scLOverlap : FnScope nLOverlap ["_law_one", "_law_other"] (defScope sLOverlap) := ⟨rfl, rfl, rfl, by decide +kernel, rfl, by decide +kernel, by decide +kernel⟩
theorem scLPacked : FnScope nLPacked ["_law_sizes_here", "_law_first", "_law_second"] (defScope sLPacked) := ⟨rfl, rfl, rfl, by decide +kernel, rfl, by decide +kernel, by decide +kernel⟩
theorem scLSpots : FnScope nLSpots ["_law_row", "_law_many", "_law_most"] (defScope sLSpots) := ⟨rfl, rfl, rfl, by decide +kernel, rfl, by decide +kernel, by decide +kernel⟩
theorem scLaw : FnScope nLaw ["_law_script"] (defScope sLaw) := ⟨rfl, rfl, rfl, by decide +kernel, rfl, by decide +kernel, by decide +kernel⟩
/-- the built-in names are not hidden -/
structure Bi (mg : Str → Option Value) : Prop where
  isi : mg "isinstance" = none
  int : mg "int" = none
  bool : mg "bool" = none
  tuple : mg "tuple" = none
  len : mg "len" = none
  all : mg "all" = none
  any : mg "any" = none
  enumerate : mg "enumerate" = none
  set : mg "set" = none
  max : mg "max" = none
  range : mg "range" = none
  sum : mg "sum" = none
  sorted : mg "sorted" = none
  list : mg "list" = none
/-- a def of the text, behind the top: it stands at f by its name -/
structure At (K : PySem.W.Frag) (mg : Str → Option Value) (x : Str) (st : Stmt) (ps : List Str) (f : Addr) (fd : FuncData) : Prop where
  F : Fun K x x st f fd
  g : mg x = some (.ref f)
  b : Binds K fd ps []
end CF

namespace CF
open PySem PySem.Spec PyProof.Rows L2 Evl
section
variable {P : Program} {w : World} {K : PySem.W.Frag} {mg : Str → Option Value} {base : Heap}
/-- isinstance's reading -/
theorem rc_isi {x : V} {T : String} {t : Value} {b : Bool} {H : Hp} (ty : ∀ H1, Ex H H1 → TyX K H1 x t) (h : PySem.W.kitOne K t (.type T) = some b) : RC (rIsi K) [x, .ty T] H (.bl b) :=
  fun H1 e Q q => ⟨x, .ty T, t, .type T, b, rfl, .ty T, ty H1 e, h, q H1 (Ex.refl H1)⟩
/-- a tuple, tracked or locked -/
abbrev TupR (H : Hp) (p : Addr) (xs : List V) : Prop := Rd H p (.tup xs)
theorem tyx_rd {H : Hp} {p : Addr} {xs : List V} (h : TupR H p xs) : TyX K H (.ref p) (.type "tuple") := by
  rcases h with h | ⟨o, h⟩
  · exact .base (.tup h)
  · exact .fTuple h
theorem rc_len {p : Addr} {xs : List V} {H : Hp} (h : SqT K H p xs) : RC (rLenS K) [.ref p] H (.int (xs.length : Int)) := fun H1 e _ q => ⟨p, xs, rfl, .inr (ex_t e h), q H1 (Ex.refl H1)⟩
theorem ev_chain {r r' : R2} {ta tb tc : TE} {σ : L2.St} {H : Hp} {x y u : V} {a b : Bool} (ha : Ev ta σ H x) (hb : Ev tb σ H y) (hr : RV r x y H (.bl a)) (hc : a = true → Ev tc σ H u) (hr' : a = true → RV r' y u H (.bl b)) :
    Ev (tChain r r' ta tb tc) σ H (.bl (a && b)) := fun H1 e Q q => ha H1 e _ fun H2 e2 => hb H2 (e.trans e2) _ fun H3 e3 => hr H3 ((e.trans e2).trans e3) _ fun H4 e4 => ⟨a, rfl, by
  cases a with
  | true =>
    show tc σ H4 fun w' H5 => r' y w' H5 Q
    exact hc rfl H4 (((e.trans e2).trans e3).trans e4) _ fun H5 e5 => hr' rfl H5 ((((e.trans e2).trans e3).trans e4).trans e5) _ fun H6 e6 => q H6 ((((e2.trans e3).trans e4).trans e5).trans e6)
  | false =>
    show Q (.bl false) H4
    exact q H4 ((e2.trans e3).trans e4)⟩

/-! ### is_integer, is_in, is_list -/
def spIsInt : Sp := fun vs H Q _ => ∃ i : Int, vs = [.int i] ∧ RetV (.bl true) H Q
theorem ok_isInt {f : Addr} {fd : FuncData} {k : Nat} (B : Bi mg) (F : Fun K "is_integer" "is_integer" sIsInt f fd) : FnOk P w K mg base CX0 (k + 1) f fd ["value"] spIsInt := by
  refine F.ok scIsInt (fun vs H Q E h => ?_) (fun cdv A outer s H vs Q E hr h => ?_)
  · obtain ⟨i, rfl, _⟩ := h
    rfl
  · obtain ⟨i, rfl, q⟩ := h
    refine ⟨_, pss_one (ps_ret (pe_and (pe_callB call_isi (by rfl) B.isi (by decide +kernel) (pa_cons (pv 0) (pa_cons (pe_bltn (v := .ty "int") (by rfl) B.int (by decide +kernel) rfl) pa_nil)))
      (pe_one (pe_not (pe_callB call_isi (by rfl) B.isi (by decide +kernel) (pa_cons (pv 0) (pa_cons (pe_bltn (v := .ty "bool") (by rfl) B.bool (by decide +kernel) rfl) pa_nil))))))), ?_⟩
    exact s_ret (ev_andV (a := true) (b := true) (ev_cb (ea_cons (ev_var rfl) (ea_cons ev_c ea_nil)) (rc_isi (fun _ _ => .base (.int i)) (kit_ty (by decide +kernel))))
      fun _ => ev_notV (a := false) (ev_cb (ea_cons (ev_var rfl) (ea_cons ev_c ea_nil)) (rc_isi (fun _ _ => .base (.int i)) (kit_ty (by decide +kernel))))) fun H1 e => q H1 e
theorem sv_isInt {i : Int} {H : Hp} : SpV spIsInt [.int i] H (.bl true) := fun H1 _ Q q _ => ⟨i, rfl, q⟩

def spIsIn : Sp := fun vs H Q _ => ∃ v lo hi : Int, vs = [.int v, .int lo, .int hi] ∧ RetV (.bl (decide (lo ≤ v) && decide (v ≤ hi))) H Q
theorem sv_isIn {v lo hi : Int} {H : Hp} : SpV spIsIn [.int v, .int lo, .int hi] H (.bl (decide (lo ≤ v) && decide (v ≤ hi))) := fun H1 _ Q q _ => ⟨v, lo, hi, rfl, q⟩
theorem ok_isIn {f f1 : Addr} {fd fd1 : FuncData} (B : Bi mg) (F : Fun K "is_in" "is_in" sIsIn f fd) (A1 : At K mg "is_integer" sIsInt ["value"] f1 fd1) : FnOk P w K mg base CX0 2 f fd ["value", "least", "most"] spIsIn := by
  have G1 : FnOk P w K mg base CX0 1 f1 fd1 ["value"] spIsInt := ok_isInt B A1.F
  refine F.ok scIsIn (fun vs H Q E h => ?_) (fun cdv A outer s H vs Q E hr h => ?_)
  · obtain ⟨v, lo, hi, rfl, _⟩ := h
    rfl
  · obtain ⟨v, lo, hi, rfl, q⟩ := h
    refine ⟨_, pss_one (ps_ret (pe_and (pe_call G1 hr (by rfl) A1.g A1.F.kp A1.b .nil pass0 (pa_cons (pv 0) pa_nil))
      (pe_one (pe_chain op_le op_le (pv 1) (pv 0) (pv 2))))), ?_⟩
    exact s_ret (ev_andV (a := true) (ev_call (ea_cons (ev_var rfl) ea_nil) sv_isInt)
      fun _ => ev_chain (ev_var rfl) (ev_var rfl) rv_I0 (fun _ => ev_var rfl) (fun _ => rv_I0)) fun H1 e => q H1 e

def spIsList : Sp := fun vs H Q _ => ∃ (p : Addr) (xs : List V) (lo hi : Int), vs = [.ref p, .int lo, .int hi] ∧ TupR H p xs ∧ lo ≤ xs.length ∧ (xs.length : Int) ≤ hi ∧ RetV (.bl true) H Q
theorem sv_isList {p : Addr} {xs : List V} {lo hi : Int} {H : Hp} (h : TupR H p xs) (h1 : lo ≤ xs.length) (h2 : (xs.length : Int) ≤ hi) : SpV spIsList [.ref p, .int lo, .int hi] H (.bl true) := fun H1 e Q q _ => ⟨p, xs, lo, hi, rfl, ex_rd e h, h1, h2, q⟩
theorem ok_isList {f : Addr} {fd : FuncData} (B : Bi mg) (F : Fun K "is_list" "is_list" sIsList f fd) : FnOk P w K mg base CX0 1 f fd ["value", "least", "most"] spIsList := by
  refine F.ok scIsList (fun vs H Q E h => ?_) (fun cdv A outer s H vs Q E hr h => ?_)
  · obtain ⟨p, xs, lo, hi, rfl, _⟩ := h
    rfl
  · obtain ⟨p, xs, lo, hi, rfl, hp, h1, h2, q⟩ := h
    refine ⟨_, pss_one (ps_ret (pe_and (pe_callB call_isi (by rfl) B.isi (by decide +kernel) (pa_cons (pv 0) (pa_cons (pe_bltn (v := .ty "tuple") (by rfl) B.tuple (by decide +kernel) rfl) pa_nil)))
      (pe_one (pe_chain op_le op_le (pv 1) (pe_callB call_len_seq (by rfl) B.len PySem.boot_len (pa_cons (pv 0) pa_nil)) (pv 2))))), ?_⟩
    refine s_ret (v := .bl (true && (decide (lo ≤ (xs.length : Int)) && decide ((xs.length : Int) ≤ hi)))) (ev_andV (a := true) (ev_cb (ea_cons (ev_var rfl) (ea_cons ev_c ea_nil)) (rc_isi (H := H) (fun _ e => tyx_rd (ex_rd e hp)) (kit_ty (by decide +kernel))))
      fun _ => ev_chain (ev_var rfl) (ev_cb (ea_cons (ev_var rfl) ea_nil) (rc_len (.inl hp))) rv_I0 (fun _ => ev_var rfl) (fun _ => rv_I0)) fun H1 e => ?_
    have e1 : decide (lo ≤ (xs.length : Int)) = true := decide_eq_true h1
    have e2 : decide ((xs.length : Int) ≤ hi) = true := decide_eq_true h2
    rw [e1, e2]
    exact q H1 e
end
end CF

namespace CF
open PySem PySem.Spec PyProof.Rows L2 Evl
section
variable {P : Program} {w : World} {K : PySem.W.Frag} {mg : Str → Option Value} {base : Heap}
variable {σ : L2.St} {H H' : Hp} {ta tb te tl : TE} {t : TT} {x y z v : V}
/-- a tuple, new or old -/
def EvS (K : PySem.W.Frag) (te : TE) (σ : L2.St) (H : Hp) (xs : List V) : Prop := ∀ H1, Ex H H1 → ∀ Q : VK, (∀ p H2, Ex H1 H2 → SqT K H2 p xs → Q (.ref p) H2) → te σ H1 Q
/-- a list, new or old -/
def EvM (K : PySem.W.Frag) (te : TE) (σ : L2.St) (H : Hp) (xs : List V) : Prop := ∀ H1, Ex H H1 → ∀ Q : VK, (∀ p H2, Ex H1 H2 → SqL K H2 p xs → Q (.ref p) H2) → te σ H1 Q
theorem es_u {xs : List V} (h : EvU te σ H xs) : EvS K te σ H xs := fun H1 e Q q => h H1 e Q fun p H2 _ e2 hp => q p H2 e2 (st_of hp)
theorem es_r {xs : List V} {p : Addr} (h : Ev te σ H (.ref p)) (hp : H p = some (.tup xs)) : EvS K te σ H xs := fun H1 e Q q => h H1 e Q fun H2 e2 => q p H2 e2 (st_of (e2 _ _ (e _ _ hp)))
theorem es_R {xs : List V} {p : Addr} (h : Ev te σ H (.ref p)) (hp : TupR H p xs) : EvS K te σ H xs := fun H1 e Q q => h H1 e Q fun H2 e2 => q p H2 e2 (.inl (ex_rd e2 (ex_rd e hp)))
theorem em_u {xs : List V} (h : EvL te σ H xs) : EvM K te σ H xs := fun H1 e Q q => h H1 e Q fun p H2 _ e2 hp => q p H2 e2 (sq_of hp)
theorem em_r {xs : List V} {p : Addr} (h : Ev te σ H (.ref p)) (hp : H p = some (.lst xs)) : EvM K te σ H xs := fun H1 e Q q => h H1 e Q fun H2 e2 => q p H2 e2 (sq_of (e2 _ _ (e _ _ hp)))
theorem em_q {xs : List V} {p : Addr} (h : Ev te σ H (.ref p)) (hp : SqL K H p xs) : EvM K te σ H xs := fun H1 e Q q => h H1 e Q fun H2 e2 => q p H2 e2 (ex_l e2 (ex_l e hp))
/-- of each item, in whatever heap has come since -/
abbrev Each (xs : List V) (H : Hp) (P : Nat → V → Hp → Prop) : Prop := ∀ (i : Nat) (x : V) (G : Hp), Ex H G → xs[i]? = some x → P i x G
theorem lt_of_at {xs : List V} {i : Nat} {x : V} (h : xs[i]? = some x) : i < xs.length := (List.getElem?_eq_some_iff.mp h).1
/-- a comprehension over a tuple, a list -/
theorem el_lcS {xs : List V} {j : Nat} {vs : List Nat} (f : Nat → Bool) (v : Nat → V) (h : EvS K tl σ H xs) (hz : xs.length ≤ 40000) (hw : ∀ x, wipe ((wipe σ vs).set j (some x)) vs = wipe σ vs)
    (ht : Each xs H fun i x G => EvT t ((wipe σ vs).set j (some x)) G (f i)) (he : Each xs H fun i x G => f i = true → Ev te ((wipe σ vs).set j (some x)) G (v i)) : EvL (tLc (iTup K tl) (gName j) t te vs) σ H (given xs.length f v) := by
  refine fun H0 e Q q => h H0 e _ fun a H1 e1 hx => ⟨a, rfl, ⟨xs, hx⟩, fun Dl hD => ?_⟩
  refine lc_tup (xs := xs) (Cw H1 f v Dl) ⟨hD, Ex.new hD, upd_same⟩ (fun _ _ _ z => ex_t z.2.1 hx) (fun i x G hi z => ⟨hw x, ?_⟩) fun G z => q Dl G (fresh_back e1 z.1) (e1.trans z.2.1) z.2.2
  have lt := lt_of_at hi
  exact cw_turn z (by omega) (ht i x H1 (e.trans e1) hi) (he i x H1 (e.trans e1) hi)
theorem el_lcM {xs : List V} {j : Nat} {vs : List Nat} (f : Nat → Bool) (v : Nat → V) (h : EvM K tl σ H xs) (hz : xs.length ≤ 40000) (hw : ∀ x, wipe ((wipe σ vs).set j (some x)) vs = wipe σ vs)
    (ht : Each xs H fun i x G => EvT t ((wipe σ vs).set j (some x)) G (f i)) (he : Each xs H fun i x G => f i = true → Ev te ((wipe σ vs).set j (some x)) G (v i)) : EvL (tLc (iList K tl) (gName j) t te vs) σ H (given xs.length f v) := by
  refine fun H0 e Q q => h H0 e _ fun a H1 e1 hx => ⟨a, rfl, ⟨xs, hx⟩, fun Dl hD => ?_⟩
  refine lc_list (xs := xs) (Cw H1 f v Dl) ⟨hD, Ex.new hD, upd_same⟩ (fun _ _ _ z => ex_l z.2.1 hx) (fun i x G hi z => ⟨hw x, ?_⟩) fun G z => q Dl G (fresh_back e1 z.1) (e1.trans z.2.1) z.2.2
  have lt := lt_of_at hi
  exact cw_turn z (by omega) (ht i x H1 (e.trans e1) hi) (he i x H1 (e.trans e1) hi)
theorem given_all (n : Nat) (v : Nat → V) : given n (fun _ => true) v = (List.range n).map v := by
  unfold given
  rw [List.filter_eq_self.mpr fun _ _ => rfl]
theorem et_yes : EvT tYes σ H true := fun H1 _ _ q => q H1 (Ex.refl H1)
theorem el_is {xs ys : List V} (h : EvL te σ H xs) (e : xs = ys) : EvL te σ H ys := e ▸ h
theorem eu_is {xs ys : List V} (h : EvU te σ H xs) (e : xs = ys) : EvU te σ H ys := e ▸ h
theorem bl_map (l : List Nat) (g : Nat → Bool) : (l.map g).map V.bl = l.map fun i => V.bl (g i) := by rw [List.map_map]; rfl
theorem ev_all {bs : List Bool} (h : EvM K te σ H (bs.map V.bl)) : Ev (tCB (rAll K) (tCons te tNil)) σ H (.bl (bs.all id)) := fun H1 e Q q => h H1 e _ fun p H2 e2 hp => ⟨p, bs, rfl, hp, q H2 e2⟩
theorem ev_any {bs : List Bool} (h : EvM K te σ H (bs.map V.bl)) : Ev (tCB (rAny K) (tCons te tNil)) σ H (.bl (bs.any id)) := fun H1 e Q q => h H1 e _ fun p H2 e2 hp => ⟨p, bs, rfl, hp, q H2 e2⟩
/-- all([e for x in t]), the e truth values -/
theorem ev_allS {xs : List V} {j : Nat} {vs : List Nat} (g : Nat → Bool) (h : EvS K tl σ H xs) (hz : xs.length ≤ 40000) (hw : ∀ x, wipe ((wipe σ vs).set j (some x)) vs = wipe σ vs)
    (he : ∀ (i : Nat) (x : V) H1, Ex H H1 → xs[i]? = some x → Ev te ((wipe σ vs).set j (some x)) H1 (.bl (g i))) : Ev (tCB (rAll K) (tCons (tLc (iTup K tl) (gName j) tYes te vs) tNil)) σ H (.bl (((List.range xs.length).map g).all id)) :=
  ev_all (em_u (el_is (el_lcS (fun _ => true) (fun i => .bl (g i)) h hz hw (fun _ _ _ _ _ => et_yes) fun i x H1 e hi _ => he i x H1 e hi) (by rw [given_all, bl_map])))
theorem ev_anyS {xs : List V} {j : Nat} {vs : List Nat} (g : Nat → Bool) (h : EvS K tl σ H xs) (hz : xs.length ≤ 40000) (hw : ∀ x, wipe ((wipe σ vs).set j (some x)) vs = wipe σ vs)
    (he : ∀ (i : Nat) (x : V) H1, Ex H H1 → xs[i]? = some x → Ev te ((wipe σ vs).set j (some x)) H1 (.bl (g i))) : Ev (tCB (rAny K) (tCons (tLc (iTup K tl) (gName j) tYes te vs) tNil)) σ H (.bl (((List.range xs.length).map g).any id)) :=
  ev_any (em_u (el_is (el_lcS (fun _ => true) (fun i => .bl (g i)) h hz hw (fun _ _ _ _ _ => et_yes) fun i x H1 e hi _ => he i x H1 e hi) (by rw [given_all, bl_map])))
theorem all_true {n : Nat} {g : Nat → Bool} (h : ∀ i, i < n → g i = true) : ((List.range n).map g).all id = true := by
  refine List.all_eq_true.mpr fun b hb => ?_
  obtain ⟨i, hi, rfl⟩ := List.mem_map.mp hb
  exact h i (List.mem_range.mp hi)
theorem any_false {n : Nat} {g : Nat → Bool} (h : ∀ i, i < n → g i = false) : ((List.range n).map g).any id = false := by
  refine List.any_eq_false.mpr fun b hb => ?_
  obtain ⟨i, hi, rfl⟩ := List.mem_map.mp hb
  rw [h i (List.mem_range.mp hi)]
  decide
/-- an item -/
theorem ev_ixS {xs : List V} {i : Int} (ha : EvS K ta σ H xs) (hb : Ev tb σ H (.int i)) (h : atI xs i = some v) : Ev (tOp (rIxT K) ta tb) σ H v := fun H1 e Q q =>
  ha H1 e _ fun p H2 e2 hp => hb H2 (e.trans e2) _ fun H3 e3 => ⟨p, xs, i, v, rfl, rfl, ex_t e3 hp, h, q H3 (e2.trans e3)⟩
theorem ev_lenS {xs : List V} (ha : EvS K ta σ H xs) : Ev (tCB (rLenS K) (tCons ta tNil)) σ H (.int (xs.length : Int)) := fun H1 e Q q => ha H1 e _ fun p H2 e2 hp => ⟨p, xs, rfl, .inr hp, q H2 e2⟩
theorem ev_lenM {xs : List V} (ha : EvM K ta σ H xs) : Ev (tCB (rLenS K) (tCons ta tNil)) σ H (.int (xs.length : Int)) := fun H1 e Q q => ha H1 e _ fun p H2 e2 hp => ⟨p, xs, rfl, .inl hp, q H2 e2⟩
/-- a slice that isn't the whole -/
theorem eu_sl {tlo thi : TO} {xs : List V} {lo hi : Option Int} (h : EvS K te σ H xs) (h1 : EvO tlo σ H lo) (h2 : EvO thi σ H hi) (hn : ¬ (HT.sIx xs.length 0 lo = 0 ∧ HT.sIx xs.length xs.length hi = xs.length)) : EvU (tSl (rSlT K) te tlo thi) σ H (cutV xs lo hi) := fun H1 e _ q =>
  h H1 e _ fun p H2 e2 hp => h1 H2 (e.trans e2) _ fun H3 e3 => h2 H3 ((e.trans e2).trans e3) _ fun H4 e4 =>
    ⟨p, xs, rfl, ex_t (e3.trans e4) hp, hn, fun r hr => q r _ (fresh_back ((e2.trans e3).trans e4) hr) (((e2.trans e3).trans e4).trans (Ex.new hr)) upd_same⟩
theorem Ev.call' {sp : Sp} {E : XK} {tr : TA} {vs : List V} (h : EvA tr σ H vs) (hs : SpV sp vs H z) : Ev (tCall sp [] E tr) σ H z := ev_call h (by rw [List.append_nil]; exact hs)

/-! ### is_size -/
/-- a tuple of ints -/
abbrev TupN (H : Hp) (a : Addr) (ns : List Int) : Prop := H a = some (.tup (ns.map V.int))
def okSize (a b : Int) : Prop := 1 ≤ a ∧ a ≤ 100 ∧ 1 ≤ b ∧ b ≤ 100
def spIsSize : Sp := fun vs H Q _ => ∃ (p : Addr) (a b : Int), vs = [.ref p] ∧ TupN H p [a, b] ∧ okSize a b ∧ RetV (.bl true) H Q
theorem sv_isSize {p : Addr} {a b : Int} (h : TupN H p [a, b]) (ho : okSize a b) : SpV spIsSize [.ref p] H (.bl true) := fun H1 e Q q _ => ⟨p, a, b, rfl, e _ _ h, ho, q⟩
theorem ok_isSize {f f1 f2 : Addr} {fd fd1 fd2 : FuncData} {tk : Tok} (B : Bi mg) (mc : mg "MOST_SIDE" = some (.int 100 tk)) (F : Fun K "is_size" "is_size" sIsSize f fd)
    (A1 : At K mg "is_list" sIsList ["value", "least", "most"] f1 fd1) (G1 : FnOk P w K mg base CX0 1 f1 fd1 ["value", "least", "most"] spIsList)
    (A2 : At K mg "is_in" sIsIn ["value", "least", "most"] f2 fd2) (G2 : FnOk P w K mg base CX0 2 f2 fd2 ["value", "least", "most"] spIsIn) : FnOk P w K mg base CX0 3 f fd ["value"] spIsSize := by
  refine F.ok scIsSize (fun vs H Q E h => ?_) (fun cdv A outer s H vs Q E hr h => ?_)
  · obtain ⟨p, a, b, rfl, _⟩ := h
    rfl
  · obtain ⟨p, a, b, rfl, hp, ho, q⟩ := h
    refine ⟨_, pss_one (ps_ret (pe_and (pe_call G1 (hr.mono (by decide)) (by rfl) A1.g A1.F.kp A1.b .nil pass0 (pa_cons (pv 0) (pa_cons pe_int (pa_cons pe_int pa_nil))))
      (pe_one (pe_callB (cr_all rfl) (by rfl) B.all (by decide +kernel) (pa_cons
        (pe_lc (own := [("side", 1)]) (g := gName 1) (by rfl) scIsSize.nd (pi_tup (pv 0)) (blkOk_by (N := nIsSize) (sc := defScope sIsSize) (by decide +kernel)) (fun _ _ _ _ _ => pg_name (i := 1) scIsSize.nd rfl (Or.inl rfl)) (fun _ _ _ _ _ => pts_nil)
          (fun _ _ _ _ _ => pe_call G2 hr (by rfl) A2.g A2.F.kp A2.b .nil pass0 (pa_cons (pv 1) (pa_cons pe_int (pa_cons (pe_glob (v := .int 100) rfl mc ⟨_, rfl⟩) pa_nil))))) pa_nil))))), ?_⟩
    refine s_ret (ev_andV (a := true) (Ev.call' (ea_cons (ev_var rfl) (ea_cons ev_c (ea_cons ev_c ea_nil))) (sv_isList (.inl hp) (by show (2 : Int) ≤ 2; decide) (by show (2 : Int) ≤ 2; decide)))
      fun _ => ev_allS (xs := [.int a, .int b]) (fun i => decide ((1 : Int) ≤ [a, b].getD i 0) && decide ([a, b].getD i 0 ≤ 100)) (es_r (ev_var rfl) hp) (by show 2 ≤ 40000; decide) (fun _ => rfl) fun i x H1 e hi => ?_) fun H1 e => ?_
    · have ex : x = .int ([a, b].getD i 0) := by
        match i, hi with
        | 0, hi => exact (Option.some.inj hi).symm
        | 1, hi => exact (Option.some.inj hi).symm
      subst ex
      exact Ev.call' (ea_cons (ev_var rfl) (ea_cons ev_c (ea_cons ev_c ea_nil))) sv_isIn
    · have e2 : (((List.range [V.int a, V.int b].length).map fun i => decide ((1 : Int) ≤ [a, b].getD i 0) && decide ([a, b].getD i 0 ≤ 100)).all id) = true := all_true fun i hi => by
        match i, hi with
        | 0, _ => exact (Bool.and_eq_true _ _).mpr ⟨decide_eq_true ho.1, decide_eq_true ho.2.1⟩
        | 1, _ => exact (Bool.and_eq_true _ _).mpr ⟨decide_eq_true ho.2.2.1, decide_eq_true ho.2.2.2⟩
      rw [e2]
      exact q H1 e
end
end CF

namespace CF
open PySem PySem.Spec PyProof.Rows L2 Evl
section
variable {P : Program} {w : World} {K : PySem.W.Frag} {mg : Str → Option Value} {base : Heap}
variable {σ : L2.St} {H H' : Hp} {ta tb te tl : TE} {t : TT} {x y z v : V} {D : Ends} {tu tz : TS}
/-- for i, x in enumerate(t): .., t a tuple that stands -/
theorem s_forE {a : Addr} {xs : List V} {j1 j2 : Nat} (h : Ev te σ H (.ref a)) (hx : TupR H a xs) (Pv : Nat → L2.St → Hp → Prop) (h0 : ∀ H1, Ex H H1 → Pv 0 σ H1) (hl : ∀ i σ' H', Pv i σ' H' → TupR H' a xs)
    (hs : ∀ (i : Nat) x σ' H' H2, xs[i]? = some x → Pv i σ' H' → Ex H' H2 → tu { D with nx := Pv (i + 1), ct := Pv (i + 1), bk := D.nx } ((σ'.set j1 (some (.int (i : Int)))).set j2 (some x)) H2) (hd : ∀ σ' H', Pv xs.length σ' H' → D.nx σ' H') :
    tFor (iEnumT K (tCons te tNil)) (gTup K 2 (gCons (gName j1) (gCons (gName j2) gNil))) tu D σ H :=
  h H (Ex.refl H) _ fun H1 e => ⟨a, xs, rfl, .inl (ex_rd e hx), fun i m σ' H' => m = xs.length - i ∧ i ≤ xs.length ∧ Pv i σ' H', ⟨xs.length, by simp, Nat.zero_le _, h0 H1 e⟩, by
    rintro i m σ' H' ⟨rfl, hi, p⟩
    have q : SqT K H' a xs := .inl (hl i σ' H' p)
    by_cases hlt : i < xs.length
    · refine .inr ⟨⟨xs, xs[i], q, by simp [hlt]⟩, Pv (i + 1), fun σ2 H2 p' => ⟨xs.length - (i + 1), by omega, rfl, hlt, p'⟩, fun u H2 y => ?_⟩
      obtain ⟨T, x, rfl, hT, rfl, hx'⟩ := y
      exact ⟨T, [.int (i : Nat), x], rfl, st_of upd_same, rfl, .int (i : Nat), [x], rfl, x, [], rfl, rfl, hs i x σ' H' _ (hx' xs q) p (Ex.new hT)⟩
    · have e : i = xs.length := by omega
      subst e
      exact .inl ⟨⟨xs, q, Nat.le_refl _⟩, hd σ' H' p⟩⟩
theorem q_forE {a : Addr} {xs : List V} {j1 j2 : Nat} (h : Ev te σ H (.ref a)) (hx : TupR H a xs) (Pv : Nat → L2.St → Hp → Prop) (h0 : ∀ H1, Ex H H1 → Pv 0 σ H1) (hl : ∀ i σ' H', Pv i σ' H' → TupR H' a xs)
    (hs : ∀ (i : Nat) x σ' H' H2, xs[i]? = some x → Pv i σ' H' → Ex H' H2 → tu { D with nx := Pv (i + 1), ct := Pv (i + 1), bk := tz D } ((σ'.set j1 (some (.int (i : Int)))).set j2 (some x)) H2) (hd : ∀ σ' H', Pv xs.length σ' H' → tz D σ' H') :
    tSeq (tFor (iEnumT K (tCons te tNil)) (gTup K 2 (gCons (gName j1) (gCons (gName j2) gNil))) tu) tz D σ H := s_forE (D := { D with nx := tz D }) h hx Pv h0 hl hs hd

/-! ### tuples of tuples of ints -/
/-- rows: the i-th one is r i -/
def RowsAt (H : Hp) (as : List Addr) (r : Nat → List Int) : Prop := ∀ i a, as[i]? = some a → TupN H a (r i)
/-- a tuple of n rows at p -/
def Rws (H : Hp) (p : Addr) (n : Nat) (r : Nat → List Int) : Prop := ∃ as : List Addr, as.length = n ∧ H p = some (.tup (as.map V.ref)) ∧ RowsAt H as r
theorem RowsAt.mono {as : List Addr} {r : Nat → List Int} (h : RowsAt H as r) (e : Ex H H') : RowsAt H' as r := fun i a ha => e _ _ (h i a ha)
theorem Rws.mono {p : Addr} {n : Nat} {r : Nat → List Int} (h : Rws H p n r) (e : Ex H H') : Rws H' p n r := let ⟨as, hl, hp, hr⟩ := h; ⟨as, hl, e _ _ hp, hr.mono e⟩
theorem ref_at {as : List Addr} {i : Nat} {x : V} (h : (as.map V.ref)[i]? = some x) : ∃ a, as[i]? = some a ∧ x = .ref a := by
  rw [List.getElem?_map] at h
  cases e : as[i]? with
  | none => rw [e] at h; cases h
  | some a => rw [e] at h; exact ⟨a, rfl, (Option.some.inj h).symm⟩

/-! ### need_sizes -/
def okSizes (n : Nat) (wd ht : Nat → Int) : Prop := 1 ≤ n ∧ n ≤ 8 ∧ ∀ i, i < n → okSize (wd i) (ht i)
def szRow (wd ht : Nat → Int) : Nat → List Int := fun i => [wd i, ht i]
def spNeedSizes : Sp := fun vs H Q _ => ∃ (p : Addr) (n : Nat) (wd ht : Nat → Int), vs = [.ref p] ∧ Rws H p n (szRow wd ht) ∧ okSizes n wd ht ∧ RetV .non H Q
theorem sv_needSizes {p : Addr} {n : Nat} {wd ht : Nat → Int} (h : Rws H p n (szRow wd ht)) (ho : okSizes n wd ht) : SpV spNeedSizes [.ref p] H .non := fun H1 e Q q _ => ⟨p, n, wd, ht, rfl, h.mono e, ho, q⟩
theorem ok_needSizes {f f1 f2 : Addr} {fd fd1 fd2 : FuncData} {tk : Tok} (B : Bi mg) (mc : mg "MOST_BLOCKS" = some (.int 8 tk)) (F : Fun K "need_sizes" "need_sizes" sNeedSizes f fd)
    (A1 : At K mg "is_list" sIsList ["value", "least", "most"] f1 fd1) (G1 : FnOk P w K mg base CX0 1 f1 fd1 ["value", "least", "most"] spIsList)
    (A2 : At K mg "is_size" sIsSize ["value"] f2 fd2) (G2 : FnOk P w K mg base CX0 3 f2 fd2 ["value"] spIsSize) : FnOk P w K mg base CX0 4 f fd ["sizes"] spNeedSizes := by
  refine F.ok scNeedSizes (fun vs H Q E h => ?_) (fun cdv A outer s H vs Q E hr h => ?_)
  · obtain ⟨p, n, wd, ht, rfl, _⟩ := h
    rfl
  · obtain ⟨p, n, wd, ht, rfl, ⟨as, hl, hp, hrow⟩, ⟨n1, n8, hok⟩, q⟩ := h
    refine ⟨_, pss_cons (ps_if (pt_not (pt_val (pe_call G1 (hr.mono (by decide)) (by rfl) A1.g A1.F.kp A1.b .nil pass0 (pa_cons (pv 0) (pa_cons pe_int (pa_cons (pe_glob (v := .int 8) rfl mc ⟨_, rfl⟩) pa_nil)))))) pss_never pss_nil)
      (pss_one (ps_for PassesOwn.never rfl (pi_enumT (by rfl) B.enumerate (pa_cons (pv 0) pa_nil)) (pg_tup (n := 2) rfl (pgs_cons (pg_name (i := 1) scNeedSizes.nd rfl (.inl rfl)) (pgs_cons (pg_name (i := 2) scNeedSizes.nd rfl (.inl rfl)) pgs_nil)))
        (pss_one (ps_if (pt_not (pt_val (pe_call G2 hr (by rfl) A2.g A2.F.kp A2.b .nil pass0 (pa_cons (pv 2) pa_nil)))) pss_never pss_nil)))), ?_⟩
    have hlen : (as.map V.ref).length = n := by rw [List.length_map, hl]
    refine q_when (et_not (a := true) (et_B (Ev.call' (ea_cons (ev_var rfl) (ea_cons ev_c (ea_cons ev_c ea_nil))) (sv_isList (.inl hp) (by rw [hlen]; omega) (by rw [hlen]; omega))))) (fun hb => by cases hb) fun _ H1 e1 => ?_
    refine s_forE (ev_var rfl) (.inl (e1 _ _ hp)) (fun i σ' H' => Ex H1 H' ∧ ∃ a b, σ' = [some (.ref p), a, b]) (fun H2 e2 => ⟨e2, none, none, rfl⟩) (fun i σ' H' hw => .inl (hw.1 _ _ (e1 _ _ hp))) (fun i x σ' H' H2 hi hw e2 => ?_) (fun σ' H' hw => q H' (e1.trans hw.1))
    obtain ⟨e3, a, b, rfl⟩ := hw
    obtain ⟨r, hr', rfl⟩ := ref_at hi
    have hin : i < n := by
      have := (List.getElem?_eq_some_iff.mp hr').1
      omega
    have hT : TupN H2 r [wd i, ht i] := e2 _ _ (e3 _ _ (e1 _ _ (hrow i r hr')))
    exact s_when (et_not (a := true) (et_B (Ev.call' (ea_cons (ev_var rfl) ea_nil) (sv_isSize hT (hok i hin))))) (fun hb => by cases hb) fun _ H4 e4 => ⟨e3.trans (e2.trans e4), _, _, rfl⟩

/-! ### is_spot -/
def okSpot (s : Sp4) : Prop := (0 ≤ s.x ∧ s.x ≤ 1000) ∧ (0 ≤ s.y ∧ s.y ≤ 1000) ∧ okSize s.w s.h
abbrev Sp4.row (s : Sp4) : List Int := [s.x, s.y, s.w, s.h]
def spIsSpot : Sp := fun vs H Q _ => ∃ (p : Addr) (s : Sp4), vs = [.ref p] ∧ TupN H p s.row ∧ okSpot s ∧ RetV (.bl true) H Q
theorem sv_isSpot {p : Addr} {s : Sp4} (h : TupN H p s.row) (ho : okSpot s) : SpV spIsSpot [.ref p] H (.bl true) := fun H1 e Q q _ => ⟨p, s, rfl, e _ _ h, ho, q⟩
/-- a promise that is asked of a new tuple -/
theorem ev_callU {sp : Sp} {E : XK} {xs : List V} (h : EvU te σ H xs) (hs : ∀ p H1, Ex H H1 → H1 p = some (.tup xs) → SpV sp [.ref p] H1 z) : Ev (tCall sp [] E (tCons te tNil)) σ H z := fun H1 e Q q =>
  h H1 e _ fun p H2 _ e2 hp => hs p H2 (e.trans e2) hp H2 (Ex.refl H2) Q (fun H3 e3 => q H3 (e2.trans e3)) E
theorem ok_isSpot {f f1 f2 f3 : Addr} {fd fd1 fd2 fd3 : FuncData} {tk : Tok} (B : Bi mg) (mc : mg "MOST_PLACE" = some (.int 1000 tk)) (F : Fun K "is_spot" "is_spot" sIsSpot f fd)
    (A1 : At K mg "is_list" sIsList ["value", "least", "most"] f1 fd1) (G1 : FnOk P w K mg base CX0 1 f1 fd1 ["value", "least", "most"] spIsList)
    (A2 : At K mg "is_in" sIsIn ["value", "least", "most"] f2 fd2) (G2 : FnOk P w K mg base CX0 2 f2 fd2 ["value", "least", "most"] spIsIn)
    (A3 : At K mg "is_size" sIsSize ["value"] f3 fd3) (G3 : FnOk P w K mg base CX0 3 f3 fd3 ["value"] spIsSize) : FnOk P w K mg base CX0 4 f fd ["value"] spIsSpot := by
  refine F.ok scIsSpot (fun vs H Q E h => ?_) (fun cdv A outer s H vs Q E hr h => ?_)
  · obtain ⟨p, s, rfl, _⟩ := h
    rfl
  · obtain ⟨p, ⟨sx, sy, sw, sh⟩, rfl, hp, ho, q⟩ := h
    refine ⟨_, pss_cons (ps_if (PW.pt (pw_or (pt_not (pt_val (pe_call G1 (hr.mono (by decide)) (by rfl) A1.g A1.F.kp A1.b .nil pass0 (pa_cons (pv 0) (pa_cons pe_int (pa_cons pe_int pa_nil))))))
        (pw_or1 (pt_not (pt_val (pe_callB (cr_all rfl) (by rfl) B.all (by decide +kernel) (pa_cons
          (pe_lc (own := [("part", 1)]) (g := gName 1) (by rfl) scIsSpot.nd (pi_tup (pe_slice sl_tup (pv 0) po_none (po_some pe_int))) (blkOk_by (N := nIsSpot) (sc := defScope sIsSpot) (by decide +kernel)) (fun _ _ _ _ _ => pg_name (i := 1) scIsSpot.nd rfl (Or.inl rfl)) (fun _ _ _ _ _ => pts_nil)
            (fun _ _ _ _ _ => pe_call G2 (hr.mono (by decide)) (by rfl) A2.g A2.F.kp A2.b .nil pass0 (pa_cons (pv 1) (pa_cons pe_int (pa_cons (pe_glob (v := .int 1000) rfl mc ⟨_, rfl⟩) pa_nil))))) pa_nil))))))) (pss_one (ps_ret pe_bl)) pss_nil)
      (pss_one (ps_ret (pe_call G3 hr (by rfl) A3.g A3.F.kp A3.b .nil pass0 (pa_cons (pe_slice sl_tup (pv 0) (po_some pe_int) po_none) pa_nil)))), ?_⟩
    refine q_when (b := false) (et_is (et_or (a := !true) (b := !(((List.range 2).map fun i => decide ((0 : Int) ≤ [sx, sy].getD i 0) && decide ([sx, sy].getD i 0 ≤ 1000)).all id))
      (et_not (et_B (Ev.call' (ea_cons (ev_var rfl) (ea_cons ev_c (ea_cons ev_c ea_nil))) (sv_isList (.inl hp) (by show (4 : Int) ≤ 4; decide) (by show (4 : Int) ≤ 4; decide)))))
      fun _ => et_not (et_B (ev_allS (xs := [.int sx, .int sy]) (fun i => decide ((0 : Int) ≤ [sx, sy].getD i 0) && decide ([sx, sy].getD i 0 ≤ 1000)) (es_u (eu_sl (xs := [.int sx, .int sy, .int sw, .int sh]) (es_r (ev_var rfl) hp) eo_none (eo_some ev_c) (by show ¬ (HT.sIx 4 0 none = 0 ∧ HT.sIx 4 4 (some 2) = 4); decide))) (by show 2 ≤ 40000; decide) (fun _ => rfl) fun i x H1 e hi => ?_))) ?_)
      (fun hb => by cases hb) fun _ H1 e1 => ?_
    · have ex : x = .int ([sx, sy].getD i 0) := by
        match i, hi with
        | 0, hi => exact (Option.some.inj hi).symm
        | 1, hi => exact (Option.some.inj hi).symm
      subst ex
      exact Ev.call' (ea_cons (ev_var rfl) (ea_cons ev_c (ea_cons ev_c ea_nil))) sv_isIn
    · rw [all_true fun i hi => by
        match i, hi with
        | 0, _ => exact (Bool.and_eq_true _ _).mpr ⟨decide_eq_true ho.1.1, decide_eq_true ho.1.2⟩
        | 1, _ => exact (Bool.and_eq_true _ _).mpr ⟨decide_eq_true ho.2.1.1, decide_eq_true ho.2.1.2⟩]
      rfl
    · exact s_ret (ev_callU (eu_sl (xs := [.int sx, .int sy, .int sw, .int sh]) (es_r (ev_var rfl) (e1 _ _ hp)) (eo_some ev_c) eo_none (by show ¬ (HT.sIx 4 0 (some 2) = 0 ∧ HT.sIx 4 4 none = 4); decide)) fun r H2 e2 h2 => sv_isSize h2 ho.2.2) fun H2 e2 => q H2 (e1.trans e2)

/-! ### do_overlap -/
def spOverlap : Sp := fun vs H Q _ => ∃ (p r : Addr) (s t : Sp4), vs = [.ref p, .ref r] ∧ TupN H p s.row ∧ TupN H r t.row ∧ RetV (.bl (ovl s t)) H Q
theorem sv_overlap {p r : Addr} {s t : Sp4} (h : TupN H p s.row) (h' : TupN H r t.row) : SpV spOverlap [.ref p, .ref r] H (.bl (ovl s t)) := fun H1 e Q q _ => ⟨p, r, s, t, rfl, e _ _ h, e _ _ h', q⟩
theorem ev_row {p : Addr} {ns : List Int} {i : Nat} {n : Int} (h : Ev ta σ H (.ref p)) (hp : TupN H p ns) (hn : ns[i]? = some n) : Ev (tOp (rIxT K) ta (tC (.int (i : Nat)))) σ H (.int n) :=
  ev_ixS (es_r h hp) ev_c (atI_nat (by rw [List.getElem?_map, hn]; rfl))
theorem ok_overlap {f : Addr} {fd : FuncData} (F : Fun K "do_overlap" "do_overlap" sOverlap f fd) : FnOk P w K mg base CX0 1 f fd ["one", "other"] spOverlap := by
  refine F.ok scOverlap (fun vs H Q E h => ?_) (fun cdv A outer s H vs Q E hr h => ?_)
  · obtain ⟨p, r, s, t, rfl, _⟩ := h
    rfl
  · obtain ⟨p, r, ⟨sx, sy, sw, sh⟩, ⟨tx, ty, tw, th⟩, rfl, hp, hr', q⟩ := h
    refine ⟨_, pss_cons (ps_set (i := 2) scOverlap.nd rfl (.inl rfl) (pe_and (pe_cmpR op_lt (pe_ix ix_tup (pv 0) pe_int (fun _ _ => rfl)) (pe_op op_add (pe_ix ix_tup (pv 1) pe_int (fun _ _ => rfl)) (pe_ix ix_tup (pv 1) pe_int (fun _ _ => rfl))) (nomark _))
        (pe_one (pe_cmpR op_lt (pe_ix ix_tup (pv 1) pe_int (fun _ _ => rfl)) (pe_op op_add (pe_ix ix_tup (pv 0) pe_int (fun _ _ => rfl)) (pe_ix ix_tup (pv 0) pe_int (fun _ _ => rfl))) (nomark _)))))
      (pss_one (ps_ret (pe_and (pv 2) (pe_and (pe_cmpR op_lt (pe_ix ix_tup (pv 0) pe_int (fun _ _ => rfl)) (pe_op op_add (pe_ix ix_tup (pv 1) pe_int (fun _ _ => rfl)) (pe_ix ix_tup (pv 1) pe_int (fun _ _ => rfl))) (nomark _))
        (pe_one (pe_cmpR op_lt (pe_ix ix_tup (pv 1) pe_int (fun _ _ => rfl)) (pe_op op_add (pe_ix ix_tup (pv 0) pe_int (fun _ _ => rfl)) (pe_ix ix_tup (pv 0) pe_int (fun _ _ => rfl))) (nomark _))))))), ?_⟩
    refine q_asg (v := .bl (decide (sx < tx + tw) && decide (tx < sx + sw))) (ev_andV (ev_op (ev_row (i := 0) (ev_var rfl) hp rfl) (ev_op (ev_row (i := 0) (ev_var rfl) hr' rfl) (ev_row (i := 2) (ev_var rfl) hr' rfl) rv_I0) rv_I0)
      fun _ => ev_op (ev_row (i := 0) (ev_var rfl) hr' rfl) (ev_op (ev_row (i := 0) (ev_var rfl) hp rfl) (ev_row (i := 2) (ev_var rfl) hp rfl) rv_I0) rv_I0) fun H1 e1 => ?_
    exact s_ret (ev_andV (ev_var rfl) fun _ => ev_andV (ev_op (ev_row (i := 1) (ev_var rfl) (e1 _ _ hp) rfl) (ev_op (ev_row (i := 1) (ev_var rfl) (e1 _ _ hr') rfl) (ev_row (i := 3) (ev_var rfl) (e1 _ _ hr') rfl) rv_I0) rv_I0)
      fun _ => ev_op (ev_row (i := 1) (ev_var rfl) (e1 _ _ hr') rfl) (ev_op (ev_row (i := 1) (ev_var rfl) (e1 _ _ hp) rfl) (ev_row (i := 3) (ev_var rfl) (e1 _ _ hp) rfl) rv_I0) rv_I0) fun H2 e2 => q H2 (e1.trans e2)
theorem ok_lOverlap {f : Addr} {fd : FuncData} (F : Fun K "_law_overlap" "_law_overlap" sLOverlap f fd) : FnOk P w K mg base CX0 1 f fd ["_law_one", "_law_other"] spOverlap := by
  refine F.ok scLOverlap (fun vs H Q E h => ?_) (fun cdv A outer s H vs Q E hr h => ?_)
  · obtain ⟨p, r, s, t, rfl, _⟩ := h
    rfl
  · obtain ⟨p, r, ⟨sx, sy, sw, sh⟩, ⟨tx, ty, tw, th⟩, rfl, hp, hr', q⟩ := h
    refine ⟨_, pss_cons (ps_set (i := 2) scLOverlap.nd rfl (.inl rfl) (pe_and (pe_cmpR op_lt (pe_ix ix_tup (pv 0) pe_int (fun _ _ => rfl)) (pe_op op_add (pe_ix ix_tup (pv 1) pe_int (fun _ _ => rfl)) (pe_ix ix_tup (pv 1) pe_int (fun _ _ => rfl))) (nomark _))
        (pe_one (pe_cmpR op_lt (pe_ix ix_tup (pv 1) pe_int (fun _ _ => rfl)) (pe_op op_add (pe_ix ix_tup (pv 0) pe_int (fun _ _ => rfl)) (pe_ix ix_tup (pv 0) pe_int (fun _ _ => rfl))) (nomark _)))))
      (pss_one (ps_ret (pe_and (pv 2) (pe_and (pe_cmpR op_lt (pe_ix ix_tup (pv 0) pe_int (fun _ _ => rfl)) (pe_op op_add (pe_ix ix_tup (pv 1) pe_int (fun _ _ => rfl)) (pe_ix ix_tup (pv 1) pe_int (fun _ _ => rfl))) (nomark _))
        (pe_one (pe_cmpR op_lt (pe_ix ix_tup (pv 1) pe_int (fun _ _ => rfl)) (pe_op op_add (pe_ix ix_tup (pv 0) pe_int (fun _ _ => rfl)) (pe_ix ix_tup (pv 0) pe_int (fun _ _ => rfl))) (nomark _))))))), ?_⟩
    refine q_asg (v := .bl (decide (sx < tx + tw) && decide (tx < sx + sw))) (ev_andV (ev_op (ev_row (i := 0) (ev_var rfl) hp rfl) (ev_op (ev_row (i := 0) (ev_var rfl) hr' rfl) (ev_row (i := 2) (ev_var rfl) hr' rfl) rv_I0) rv_I0)
      fun _ => ev_op (ev_row (i := 0) (ev_var rfl) hr' rfl) (ev_op (ev_row (i := 0) (ev_var rfl) hp rfl) (ev_row (i := 2) (ev_var rfl) hp rfl) rv_I0) rv_I0) fun H1 e1 => ?_
    exact s_ret (ev_andV (ev_var rfl) fun _ => ev_andV (ev_op (ev_row (i := 1) (ev_var rfl) (e1 _ _ hp) rfl) (ev_op (ev_row (i := 1) (ev_var rfl) (e1 _ _ hr') rfl) (ev_row (i := 3) (ev_var rfl) (e1 _ _ hr') rfl) rv_I0) rv_I0)
      fun _ => ev_op (ev_row (i := 1) (ev_var rfl) (e1 _ _ hr') rfl) (ev_op (ev_row (i := 1) (ev_var rfl) (e1 _ _ hp) rfl) (ev_row (i := 3) (ev_var rfl) (e1 _ _ hp) rfl) rv_I0) rv_I0) fun H2 e2 => q H2 (e1.trans e2)
end
end CF

namespace CF
open PySem PySem.Spec PyProof.Rows L2 Evl
section
variable {P : Program} {w : World} {K : PySem.W.Frag} {mg : Str → Option Value} {base : Heap}
variable {σ : L2.St} {H H' : Hp} {ta tb te tl : TE} {t : TT} {x y z v : V} {D : Ends} {tu tz : TS}
theorem cut_take (xs : List V) (i : Nat) : cutV xs none (some (i : Int)) = xs.take i := by
  unfold cutV
  rw [HT.sIx_none, HT.sIx_nat, List.drop_zero, Nat.sub_zero]
  by_cases h : i ≤ xs.length
  · rw [Nat.min_eq_left h]
  · rw [Nat.min_eq_right (by omega), List.take_length, List.take_of_length_le (by omega)]
theorem cut_ne {n i : Nat} (h : i < n) : ¬ (HT.sIx n 0 none = 0 ∧ HT.sIx n n (some (i : Int)) = n) := by
  rw [HT.sIx_none, HT.sIx_nat]
  omega
/-! ### need_packing -/
def okPack (n : Nat) (f : Nat → Sp4) : Prop := 1 ≤ n ∧ n ≤ 8 ∧ (∀ i, i < n → okSpot (f i)) ∧ ∀ i, i < n → ∀ j, j < n → i ≠ j → ovl (f i) (f j) = false
abbrev spRow (f : Nat → Sp4) : Nat → List Int := fun i => (f i).row
def spNeedPacking : Sp := fun vs H Q _ => ∃ (p : Addr) (n : Nat) (f : Nat → Sp4), vs = [.ref p] ∧ Rws H p n (spRow f) ∧ okPack n f ∧ RetV .non H Q
theorem sv_needPacking {p : Addr} {n : Nat} {f : Nat → Sp4} (h : Rws H p n (spRow f)) (ho : okPack n f) : SpV spNeedPacking [.ref p] H .non := fun H1 e Q q _ => ⟨p, n, f, rfl, h.mono e, ho, q⟩
theorem ok_needPacking {f f1 f2 f3 : Addr} {fd fd1 fd2 fd3 : FuncData} {tk : Tok} (B : Bi mg) (mc : mg "MOST_BLOCKS" = some (.int 8 tk)) (F : Fun K "need_packing" "need_packing" sNeedPacking f fd)
    (A1 : At K mg "is_list" sIsList ["value", "least", "most"] f1 fd1) (G1 : FnOk P w K mg base CX0 1 f1 fd1 ["value", "least", "most"] spIsList)
    (A2 : At K mg "is_spot" sIsSpot ["value"] f2 fd2) (G2 : FnOk P w K mg base CX0 4 f2 fd2 ["value"] spIsSpot)
    (A3 : At K mg "do_overlap" sOverlap ["one", "other"] f3 fd3) (G3 : FnOk P w K mg base CX0 1 f3 fd3 ["one", "other"] spOverlap) : FnOk P w K mg base CX0 5 f fd ["spots"] spNeedPacking := by
  refine F.ok scNeedPacking (fun vs H Q E h => ?_) (fun cdv A outer s H vs Q E hr h => ?_)
  · obtain ⟨p, n, g, rfl, _⟩ := h
    rfl
  · obtain ⟨p, n, g, rfl, ⟨as, hl, hp, hrow⟩, ⟨n1, n8, hok, hov⟩, q⟩ := h
    refine ⟨_, pss_cons (ps_if (pt_not (pt_val (pe_call G1 (hr.mono (by decide)) (by rfl) A1.g A1.F.kp A1.b .nil pass0 (pa_cons (pv 0) (pa_cons pe_int (pa_cons (pe_glob (v := .int 8) rfl mc ⟨_, rfl⟩) pa_nil)))))) pss_never pss_nil)
      (pss_one (ps_for PassesOwn.never rfl (pi_enumT (by rfl) B.enumerate (pa_cons (pv 0) pa_nil)) (pg_tup (n := 2) rfl (pgs_cons (pg_name (i := 1) scNeedPacking.nd rfl (.inl rfl)) (pgs_cons (pg_name (i := 2) scNeedPacking.nd rfl (.inr rfl)) pgs_nil)))
        (pss_one (ps_if (PW.pt (pw_or (pt_not (pt_val (pe_call G2 hr (by rfl) A2.g A2.F.kp A2.b .nil pass0 (pa_cons (pv 2) pa_nil))))
          (pw_or1 (pt_val (pe_callB (cr_any rfl) (by rfl) B.any (by decide +kernel) (pa_cons
            (pe_lc (own := [("other", 3)]) (g := gName 3) (by rfl) scNeedPacking.nd (pi_tup (pe_slice sl_tup (pv 0) po_none (po_some (pv 1)))) (blkOk_by (N := nNeedPacking) (sc := defScope sNeedPacking) (by decide +kernel)) (fun _ _ _ _ _ => pg_name (i := 3) scNeedPacking.nd rfl (Or.inl rfl)) (fun _ _ _ _ _ => pts_nil)
              (fun _ _ _ _ _ => pe_call G3 (hr.mono (by decide)) (by rfl) A3.g A3.F.kp A3.b .nil pass0 (pa_cons (pv 2) (pa_cons (pv 3) pa_nil)))) pa_nil)))))) pss_never pss_nil)))), ?_⟩
    have hlen : (as.map V.ref).length = n := by rw [List.length_map, hl]
    refine q_when (et_not (a := true) (et_B (Ev.call' (ea_cons (ev_var rfl) (ea_cons ev_c (ea_cons ev_c ea_nil))) (sv_isList (.inl hp) (by rw [hlen]; omega) (by rw [hlen]; omega))))) (fun hb => by cases hb) fun _ H1 e1 => ?_
    refine s_forE (ev_var rfl) (.inl (e1 _ _ hp)) (fun i σ' H' => Ex H1 H' ∧ ∃ a b c, σ' = [some (.ref p), a, b, c]) (fun H2 e2 => ⟨e2, none, none, none, rfl⟩) (fun i σ' H' hw => .inl (hw.1 _ _ (e1 _ _ hp))) (fun i x σ' H' H2 hi hw e2 => ?_) (fun σ' H' hw => q H' (e1.trans hw.1))
    obtain ⟨e3, a, b, c, rfl⟩ := hw
    obtain ⟨r, hr', rfl⟩ := ref_at hi
    have hin : i < n := by
      have := (List.getElem?_eq_some_iff.mp hr').1
      omega
    have e13 : Ex H H2 := e1.trans (e3.trans e2)
    have hT : TupN H2 r (g i).row := e13 _ _ (hrow i r hr')
    have htk : ((as.map V.ref).take i).length = i := by rw [List.length_take, hlen]; omega
    refine s_when (et_is (et_or (a := !true) (b := ((List.range ((as.map V.ref).take i).length).map fun j => ovl (g i) (g j)).any id) (et_not (et_B (Ev.call' (ea_cons (ev_var rfl) ea_nil) (sv_isSpot hT (hok i hin)))))
      fun _ => et_B (ev_anyS (xs := (as.map V.ref).take i) (fun j => ovl (g i) (g j)) (es_u (eu_is (eu_sl (es_r (ev_var rfl) (e13 _ _ hp)) eo_none (eo_some (ev_var rfl)) (by rw [hlen]; exact cut_ne hin)) (cut_take _ _))) (by omega) (fun _ => rfl) fun j x H5 e5 hj => ?_)) (b := false) ?_)
      (fun hb => by cases hb) fun _ H4 e4 => ⟨e3.trans (e2.trans e4), _, _, _, rfl⟩
    · rw [List.getElem?_take] at hj
      split at hj
      · obtain ⟨r2, hr2, rfl⟩ := ref_at hj
        exact Ev.call' (ea_cons (ev_var rfl) (ea_cons (ev_var rfl) ea_nil)) (sv_overlap (e5 _ _ hT) (e5 _ _ (e13 _ _ (hrow j r2 hr2))))
      · cases hj
    · rw [any_false fun j hj => hov i hin j (by omega) (by omega)]
      rfl

/-! ### is_order, need_orders -/
/-- an order of n blocks as a tuple -/
abbrev ordI (l : List Nat) : List Int := l.map fun a : Nat => (a : Int)
/-- a tuple of ints, tracked or locked -/
abbrev TupQ (H : Hp) (p : Addr) (ns : List Int) : Prop := TupR H p (ns.map V.int)
theorem ordI_nodup {l : List Nat} (h : l.Nodup) : (ordI l).Nodup := List.pairwise_map.mpr (h.imp fun {a b} hab e => hab (Int.ofNat.inj e))
theorem ord_at {l : List Nat} {i : Nat} {x : V} (h : ((ordI l).map V.int)[i]? = some x) : ∃ a, l[i]? = some a ∧ x = .int (a : Int) := by
  rw [List.getElem?_map, List.getElem?_map] at h
  cases e : l[i]? with
  | none => rw [e] at h; cases h
  | some a => rw [e] at h; exact ⟨a, rfl, (Option.some.inj h).symm⟩
theorem ev_lenSet {p : Addr} {ns : List Int} (h : Ev ta σ H (.ref p)) (hp : TupQ H p ns) (nd : ns.Nodup) (hl : ns.length ≤ 4000) : Ev (tLenSetT K ta) σ H (.int (ns.length : Nat)) := fun H1 e Q q =>
  h H1 e _ fun H2 e2 => ⟨p, ns, rfl, .inl (ex_rd e2 (ex_rd e hp)), nd, hl, q H2 e2⟩
def spIsOrder : Sp := fun vs H Q _ => ∃ (p : Addr) (n : Nat) (l : List Nat), vs = [.ref p, .int (n : Int)] ∧ TupQ H p (ordI l) ∧ Perm n l ∧ n ≤ 8 ∧ RetV (.bl true) H Q
theorem sv_isOrder {p : Addr} {n : Nat} {l : List Nat} (h : TupQ H p (ordI l)) (ho : Perm n l) (hn : n ≤ 8) : SpV spIsOrder [.ref p, .int (n : Int)] H (.bl true) := fun H1 e Q q _ => ⟨p, n, l, rfl, ex_rd e h, ho, hn, q⟩
theorem ok_isOrder {f f1 f2 : Addr} {fd fd1 fd2 : FuncData} (B : Bi mg) (F : Fun K "is_order" "is_order" sIsOrder f fd)
    (A1 : At K mg "is_list" sIsList ["value", "least", "most"] f1 fd1) (G1 : FnOk P w K mg base CX0 1 f1 fd1 ["value", "least", "most"] spIsList)
    (A2 : At K mg "is_in" sIsIn ["value", "least", "most"] f2 fd2) (G2 : FnOk P w K mg base CX0 2 f2 fd2 ["value", "least", "most"] spIsIn) : FnOk P w K mg base CX0 3 f fd ["value", "many"] spIsOrder := by
  refine F.ok scIsOrder (fun vs H Q E h => ?_) (fun cdv A outer s H vs Q E hr h => ?_)
  · obtain ⟨p, n, l, rfl, _⟩ := h
    rfl
  · obtain ⟨p, n, l, rfl, hp, ho, h8, q⟩ := h
    have hlen : ((ordI l).map V.int).length = n := by rw [List.length_map, List.length_map, ho.len]
    have hlen2 : (ordI l).length = n := by rw [List.length_map, ho.len]
    refine ⟨_, pss_one (ps_ret (pe_and (pe_call G1 (hr.mono (by decide)) (by rfl) A1.g A1.F.kp A1.b .nil pass0 (pa_cons (pv 0) (pa_cons (pv 1) (pa_cons (pv 1) pa_nil))))
      (pe_and (pe_callB (cr_all rfl) (by rfl) B.all (by decide +kernel) (pa_cons
        (pe_lc (own := [("one", 2)]) (g := gName 2) (by rfl) scIsOrder.nd (pi_tup (pv 0)) (blkOk_by (N := nIsOrder) (sc := defScope sIsOrder) (by decide +kernel)) (fun _ _ _ _ _ => pg_name (i := 2) scIsOrder.nd rfl (Or.inl rfl)) (fun _ _ _ _ _ => pts_nil)
          (fun _ _ _ _ _ => pe_call G2 hr (by rfl) A2.g A2.F.kp A2.b .nil pass0 (pa_cons (pv 2) (pa_cons pe_int (pa_cons (pe_op op_sub (pv 1) pe_int) pa_nil))))) pa_nil))
        (pe_one (pe_cmpR op_eq (pe_lenSetT (by rfl) B.len (by rfl) B.set (pv 0)) (pv 1) (nomark _)))))), ?_⟩
    refine s_ret (ev_andV (a := true) (Ev.call' (ea_cons (ev_var rfl) (ea_cons (ev_var rfl) (ea_cons (ev_var rfl) ea_nil))) (sv_isList hp (by rw [hlen]; omega) (by rw [hlen]; omega)))
      fun _ => ev_andV (b := decide (V.int ((ordI l).length : Nat) = V.int (n : Int))) (ev_allS (xs := (ordI l).map V.int) (fun i => decide ((0 : Int) ≤ ((l.getD i 0 : Nat) : Int)) && decide (((l.getD i 0 : Nat) : Int) ≤ (n : Int) - 1)) (es_R (ev_var rfl) hp) (by omega) (fun _ => rfl) fun i x H1 e hi => ?_)
        fun _ => ev_op (ev_lenSet (ev_var rfl) hp (ordI_nodup ho.nd) (by omega)) (ev_var rfl) (rv_eq rfl)) fun H1 e => ?_
    · obtain ⟨a, ha, rfl⟩ := ord_at hi
      have : l.getD i 0 = a := by rw [List.getD_eq_getElem?_getD, ha]; rfl
      rw [this]
      exact Ev.call' (ea_cons (ev_var rfl) (ea_cons ev_c (ea_cons (ev_op (ev_var rfl) ev_c rv_I0) ea_nil))) sv_isIn
    · rw [all_true fun i hi => by
        rw [hlen] at hi
        have hi' : i < l.length := by rw [ho.len]; exact hi
        have e1 : l.getD i 0 = l[i] := by rw [List.getD_eq_getElem?_getD, List.getElem?_eq_getElem hi']; rfl
        have := ho.lt l[i] (List.getElem_mem hi')
        rw [e1]
        exact (Bool.and_eq_true _ _).mpr ⟨decide_eq_true (by omega), decide_eq_true (by omega)⟩, hlen2, decide_eq_true rfl]
      exact q H1 e
def spNeedOrders : Sp := fun vs H Q _ => ∃ (p p1 p2 : Addr) (n : Nat) (wd ht : Nat → Int) (l1 l2 : List Nat), vs = [.ref p, .ref p1, .ref p2] ∧ Rws H p n (szRow wd ht) ∧ okSizes n wd ht ∧ TupQ H p1 (ordI l1) ∧ TupQ H p2 (ordI l2) ∧ Perm n l1 ∧ Perm n l2 ∧ RetV .non H Q
theorem sv_needOrders {p p1 p2 : Addr} {n : Nat} {wd ht : Nat → Int} {l1 l2 : List Nat} (h : Rws H p n (szRow wd ht)) (ho : okSizes n wd ht) (h1 : TupQ H p1 (ordI l1)) (h2 : TupQ H p2 (ordI l2)) (k1 : Perm n l1) (k2 : Perm n l2) :
    SpV spNeedOrders [.ref p, .ref p1, .ref p2] H .non := fun H1 e Q q _ => ⟨p, p1, p2, n, wd, ht, l1, l2, rfl, h.mono e, ho, ex_rd e h1, ex_rd e h2, k1, k2, q⟩
theorem ok_needOrders {f f1 f2 : Addr} {fd fd1 fd2 : FuncData} (B : Bi mg) (F : Fun K "need_orders" "need_orders" sNeedOrders f fd)
    (A1 : At K mg "need_sizes" sNeedSizes ["sizes"] f1 fd1) (G1 : FnOk P w K mg base CX0 4 f1 fd1 ["sizes"] spNeedSizes)
    (A2 : At K mg "is_order" sIsOrder ["value", "many"] f2 fd2) (G2 : FnOk P w K mg base CX0 3 f2 fd2 ["value", "many"] spIsOrder) : FnOk P w K mg base CX0 5 f fd ["sizes", "first", "second"] spNeedOrders := by
  refine F.ok scNeedOrders (fun vs H Q E h => ?_) (fun cdv A outer s H vs Q E hr h => ?_)
  · obtain ⟨p, p1, p2, n, wd, ht, l1, l2, rfl, _⟩ := h
    rfl
  · obtain ⟨p, p1, p2, n, wd, ht, l1, l2, rfl, hR, ho, h1, h2, k1, k2, q⟩ := h
    obtain ⟨as, hl, hp, hrow⟩ := id hR
    have hlen : ((as.map V.ref).length : Int) = (n : Int) := by rw [List.length_map, hl]
    refine ⟨_, pss_cons (ps_expr (pe_call G1 hr (by rfl) A1.g A1.F.kp A1.b .nil pass0 (pa_cons (pv 0) pa_nil)))
      (pss_one (ps_if (PW.pt (pw_or (pt_not (pt_val (pe_call G2 (hr.mono (by decide)) (by rfl) A2.g A2.F.kp A2.b .nil pass0 (pa_cons (pv 1) (pa_cons (pe_callB call_len_seq (by rfl) B.len PySem.boot_len (pa_cons (pv 0) pa_nil)) pa_nil)))))
        (pw_or1 (pt_not (pt_val (pe_call G2 (hr.mono (by decide)) (by rfl) A2.g A2.F.kp A2.b .nil pass0 (pa_cons (pv 2) (pa_cons (pe_callB call_len_seq (by rfl) B.len PySem.boot_len (pa_cons (pv 0) pa_nil)) pa_nil)))))))) pss_never pss_nil)), ?_⟩
    refine q_drop (Ev.call' (ea_cons (ev_var rfl) ea_nil) (sv_needSizes hR ho)) fun H1 e1 => ?_
    refine s_when (et_or (a := !true) (b := !true) (et_not (et_B (Ev.call' (ea_cons (ev_var rfl) (ea_cons (ev_is (ev_lenS (es_r (ev_var rfl) (e1 _ _ hp))) (congrArg V.int hlen)) ea_nil)) (sv_isOrder (ex_rd e1 h1) k1 ho.2.1))))
      fun _ => et_not (et_B (Ev.call' (ea_cons (ev_var rfl) (ea_cons (ev_is (ev_lenS (es_r (ev_var rfl) (e1 _ _ hp))) (congrArg V.int hlen)) ea_nil)) (sv_isOrder (ex_rd e1 h2) k2 ho.2.1)))) (fun hb => by cases hb) fun _ H2 e2 => q H2 (e1.trans e2)

/-! ### relation, is_ahead -/
/-- a promise that hands back a new tuple -/
def RetU (xs : List V) (H : Hp) (Q : VK) : Prop := ∀ p H2, H p = none → Ex H H2 → H2 p = some (.tup xs) → Q (.ref p) H2
def SpU (sp : Sp) (vs : List V) (H : Hp) (xs : List V) : Prop := ∀ H1, Ex H H1 → ∀ Q : VK, RetU xs H1 Q → ∀ E : XK, sp vs H1 Q E
theorem eu_call {sp : Sp} {E : XK} {tr : TA} {vs xs : List V} (h : EvA tr σ H vs) (hs : SpU sp vs H xs) : EvU (tCall sp [] E tr) σ H xs := fun H1 e Q q =>
  h H1 e _ fun H2 e2 => by
    show sp (vs ++ []) H2 Q E
    rw [List.append_nil]
    exact hs H2 (e.trans e2) Q (fun p H3 hp e3 h3 => q p H3 (fresh_back e2 hp) (e2.trans e3) h3) E
theorem es_if {b : Bool} {xs : List V} (h : EvT t σ H b) (h1 : b = true → EvS K ta σ H xs) (h2 : b = false → EvS K tb σ H xs) : EvS K (tIf t ta tb) σ H xs := fun H1 e Q q => h H1 e _ fun H2 e2 => by
  cases b with
  | true =>
    show ta σ H2 Q
    exact h1 rfl H2 (e.trans e2) Q fun p H3 e3 => q p H3 (e2.trans e3)
  | false =>
    show tb σ H2 Q
    exact h2 rfl H2 (e.trans e2) Q fun p H3 e3 => q p H3 (e2.trans e3)
theorem q_asg2 {a b : V} {j1 j2 : Nat} (h : EvS K te σ H [a, b]) (k : ∀ H1, Ex H H1 → tz D ((σ.set j1 (some a)).set j2 (some b)) H1) : tSeq (tAsg te (gTup K 2 (gCons (gName j1) (gCons (gName j2) gNil)))) tz D σ H :=
  h H (Ex.refl H) _ fun p H1 e hp => ⟨p, [a, b], rfl, hp, rfl, a, [b], rfl, b, [], rfl, rfl, k H1 e⟩
theorem q_asg4 {a b c d : V} {j1 j2 j3 j4 : Nat} (h : EvS K te σ H [a, b, c, d]) (k : ∀ H1, Ex H H1 → tz D ((((σ.set j1 (some a)).set j2 (some b)).set j3 (some c)).set j4 (some d)) H1) :
    tSeq (tAsg te (gTup K 4 (gCons (gName j1) (gCons (gName j2) (gCons (gName j3) (gCons (gName j4) gNil)))))) tz D σ H :=
  h H (Ex.refl H) _ fun p H1 e hp => ⟨p, [a, b, c, d], rfl, hp, rfl, a, [b, c, d], rfl, b, [c, d], rfl, c, [d], rfl, d, [], rfl, rfl, k H1 e⟩
theorem q_par {i j : Nat} {tr : TA} (h : EvA tr σ H [x, y]) (k : ∀ H1, Ex H H1 → tz D ((σ.set i (some x)).set j (some y)) H1) : tSeq (tPar i j tr) tz D σ H := h H (Ex.refl H) _ fun H1 e => ⟨x, y, rfl, k H1 e⟩
def relV (s t : Sp4) : List V := [.bl (decide (s.x + s.w ≤ t.x)), .bl (decide (t.x + t.w ≤ s.x)), .bl (decide (s.y + s.h ≤ t.y)), .bl (decide (t.y + t.h ≤ s.y))]
def spRelation : Sp := fun vs H Q _ => ∃ (p r : Addr) (s t : Sp4), vs = [.ref p, .ref r] ∧ TupN H p s.row ∧ TupN H r t.row ∧ RetU (relV s t) H Q
theorem su_relation {p r : Addr} {s t : Sp4} (h : TupN H p s.row) (h' : TupN H r t.row) : SpU spRelation [.ref p, .ref r] H (relV s t) := fun H1 e Q q _ => ⟨p, r, s, t, rfl, e _ _ h, e _ _ h', q⟩
theorem ok_relation {f : Addr} {fd : FuncData} (F : Fun K "relation" "relation" sRelation f fd) : FnOk P w K mg base CX0 1 f fd ["one", "other"] spRelation := by
  refine F.ok scRelation (fun vs H Q E h => ?_) (fun cdv A outer s H vs Q E hr h => ?_)
  · obtain ⟨p, r, s, t, rfl, _⟩ := h
    rfl
  · obtain ⟨p, r, ⟨sx, sy, sw, sh⟩, ⟨tx, ty, tw, th⟩, rfl, hp, hr', q⟩ := h
    refine ⟨_, pss_cons (ps_par (i := 2) (j := 3) rfl scRelation.nd rfl rfl (by decide) rfl rfl
        (pa_cons (pe_cmpR op_le (pe_op op_add (pe_ix ix_tup (pv 0) pe_int (fun _ _ => rfl)) (pe_ix ix_tup (pv 0) pe_int (fun _ _ => rfl))) (pe_ix ix_tup (pv 1) pe_int (fun _ _ => rfl)) (nomark _))
        (pa_cons (pe_cmpR op_le (pe_op op_add (pe_ix ix_tup (pv 1) pe_int (fun _ _ => rfl)) (pe_ix ix_tup (pv 1) pe_int (fun _ _ => rfl))) (pe_ix ix_tup (pv 0) pe_int (fun _ _ => rfl)) (nomark _)) pa_nil)) (by rfl))
      (pss_one (ps_ret (pe_tup (pa_cons (pv 2) (pa_cons (pv 3)
        (pa_cons (pe_cmpR op_le (pe_op op_add (pe_ix ix_tup (pv 0) pe_int (fun _ _ => rfl)) (pe_ix ix_tup (pv 0) pe_int (fun _ _ => rfl))) (pe_ix ix_tup (pv 1) pe_int (fun _ _ => rfl)) (nomark _))
        (pa_cons (pe_cmpR op_le (pe_op op_add (pe_ix ix_tup (pv 1) pe_int (fun _ _ => rfl)) (pe_ix ix_tup (pv 1) pe_int (fun _ _ => rfl))) (pe_ix ix_tup (pv 0) pe_int (fun _ _ => rfl)) (nomark _)) pa_nil))))))), ?_⟩
    refine q_par (x := .bl (decide (sx + sw ≤ tx))) (y := .bl (decide (tx + tw ≤ sx))) (ea_cons (ev_op (ev_op (ev_row (i := 0) (ev_var rfl) hp rfl) (ev_row (i := 2) (ev_var rfl) hp rfl) rv_I0) (ev_row (i := 0) (ev_var rfl) hr' rfl) rv_I0)
      (ea_cons (ev_op (ev_op (ev_row (i := 0) (ev_var rfl) hr' rfl) (ev_row (i := 2) (ev_var rfl) hr' rfl) rv_I0) (ev_row (i := 0) (ev_var rfl) hp rfl) rv_I0) ea_nil)) fun H1 e1 => ?_
    have hp1 := e1 _ _ hp
    have hr1 := e1 _ _ hr'
    exact s_retU (eu_tup (ea_cons (ev_var rfl) (ea_cons (ev_var rfl)
      (ea_cons (ev_op (ev_op (ev_row (i := 1) (ev_var rfl) hp1 rfl) (ev_row (i := 3) (ev_var rfl) hp1 rfl) rv_I0) (ev_row (i := 1) (ev_var rfl) hr1 rfl) rv_I0)
      (ea_cons (ev_op (ev_op (ev_row (i := 1) (ev_var rfl) hr1 rfl) (ev_row (i := 3) (ev_var rfl) hr1 rfl) rv_I0) (ev_row (i := 1) (ev_var rfl) hp1 rfl) rv_I0) ea_nil)))) (by show 4 ≤ 100000; decide))
      fun u H2 hu e2 h2 => q u H2 (fresh_back e1 hu) (e1.trans e2) h2
def zI (z : Bool) : Int := if z then 0 else 1
def spIsAhead : Sp := fun vs H Q _ => ∃ (p r : Addr) (s t : Sp4) (z : Bool), vs = [.ref p, .ref r, .int (zI z)] ∧ TupN H p s.row ∧ TupN H r t.row ∧ RetV (.bl (ahead z s t)) H Q
theorem sv_isAhead {p r : Addr} {s t : Sp4} {z : Bool} (h : TupN H p s.row) (h' : TupN H r t.row) : SpV spIsAhead [.ref p, .ref r, .int (zI z)] H (.bl (ahead z s t)) := fun H1 e Q q _ => ⟨p, r, s, t, z, rfl, e _ _ h, e _ _ h', q⟩
theorem ok_isAhead {f f1 : Addr} {fd fd1 : FuncData} (F : Fun K "is_ahead" "is_ahead" sIsAhead f fd)
    (A1 : At K mg "relation" sRelation ["one", "other"] f1 fd1) (G1 : FnOk P w K mg base CX0 1 f1 fd1 ["one", "other"] spRelation) : FnOk P w K mg base CX0 2 f fd ["one", "other", "number"] spIsAhead := by
  refine F.ok scIsAhead (fun vs H Q E h => ?_) (fun cdv A outer s H vs Q E hr h => ?_)
  · obtain ⟨p, r, s, t, z, rfl, _⟩ := h
    rfl
  · obtain ⟨p, r, ⟨sx, sy, sw, sh⟩, ⟨tx, ty, tw, th⟩, z, rfl, hp, hr', q⟩ := h
    refine ⟨_, pss_cons (ps_asg (pe_call G1 hr (by rfl) A1.g A1.F.kp A1.b .nil pass0 (pa_cons (pv 0) (pa_cons (pv 1) pa_nil)))
        (pg_tup (n := 4) rfl (pgs_cons (pg_name (i := 3) scIsAhead.nd rfl (.inl rfl)) (pgs_cons (pg_name (i := 4) scIsAhead.nd rfl (.inl rfl)) (pgs_cons (pg_name (i := 5) scIsAhead.nd rfl (.inl rfl)) (pgs_cons (pg_name (i := 6) scIsAhead.nd rfl (.inl rfl)) pgs_nil))))))
      (pss_cons (ps_asg (pe_ifExp (pt_cmpR op_eq (pv 2) pe_int (nomark _)) (pe_tup (pa_cons (pv 6) (pa_cons (pv 5) pa_nil))) (pe_tup (pa_cons (pv 5) (pa_cons (pv 6) pa_nil))))
        (pg_tup (n := 2) rfl (pgs_cons (pg_name (i := 7) scIsAhead.nd rfl (.inl rfl)) (pgs_cons (pg_name (i := 8) scIsAhead.nd rfl (.inl rfl)) pgs_nil))))
      (pss_one (ps_ret (pe_and (pe_or (pv 3) (pe_one (pv 7))) (pe_and (pe_not (pv 4)) (pe_one (pe_not (pv 8)))))))), ?_⟩
    refine q_asg4 (es_u (eu_call (ea_cons (ev_var rfl) (ea_cons (ev_var rfl) ea_nil)) (su_relation hp hr'))) fun H1 e1 => ?_
    have ez : decide (V.int (zI z) = V.int 0) = z := by cases z <;> decide
    refine q_asg2 (a := .bl (if z then decide (ty + th ≤ sy) else decide (sy + sh ≤ ty))) (b := .bl (if z then decide (sy + sh ≤ ty) else decide (ty + th ≤ sy)))
      (es_if (b := z) (et_test (ev_op (ev_var rfl) ev_c (fun H2 e2 Q2 q2 => by
        have := rv_eq (x := V.int (zI z)) (y := V.int 0) rfl H2 e2 Q2
        rw [ez] at this
        exact this q2)))
        (fun hz => by subst hz; exact es_u (eu_tup (ea_cons (ev_var rfl) (ea_cons (ev_var rfl) ea_nil)) (by show 2 ≤ 100000; decide)))
        (fun hz => by subst hz; exact es_u (eu_tup (ea_cons (ev_var rfl) (ea_cons (ev_var rfl) ea_nil)) (by show 2 ≤ 100000; decide)))) fun H2 e2 => ?_
    exact s_ret (ev_andV (ev_orV (ev_var rfl) fun _ => ev_var rfl) fun _ => ev_andV (ev_notV (ev_var rfl)) fun _ => ev_notV (ev_var rfl)) fun H3 e3 => q H3 (e1.trans (e2.trans e3))
end
end CF

namespace CF
open PySem PySem.Spec PyProof.Rows L2 Evl
theorem given_of (L : List Nat) (p : Nat → Bool) (v : Nat → V) : given L.length (fun i => p (L.getD i 0)) (fun i => v (L.getD i 0)) = (L.filter p).map v := by
  have e : (List.range L.length).map (fun i => L.getD i 0) = L := by
    refine List.ext_getElem? fun i => ?_
    rw [List.getElem?_map]
    by_cases hi : i < L.length
    · rw [List.getElem?_eq_getElem (by rw [List.length_range]; exact hi), List.getElem_range, List.getElem?_eq_getElem hi, Option.map_some, List.getD_eq_getElem?_getD, List.getElem?_eq_getElem hi]
      rfl
    · rw [List.getElem?_eq_none (by rw [List.length_range]; omega), List.getElem?_eq_none (by omega)]
      rfl
  have e2 : given L.length (fun i => p (L.getD i 0)) (fun i => v (L.getD i 0)) = (((List.range L.length).map (fun i => L.getD i 0)).filter p).map v := by
    unfold given
    rw [List.filter_map, List.map_map]
    rfl
  rw [e2, e]
theorem given_range (n : Nat) (p : Nat → Bool) (v : Nat → V) : given n p v = ((List.range n).filter p).map v := rfl
theorem inV_ord (i : Nat) (l : List Nat) : inV (.int (i : Int)) ((ordI l).map V.int) = decide (i ∈ l) := by
  unfold inV
  rw [List.any_map, List.any_map]
  by_cases h : i ∈ l
  · rw [decide_eq_true h]
    refine List.any_eq_true.mpr ⟨i, h, ?_⟩
    show ((i : Int) == (i : Int)) = true
    exact beq_self_eq_true _
  · rw [decide_eq_false h]
    refine List.any_eq_false.mpr fun j hj q => h ?_
    have q : ((j : Int) == (i : Int)) = true := q
    have q : (j : Int) = (i : Int) := eq_of_beq q
    have : j = i := Int.ofNat.inj q
    exact this ▸ hj
theorem ordI_map (l : List Nat) : (ordI l).map V.int = l.map fun a : Nat => V.int (a : Int) := by rw [List.map_map]; rfl
/-! the rules within a comprehension's block: K told -/
theorem ix_tupK (K : PySem.W.Frag) {X : Cx} (h : X.K = K := by rfl) : IxR X (rIxT K) := h ▸ ix_tup
theorem ix_listK (K : PySem.W.Frag) {X : Cx} (h : X.K = K := by rfl) : IxR X (rIxL K) := h ▸ ix_list
theorem op_notInK (K : PySem.W.Frag) {X : Cx} (h : X.K = K := by rfl) : OpR X (compareOp .NotIn) (rIn K true) := h ▸ op_notIn_seq
theorem call_lenK (K : PySem.W.Frag) {X : Cx} (h : X.K = K := by rfl) : CallR X (.builtin "len") (rLenS K) := h ▸ call_len_seq
theorem sl_tupK (K : PySem.W.Frag) {X : Cx} (h : X.K = K := by rfl) : SlR X (rSlT K) := h ▸ sl_tup
theorem op_catTK (K : PySem.W.Frag) {X : Cx} (h : X.K = K := by rfl) : OpR X (binaryOp .Add) (rCatT K) := h ▸ op_catT
section
variable {P : Program} {w : World} {K : PySem.W.Frag} {mg : Str → Option Value} {base : Heap}
variable {σ : L2.St} {H H' : Hp} {ta tb te tl : TE} {t : TT} {x y z v : V} {D : Ends} {tu tz : TS}
def rTupOf (K : PySem.W.Frag) : List V → Hp → VK → Prop := fun xs H Q => ∃ p ys, xs = [.ref p] ∧ ((SqL K H p ys ∧ ∀ l, H l = none → Q (.ref l) (upd H l (.tup ys))) ∨ (SqT K H p ys ∧ Q (.ref p) H))
theorem call_tupOf {X : Cx} : CallR X (.type "tuple") (rTupOf X.K) := call_tuple_of
theorem eu_tupOf {xs : List V} (h : EvM K te σ H xs) : EvU (tCB (rTupOf K) (tCons te tNil)) σ H xs := fun H1 e Q q => h H1 e _ fun p H2 e2 hp =>
  ⟨p, xs, rfl, .inl ⟨hp, fun l hl => q l _ (fresh_back e2 hl) (e2.trans (Ex.new hl)) upd_same⟩⟩
/-- a plain tuple whose object is known to have no dict of its own: its methods may be called -/
def TupF (H : Hp) (p : Addr) (ns : List Int) : Prop := ∃ o : Obj, H p = some (.frz o (.tup (ns.map V.int))) ∧ o.cls = .type "tuple" ∧ o.dict = none
theorem TupF.mono {p : Addr} {ns : List Int} (h : TupF H p ns) (e : Ex H H') : TupF H' p ns := let ⟨o, a, b⟩ := h; ⟨o, e _ _ a, b⟩
theorem TupF.q {p : Addr} {ns : List Int} (h : TupF H p ns) : TupQ H p ns := let ⟨o, a, _⟩ := h; .inr ⟨o, a⟩
def rTupOfF (K : PySem.W.Frag) : List V → Hp → VK → Prop := fun xs H Q => ∃ p ys, xs = [.ref p] ∧ SqL K H p ys ∧ ∀ (l : Addr) (o : Obj), H l = none → o.cls = .type "tuple" → o.dict = none → Q (.ref l) (upd H l (.frz o (.tup ys)))
theorem call_tupOfF {X : Cx} : CallR X (.type "tuple") (rTupOfF X.K) := by
  intro pins s σ H xs us Q I r h
  obtain ⟨p, ys, rfl, hq, q⟩ := h
  obtain ⟨u, rfl, rx⟩ := vals1 r
  cases rx
  obtain ⟨its, r', pl, hz⟩ := I.list hq
  have hlen := r'.length
  refine call_tuple_list pl.isList (fun h' hk => ?_) (by rw [List.size_toArray, ← hlen]; exact hz)
  have I1 : Inv X pins σ H { s with heap := h' } := I.kept (t' := s.toks) hk
  have hn : H h'.objs.size = none := I1.hok.fresh (Nat.le_refl _)
  have I2 : Inv X pins σ (upd H h'.objs.size (.frz { cls := .type "tuple", data := .seq its.toArray } (.tup ys))) { s with heap := h'.push { cls := .type "tuple", data := .seq its.toArray } } :=
    I1.laid (t' := s.toks) (fun b o e => Heap.get?_push_of_some _ e) (Nat.le_refl _) (show ObjOk X.prog X.w _ _ _ (.frz _ (.tup ys)) from ⟨Heap.get?_push_size _ rfl, hz, its, r', IsTup.new _ _⟩)
  exact ⟨.ref h'.objs.size, _, I2, rfl, q _ _ hn rfl rfl⟩
/-- a new tuple whose object is known -/
def EvF (te : TE) (σ : L2.St) (H : Hp) (ns : List Int) : Prop := ∀ H1, Ex H H1 → ∀ Q : VK, (∀ p H2, H1 p = none → Ex H1 H2 → TupF H2 p ns → Q (.ref p) H2) → te σ H1 Q
theorem ef_tupOf {ns : List Int} (h : EvM K te σ H (ns.map V.int)) : EvF (tCB (rTupOfF K) (tCons te tNil)) σ H ns := fun H1 e Q q => h H1 e _ fun p H2 e2 hp =>
  ⟨p, _, rfl, hp, fun l o hl h1 h2 => q l _ (fresh_back e2 hl) (e2.trans (Ex.new hl)) ⟨o, upd_same, h1, h2⟩⟩
theorem s_retF {ns : List Int} (h : EvF te σ H ns) (k : ∀ p H1, H p = none → Ex H H1 → TupF H1 p ns → D.rt (.ref p) H1) : tRet te D σ H := h H (Ex.refl H) _ k
theorem ev_anyM {bs : List Bool} {ys : List V} (h : EvM K te σ H ys) (e : ys = bs.map V.bl) : Ev (tCB (rAny K) (tCons te tNil)) σ H (.bl (bs.any id)) := ev_any (e ▸ h)

/-! ### sorted_by, orders_of -/
def spSortedBy : Sp := fun vs H Q _ => ∃ (p : Addr) (z : Bool) (n : Nat) (f : Nat → Sp4), vs = [.ref p, .int (zI z)] ∧ Rws H p n (spRow f) ∧ okPack n f ∧
  ∀ r H' l, H r = none → Ex H H' → TupF H' r (ordI l) → Srt z f n l → l.length = n → Q (.ref r) H'
theorem ok_sortedBy {f f1 : Addr} {fd fd1 : FuncData} (B : Bi mg) (F : Fun K "sorted_by" "sorted_by" sSortedBy f fd)
    (A1 : At K mg "is_ahead" sIsAhead ["one", "other", "number"] f1 fd1) (G1 : FnOk P w K mg base CX0 2 f1 fd1 ["one", "other", "number"] spIsAhead) : FnOk P w K mg base CX0 3 f fd ["spots", "number"] spSortedBy := by
  refine F.ok scSortedBy (fun vs H Q E h => ?_) (fun cdv A outer s H vs Q E hr h => ?_)
  · obtain ⟨p, z, n, g, rfl, _⟩ := h
    rfl
  · obtain ⟨p, z, n, g, rfl, ⟨as, hl, hp, hrow⟩, ⟨n1, n8, hok, hov⟩, q⟩ := h
    refine ⟨_, pss_cons (ps_set (i := 2) scSortedBy.nd rfl (.inr rfl) (pe_lst pa_nil))
      (pss_cons (ps_while PassesOwn.never (pt_cmpR op_lt (pe_callB call_len_seq (by rfl) B.len PySem.boot_len (pa_cons (pv 2) pa_nil)) (pe_callB call_len_seq (by rfl) B.len PySem.boot_len (pa_cons (pv 0) pa_nil)) (nomark _))
        (pss_cons (ps_setLc (i := 4) (own := [("at", 3)]) (g := gName 3) (by rfl) scSortedBy.nd rfl rfl (sw_true rfl rfl rfl (by decide +kernel)) (pi_range1 (by rfl) B.range (pa_cons (pe_callB call_len_seq (by rfl) B.len PySem.boot_len (pa_cons (pv 0) pa_nil)) pa_nil)) (blkOk_by (N := nSortedBy) (sc := defScope sSortedBy) (by decide +kernel))
            (fun _ _ _ _ _ => pg_name (i := 3) scSortedBy.nd rfl (.inl rfl)) (fun _ _ _ _ _ => pts_one (pt_cmpR (op_notInK K) (pv 3) (pv 2) (by rfl))) (fun _ _ _ _ _ => pv 3))
          (pss_one (ps_for PassesOwn.never rfl (pi_list (pv 4)) (pg_name (i := 3) scSortedBy.nd rfl (.inr rfl))
            (pss_one (ps_if (pt_not (pt_val (pe_callB (cr_any rfl) (by rfl) B.any (by decide +kernel) (pa_cons
                (pe_lc (own := [("other", 5)]) (g := gName 5) (by rfl) scSortedBy.nd (pi_list (pv 4)) (blkOk_by (N := nSortedBy) (sc := defScope sSortedBy) (by decide +kernel)) (fun _ _ _ _ _ => pg_name (i := 5) scSortedBy.nd rfl (.inl rfl)) (fun _ _ _ _ _ => pts_one (pt_cmpR op_ne (pv 5) (pv 3) (nomark _)))
                  (fun _ _ _ _ _ => pe_call G1 hr (by rfl) A1.g A1.F.kp A1.b .nil pass0 (pa_cons (pe_ix (ix_tupK K) (pv 0) (pv 5) (fun _ _ => rfl)) (pa_cons (pe_ix (ix_tupK K) (pv 0) (pv 3) (fun _ _ => rfl)) (pa_cons (pv 1) pa_nil))))) pa_nil))))
              (pss_cons (ps_expr (pe_bm PySem.F.plainAttrs_list PySem.F.slot_list_append PySem.F.type_list_append mt_append (pv 2) (pa_cons (pv 3) pa_nil))) (pss_one ps_break)) pss_nil))))))
      (pss_one (ps_ret (pe_callTy call_tupOfF (by rfl) B.tuple (by decide +kernel) (pa_cons (pv 2) pa_nil))))), ?_⟩
    have hlen : (as.map V.ref).length = n := by rw [List.length_map, hl]
    refine q_asgL (el_lst ea_nil (Nat.zero_le _)) fun o H1 ho e1 hO => ?_
    -- the rows
    have row : ∀ H2, Ex H H2 → ∀ b, b < n → ∃ a, atI (as.map V.ref) (b : Int) = some (.ref a) ∧ TupN H2 a (g b).row := fun H2 e b hb => by
      obtain ⟨a, ha⟩ : ∃ a, as[b]? = some a := ⟨as[b]'(by omega), List.getElem?_eq_getElem (by omega)⟩
      exact ⟨a, atI_nat (by rw [List.getElem?_map, ha]; rfl), e _ _ (hrow b a ha)⟩
    refine q_while (fun m σ' H' => ∃ l a3 a4 a5, m = n - l.length ∧ Srt z g n l ∧ σ' = [some (.ref p), some (.int (zI z)), some (.ref o), a3, a4, a5] ∧ Ex H H' ∧ H' o = some (.lst ((ordI l).map V.int))) n
      ⟨[], none, none, none, rfl, Srt.nil, rfl, e1, hO⟩ fun m σ' H2 hw => ?_
    obtain ⟨l, a3, a4, a5, rfl, hs, rfl, e2, hO2⟩ := hw
    have hll : ((ordI l).map V.int).length = l.length := by rw [List.length_map, List.length_map]
    refine ⟨decide ((l.length : Int) < (n : Int)), et_test (ev_op (ev_is (ev_lenM (em_r (ev_var rfl) hO2)) (by rw [hll])) (ev_is (ev_lenS (es_r (ev_var rfl) (e2 _ _ hp))) (by rw [hlen])) rv_I0), fun hb H3 e3 => ?_, fun hb H3 e3 => ?_⟩
    · have hlt : l.length < n := by
        have := of_decide_eq_true hb
        omega
      refine ⟨fun σ2 H4 => ∃ l2 b3 b4 b5, l2.length = l.length + 1 ∧ Srt z g n l2 ∧ σ2 = [some (.ref p), some (.int (zI z)), some (.ref o), b3, b4, b5] ∧ Ex H H4 ∧ H4 o = some (.lst ((ordI l2).map V.int)),
        fun σ2 H4 ⟨l2, b3, b4, b5, h1, h2, h3, h4, h5⟩ => ⟨n - l2.length, by omega, l2, b3, b4, b5, rfl, h2, h3, h4, h5⟩, ?_⟩
      have hO3 := e3 _ _ hO2
      -- left
      refine q_asgL (xs := ((List.range n).filter fun i => decide (i ∉ l)).map fun i : Nat => V.int (i : Int)) (el_is (el_lcR1 (n := (n : Int)) (fun i => decide (i ∉ l)) (fun i => .int (i : Int)) (ea_cons (ev_is (ev_lenS (es_r (ev_var rfl) (e3 _ _ (e2 _ _ hp)))) (by rw [hlen])) ea_nil) (by omega) (fun _ => rfl) (fun i H4 e4 _ => ?_) (fun i H4 e4 _ _ => ev_var rfl)) ?_) fun d H4 hd e4 hL => ?_
      · refine et_is (et_test (ev_op (ev_var rfl) (ev_var rfl) (rv_niL (sq_of (e4 _ _ hO3)) rfl (cf_flat_ints _)))) ?_
        rw [inV_ord]
        by_cases hi : i ∈ l
        · rw [decide_eq_true hi, decide_eq_false (fun q => q hi)]
          rfl
        · rw [decide_eq_false hi, decide_eq_true hi]
          rfl
      · rw [given_range, Int.toNat_natCast]
      · generalize hLL : ((List.range n).filter fun i => decide (i ∉ l)) = L at hL
        have memL : ∀ b, b ∈ L ↔ b < n ∧ b ∉ l := fun b => by
          rw [← hLL, List.mem_filter, List.mem_range, decide_eq_true_iff]
        have lenL : L.length ≤ n := by
          rw [← hLL]
          have := List.length_filter_le (fun i => decide (i ∉ l)) (List.range n)
          rwa [List.length_range] at this
        have hLl : (L.map fun i : Nat => V.int (i : Int)).length = L.length := List.length_map _
        have getL : ∀ (i : Nat) (x : V), (L.map fun i : Nat => V.int (i : Int))[i]? = some x → ∃ b, L[i]? = some b ∧ x = .int (b : Int) := fun i x hx => by
          rw [List.getElem?_map] at hx
          cases e : L[i]? with
          | none => rw [e] at hx; cases hx
          | some b => rw [e] at hx; exact ⟨b, rfl, (Option.some.inj hx).symm⟩
        have e24 : Ex H H4 := e2.trans (e3.trans e4)
        refine s_forLn (ev_var rfl) (sq_of hL) (fun i σ' H' => (∃ b3 b5, σ' = [some (.ref p), some (.int (zI z)), some (.ref o), b3, some (.ref d), b5]) ∧ Ex H H' ∧ H' o = some (.lst ((ordI l).map V.int)) ∧ H' d = some (.lst (L.map fun i : Nat => V.int (i : Int))) ∧
            ∀ j b, j < i → L[j]? = some b → ∃ c, c ∈ L ∧ c ≠ b ∧ ahead z (g c) (g b) = true)
          (fun H5 e5 => ⟨⟨_, _, rfl⟩, e24.trans e5, e5 _ _ (e4 _ _ hO3), e5 _ _ hL, fun j b h => absurd h (Nat.not_lt_zero _)⟩) (fun i σ' H' _ hw => sq_of hw.2.2.2.1) (fun i x σ' H5 hx hw => ?_) (fun σ' H5 hw => ?_)
        · obtain ⟨⟨b3, b5, rfl⟩, e5, hO5, hL5, hno⟩ := hw
          obtain ⟨b, hb, rfl⟩ := getL i x hx
          have hbL : b ∈ L := List.mem_of_getElem? hb
          have hbn := ((memL b).mp hbL).1
          have hbl := ((memL b).mp hbL).2
          refine s_when (b := !(((L.filter fun c => decide (c ≠ b)).map fun c => ahead z (g c) (g b)).any id)) (et_not (et_B (ev_anyM (em_u (el_lcM (xs := L.map fun i : Nat => V.int (i : Int)) (fun j => decide (L.getD j 0 ≠ b)) (fun j => .bl (ahead z (g (L.getD j 0)) (g b))) (em_r (ev_var rfl) hL5) (by omega) (fun _ => rfl) (fun j y H6 e6 hy => ?_) (fun j y H6 e6 hy _ => ?_))) ?_)))
            (fun hbb H6 e6 => ?_) (fun hbb H6 e6 => ?_)
          · obtain ⟨c, hc, rfl⟩ := getL j y hy
            have ec : L.getD j 0 = c := by rw [List.getD_eq_getElem?_getD, hc]; rfl
            rw [ec]
            refine et_is (et_test (ev_op (ev_var rfl) (ev_var rfl) (rv_ne rfl))) ?_
            by_cases h : c = b
            · subst h
              rw [decide_eq_true rfl, decide_eq_false (fun q => q rfl)]
              rfl
            · rw [decide_eq_true h, decide_eq_false (show ¬ V.int (c : Int) = V.int (b : Int) from fun q => h (Int.ofNat.inj (V.int.inj q)))]
              rfl
          · obtain ⟨c, hc, rfl⟩ := getL j y hy
            have ec : L.getD j 0 = c := by rw [List.getD_eq_getElem?_getD, hc]; rfl
            have hcn := ((memL c).mp (List.mem_of_getElem? hc)).1
            rw [ec]
            obtain ⟨ra, ha1, ha2⟩ := row H6 (e5.trans e6) c hcn
            obtain ⟨rb, hb1, hb2⟩ := row H6 (e5.trans e6) b hbn
            exact Ev.call' (ea_cons (ev_ixS (es_r (ev_var rfl) (e6 _ _ (e5 _ _ hp))) (ev_var rfl) ha1) (ea_cons (ev_ixS (es_r (ev_var rfl) (e6 _ _ (e5 _ _ hp))) (ev_var rfl) hb1) (ea_cons (ev_var rfl) ea_nil))) (sv_isAhead ha2 hb2)
          · rw [hLl, given_of L (fun c => decide (c ≠ b)) (fun c => .bl (ahead z (g c) (g b))), bl_map]
          · -- nobody is ahead: append, break
            have hany : ((L.filter fun c => decide (c ≠ b)).map fun c => ahead z (g c) (g b)).any id = false := by
              cases e : ((L.filter fun c => decide (c ≠ b)).map fun c => ahead z (g c) (g b)).any id with
              | false => rfl
              | true => rw [e] at hbb; cases hbb
            refine q_app (e6 _ _ hO5) (ev_var rfl) (ev_var rfl) (by rw [hll]; omega) fun H7 e7 => ?_
            refine ⟨l ++ [b], _, _, _, by rw [List.length_append]; rfl, hs.snoc hbn hbl fun c hc hcl hcb => ?_, rfl, Ex.mut (e5.trans (e6.trans e7)) ho, ?_⟩
            · have hcL : c ∈ L := (memL c).mpr ⟨hc, hcl⟩
              have := List.any_eq_false.mp hany (ahead z (g c) (g b)) (List.mem_map.mpr ⟨c, List.mem_filter.mpr ⟨hcL, decide_eq_true hcb⟩, rfl⟩)
              cases e : ahead z (g c) (g b) with
              | false => rfl
              | true => rw [e] at this; exact absurd rfl this
            · rw [upd_same, show ordI (l ++ [b]) = ordI l ++ [(b : Int)] from List.map_append, List.map_append]
              rfl
          · -- somebody is ahead: on
            have hany : ((L.filter fun c => decide (c ≠ b)).map fun c => ahead z (g c) (g b)).any id = true := by
              cases e : ((L.filter fun c => decide (c ≠ b)).map fun c => ahead z (g c) (g b)).any id with
              | true => rfl
              | false => rw [e] at hbb; cases hbb
            refine ⟨⟨_, _, rfl⟩, e5.trans e6, e6 _ _ hO5, e6 _ _ hL5, fun j c hj hc => ?_⟩
            by_cases hji : j < i
            · exact hno j c hji hc
            · have : j = i := by omega
              subst this
              rw [hb] at hc
              obtain rfl := Option.some.inj hc
              obtain ⟨y, hy, ey⟩ := List.any_eq_true.mp hany
              obtain ⟨c, hc2, rfl⟩ := List.mem_map.mp hy
              obtain ⟨hc3, hc4⟩ := List.mem_filter.mp hc2
              exact ⟨c, hc3, of_decide_eq_true hc4, ey⟩
        · -- the loop can't run through
          obtain ⟨_, _, _, _, hno⟩ := hw
          rw [hLl] at hno
          exfalso
          have hne : ∃ b, b ∈ L := by
            by_cases h : ∃ b, b < n ∧ b ∉ l
            · obtain ⟨b, hb⟩ := h
              exact ⟨b, (memL b).mpr hb⟩
            · exfalso
              have := nd_len (l := List.range n) (m := l) List.nodup_range fun b hb => by
                by_cases q : b ∈ l
                · exact q
                · exact absurd ⟨b, List.mem_range.mp hb, q⟩ h
              rw [List.length_range] at this
              omega
          obtain ⟨b, hb, hmin⟩ := min_any z g L hne (fun b hb => by
            have := (hok b ((memL b).mp hb).1).2.2
            unfold okSize at this
            omega) (fun a ha b hb hab => hov a ((memL a).mp ha).1 b ((memL b).mp hb).1 hab)
          obtain ⟨j, hj⟩ := List.mem_iff_getElem?.mp hb
          obtain ⟨c, hc, hcb, hah⟩ := hno j b (List.getElem?_eq_some_iff.mp hj).1 hj
          rw [hmin c hc hcb] at hah
          cases hah
    · have hge : l.length = n := by
        have h1 := of_decide_eq_false hb
        have h2 := hs.short
        omega
      exact s_retF (ef_tupOf (em_r (ev_var rfl) (e3 _ _ hO2))) fun u H4 hu e4 h4 => q u H4 l (fresh_back (e2.trans e3) hu) (e2.trans (e3.trans e4)) h4 hs hge
def spOrdersOf : Sp := fun vs H Q _ => ∃ (p : Addr) (n : Nat) (f : Nat → Sp4), vs = [.ref p] ∧ Rws H p n (spRow f) ∧ okPack n f ∧
  ∀ r r1 r2 H' l1 l2, Ex H H' → H' r = some (.tup [.ref r1, .ref r2]) → TupF H' r1 (ordI l1) → TupF H' r2 (ordI l2) → Srt true f n l1 → Srt false f n l2 → l1.length = n → l2.length = n → Q (.ref r) H'
theorem ok_ordersOf {f f1 f2 : Addr} {fd fd1 fd2 : FuncData} (F : Fun K "orders_of" "orders_of" sOrdersOf f fd)
    (A1 : At K mg "need_packing" sNeedPacking ["spots"] f1 fd1) (G1 : FnOk P w K mg base CX0 5 f1 fd1 ["spots"] spNeedPacking)
    (A2 : At K mg "sorted_by" sSortedBy ["spots", "number"] f2 fd2) (G2 : FnOk P w K mg base CX0 3 f2 fd2 ["spots", "number"] spSortedBy) : FnOk P w K mg base CX0 6 f fd ["spots"] spOrdersOf := by
  refine F.ok scOrdersOf (fun vs H Q E h => ?_) (fun cdv A outer s H vs Q E hr h => ?_)
  · obtain ⟨p, n, g, rfl, _⟩ := h
    rfl
  · obtain ⟨p, n, g, rfl, hR, hok, q⟩ := h
    refine ⟨_, pss_cons (ps_expr (pe_call G1 hr (by rfl) A1.g A1.F.kp A1.b .nil pass0 (pa_cons (pv 0) pa_nil)))
      (pss_one (ps_ret (pe_tup (pa_cons (pe_call G2 (hr.mono (by decide)) (by rfl) A2.g A2.F.kp A2.b .nil pass0 (pa_cons (pv 0) (pa_cons pe_int pa_nil)))
        (pa_cons (pe_call G2 (hr.mono (by decide)) (by rfl) A2.g A2.F.kp A2.b .nil pass0 (pa_cons (pv 0) (pa_cons pe_int pa_nil))) pa_nil))))), ?_⟩
    refine q_drop (Ev.call' (ea_cons (ev_var rfl) ea_nil) (sv_needPacking hR hok)) fun H1 e1 => ?_
    refine ⟨.ref p, rfl, p, true, n, g, rfl, hR.mono e1, hok, fun r1 H2 l1 _ e2 t1 s1 k1 => ?_⟩
    refine ⟨.ref p, rfl, p, false, n, g, rfl, hR.mono (e1.trans e2), hok, fun r2 H3 l2 _ e3 t2 s2 k2 => ?_⟩
    exact ⟨by show 2 ≤ sizeLine; decide, fun u hu => q u r1 r2 _ l1 l2 ((e1.trans (e2.trans e3)).trans (Ex.new hu)) upd_same ((t1.mono e3).mono (Ex.new hu)) (t2.mono (Ex.new hu)) s1 s2 k1 k2⟩
end
end CF

namespace CF
open PySem PySem.Spec PyProof.Rows L2 Evl
/-! ### the greatest of 0 and some -/
def maxl (ns : List Int) : Int := ns.foldl max 0
theorem foldl_max : ∀ (ns : List Int) (a : Int), (ns.foldl max a = a ∨ ns.foldl max a ∈ ns) ∧ a ≤ ns.foldl max a ∧ ∀ y, y ∈ ns → y ≤ ns.foldl max a
  | [], a => ⟨.inl rfl, Int.le_refl _, fun y h => by cases h⟩
  | n :: r, a => by
    obtain ⟨h1, h2, h3⟩ := foldl_max r (max a n)
    have e : (n :: r).foldl max a = r.foldl max (max a n) := rfl
    rw [e]
    refine ⟨?_, by omega, fun y hy => ?_⟩
    · rcases h1 with h1 | h1
      · rw [h1]
        by_cases q : a ≤ n
        · right
          rw [Int.max_eq_right q]
          exact List.mem_cons_self
        · left
          exact Int.max_eq_left (by omega)
      · exact .inr (List.mem_cons_of_mem _ h1)
    · rcases List.mem_cons.mp hy with rfl | hy
      · omega
      · exact h3 y hy
section
variable {P : Program} {w : World} {K : PySem.W.Frag} {mg : Str → Option Value} {base : Heap}
variable {σ : L2.St} {H H' : Hp} {ta tb te tl : TE} {t : TT} {x y z v : V} {D : Ends} {tu tz : TS}
/-- a tuple that is tracked, new or old -/
def EvG (te : TE) (σ : L2.St) (H : Hp) (xs : List V) : Prop := ∀ H1, Ex H H1 → ∀ Q : VK, (∀ p H2, Ex H1 H2 → H2 p = some (.tup xs) → Q (.ref p) H2) → te σ H1 Q
theorem eg_u {xs : List V} (h : EvU te σ H xs) : EvG te σ H xs := fun H1 e Q q => h H1 e Q fun p H2 _ e2 hp => q p H2 e2 hp
theorem eg_r {xs : List V} {p : Addr} (h : Ev te σ H (.ref p)) (hp : H p = some (.tup xs)) : EvG te σ H xs := fun H1 e Q q => h H1 e Q fun H2 e2 => q p H2 e2 (e2 _ _ (e _ _ hp))
theorem es_g {xs : List V} (h : EvG te σ H xs) : EvS K te σ H xs := fun H1 e Q q => h H1 e Q fun p H2 e2 hp => q p H2 e2 (st_of hp)
theorem ea_star {tr : TA} {xs ys : List V} (h : EvM K te σ H xs) (hr : EvA tr σ H ys) : EvA (StX.tStar K te tr) σ H (xs ++ ys) := fun H1 e Q q =>
  h H1 e _ fun p H2 e2 hp => ⟨p, xs, rfl, .inr hp, hr H2 (e.trans e2) _ fun H3 e3 => q H3 (e2.trans e3)⟩
theorem ea_starS {tr : TA} {xs ys : List V} (h : EvS K te σ H xs) (hr : EvA tr σ H ys) : EvA (StX.tStar K te tr) σ H (xs ++ ys) := fun H1 e Q q =>
  h H1 e _ fun p H2 e2 hp => ⟨p, xs, rfl, .inl hp, hr H2 (e.trans e2) _ fun H3 e3 => q H3 (e2.trans e3)⟩
/-- max([0, *xs]) -/
theorem ev_max0 {ns : List Int} {xs : List V} (h : EvM K te σ H xs) (e : xs = (0 :: ns).map V.int) : Ev (tCB (rMax K) (tCons te tNil)) σ H (.int (maxl ns)) := fun H1 e1 Q q => h H1 e1 _ fun p H2 e2 hp =>
  ⟨p, 0 :: ns, rfl, e ▸ hp, Nat.succ_pos _, fun m hm hle => by
    obtain ⟨h1, h2, h3⟩ := foldl_max ns 0
    have h4 : maxl ns ≤ m := by
      rcases h1 with h1 | h1
      · show ns.foldl max 0 ≤ m
        rw [h1]
        exact hle 0 List.mem_cons_self
      · exact hle _ (List.mem_cons_of_mem _ h1)
    have h5 : m ≤ maxl ns := by
      rcases List.mem_cons.mp hm with rfl | hm
      · exact h2
      · exact h3 m hm
    have : m = maxl ns := by omega
    subst this
    exact q H2 e2⟩

/-! ### dicts of blocks -/
/-- at d a dict that holds F b for each b of l -/
def Dc (H : Hp) (d : Addr) (l : List Nat) (F : Nat → Int) : Prop := ∃ kvs : List (Key × V), H d = some (.dK kvs) ∧ kvs.length ≤ 1000 ∧ ∀ b : Nat, b ∈ l → valV kvs (Sum.inl (b : Int)) = some (.int (F b))
theorem Dc.mono {d : Addr} {l : List Nat} {F : Nat → Int} (h : Dc H d l F) (e : Ex H H') : Dc H' d l F := let ⟨kvs, a, b, c⟩ := h; ⟨kvs, e _ _ a, b, c⟩
theorem ev_dget {d : Addr} {l : List Nat} {F : Nat → Int} {b : Nat} (hd : Dc H d l F) (hb : b ∈ l) (h1 : Ev ta σ H (.ref d)) (h2 : Ev tb σ H (.int (b : Int))) : Ev (tDGet ta tb) σ H (.int (F b)) := fun H1 e Q q =>
  h1 H1 e _ fun H2 e2 => h2 H2 (e.trans e2) _ fun H3 e3 => by
    obtain ⟨kvs, k1, _, k3⟩ := hd
    exact ⟨d, .int (F b), rfl, .inl ⟨kvs, Sum.inl (b : Int), .inl (((e.trans e2).trans e3) _ _ k1), rfl, (k3 b hb).symm⟩, q H3 (e2.trans e3)⟩
/-- .. of at most N entries -/
def DcN (H : Hp) (d : Addr) (N : Nat) (l : List Nat) (F : Nat → Int) : Prop := ∃ kvs : List (Key × V), H d = some (.dK kvs) ∧ kvs.length ≤ N ∧ ∀ b : Nat, b ∈ l → valV kvs (Sum.inl (b : Int)) = some (.int (F b))
theorem DcN.dc {d : Addr} {N : Nat} {l : List Nat} {F : Nat → Int} (h : DcN H d N l F) (hN : N ≤ 1000) : Dc H d l F := let ⟨kvs, a, b, c⟩ := h; ⟨kvs, a, by omega, c⟩
theorem DcN.mono {d : Addr} {N : Nat} {l : List Nat} {F : Nat → Int} (h : DcN H d N l F) (e : Ex H H') : DcN H' d N l F := let ⟨kvs, a, b, c⟩ := h; ⟨kvs, e _ _ a, b, c⟩
theorem DcN.other {d d2 : Addr} {N : Nat} {o : HO} {l : List Nat} {F : Nat → Int} (h : DcN H d N l F) (hne : d ≠ d2) : DcN (upd H d2 o) d N l F := let ⟨kvs, a, b, c⟩ := h; ⟨kvs, by rw [upd_ne hne]; exact a, b, c⟩
theorem Dc.other {d d2 : Addr} {o : HO} {l : List Nat} {F : Nat → Int} (h : Dc H d l F) (hne : d ≠ d2) : Dc (upd H d2 o) d l F := let ⟨kvs, a, b, c⟩ := h; ⟨kvs, by rw [upd_ne hne]; exact a, b, c⟩
theorem q_dput {d : Addr} {N : Nat} {l : List Nat} {F : Nat → Int} {b : Nat} {m : Int} (hd : DcN H d N l F) (hN : N ≤ 1000)
    (hv : Ev te σ H (.int m)) (h1 : Ev ta σ H (.ref d)) (h2 : Ev tb σ H (.int (b : Int)))
    (k : ∀ H1 o, Ex H H1 → DcN (upd H1 d o) d (N + 1) (l ++ [b]) (upF F b m) → tz D σ (upd H1 d o)) : tSeq (sDPut ta tb te) tz D σ H :=
  hv H (Ex.refl H) _ fun H1 e1 => h1 H1 e1 _ fun H2 e2 => h2 H2 (e1.trans e2) _ fun H3 e3 => by
    obtain ⟨kvs, k1, k2, k3⟩ := hd
    have e := (e1.trans e2).trans e3
    refine ⟨d, upd H3 d (.dK (putK kvs (Sum.inl (b : Int)) (.int m))), rfl, DPut.k (k := Sum.inl (b : Int)) (e _ _ k1) (sz_lt (by omega)), k H3 _ e ⟨_, upd_same, ?_, fun c hc => ?_⟩⟩
    · have := length_putK kvs (Sum.inl (b : Int) : Key) (.int m)
      omega
    · rw [valV_put]
      by_cases h : c = b
      · subst h
        rw [if_pos rfl, upF_same]
      · rw [if_neg (show ¬ (Sum.inl (c : Int) : Key) = Sum.inl (b : Int) from fun q => h (Int.ofNat.inj (Sum.inl.inj q))), upF_ne h]
        rcases List.mem_append.mp hc with hc | hc
        · exact k3 c hc
        · exact absurd (List.mem_singleton.mp hc) h

theorem s_dput {d : Addr} {N : Nat} {l : List Nat} {F : Nat → Int} {b : Nat} {m : Int} (hd : DcN H d N l F) (hN : N ≤ 1000)
    (hv : Ev te σ H (.int m)) (h1 : Ev ta σ H (.ref d)) (h2 : Ev tb σ H (.int (b : Int)))
    (k : ∀ H1 o, Ex H H1 → DcN (upd H1 d o) d (N + 1) (l ++ [b]) (upF F b m) → D.nx σ (upd H1 d o)) : sDPut ta tb te D σ H := q_dput (tz := tNext) hd hN hv h1 h2 k

/-! ### comprehensions whose elements are tuples -/
def Cr (H : Hp) (r : Nat → List Int) (Dl : Addr) (i : Nat) (H' : Hp) : Prop := H Dl = none ∧ Ex H H' ∧ ∃ as : List Addr, as.length = i ∧ H' Dl = some (.lst (as.map V.ref)) ∧ RowsAt H' as r
theorem cr_start {r : Nat → List Int} {Dl : Addr} (h : H Dl = none) : Cr H r Dl 0 (upd H Dl (.lst [])) := ⟨h, Ex.new h, [], rfl, upd_same, fun i a e => by simp at e⟩
theorem cr_snoc {r : Nat → List Int} {Dl p : Addr} {i : Nat} {H2 : Hp} (c : Cr H r Dl i H') (e : Ex H' H2) (hp : H2 p = some (.tup ((r i).map V.int))) (hi : i < 50000) :
    ∃ acc, H2 Dl = some (.lst acc) ∧ acc.length < sizeLine ∧ Cr H r Dl (i + 1) (upd H2 Dl (.lst (acc ++ [.ref p]))) := by
  obtain ⟨c1, c2, as, c3, c4, c5⟩ := c
  have hD := e _ _ c4
  have ne : ∀ a xs, H2 a = some (.tup xs) → a ≠ Dl := fun a xs h => ne_of h hD (by intro z; cases z)
  refine ⟨as.map V.ref, hD, sz_lt (by rw [List.length_map]; omega), c1, Ex.mut (c2.trans e) c1, as ++ [p], by rw [List.length_append, c3]; rfl, by rw [upd_same, List.map_append]; rfl, fun j a hj => ?_⟩
  by_cases hji : j < i
  · rw [List.getElem?_append_left (by omega)] at hj
    have h := e _ _ (c5 j a hj)
    show upd H2 Dl _ a = _
    rw [upd_ne (ne _ _ h)]
    exact h
  · have hlt := (List.getElem?_eq_some_iff.mp hj).1
    rw [List.length_append, List.length_singleton] at hlt
    have ej : j = i := by omega
    subst ej
    rw [List.getElem?_append_right (by omega), c3, Nat.sub_self] at hj
    have ea : p = a := Option.some.inj hj
    subst ea
    show upd H2 Dl _ p = _
    rw [upd_ne (ne _ _ hp)]
    exact hp
theorem cr_turn {r : Nat → List Int} {Dl : Addr} {i : Nat} {σ2 : L2.St} (c : Cr H r Dl i H') (hi : i < 50000) (he : EvG te σ2 H ((r i).map V.int)) :
    te σ2 H' fun y H4 => ∃ acc, H4 Dl = some (.lst acc) ∧ acc.length < sizeLine ∧ Cr H r Dl (i + 1) (upd H4 Dl (.lst (acc ++ [y]))) :=
  he H' c.2.1 _ fun p H2 e hp => cr_snoc c e hp hi
/-- a list of n rows -/
def EvR (te : TE) (σ : L2.St) (H : Hp) (n : Nat) (r : Nat → List Int) : Prop := ∀ H1, Ex H H1 → ∀ Q : VK, (∀ p H2 as, H1 p = none → Ex H1 H2 → as.length = n → H2 p = some (.lst (as.map V.ref)) → RowsAt H2 as r → Q (.ref p) H2) → te σ H1 Q
/-- a tuple of n rows -/
def EvT2 (te : TE) (σ : L2.St) (H : Hp) (n : Nat) (r : Nat → List Int) : Prop := ∀ H1, Ex H H1 → ∀ Q : VK, (∀ p H2, H1 p = none → Ex H1 H2 → Rws H2 p n r → Q (.ref p) H2) → te σ H1 Q
theorem er_tup {n : Nat} {r : Nat → List Int} (h : EvR te σ H n r) : EvT2 (tCB (rTupOf K) (tCons te tNil)) σ H n r := fun H1 e Q q => h H1 e _ fun p H2 as hp e2 hl h2 hr =>
  ⟨p, as.map V.ref, rfl, .inl ⟨sq_of h2, fun u hu => q u _ (fresh_back e2 hu) (e2.trans (Ex.new hu)) ⟨as, hl, upd_same, hr.mono (Ex.new hu)⟩⟩⟩
theorem er_range {n : Nat} {r : Nat → List Int} {tr : TA} {j : Nat} {vs : List Nat} (h : EvA tr σ H [.int (n : Int)]) (hn : n ≤ 40000) (hw : ∀ x, wipe ((wipe σ vs).set j (some x)) vs = wipe σ vs)
    (he : ∀ (i : Nat) H1, Ex H H1 → i < n → EvG te ((wipe σ vs).set j (some (.int (i : Int)))) H1 ((r i).map V.int)) : EvR (tLc (iRng1 tr) (gName j) tYes te vs) σ H n r := fun H0 e Q q => h H0 e _ fun H1 e1 => ⟨(n : Int), rfl, by omega, by omega, fun Dl hD =>
  lc_range (lo := 0) (n := ((n : Int)).toNat) (Cr H1 r Dl) (cr_start hD) (fun i H' hi c => by
    have e0 : (0 : Int) + (i : Int) = (i : Int) := Int.zero_add _
    show wipe ((wipe σ vs).set j (some (.int ((0 : Int) + (i : Int))))) vs = wipe σ vs ∧ te ((wipe σ vs).set j (some (.int ((0 : Int) + (i : Int))))) H' fun y H4 => ∃ acc, H4 Dl = some (.lst acc) ∧ acc.length < sizeLine ∧ Cr H1 r Dl (i + 1) (upd H4 Dl (.lst (acc ++ [y])))
    rw [e0]
    exact ⟨hw _, cr_turn c (by omega) (he i H1 (e.trans e1) (by omega))⟩) (fun H' c => by
    rw [Int.toNat_natCast] at c
    obtain ⟨c1, c2, as, c3, c4, c5⟩ := c
    exact q Dl H' as (fresh_back e1 c1) (e1.trans c2) c3 c4 c5)⟩
theorem er_S {n : Nat} {r : Nat → List Int} {xs : List V} {j : Nat} {vs : List Nat} (h : EvS K tl σ H xs) (hl : xs.length = n) (hn : n ≤ 40000) (hw : ∀ x, wipe ((wipe σ vs).set j (some x)) vs = wipe σ vs)
    (he : ∀ (i : Nat) (x : V) H1, Ex H H1 → xs[i]? = some x → EvG te ((wipe σ vs).set j (some x)) H1 ((r i).map V.int)) : EvR (tLc (iTup K tl) (gName j) tYes te vs) σ H n r := fun H0 e Q q => h H0 e _ fun a H1 e1 hx => ⟨a, rfl, ⟨xs, hx⟩, fun Dl hD =>
  lc_tup (xs := xs) (Cr H1 r Dl) (cr_start hD) (fun i H' _ c => ex_t c.2.1 hx) (fun i x H' hi c => ⟨hw x, cr_turn c (by have := (List.getElem?_eq_some_iff.mp hi).1; omega) (he i x H1 (e.trans e1) hi)⟩) (fun H' c => by
    rw [hl] at c
    obtain ⟨c1, c2, as, c3, c4, c5⟩ := c
    exact q Dl H' as (fresh_back e1 c1) (e1.trans c2) c3 c4 c5)⟩
theorem er_E {n : Nat} {r : Nat → List Int} {xs : List V} {a : Addr} {j1 j2 : Nat} {vs : List Nat} (h : Ev tl σ H (.ref a)) (hx : H a = some (.tup xs)) (hl : xs.length = n) (hn : n ≤ 40000)
    (hw : ∀ x y, wipe (((wipe σ vs).set j1 (some x)).set j2 (some y)) vs = wipe σ vs)
    (he : ∀ (i : Nat) (x : V) H1, Ex H H1 → xs[i]? = some x → EvG te (((wipe σ vs).set j1 (some (.int (i : Int)))).set j2 (some x)) H1 ((r i).map V.int)) :
    EvR (tLc (iEnumT K (tCons tl tNil)) (gTup K 2 (gCons (gName j1) (gCons (gName j2) gNil))) tYes te vs) σ H n r := fun H0 e Q q => h H0 e _ fun H1 e1 => ⟨a, xs, rfl, st_of (e1 _ _ (e _ _ hx)), fun Dl hD =>
  ⟨fun i m H' => m = xs.length - i ∧ i ≤ xs.length ∧ Cr H1 r Dl i H', ⟨xs.length, by simp, Nat.zero_le _, cr_start hD⟩, by
    rintro i m H' ⟨rfl, hi, c⟩
    have hxs : SqT K H' a xs := st_of (c.2.1 _ _ (e1 _ _ (e _ _ hx)))
    by_cases hlt : i < xs.length
    · refine .inr ⟨⟨xs, xs[i], hxs, by simp [hlt]⟩, Cr H1 r Dl (i + 1), fun H2 c' => ⟨xs.length - (i + 1), by omega, rfl, hlt, c'⟩, fun u H2 y => ?_⟩
      obtain ⟨T, x, rfl, hT, rfl, hx'⟩ := y
      refine ⟨T, [.int (i : Nat), x], rfl, st_of upd_same, rfl, .int (i : Nat), [x], rfl, x, [], rfl, rfl, hw _ _, ?_⟩
      have c' : Cr H1 r Dl i (upd H' T (.tup [.int (i : Nat), x])) := ⟨c.1, c.2.1.trans (Ex.new hT), let ⟨as, h1, h2, h3⟩ := c.2.2; ⟨as, h1, Ex.new hT _ _ h2, h3.mono (Ex.new hT)⟩⟩
      exact cr_turn c' (by omega) (he i x H1 (e.trans e1) (hx' xs hxs))
    · have ei : i = xs.length := by omega
      subst ei
      refine .inl ⟨⟨xs, hxs, Nat.le_refl _⟩, ?_⟩
      rw [hl] at c
      obtain ⟨c1, c2, as, c3, c4, c5⟩ := c
      exact q Dl H' as (fresh_back e1 c1) (e1.trans c2) c3 c4 c5⟩⟩
end
end CF

namespace CF
open PySem PySem.Spec PyProof.Rows L2 Evl
theorem pa_starK (K : PySem.W.Frag) {X : Cx} {e : Expr} {es : List Expr} {te : TE} {t : TA} {p : Pos} (he : PE X e te) (hr : PA X es t) (hs : starEach (.Starred e p :: es) X.env = (true, eval e X.env) :: starEach es X.env := by rfl) (h : X.K = K := by rfl) :
    PA X (.Starred e p :: es) (StX.tStar K te t) := h ▸ StX.pa_star he hr hs
section
variable {P : Program} {w : World} {K : PySem.W.Frag} {mg : Str → Option Value} {base : Heap}
variable {σ : L2.St} {H H' : Hp} {ta tb te tl tk tv : TE} {t : TT} {x y z v : V} {D : Ends} {tu tz : TS}
/-- name = {b: i for i, b in enumerate(order)} -/
theorem q_dcE {a : Addr} {l : List Nat} {j1 j2 m0 : Nat} {vs : List Nat} (h : Ev tl σ H (.ref a)) (hx : TupQ H a (ordI l)) (nd : l.Nodup) (hl : l.length ≤ 40)
    (hw : ∀ x y, wipe (((wipe σ vs).set j1 (some x)).set j2 (some y)) vs = wipe σ vs)
    (hk : ∀ (i b : Nat) H1, Ev tk (((wipe σ vs).set j1 (some (.int (i : Int)))).set j2 (some (.int (b : Int)))) H1 (.int (b : Int)))
    (hv : ∀ (i b : Nat) H1, Ev tv (((wipe σ vs).set j1 (some (.int (i : Int)))).set j2 (some (.int (b : Int)))) H1 (.int (i : Int)))
    (k : ∀ d H1, H d = none → Ex H H1 → DcN H1 d l.length l (fun b => ((l.idxOf b : Nat) : Int)) → tz D (σ.set m0 (some (.ref d))) H1) :
    tSeq (tAsg (tDc (iEnumT K (tCons tl tNil)) (gTup K 2 (gCons (gName j1) (gCons (gName j2) gNil))) tYes tk tv vs) (gName m0)) tz D σ H :=
  h H (Ex.refl H) _ fun H1 e1 => ⟨a, (ordI l).map V.int, rfl, .inl (ex_rd e1 hx), fun Dl hD =>
  ⟨fun i m H' => m = l.length - i ∧ i ≤ l.length ∧ Ex H1 H' ∧ DcN H' Dl i (l.take i) (fun b => ((l.idxOf b : Nat) : Int)), ⟨l.length, by simp, Nat.zero_le _, Ex.new hD, ⟨[], upd_same, Nat.le_refl _, fun b hb => by simp at hb⟩⟩, by
    rintro i m H' ⟨rfl, hi, e2, hdc⟩
    have hxs : SqT K H' a ((ordI l).map V.int) := .inl (ex_rd e2 (ex_rd e1 hx))
    have hll : ((ordI l).map V.int).length = l.length := by rw [List.length_map, List.length_map]
    by_cases hlt : i < l.length
    · have hb : l[i]? = some l[i] := List.getElem?_eq_getElem hlt
      refine .inr ⟨⟨_, .int (l[i] : Int), hxs, by rw [List.getElem?_map, List.getElem?_map, hb]; rfl⟩, fun H2 => Ex H1 H2 ∧ DcN H2 Dl (i + 1) (l.take (i + 1)) (fun b => ((l.idxOf b : Nat) : Int)), fun H2 c => ⟨l.length - (i + 1), by omega, rfl, hlt, c⟩, fun u H2 y => ?_⟩
      obtain ⟨T, x, rfl, hT, rfl, hx'⟩ := y
      have ex : x = .int (l[i] : Int) := by
        have := hx' _ hxs
        rw [List.getElem?_map, List.getElem?_map, hb] at this
        exact (Option.some.inj this).symm
      subst ex
      refine ⟨T, [.int (i : Nat), .int (l[i] : Int)], rfl, st_of upd_same, rfl, .int (i : Nat), [.int (l[i] : Int)], rfl, .int (l[i] : Int), [], rfl, rfl, hw _ _, ?_⟩
      refine hk i l[i] _ _ (Ex.refl _) _ fun H3 e3 => hv i l[i] _ _ (Ex.refl _) _ fun H4 e4 => ?_
      have e34 : Ex H' H4 := (Ex.new hT).trans (e3.trans e4)
      obtain ⟨kvs, k1, k2, k3⟩ := hdc.mono e34
      refine ⟨kvs, Sum.inl (l[i] : Int), rfl, k1, sz_lt (by omega), Ex.mut (e2.trans e34) hD, _, upd_same, ?_, fun c hc => ?_⟩
      · have := length_putK kvs (Sum.inl (l[i] : Int) : Key) (.int (i : Int))
        omega
      · rw [valV_put]
        by_cases h : c = l[i]
        · subst h
          rw [if_pos rfl]
          show some (V.int (i : Int)) = some (V.int ((l.idxOf l[i] : Nat) : Int))
          rw [ix_of nd hb]
        · rw [if_neg (show ¬ (Sum.inl (c : Int) : Key) = Sum.inl (l[i] : Int) from fun q => h (Int.ofNat.inj (Sum.inl.inj q)))]
          refine k3 c ?_
          rw [List.take_add_one, hb] at hc
          rcases List.mem_append.mp hc with hc | hc
          · exact hc
          · exact absurd (List.mem_singleton.mp hc) h
    · have ei : i = l.length := by omega
      subst ei
      rw [List.take_length] at hdc
      exact .inl ⟨⟨_, hxs, by omega⟩, k Dl H' (fresh_back e1 hD) (e1.trans e2) hdc⟩⟩⟩
/-- some that stand ahead, pushed: max([0, *[X[a] + w(a) for a in A if ..]]) -/
theorem given_ord (A : List Nat) (p : Nat → Bool) (F : Nat → Int) : given ((ordI A).map V.int).length (fun i => p (A.getD i 0)) (fun i => .int (F (A.getD i 0))) = ((A.filter p).map F).map V.int := by
  rw [List.length_map, List.length_map, given_of A p (fun a => .int (F a)), List.map_map]
  rfl
theorem ev_push {A : List Nat} {p : Nat → Bool} {F : Nat → Int} {j : Nat} {vs : List Nat} (h : EvS K tl σ H ((ordI A).map V.int)) (hz : A.length ≤ 40000) (hw : ∀ x, wipe ((wipe σ vs).set j (some x)) vs = wipe σ vs)
    (ht : ∀ (a : Nat) H1, Ex H H1 → a ∈ A → EvT t ((wipe σ vs).set j (some (.int (a : Int)))) H1 (p a)) (he : ∀ (a : Nat) H1, Ex H H1 → a ∈ A → Ev te ((wipe σ vs).set j (some (.int (a : Int)))) H1 (.int (F a))) :
    Ev (tCB (rMax K) (tCons (tLst (tCons (tC (.int 0)) (StX.tStar K (tLc (iTup K tl) (gName j) t te vs) tNil))) tNil)) σ H (.int (maxl ((A.filter p).map F))) := by
  have hl : ((ordI A).map V.int).length = A.length := by rw [List.length_map, List.length_map]
  refine ev_max0 (xs := .int 0 :: (((A.filter p).map F).map V.int ++ [])) (em_u (el_lst (ea_cons ev_c (ea_star (em_u (el_is (el_lcS (fun i => p (A.getD i 0)) (fun i => .int (F (A.getD i 0))) h (by omega) hw (fun i x H1 e hi => ?_) (fun i x H1 e hi _ => ?_)) (given_ord A p F))) ea_nil)) ?_)) ?_
  · obtain ⟨a, ha, rfl⟩ := ord_at hi
    have : A.getD i 0 = a := by rw [List.getD_eq_getElem?_getD, ha]; rfl
    rw [this]
    exact ht a H1 e (List.mem_of_getElem? ha)
  · obtain ⟨a, ha, rfl⟩ := ord_at hi
    have : A.getD i 0 = a := by rw [List.getD_eq_getElem?_getD, ha]; rfl
    rw [this]
    exact he a H1 e (List.mem_of_getElem? ha)
  · rw [List.length_cons, List.length_append, List.length_map, List.length_map]
    have := List.length_filter_le p A
    show _ + 0 + 1 ≤ _
    omega
  · rw [List.append_nil]
    rfl
/-- the step of the second order -/
theorem push_step {n i c : Nat} {q : List Nat} {R : Nat → Nat → Prop} {wd X : Nat → Int} {p : Nat → Bool} (hq : Perm n q) (hc : q[i]? = some c) (hR : ∀ a b, a < n → b < n → R a b → q.idxOf a < q.idxOf b)
    (hp : ∀ a, a ∈ q.take i → (p a = true ↔ R a c)) (h : Got n q R wd X i) : Got n q R wd (upF X c (maxl (((q.take i).filter p).map fun a => X a + wd a))) (i + 1) := by
  have hcm := List.mem_of_getElem? hc
  have hcn := hq.lt c hcm
  have hi : q.idxOf c = i := ix_of hq.nd hc
  obtain ⟨h1, h2, h3⟩ := foldl_max (((q.take i).filter p).map fun a => X a + wd a) 0
  refine h.step hR hcn hi (fun b hb => hq.mem hb) h2 (fun a ha r => ?_) ?_
  · have hat : a ∈ q.take i := (mem_take hq.nd (hq.mem ha)).mpr (by have := hR a c ha hcn r; omega)
    exact h3 _ (List.mem_map.mpr ⟨a, List.mem_filter.mpr ⟨hat, (hp a hat).mpr r⟩, rfl⟩)
  · rcases h1 with h1 | h1
    · exact .inl h1
    · obtain ⟨a, ha, e⟩ := List.mem_map.mp h1
      obtain ⟨ha1, ha2⟩ := List.mem_filter.mp ha
      exact .inr ⟨a, hq.lt a (List.mem_of_mem_take ha1), (hp a ha1).mp ha2, e.symm⟩

/-! ### packed_in, packed -/
def spPackedIn : Sp := fun vs H Q _ => ∃ (p p1 p2 : Addr) (n : Nat) (wd ht : Nat → Int) (l1 l2 : List Nat), vs = [.ref p, .ref p1, .ref p2] ∧ Rws H p n (szRow wd ht) ∧ n ≤ 8 ∧ TupQ H p1 (ordI l1) ∧ TupQ H p2 (ordI l2) ∧ Perm n l1 ∧ Perm n l2 ∧
  ∀ r H' X Y, H r = none → Ex H H' → Pack n l1 l2 wd ht X Y → Rws H' r n (fun i => [X i, Y i, wd i, ht i]) → Q (.ref r) H'
theorem ok_packedIn {f : Addr} {fd : FuncData} (B : Bi mg) (F : Fun K "packed_in" "packed_in" sPackedIn f fd) : FnOk P w K mg base CX0 1 f fd ["sizes", "first", "second"] spPackedIn := by
  refine F.ok scPackedIn (fun vs H Q E h => ?_) (fun cdv A outer s H vs Q E hr h => ?_)
  · obtain ⟨p, p1, p2, n, wd, ht, l1, l2, rfl, _⟩ := h
    rfl
  · obtain ⟨p, p1, p2, n, wd, ht, l1, l2, rfl, ⟨as, hl, hp, hrow⟩, h8, h1, h2, k1, k2, q⟩ := h
    have hu := hu_of hr
    refine ⟨_, pss_cons (ps_set (i := 5) scPackedIn.nd rfl (.inr rfl) (pe_dc (own := [("at", 3), ("block", 4)]) (g := gTup K 2 (gCons (gName 3) (gCons (gName 4) gNil))) (by rfl) scPackedIn.nd (pi_enumT (by rfl) B.enumerate (pa_cons (pv 1) pa_nil)) (blkOk_by (N := nPackedIn) (sc := defScope sPackedIn) (by decide +kernel))
          (fun _ _ _ _ _ => pg_tup (n := 2) rfl (pgs_cons (pg_name (i := 3) scPackedIn.nd rfl (.inl rfl)) (pgs_cons (pg_name (i := 4) scPackedIn.nd rfl (.inl rfl)) pgs_nil))) (fun _ _ _ _ _ => pts_nil) (fun _ _ _ _ _ => pv 4) (fun _ _ _ _ _ => pv 3)))
      (pss_cons (ps_asg (pe_tup (pa_cons pe_dnewK (pa_cons pe_dnewK pa_nil))) (pg_tup (n := 2) rfl (pgs_cons (pg_name (i := 6) scPackedIn.nd rfl (.inr rfl)) (pgs_cons (pg_name (i := 7) scPackedIn.nd rfl (.inr rfl)) pgs_nil))))
      (pss_cons (ps_for PassesOwn.never rfl (pi_enumT (by rfl) B.enumerate (pa_cons (pv 2) pa_nil)) (pg_tup (n := 2) rfl (pgs_cons (pg_name (i := 3) scPackedIn.nd rfl (.inl rfl)) (pgs_cons (pg_name (i := 4) scPackedIn.nd rfl (.inr rfl)) pgs_nil)))
        (pss_cons (ps_set (i := 8) scPackedIn.nd rfl (.inl rfl) (pe_slice sl_tup (pv 2) po_none (po_some (pv 3))))
        (pss_cons (ps_dput hu (pv 6) (pv 4) (pe_callB (cr_max rfl) (by rfl) B.max (by decide +kernel) (pa_cons (pe_lst (pa_cons pe_int (pa_starK K
            (pe_lc (own := [("one", 9)]) (g := gName 9) (by rfl) scPackedIn.nd (pi_tup (pv 8)) (blkOk_by (N := nPackedIn) (sc := defScope sPackedIn) (by decide +kernel)) (fun _ _ _ _ _ => pg_name (i := 9) scPackedIn.nd rfl (.inl rfl))
              (fun _ _ _ _ _ => pts_one (pt_cmpR op_lt (pe_dget hu (pv 5) (pv 9) (fun _ _ => rfl)) (pe_dget hu (pv 5) (pv 4) (fun _ _ => rfl)) (nomark _)))
              (fun _ _ _ _ _ => pe_op op_add (pe_dget hu (pv 6) (pv 9) (fun _ _ => rfl)) (pe_ix (ix_tupK K) (pe_ix (ix_tupK K) (pv 0) (pv 9) (fun _ _ => rfl)) pe_int (fun _ _ => rfl)))) pa_nil))) pa_nil)) (by rfl))
        (pss_one (ps_dput hu (pv 7) (pv 4) (pe_callB (cr_max rfl) (by rfl) B.max (by decide +kernel) (pa_cons (pe_lst (pa_cons pe_int (pa_starK K
            (pe_lc (own := [("one", 9)]) (g := gName 9) (by rfl) scPackedIn.nd (pi_tup (pv 8)) (blkOk_by (N := nPackedIn) (sc := defScope sPackedIn) (by decide +kernel)) (fun _ _ _ _ _ => pg_name (i := 9) scPackedIn.nd rfl (.inl rfl))
              (fun _ _ _ _ _ => pts_one (pt_cmpR op_gt (pe_dget hu (pv 5) (pv 9) (fun _ _ => rfl)) (pe_dget hu (pv 5) (pv 4) (fun _ _ => rfl)) (nomark _)))
              (fun _ _ _ _ _ => pe_op op_add (pe_dget hu (pv 7) (pv 9) (fun _ _ => rfl)) (pe_ix (ix_tupK K) (pe_ix (ix_tupK K) (pv 0) (pv 9) (fun _ _ => rfl)) pe_int (fun _ _ => rfl)))) pa_nil))) pa_nil)) (by rfl))))))
      (pss_one (ps_ret (pe_callTy call_tupOf (by rfl) B.tuple (by decide +kernel) (pa_cons
        (pe_lc (own := [("block", 4), ("size", 10)]) (g := gTup K 2 (gCons (gName 4) (gCons (gName 10) gNil))) (by rfl) scPackedIn.nd (pi_enumT (by rfl) B.enumerate (pa_cons (pv 0) pa_nil)) (blkOk_by (N := nPackedIn) (sc := defScope sPackedIn) (by decide +kernel))
          (fun _ _ _ _ _ => pg_tup (n := 2) rfl (pgs_cons (pg_name (i := 4) scPackedIn.nd rfl (.inl rfl)) (pgs_cons (pg_name (i := 10) scPackedIn.nd rfl (.inl rfl)) pgs_nil))) (fun _ _ _ _ _ => pts_nil)
          (fun _ _ _ _ _ => pe_tup (pa_cons (pe_dget hu (pv 6) (pv 4) (fun _ _ => rfl)) (pa_cons (pe_dget hu (pv 7) (pv 4) (fun _ _ => rfl)) (pa_starK K (pv 10) pa_nil))))) pa_nil)))))), ?_⟩
    have hlen : (as.map V.ref).length = n := by rw [List.length_map, hl]
    have row : ∀ H2, Ex H H2 → ∀ b, b < n → ∃ a, atI (as.map V.ref) (b : Int) = some (.ref a) ∧ TupN H2 a [wd b, ht b] := fun H2 e b hb => by
      obtain ⟨a, ha⟩ : ∃ a, as[b]? = some a := ⟨as[b]'(by omega), List.getElem?_eq_getElem (by omega)⟩
      exact ⟨a, atI_nat (by rw [List.getElem?_map, ha]; rfl), e _ _ (hrow b a ha)⟩
    -- ranks
    refine q_dcE (ev_var rfl) h1 k1.nd (by rw [k1.len]; omega) (fun _ _ => rfl) (fun _ _ _ => ev_var rfl) (fun _ _ _ => ev_var rfl) fun dr H1 hdr e1 hrk => ?_
    have hrk := hrk.dc (by rw [k1.len]; omega)
    -- lefts, lows
    refine fun dl hdl dw hdw => ⟨by show 2 ≤ sizeLine; decide, fun t ht' => ⟨t, [.ref dl, .ref dw], rfl, st_of upd_same, rfl, .ref dl, [.ref dw], rfl, .ref dw, [], rfl, rfl, ?_⟩⟩
    have ex1 : Ex H1 (upd H1 dl (.dK [])) := Ex.new hdl
    have ex2 : Ex (upd H1 dl (.dK [])) (upd (upd H1 dl (.dK [])) dw (.dK [])) := Ex.new hdw
    have ex3 := Ex.new (o := .tup [.ref dl, .ref dw]) ht'
    have hdw1 : H1 dw = none := fresh_back ex1 hdw
    have hne : dl ≠ dw := ne_of_none (H := upd H1 dl (.dK [])) upd_same hdw
    have hH3 : ∀ {H3}, H3 = upd (upd (upd H1 dl (.dK [])) dw (.dK [])) t (.tup [.ref dl, .ref dw]) → Ex H1 H3 ∧ H3 dl = some (.dK []) ∧ H3 dw = some (.dK []) := fun {H3} e => by
      subst e
      exact ⟨ex1.trans (ex2.trans ex3), ex3 _ _ (ex2 _ _ upd_same), ex3 _ _ upd_same⟩
    generalize hH : upd (upd (upd H1 dl (.dK [])) dw (.dK [])) t (.tup [.ref dl, .ref dw]) = H3
    obtain ⟨e3, hl3, hw3⟩ := hH3 hH.symm
    clear hH hH3 ex1 ex2 ex3 ht' hdw
    have hrl : dr ≠ dl := let ⟨kvs, a, _⟩ := hrk; ne_of_none a hdl
    have hrw : dr ≠ dw := let ⟨kvs, a, _⟩ := hrk; ne_of_none a hdw1
    have e13 := e1.trans e3
    -- the loop
    refine q_forE (ev_var rfl) (ex_rd e13 h2) (fun i σ' H' => i ≤ n ∧ ∃ a3 a4 a8 X Y, σ' = [some (.ref p), some (.ref p1), some (.ref p2), a3, a4, some (.ref dr), some (.ref dl), some (.ref dw), a8, none, none] ∧ Ex H1 H' ∧ DcN H' dl i (l2.take i) X ∧ DcN H' dw i (l2.take i) Y ∧ Got n l2 (RL l1 l2) wd X i ∧ Got n l2 (RB l1 l2) ht Y i)
      (fun H4 e4 => ⟨Nat.zero_le _, none, none, none, fun _ => 0, fun _ => 0, rfl, e3.trans e4, ⟨[], e4 _ _ hl3, Nat.le_refl _, fun b hb => by simp at hb⟩, ⟨[], e4 _ _ hw3, Nat.le_refl _, fun b hb => by simp at hb⟩, Got.start, Got.start⟩)
      (fun i σ' H' hw => hw.2.choose_spec.choose_spec.choose_spec.choose_spec.choose_spec.2.1 |> fun e => ex_rd e (ex_rd e1 h2)) (fun i x σ' H' H4 hi hw e4 => ?_) (fun σ' H' hw => ?_)
    · obtain ⟨_, a3, a4, a8, X, Y, rfl, e5, dX, dY, gX, gY⟩ := hw
      obtain ⟨b, hb, rfl⟩ := ord_at hi
      have hbn := k2.lt b (List.mem_of_getElem? hb)
      have hin : i < n := by
        have := (List.getElem?_eq_some_iff.mp hb).1
        rw [k2.len] at this
        exact this
      have htk : cutV ((ordI l2).map V.int) none (some (i : Int)) = (ordI (l2.take i)).map V.int := by
        rw [cut_take, ← List.map_take, ← List.map_take]
      have hlen2 : ((ordI l2).map V.int).length = n := by rw [List.length_map, List.length_map, k2.len]
      have e14 : Ex H1 H4 := e5.trans e4
      -- ahead = second[:at]
      refine q_asgU (xs := (ordI (l2.take i)).map V.int) (eu_is (eu_sl (es_R (ev_var rfl) (ex_rd e14 (ex_rd e1 h2))) eo_none (eo_some (ev_var rfl)) (by rw [hlen2]; exact cut_ne hin)) htk) fun ah H5 _ e45 hah => ?_
      have e15 := e14.trans e45
      have mem1 : ∀ a, a ∈ l2.take i → a ∈ l1 ∧ a < n := fun a ha => by
        have := k2.lt a (List.mem_of_mem_take ha)
        exact ⟨k1.mem this, this⟩
      have dX5 := dX.mono (e4.trans e45)
      have dY5 := dY.mono (e4.trans e45)
      have e05 : Ex H H5 := e1.trans e15
      have htkl : (l2.take i).length ≤ 40000 := by
        have := List.length_take_le i l2
        omega
      have tke : l2.take i ++ [b] = l2.take (i + 1) := by rw [List.take_add_one, hb]; rfl
      -- lefts[block] = ..
      refine q_dput dX5 (by omega) (ev_push (A := l2.take i) (p := fun a => decide (((l1.idxOf a : Nat) : Int) < ((l1.idxOf b : Nat) : Int))) (F := fun a => X a + wd a) (es_r (ev_var rfl) hah) htkl (fun _ => rfl) (fun a H6 e6 ha => ?_) (fun a H6 e6 ha => ?_)) (ev_var rfl) (ev_var rfl) fun H6 o6 e6 dX6 => ?_
      · exact et_test (ev_op (ev_dget (hrk.mono (e15.trans e6)) (mem1 a ha).1 (ev_var rfl) (ev_var rfl)) (ev_dget (hrk.mono (e15.trans e6)) (k1.mem hbn) (ev_var rfl) (ev_var rfl)) rv_I0)
      · obtain ⟨ra, ra1, ra2⟩ := row H6 (e05.trans e6) a (mem1 a ha).2
        exact ev_op (ev_dget ((dX5.mono e6).dc (by omega)) ha (ev_var rfl) (ev_var rfl)) (ev_row (i := 0) (ev_ixS (es_r (ev_var rfl) (e6 _ _ (e05 _ _ hp))) (ev_var rfl) ra1) ra2 rfl) rv_I0
      · have e16 : Ex H1 (upd H6 dl o6) := Ex.mut (e15.trans e6) hdl
        have hrk6 : Dc (upd H6 dl o6) dr l1 _ := (hrk.mono (e15.trans e6)).other hrl
        have dY6 : DcN (upd H6 dl o6) dw i (l2.take i) Y := (dY5.mono e6).other hne.symm
        have hahN : ah ≠ dl := by
          obtain ⟨kvs, k, _⟩ := dX5
          exact ne_of hah k (by intro z; cases z)
        have hah6 : (upd H6 dl o6) ah = some (.tup ((ordI (l2.take i)).map V.int)) := by rw [upd_ne hahN]; exact e6 _ _ hah
        have e06 : Ex H (upd H6 dl o6) := e1.trans e16
        -- lows[block] = ..
        refine s_dput dY6 (by omega) (ev_push (A := l2.take i) (p := fun a => decide (((l1.idxOf b : Nat) : Int) < ((l1.idxOf a : Nat) : Int))) (F := fun a => Y a + ht a) (es_r (ev_var rfl) hah6) htkl (fun _ => rfl) (fun a H7 e7 ha => ?_) (fun a H7 e7 ha => ?_)) (ev_var rfl) (ev_var rfl) fun H7 o7 e7 dY7 => ?_
        · exact et_test (ev_op (ev_dget (hrk6.mono e7) (mem1 a ha).1 (ev_var rfl) (ev_var rfl)) (ev_dget (hrk6.mono e7) (k1.mem hbn) (ev_var rfl) (ev_var rfl)) rv_I0)
        · obtain ⟨ra, ra1, ra2⟩ := row H7 (e06.trans e7) a (mem1 a ha).2
          exact ev_op (ev_dget ((dY6.mono e7).dc (by omega)) ha (ev_var rfl) (ev_var rfl)) (ev_row (i := 1) (ev_ixS (es_r (ev_var rfl) (e7 _ _ (e06 _ _ hp))) (ev_var rfl) ra1) ra2 rfl) rv_I0
        · rw [tke] at dX6 dY7
          refine ⟨hin, _, _, _, _, _, rfl, Ex.mut (e16.trans e7) hdw1, (dX6.mono e7).other hne, dY7, ?_, ?_⟩
          · refine push_step k2 hb RL.q (fun a ha => ?_) gX
            have hlt := (mem_take k2.nd (k2.mem (mem1 a ha).2)).mp ha
            rw [decide_eq_true_iff]
            unfold RL
            rw [ix_of k2.nd hb]
            omega
          · refine push_step k2 hb RB.q (fun a ha => ?_) gY
            have hlt := (mem_take k2.nd (k2.mem (mem1 a ha).2)).mp ha
            have hib := ix_of k2.nd hb
            have hab : l1.idxOf a ≠ l1.idxOf b := fun e => by
              have := ix_inj (mem1 a ha).1 (k1.mem hbn) e
              subst this
              omega
            rw [decide_eq_true_iff]
            unfold RB
            rw [hib]
            omega
    · obtain ⟨_, a3, a4, a8, X, Y, rfl, e5, dX, dY, gX, gY⟩ := hw
      have hlen2 : ((ordI l2).map V.int).length = n := by rw [List.length_map, List.length_map, k2.len]
      rw [hlen2] at dX dY gX gY
      have tkn : l2.take n = l2 := List.take_of_length_le (by rw [k2.len]; exact Nat.le_refl _)
      rw [tkn] at dX dY
      have e05 : Ex H H' := e1.trans e5
      refine er_tup (er_E (n := n) (r := fun i => [X i, Y i, wd i, ht i]) (ev_var rfl) (e05 _ _ hp) hlen (by omega) (fun _ _ => rfl) fun i x H6 e6 hi => ?_) H' (Ex.refl H') _ fun u H7 hu e7 hR => q u H7 X Y (fresh_back e05 hu) (e05.trans e7) ⟨gX.lp k2, gY.lp k2⟩ hR
      obtain ⟨a, ha, rfl⟩ := ref_at hi
      have hin : i < n := by
        have := (List.getElem?_eq_some_iff.mp ha).1
        omega
      exact eg_u (eu_tup (vs := [.int (X i), .int (Y i), .int (wd i), .int (ht i)]) (ea_cons (ev_dget (b := i) ((dX.mono e6).dc (by omega)) (k2.mem hin) (ev_var rfl) (ev_var rfl)) (ea_cons (ev_dget (b := i) ((dY.mono e6).dc (by omega)) (k2.mem hin) (ev_var rfl) (ev_var rfl))
        (ea_starS (xs := [.int (wd i), .int (ht i)]) (ys := []) (es_r (ev_var rfl) (e6 _ _ (e05 _ _ (hrow i a ha)))) ea_nil))) (by show 4 ≤ 100000; decide))
def spPacked : Sp := fun vs H Q _ => ∃ (p p1 p2 : Addr) (n : Nat) (wd ht : Nat → Int) (l1 l2 : List Nat), vs = [.ref p, .ref p1, .ref p2] ∧ Rws H p n (szRow wd ht) ∧ okSizes n wd ht ∧ TupQ H p1 (ordI l1) ∧ TupQ H p2 (ordI l2) ∧ Perm n l1 ∧ Perm n l2 ∧
  ∀ r H' X Y, H r = none → Ex H H' → Pack n l1 l2 wd ht X Y → Rws H' r n (fun i => [X i, Y i, wd i, ht i]) → Q (.ref r) H'
theorem ok_packed {f f1 f2 : Addr} {fd fd1 fd2 : FuncData} (F : Fun K "packed" "packed" sPacked f fd)
    (A1 : At K mg "need_orders" sNeedOrders ["sizes", "first", "second"] f1 fd1) (G1 : FnOk P w K mg base CX0 5 f1 fd1 ["sizes", "first", "second"] spNeedOrders)
    (A2 : At K mg "packed_in" sPackedIn ["sizes", "first", "second"] f2 fd2) (G2 : FnOk P w K mg base CX0 1 f2 fd2 ["sizes", "first", "second"] spPackedIn) : FnOk P w K mg base CX0 6 f fd ["sizes", "first", "second"] spPacked := by
  refine F.ok scPacked (fun vs H Q E h => ?_) (fun cdv A outer s H vs Q E hr h => ?_)
  · obtain ⟨p, p1, p2, n, wd, ht, l1, l2, rfl, _⟩ := h
    rfl
  · obtain ⟨p, p1, p2, n, wd, ht, l1, l2, rfl, hR, ho, h1, h2, k1, k2, q⟩ := h
    refine ⟨_, pss_cons (ps_expr (pe_call G1 hr (by rfl) A1.g A1.F.kp A1.b .nil pass0 (pa_cons (pv 0) (pa_cons (pv 1) (pa_cons (pv 2) pa_nil)))))
      (pss_one (ps_ret (pe_call G2 (hr.mono (by decide)) (by rfl) A2.g A2.F.kp A2.b .nil pass0 (pa_cons (pv 0) (pa_cons (pv 1) (pa_cons (pv 2) pa_nil)))))), ?_⟩
    refine q_drop (Ev.call' (ea_cons (ev_var rfl) (ea_cons (ev_var rfl) (ea_cons (ev_var rfl) ea_nil))) (sv_needOrders hR ho h1 h2 k1 k2)) fun H1 e1 => ?_
    exact ⟨.ref p, rfl, .ref p1, rfl, .ref p2, rfl, p, p1, p2, n, wd, ht, l1, l2, rfl, hR.mono e1, ho.2.1, ex_rd e1 h1, ex_rd e1 h2, k1, k2, fun r H' X Y hr' e hK hr2 => q r H' X Y (fresh_back e1 hr') (e1.trans e) hK hr2⟩
end
end CF

namespace CF
open PySem PySem.Spec PyProof.Rows L2 Evl
/-- all but what stands at r is kept -/
def Exb (r : Addr) (H H' : Hp) : Prop := ∀ b o, b ≠ r → H b = some o → H' b = some o
theorem Exb.refl (r : Addr) (H : Hp) : Exb r H H := fun _ _ _ h => h
theorem Exb.trans {r : Addr} {H H1 H2 : Hp} (a : Exb r H H1) (b : Exb r H1 H2) : Exb r H H2 := fun c o h e => b c o h (a c o h e)
theorem exb_of {r : Addr} {H H1 : Hp} (e : Ex H H1) : Exb r H H1 := fun c o _ h => e c o h
theorem Exb.ex {r : Addr} {H H1 H2 : Hp} (a : Exb r H H1) (b : Ex H1 H2) : Exb r H H2 := fun c o h e => b c o (a c o h e)
theorem Exb.upd {r : Addr} {H H1 : Hp} {o : HO} (a : Exb r H H1) : Exb r H (upd H1 r o) := fun c u h e => by
  rw [upd_ne h]
  exact a c u h e
theorem Exb.new {r p : Addr} {H H1 : Hp} {o : HO} (a : Exb r H H1) (hp : H1 p = none) : Exb r H (L2.upd H1 p o) := a.ex (Ex.new hp)
section
variable {P : Program} {w : World} {K : PySem.W.Frag} {mg : Str → Option Value} {base : Heap}
variable {σ : L2.St} {H H' : Hp} {ta tb te tl tk tv : TE} {t : TT} {x y z v : V} {D : Ends} {tu tz : TS}
/-- the row of draws at r -/
def RowAt (K : PySem.W.Frag) (H : Hp) (r sc : Addr) (ns : List Int) (a b c : Int) : Prop := H r = some (.lst [.ref sc, .int a, .int b, .int c]) ∧ SqL K H sc (ns.map V.int)
theorem RowAt.seq {r sc : Addr} {ns : List Int} {a b c : Int} (h : RowAt K H r sc ns a b c) (e : Exb r H H') : SqL K H' sc (ns.map V.int) := by
  obtain ⟨h1, h2⟩ := h
  rcases h2 with (h2 | ⟨o, h2⟩) | h2
  · refine .inl (.inl (e _ _ (fun z => ?_) h2))
    rw [z, h1] at h2
    injection h2 with h2
    injection h2 with h2
    cases ns with
    | nil => cases h2
    | cons n r => cases h2
  · refine .inl (.inr ⟨o, e _ _ (fun z => ?_) h2⟩)
    rw [z, h1] at h2
    injection h2 with h2
    cases h2
  · exact .inr h2
theorem RowAt.upd {r sc : Addr} {ns : List Int} {a b c a' b' c' : Int} {H1 : Hp} (h : RowAt K H r sc ns a b c) (e : Exb r H H1) : RowAt K (L2.upd H1 r (.lst [.ref sc, .int a', .int b', .int c'])) r sc ns a' b' c' := ⟨upd_same, h.seq e.upd⟩
theorem RowAt.mono {r sc : Addr} {ns : List Int} {a b c : Int} (h : RowAt K H r sc ns a b c) (e : Ex H H') : RowAt K H' r sc ns a b c := ⟨e _ _ h.1, ex_l e h.2⟩
def RowOk (K : PySem.W.Frag) (H : Hp) (r sc : Addr) (ns : List Int) : Prop := ∃ a b c, RowAt K H r sc ns a b c ∧ 0 ≤ a ∧ 0 ≤ b ∧ b < 2147483647 ∧ 0 ≤ c
theorem RowOk.mono {r sc : Addr} {ns : List Int} (h : RowOk K H r sc ns) (e : Ex H H') : RowOk K H' r sc ns := let ⟨a, b, c, h, q⟩ := h; ⟨a, b, c, h.mono e, q⟩
theorem RowOk.lst {r sc : Addr} {ns : List Int} (h : RowOk K H r sc ns) : ∃ xs, H r = some (.lst xs) := let ⟨a, b, c, h, q⟩ := h; ⟨_, h.1⟩
theorem RowOk.seq {r sc : Addr} {ns : List Int} (h : RowOk K H r sc ns) (e : Exb r H H') : SqL K H' sc (ns.map V.int) := let ⟨a, b, c, h, q⟩ := h; h.seq e
/-- another object is written (H: ahead of it all) -/
theorem RowOk.put {r sc l : Addr} {ns : List Int} {o : HO} {H1 : Hp} (h0 : RowOk K H r sc ns) (h : RowOk K H1 r sc ns) (e : Exb r H H1) (hl : H l = none) : RowOk K (L2.upd H1 l o) r sc ns ∧ Exb r H (L2.upd H1 l o) := by
  have e2 : Exb r H (L2.upd H1 l o) := fun b u hb hu => by
    rw [upd_ne (ne_of_none hu hl)]
    exact e b u hb hu
  have hlr : r ≠ l := by
    obtain ⟨xs, q⟩ := h0.lst
    exact ne_of_none q hl
  obtain ⟨a, b, c, k, q⟩ := h
  exact ⟨⟨a, b, c, ⟨by rw [upd_ne hlr]; exact k.1, h0.seq e2⟩, q⟩, e2⟩
/-- what was free ahead of it -/
theorem Exb.back {r p sc : Addr} {ns : List Int} (e : Exb r H H') (h : RowOk K H' r sc ns) (hp : H' p = none) : H p = none := by
  cases q : H p with
  | none => rfl
  | some o =>
    by_cases hpr : p = r
    · obtain ⟨xs, h⟩ := h.lst
      rw [← hpr, hp] at h
      cases h
    · rw [e p o hpr q] at hp
      cases hp
/-- a tuple stays -/
theorem Exb.tup {r a sc : Addr} {ns : List Int} {xs : List V} (e : Exb r H H') (h : RowOk K H r sc ns) (ha : H a = some (.tup xs)) : H' a = some (.tup xs) := by
  obtain ⟨ys, hy⟩ := h.lst
  exact e _ _ (ne_of ha hy (by intro z; cases z)) ha
theorem ev_int1 {i : Int} (h : Ev te σ H (.int i)) : Ev (tCB (fun xs H Q => (∃ i, xs = [V.int i] ∧ Q (.int i) H) ∨ ∃ k, xs = [V.bl k] ∧ Q (.int (if k then 1 else 0)) H) (tCons te tNil)) σ H (.int i) := fun H1 e Q q =>
  h H1 e _ fun H2 e2 => .inl ⟨i, rfl, q H2 e2⟩

/-! ### _law_taken -/
def spTaken (K : PySem.W.Frag) : Sp := fun vs H Q _ => ∃ (r sc : Addr) (ns : List Int) (m : Int), vs = [.ref r, .int m] ∧ RowOk K H r sc ns ∧ 1 ≤ m ∧ m ≤ 1000 ∧ ∀ k H', 0 ≤ k → k < m → Exb r H H' → RowOk K H' r sc ns → Q (.int k) H'
theorem ok_taken {f : Addr} {fd : FuncData} (B : Bi mg) (F : Fun K "_law_taken" "_law_taken" sTaken f fd) : FnOk P w K mg base CX0 1 f fd ["_law_row", "_law_many"] (spTaken K) := by
  refine F.ok scTaken (fun vs H Q E h => ?_) (fun cdv A outer s H vs Q E hr h => ?_)
  · obtain ⟨r, sc, ns, m, rfl, _⟩ := h
    rfl
  · obtain ⟨r, sc, ns, m, rfl, ⟨a, b, c, hR, ha, hb, hb2, hc⟩, m1, m2, q⟩ := h
    refine ⟨_, pss_cons (ps_if (pt_cmpR op_gt (pe_ix ix_list (pv 0) pe_int (fun _ _ => rfl)) pe_int (nomark _))
        (pss_cons (ps_set (i := 2) scTaken.nd rfl (.inl rfl) (pe_op op_mod (pe_callTy call_int1 (by rfl) B.int (by decide +kernel) (pa_cons (pe_ix ix_list (pv 0) pe_int (fun _ _ => rfl)) pa_nil)) (pv 1)))
        (pss_cons (ps_asg (pe_op op_fdiv (pe_ix ix_list (pv 0) pe_int (fun _ _ => rfl)) (pv 1)) (pg_sub (pv 0) pe_int set_list))
        (pss_one (ps_ret (pv 2))))) pss_nil)
      (pss_cons (ps_asg (pe_op op_add (pe_ix ix_list (pv 0) pe_int (fun _ _ => rfl)) pe_int) (pg_sub (pv 0) pe_int set_list))
      (pss_cons (ps_if (pt_cmpR op_gt (pe_ix ix_list (pv 0) pe_int (fun _ _ => rfl)) (pe_callB call_len_seq (by rfl) B.len PySem.boot_len (pa_cons (pe_ix ix_list (pv 0) pe_int (fun _ _ => rfl)) pa_nil)) (nomark _))
        (pss_cons (ps_asg (pe_op op_mod (pe_callTy call_int1 (by rfl) B.int (by decide +kernel) (pa_cons (pe_op op_add (pe_op op_mul (pe_ix ix_list (pv 0) pe_int (fun _ _ => rfl)) pe_int) pe_int) pa_nil)) pe_int) (pg_sub (pv 0) pe_int set_list))
        (pss_one (ps_ret (pe_op op_mod (pe_callTy call_int1 (by rfl) B.int (by decide +kernel) (pa_cons (pe_op op_fdiv (pe_ix ix_list (pv 0) pe_int (fun _ _ => rfl)) pe_int) pa_nil)) (pv 1))))) pss_nil)
      (pss_cons (ps_set (i := 3) scTaken.nd rfl (.inl rfl) (pe_ix ix_list (pe_ix ix_list (pv 0) pe_int (fun _ _ => rfl)) (pe_op op_sub (pe_ix ix_list (pv 0) pe_int (fun _ _ => rfl)) pe_int) (fun _ _ => rfl)))
      (pss_cons (ps_asg (pe_op op_mod (pe_callTy call_int1 (by rfl) B.int (by decide +kernel) (pa_cons (pe_op op_add (pe_op op_add (pe_op op_mul (pe_ix ix_list (pv 0) pe_int (fun _ _ => rfl)) pe_int) (pv 3)) pe_int) pa_nil)) pe_int) (pg_sub (pv 0) pe_int set_list))
      (pss_cons (ps_if (pt_cmpR op_ge (pv 3) (pe_op op_pow pe_int pe_int) (nomark _))
        (pss_one (ps_asg (pe_op op_fdiv (pv 3) (pv 1)) (pg_sub (pv 0) pe_int set_list))) pss_nil)
      (pss_one (ps_ret (pe_op op_mod (pe_callTy call_int1 (by rfl) B.int (by decide +kernel) (pa_cons (pv 3) pa_nil)) (pv 1))))))))), ?_⟩
    have mpos : (0 : Int) < m := by omega
    have mdiv : CDiv m m := ⟨mpos, by omega⟩
    have rd : ∀ {H1 : Hp} {σ1 : L2.St} {a1 b1 c1 : Int}, σ1[0]? = some (some (.ref r)) → RowAt K H1 r sc ns a1 b1 c1 → ∀ (i : Nat) (z : V), [V.ref sc, .int a1, .int b1, .int c1][i]? = some z → Ev (tOp (rIxL K) (tVar 0) (tC (.int (i : Int)))) σ1 H1 z := fun h0 h1 i z hz =>
      ev_op (ev_var h0) ev_c (rv_ixL (sq_of h1.1) (atI_nat hz))
    refine q_when (b := decide (0 < c)) (et_test (ev_op (rd rfl hR 3 _ rfl) ev_c rv_I0)) (fun hbb H1 e1 => ?_) (fun hbb H1 e1 => ?_)
    · have hc0 : 0 < c := of_decide_eq_true hbb
      have hR1 := hR.mono e1
      refine q_asg (v := .int (c % m)) (ev_op (ev_int1 (rd rfl hR1 3 _ rfl)) (ev_var rfl) (rv_I mpos)) fun H2 e2 => ?_
      have hR2 := hR1.mono e2
      refine q_setL (j := 3) hR2.1 (ev_op (rd rfl hR2 3 _ rfl) (ev_var rfl) (rv_I mdiv)) (ev_var rfl) ev_c (by show 3 < 4; decide) fun H3 e3 => ?_
      refine s_ret (ev_var rfl) fun H4 e4 => ?_
      have e13 : Exb r H H3 := exb_of (e1.trans (e2.trans e3))
      have hR4 : RowAt K H4 r sc ns a b (c / m) := (hR.upd e13).mono e4
      exact q _ H4 (Int.emod_nonneg _ (by omega)) (Int.emod_lt_of_pos _ mpos) (e13.upd.ex e4) ⟨a, b, c / m, hR4, ha, hb, hb2, Int.ediv_nonneg hc (by omega)⟩
    · have hR1 := hR.mono e1
      refine q_setL (j := 1) hR1.1 (ev_op (rd rfl hR1 1 _ rfl) ev_c rv_I0) (ev_var rfl) ev_c (by show 1 < 4; decide) fun H2 e2 => ?_
      have e02 : Exb r H H2 := exb_of (e1.trans e2)
      have hR2 : RowAt K (L2.upd H2 r (.lst [.ref sc, .int (a + 1), .int b, .int c])) r sc ns (a + 1) b c := hR.upd e02
      have x2 : Exb r H (L2.upd H2 r (.lst [.ref sc, .int (a + 1), .int b, .int c])) := e02.upd
      show tSeq _ _ _ _ (L2.upd H2 r (.lst [.ref sc, .int (a + 1), .int b, .int c]))
      generalize L2.upd H2 r (.lst [.ref sc, .int (a + 1), .int b, .int c]) = H3 at hR2 x2
      have hbm : -(2 ^ 64) < b ∧ b < 2 ^ 64 := by omega
      refine q_when (b := decide (((ns.map V.int).length : Int) < a + 1)) (et_test (ev_op (rd rfl hR2 1 _ rfl) (ev_lenM (em_q (rd rfl hR2 0 _ rfl) hR2.2)) rv_I0)) (fun hbb2 H4 e4 => ?_) (fun hbb2 H4 e4 => ?_)
      · have hR4 := hR2.mono e4
        refine q_setL (v := .int ((b * 48271 + 11) % 2147483647)) (j := 2) hR4.1 (ev_op (ev_int1 (ev_op (ev_op (rd rfl hR4 2 _ rfl) ev_c (rv_I (.inl hbm))) ev_c rv_I0)) ev_c (rv_I (by decide))) (ev_var rfl) ev_c (by show 2 < 4; decide) fun H5 e5 => ?_
        have x5 : Exb r H H5 := (x2.ex e4).ex e5
        have hR5 : RowAt K (L2.upd H5 r (.lst [.ref sc, .int (a + 1), .int ((b * 48271 + 11) % 2147483647), .int c])) r sc ns (a + 1) ((b * 48271 + 11) % 2147483647) c := hR.upd x5
        have x6 : Exb r H (L2.upd H5 r (.lst [.ref sc, .int (a + 1), .int ((b * 48271 + 11) % 2147483647), .int c])) := x5.upd
        show tRet _ _ _ (L2.upd H5 r (.lst [.ref sc, .int (a + 1), .int ((b * 48271 + 11) % 2147483647), .int c]))
        generalize L2.upd H5 r (.lst [.ref sc, .int (a + 1), .int ((b * 48271 + 11) % 2147483647), .int c]) = H6 at hR5 x6
        refine s_ret (ev_op (ev_int1 (ev_op (rd rfl hR5 2 _ rfl) ev_c (rv_I ⟨by decide, by decide⟩))) (ev_var rfl) (rv_I mpos)) fun H7 e7 => ?_
        exact q _ H7 (Int.emod_nonneg _ (by omega)) (Int.emod_lt_of_pos _ mpos) (x6.ex e7) ⟨_, _, c, hR5.mono e7, by omega, Int.emod_nonneg _ (by decide), Int.emod_lt_of_pos _ (by decide), hc⟩
      · have hge : a + 1 ≤ (ns.length : Int) := by
          have := of_decide_eq_false hbb2
          rw [List.length_map] at this
          omega
        have hR4 := hR2.mono e4
        obtain ⟨i, hi⟩ : ∃ i : Nat, a = (i : Int) := ⟨a.toNat, by omega⟩
        subst hi
        have hil : i < ns.length := by omega
        have hat : atI (ns.map V.int) ((i : Int) + 1 - 1) = some (.int ns[i]) := by
          rw [show (i : Int) + 1 - 1 = (i : Int) by omega]
          exact atI_nat (by rw [List.getElem?_map, List.getElem?_eq_getElem hil]; rfl)
        refine q_asg (v := .int ns[i]) (ev_op (rd rfl hR4 0 _ rfl) (ev_op (rd rfl hR4 1 _ rfl) ev_c rv_I0) (rv_ixL hR4.2 hat)) fun H5 e5 => ?_
        generalize ns[i] = cell
        have hR5 := hR4.mono e5
        refine q_setL (v := .int ((b * 48271 + cell + 11) % 2147483647)) (j := 2) hR5.1 (ev_op (ev_int1 (ev_op (ev_op (ev_op (rd rfl hR5 2 _ rfl) ev_c (rv_I (.inl hbm))) (ev_var rfl) rv_I0) ev_c rv_I0)) ev_c (rv_I (by decide))) (ev_var rfl) ev_c (by show 2 < 4; decide) fun H6 e6 => ?_
        have x6 : Exb r H H6 := (x2.ex e4).ex (e5.trans e6)
        have hR7 : RowAt K (L2.upd H6 r (.lst [.ref sc, .int ((i : Int) + 1), .int ((b * 48271 + cell + 11) % 2147483647), .int c])) r sc ns ((i : Int) + 1) ((b * 48271 + cell + 11) % 2147483647) c := hR.upd x6
        have x7 : Exb r H (L2.upd H6 r (.lst [.ref sc, .int ((i : Int) + 1), .int ((b * 48271 + cell + 11) % 2147483647), .int c])) := x6.upd
        show tSeq _ _ _ _ (L2.upd H6 r (.lst [.ref sc, .int ((i : Int) + 1), .int ((b * 48271 + cell + 11) % 2147483647), .int c]))
        generalize L2.upd H6 r (.lst [.ref sc, .int ((i : Int) + 1), .int ((b * 48271 + cell + 11) % 2147483647), .int c]) = H7 at hR7 x7
        have fin : ∀ H8 c', Exb r H H8 → RowAt K H8 r sc ns ((i : Int) + 1) ((b * 48271 + cell + 11) % 2147483647) c' → 0 ≤ c' → Q (.int (cell % m)) H8 := fun H8 c' x8 hR8 hc' =>
          q _ H8 (Int.emod_nonneg _ (by omega)) (Int.emod_lt_of_pos _ mpos) x8 ⟨_, _, c', hR8, by omega, Int.emod_nonneg _ (by decide), Int.emod_lt_of_pos _ (by decide), hc'⟩
        refine q_when (b := decide ((10 : Int) ^ (18 : Int).toNat ≤ cell)) (et_test (ev_op (ev_var rfl) (ev_op ev_c ev_c (rv_I ⟨by decide, by decide, by decide⟩)) rv_I0)) (fun hbb3 H8 e8 => ?_) (fun hbb3 H8 e8 => ?_)
        · have hcell : (0 : Int) ≤ cell := Int.le_trans (by decide) (of_decide_eq_true hbb3)
          have hR8 := hR7.mono e8
          refine s_setL (v := .int (cell / m)) (j := 3) hR8.1 (ev_op (ev_var rfl) (ev_var rfl) (rv_I mdiv)) (ev_var rfl) ev_c (by show 3 < 4; decide) fun H9 e9 => ?_
          have x9 : Exb r H H9 := (x7.ex e8).ex e9
          dsimp only
          refine s_ret (v := .int (cell % m)) (ev_op (ev_int1 (ev_var rfl)) (ev_var rfl) (rv_I mpos)) fun H10 e10 => ?_
          exact fin H10 (cell / m) (x9.upd.ex e10) ((hR.upd x9).mono e10) (Int.ediv_nonneg hcell (by omega))
        · refine s_ret (ev_op (ev_int1 (ev_var rfl)) (ev_var rfl) (rv_I mpos)) fun H9 e9 => ?_
          exact fin H9 c ((x7.ex e8).ex e9) (hR7.mono (e8.trans e9)) hc
end
end CF

namespace CF
open PySem PySem.Spec PyProof.Rows L2 Evl
theorem erase_perm : ∀ (l : List Nat) (k y : Nat), l[k]? = some y → (y :: l.eraseIdx k).Perm l
  | [], k, y, h => by simp at h
  | a :: r, 0, y, h => by
    have e : a = y := Option.some.inj h
    subst e
    exact List.Perm.refl _
  | a :: r, k + 1, y, h => (List.Perm.swap a y (r.eraseIdx k)).trans ((erase_perm r k y h).cons a)
theorem erase_map (l : List Nat) (k : Nat) : ((ordI l).map V.int).eraseIdx k = (ordI (l.eraseIdx k)).map V.int := by
  induction l generalizing k with
  | nil => rfl
  | cons a r ih =>
    cases k with
    | zero => rfl
    | succ k =>
      show V.int (a : Int) :: ((ordI r).map V.int).eraseIdx k = V.int (a : Int) :: (ordI (r.eraseIdx k)).map V.int
      rw [ih]
theorem perm_of {n : Nat} {l : List Nat} (h : l.Perm (List.range n)) : Perm n l := by
  refine ⟨h.nodup_iff.mpr List.nodup_range, fun a ha => List.mem_range.mp (h.mem_iff.mp ha), ?_⟩
  rw [h.length_eq, List.length_range]
section
variable {P : Program} {w : World} {K : PySem.W.Frag} {mg : Str → Option Value} {base : Heap}
variable {σ : L2.St} {H H' : Hp} {ta tb te tl tk tv : TE} {t : TT} {x y z v : V} {D : Ends} {tu tz : TS}
theorem rows_snoc {as : List Addr} {r r' : Nat → List Int} {Dl p : Addr} {i : Nat} {o : HO} (hl : as.length = i) (hD : H Dl = some (.lst (as.map V.ref))) (hrow : RowsAt H as r) (hr : ∀ j, j < i → r' j = r j) (hp : H p = some (.tup ((r' i).map V.int))) :
    RowsAt (upd H Dl o) (as ++ [p]) r' := fun j a hj => by
  have ne : ∀ a xs, H a = some (.tup xs) → a ≠ Dl := fun a xs h => ne_of h hD (by intro z; cases z)
  by_cases hji : j < i
  · rw [List.getElem?_append_left (by omega)] at hj
    have h := hrow j a hj
    show upd H Dl _ a = some (.tup ((r' j).map V.int))
    rw [upd_ne (ne _ _ h), hr j hji]
    exact h
  · have hlt := (List.getElem?_eq_some_iff.mp hj).1
    rw [List.length_append, List.length_singleton] at hlt
    have ej : j = i := by omega
    subst ej
    rw [List.getElem?_append_right (by omega), hl, Nat.sub_self] at hj
    have ea : p = a := Option.some.inj hj
    subst ea
    show upd H Dl _ p = _
    rw [upd_ne (ne _ _ hp)]
    exact hp
/-! ### _law_sizes -/
def okRand (n : Nat) (m : Int) (wd ht : Nat → Int) : Prop := ∀ i, i < n → 1 ≤ wd i ∧ wd i ≤ m ∧ 1 ≤ ht i ∧ ht i ≤ m
def spLSizes (K : PySem.W.Frag) : Sp := fun vs H Q _ => ∃ (r sc : Addr) (ns : List Int) (n : Nat) (m : Int), vs = [.ref r, .int (n : Int), .int m] ∧ RowOk K H r sc ns ∧ n ≤ 8 ∧ 1 ≤ m ∧ m ≤ 100 ∧
  ∀ p H' wd ht, Exb r H H' → RowOk K H' r sc ns → H p = none → Rws H' p n (szRow wd ht) → okRand n m wd ht → Q (.ref p) H'
theorem ok_lSizes {f f1 : Addr} {fd fd1 : FuncData} (B : Bi mg) (F : Fun K "_law_sizes" "_law_sizes" sLSizes f fd)
    (A1 : At K mg "_law_taken" sTaken ["_law_row", "_law_many"] f1 fd1) (G1 : FnOk P w K mg base CX0 1 f1 fd1 ["_law_row", "_law_many"] (spTaken K)) : FnOk P w K mg base CX0 2 f fd ["_law_row", "_law_many", "_law_most"] (spLSizes K) := by
  refine F.ok scLSizes (fun vs H Q E h => ?_) (fun cdv A outer s H vs Q E hr h => ?_)
  · obtain ⟨r, sc, ns, n, m, rfl, _⟩ := h
    rfl
  · obtain ⟨r, sc, ns, n, m, rfl, hR, n8, m1, m2, q⟩ := h
    refine ⟨_, pss_one (ps_ret (pe_callTy call_tupOf (by rfl) B.tuple (by decide +kernel) (pa_cons
        (pe_lc (own := [("_law_block", 3)]) (g := gName 3) (by rfl) scLSizes.nd (pi_range1 (by rfl) B.range (pa_cons (pv 1) pa_nil)) (blkOk_by (N := nLSizes) (sc := defScope sLSizes) (by decide +kernel))
          (fun _ _ _ _ _ => pg_name (i := 3) scLSizes.nd rfl (.inl rfl)) (fun _ _ _ _ _ => pts_nil)
          (fun _ _ _ _ _ => pe_tup (pa_cons (pe_op op_add pe_int (pe_call G1 hr (by rfl) A1.g A1.F.kp A1.b .nil pass0 (pa_cons (pv 0) (pa_cons (pv 2) pa_nil))))
            (pa_cons (pe_op op_add pe_int (pe_call G1 hr (by rfl) A1.g A1.F.kp A1.b .nil pass0 (pa_cons (pv 0) (pa_cons (pv 2) pa_nil)))) pa_nil)))) pa_nil))), ?_⟩
    refine ⟨.int (n : Int), rfl, (n : Int), rfl, by omega, by omega, fun Dl hD => lc_range (lo := 0) (n := ((n : Int)).toNat)
      (fun i H' => Exb r H H' ∧ RowOk K H' r sc ns ∧ ∃ (as : List Addr) (wd ht : Nat → Int), as.length = i ∧ H' Dl = some (.lst (as.map V.ref)) ∧ RowsAt H' as (szRow wd ht) ∧ okRand i m wd ht)
      ⟨exb_of (Ex.new hD), hR.mono (Ex.new hD), [], fun _ => 0, fun _ => 0, rfl, upd_same, fun i a e => by simp at e, fun j hj => absurd hj (Nat.not_lt_zero _)⟩ (fun i H1 hi hw => ?_) (fun H1 hw => ?_)⟩
    · obtain ⟨e1, hR1, as, wd, ht, hl, hD1, hrow, hb⟩ := hw
      refine ⟨rfl, ?_⟩
      refine ⟨.ref r, rfl, .int m, rfl, r, sc, ns, m, rfl, hR1, m1, by omega, fun a H2 a0 am e2 hR2 => ⟨1, a, rfl, rfl, ?_⟩⟩
      refine ⟨.ref r, rfl, .int m, rfl, r, sc, ns, m, rfl, hR2, m1, by omega, fun b H3 b0 bm e3 hR3 => ⟨1, b, rfl, rfl, ?_⟩⟩
      refine ⟨by show 2 ≤ sizeLine; decide, fun p hp => ?_⟩
      have hDr : Dl ≠ r := by
        obtain ⟨xs, h⟩ := hR.lst
        exact (ne_of_none h hD).symm
      have e13 : Exb r H1 H3 := e2.trans e3
      have ep := Ex.new (o := .tup [.int (1 + a), .int (1 + b)]) hp
      have hD4 := ep _ _ (e13 _ _ hDr hD1)
      have hrow4 : RowsAt (upd H3 p (.tup [.int (1 + a), .int (1 + b)])) as (szRow wd ht) := fun j c hj => ep _ _ (e13.tup hR1 (hrow j c hj))
      obtain ⟨hR5, e5⟩ := hR.put (l := Dl) (o := .lst (as.map V.ref ++ [.ref p])) (hR3.mono ep) ((e1.trans e13).ex ep) hD
      refine ⟨as.map V.ref, hD4, sz_lt (by rw [List.length_map]; omega), e5, hR5, as ++ [p], upF wd i (1 + a), upF ht i (1 + b), by rw [List.length_append, hl]; rfl, by rw [upd_same, List.map_append]; rfl, rows_snoc hl hD4 hrow4 (fun j hj => ?_) ?_, fun j hj => ?_⟩
      · show [upF wd i (1 + a) j, upF ht i (1 + b) j] = [wd j, ht j]
        rw [upF_ne (by omega), upF_ne (by omega)]
      · rw [upd_same]
        show _ = some (HO.tup [.int (upF wd i (1 + a) i), .int (upF ht i (1 + b) i)])
        rw [upF_same, upF_same]
      · by_cases hji : j = i
        · subst hji
          rw [upF_same, upF_same]
          omega
        · rw [upF_ne hji, upF_ne hji]
          exact hb j (by omega)
    · obtain ⟨e1, hR1, as, wd, ht, hl, hD1, hrow, hb⟩ := hw
      rw [Int.toNat_natCast] at hl hb
      exact ⟨Dl, _, rfl, .inl ⟨sq_of hD1, fun u hu => q u _ wd ht (e1.new hu) (hR1.mono (Ex.new hu)) (e1.back hR1 hu) ⟨as, hl, upd_same, hrow.mono (Ex.new hu)⟩ hb⟩⟩

/-! ### _law_order -/
def spLOrder (K : PySem.W.Frag) : Sp := fun vs H Q _ => ∃ (r sc : Addr) (ns : List Int) (n : Nat), vs = [.ref r, .int (n : Int)] ∧ RowOk K H r sc ns ∧ n ≤ 8 ∧
  ∀ p H' l, Exb r H H' → RowOk K H' r sc ns → H p = none → TupF H' p (ordI l) → Perm n l → Q (.ref p) H'
theorem ok_lOrder {f f1 : Addr} {fd fd1 : FuncData} (B : Bi mg) (F : Fun K "_law_order" "_law_order" sLOrder f fd)
    (A1 : At K mg "_law_taken" sTaken ["_law_row", "_law_many"] f1 fd1) (G1 : FnOk P w K mg base CX0 1 f1 fd1 ["_law_row", "_law_many"] (spTaken K)) : FnOk P w K mg base CX0 2 f fd ["_law_row", "_law_many"] (spLOrder K) := by
  refine F.ok scLOrder (fun vs H Q E h => ?_) (fun cdv A outer s H vs Q E hr h => ?_)
  · obtain ⟨r, sc, ns, n, rfl, _⟩ := h
    rfl
  · obtain ⟨r, sc, ns, n, rfl, hR, n8, q⟩ := h
    refine ⟨_, pss_cons (ps_par (i := 2) (j := 3) rfl scLOrder.nd rfl rfl (by decide) rfl rfl (pa_cons (pe_listRg rfl (by rfl) B.list (prg_1 (by rfl) B.range (pv 1))) (pa_cons (pe_lst pa_nil) pa_nil)) (by rfl))
      (pss_cons (ps_for PassesOwn.never rfl (pi_range1 (by rfl) B.range (pa_cons (pv 1) pa_nil)) (pg_name (i := 4) scLOrder.nd rfl (.inl rfl))
        (pss_one (ps_expr (pe_bm PySem.F.plainAttrs_list PySem.F.slot_list_append PySem.F.type_list_append mt_append (pv 3) (pa_cons
          (pe_bm PySem.F.plainAttrs_list PySem.F.slot_list_pop PySem.F.type_list_pop mt_popAt (pv 2) (pa_cons
            (pe_call G1 hr (by rfl) A1.g A1.F.kp A1.b .nil pass0 (pa_cons (pv 0) (pa_cons (pe_callB call_len_seq (by rfl) B.len PySem.boot_len (pa_cons (pv 2) pa_nil)) pa_nil))) pa_nil)) pa_nil)))))
      (pss_one (ps_ret (pe_callTy call_tupOfF (by rfl) B.tuple (by decide +kernel) (pa_cons (pv 3) pa_nil))))), ?_⟩
    refine ⟨.int (n : Int), rfl, (n : Int), rfl, RgOk.of_le (by decide) (by omega) (by decide) (by omega), fun la hla => ?_⟩
    refine ⟨Nat.zero_le _, fun fa hfa => ⟨.ref la, .ref fa, rfl, ?_⟩⟩
    have e1 := Ex.new (o := .lst (rgV 0 (n : Int))) hla
    have e2 := Ex.new (o := .lst []) hfa
    have hF0 := upd_same (H := upd H la (.lst (rgV 0 (n : Int)))) (a := fa) (o := .lst [])
    have hfa0 : H fa = none := fresh_back e1 hfa
    have hlf : la ≠ fa := ne_of_none (H := upd H la (.lst (rgV 0 (n : Int)))) upd_same hfa
    have hrg : rgV 0 (n : Int) = (ordI (List.range n)).map V.int := by
      unfold rgV
      rw [show ((n : Int) - 0).toNat = n by omega, List.map_map]
      refine List.map_congr_left fun i _ => ?_
      show V.int (0 + (i : Int)) = V.int (i : Int)
      rw [Int.zero_add]
    have hL0 : (upd (upd H la (.lst (rgV 0 (n : Int)))) fa (.lst [])) la = some (.lst ((ordI (List.range n)).map V.int)) := by
      rw [← hrg]
      exact e2 _ _ upd_same
    show tSeq _ _ _ _ (upd (upd H la (.lst (rgV 0 (n : Int)))) fa (.lst []))
    have e3 := e1.trans e2
    generalize upd (upd H la (.lst (rgV 0 (n : Int)))) fa (.lst []) = H2 at hL0 hF0 e3
    clear e1 e2 hfa
    have hlr : la ≠ r := by
      obtain ⟨xs, h⟩ := hR.lst
      exact (ne_of_none h hla).symm
    have hfr : fa ≠ r := by
      obtain ⟨xs, h⟩ := hR.lst
      exact (ne_of_none h hfa0).symm
    refine q_forR1 (n := (n : Int)) (ea_cons (ev_var rfl) ea_nil) (by omega) (fun i σ' H' => Exb r H H' ∧ RowOk K H' r sc ns ∧ ∃ a4 L Fo, σ' = [some (.ref r), some (.int (n : Int)), some (.ref la), some (.ref fa), a4] ∧ H' la = some (.lst ((ordI L).map V.int)) ∧ H' fa = some (.lst ((ordI Fo).map V.int)) ∧ Fo.length = i ∧ (Fo ++ L).Perm (List.range n))
      (fun H3 e => ⟨exb_of (e3.trans e), hR.mono (e3.trans e), none, List.range n, [], rfl, e _ _ hL0, e _ _ hF0, rfl, List.Perm.refl _⟩) (fun i σ' H3 hi hw => ?_) (fun σ' H3 hw => ?_)
    · obtain ⟨x3, hR3, a4, L, Fo, rfl, hL, hFo, hlen, hperm⟩ := hw
      have hlL : L.length = n - i := by
        have := hperm.length_eq
        rw [List.length_append, List.length_range] at this
        omega
      have hll : ((ordI L).map V.int).length = L.length := by rw [List.length_map, List.length_map]
      refine ⟨.ref fa, rfl, .inl ⟨rfl, _, sq_of hFo⟩, ?_⟩
      refine ⟨.ref la, rfl, .inl ⟨rfl, _, sq_of hL⟩, ?_⟩
      refine ⟨.ref r, rfl, .ref la, rfl, la, _, rfl, .inl (sq_of hL), r, sc, ns, (((ordI L).map V.int).length : Int), rfl, hR3, by rw [hll]; omega, by rw [hll]; omega, fun k H4 k0 km e4 hR4 => ?_⟩
      rw [hll] at km
      have hk : k.toNat < L.length := by omega
      have hL4 := e4 _ _ hlr hL
      have hF4 := e4 _ _ hfr hFo
      refine ⟨la, (ordI L).map V.int, k, k.toNat, .int (L[k.toNat] : Int), rfl, rfl, hL4, by omega, by omega, by rw [hll]; exact seqIndex_of k0 km, by rw [List.getElem?_map, List.getElem?_map, List.getElem?_eq_getElem hk]; rfl, ?_⟩
      rw [erase_map]
      obtain ⟨hR5, x5⟩ := hR.put (l := la) (o := .lst ((ordI (L.eraseIdx k.toNat)).map V.int)) hR4 (x3.trans e4) hla
      refine ⟨fa, (ordI Fo).map V.int, .int (L[k.toNat] : Int), rfl, rfl, by rw [upd_ne hlf.symm]; exact hF4, sz_lt (by rw [List.length_map, List.length_map]; omega), ?_⟩
      obtain ⟨hR6, x6⟩ := hR.put (l := fa) (o := .lst ((ordI Fo).map V.int ++ [.int (L[k.toNat] : Int)])) hR5 x5 hfa0
      refine ⟨x6, hR6, some (.int (i : Int)), L.eraseIdx k.toNat, Fo ++ [L[k.toNat]], rfl, by rw [upd_ne hlf, upd_same], ?_, by rw [List.length_append, hlen]; rfl, ?_⟩
      · rw [upd_same, show ordI (Fo ++ [L[k.toNat]]) = ordI Fo ++ [(L[k.toNat] : Int)] from List.map_append, List.map_append]
        rfl
      · rw [List.append_assoc]
        exact ((erase_perm L k.toNat L[k.toNat] (List.getElem?_eq_getElem hk)).append_left Fo).trans hperm
    · obtain ⟨x3, hR3, a4, L, Fo, rfl, hL, hFo, hlen, hperm⟩ := hw
      rw [Int.toNat_natCast] at hlen
      have hlL : L = [] := by
        have := hperm.length_eq
        rw [List.length_append, List.length_range] at this
        exact List.eq_nil_of_length_eq_zero (by omega)
      rw [hlL, List.append_nil] at hperm
      exact s_retF (ef_tupOf (em_r (ev_var rfl) hFo)) fun u H4 hu e4 h4 => q u H4 Fo (x3.ex e4) (hR3.mono e4) (x3.back hR3 hu) h4 (perm_of hperm)
end
end CF

namespace CF
open PySem PySem.Spec PyProof.Rows L2 Evl
/-! ### t.index(b) -/
def tTIx (K : PySem.W.Frag) (to : TE) (t : TA) : TE := fun σ H Q => to σ H fun x H1 => (∃ p ns, x = .ref p ∧ TupF H1 p ns) ∧ t σ H1 fun ys H2 =>
  ∃ p, ∃ ns : List Int, ∃ (z : Int) (j : Nat), x = .ref p ∧ ys = [.int z] ∧ SqT K H2 p (ns.map V.int) ∧ ns[j]? = some z ∧ (∀ m, m < j → ns[m]? ≠ some z) ∧ Q (.int (j : Nat)) H2
/-- what the place of o.index(e) in the text must be: one plain argument, on one row -/
structure OneArg (X : Cx) (o e : Expr) (apos cpos : Pos) : Prop where
  base : attributeBase o "index" X.env (eval o X.env) = eval o X.env
  few : ((backTo cpos (starEach [e] X.env)).all (fun x => !x.1) && (backToKw cpos (keywordEach [] X.env)).all (fun x => x.1.isSome) && decide ([e].length + ([] : List Keyword).length + (if ([] : List Keyword).isEmpty then 0 else 1) < 30)) = true
  row : (apos.endLine == cpos.line) = true
  one : starEach [e] X.env = [(false, eval e X.env)]
theorem pe_tidx {X : Cx} {o e : Expr} {to : TE} {t : TA} {apos cpos : Pos} (ho : PE X o to) (ha : PA X [e] t) (z : OneArg X o e apos cpos := by exact ⟨by rfl, by rfl, by rfl, by rfl⟩) :
    PE X (.Call (.Attribute o "index" apos) [e] [] cpos) (tTIx X.K to t) where
  run pins s σ H Q I h := by
    refine wpAny_Call_method_late z.base z.few z.row rfl (thn (ho.run pins s σ H _ I h) ?_)
    rintro v s1 ⟨_, H1, I1, r1, ⟨p, ns, rfl, ob, hob, hc, hd⟩, q1⟩
    obtain rfl : v = .ref p := r1
    have ⟨there, _⟩ : ObjOk X.prog X.w H1 s1.heap p (.frz ob (.tup (ns.map V.int))) := I1.hok p _ hob
    refine ⟨"tuple", "tuple.index", PySem.F.plainAttrs_tuple, PySem.F.slot_tuple_index, PySem.F.type_tuple_index, ⟨ob, there, hc⟩, ?_, ?_⟩
    · rintro _ ⟨⟩
      exact ⟨ob, there, hd⟩
    have args := ha.run cpos pins s1 σ H1 _ I1 q1
    have only := z.one
    rw [only] at args ⊢
    refine Calls.callWith_builtin rfl (Calls.evalArgs_plain (thn args ?_))
    exact fun us s2 ⟨vs, H2, I2, r2, q2⟩ => mt_tup_indexI (X := X) pins s2 σ H2 (.ref p) vs (.ref p) us Q I2 rfl r2 q2
section
variable {P : Program} {w : World} {K : PySem.W.Frag} {mg : Str → Option Value} {base : Heap}
variable {σ : L2.St} {H H' : Hp} {ta tb te tl tk tv : TE} {t : TT} {x y z v : V} {D : Ends} {tu tz : TS}
theorem ev_tidx {p : Addr} {l : List Nat} {b : Nat} (h : Ev ta σ H (.ref p)) (hp : TupF H p (ordI l)) (nd : l.Nodup) (hb : b ∈ l) (h2 : Ev te σ H (.int (b : Int))) : Ev (tTIx K ta (tCons te tNil)) σ H (.int ((l.idxOf b : Nat) : Int)) := fun H1 e Q q =>
  h H1 e _ fun H2 e2 => ⟨⟨p, _, rfl, hp.mono (e.trans e2)⟩, h2 H2 (e.trans e2) _ fun H3 e3 => ⟨p, ordI l, (b : Int), l.idxOf b, rfl, rfl, .inl (hp.mono ((e.trans e2).trans e3)).q, by rw [List.getElem?_map, ix_get hb]; rfl, fun m hm hh => by
    rw [List.getElem?_map] at hh
    cases qm : l[m]? with
    | none => rw [qm] at hh; cases hh
    | some c =>
      rw [qm] at hh
      have : c = b := Int.ofNat.inj (Option.some.inj hh)
      subst this
      have := ix_of nd qm
      omega, q H3 (e2.trans e3)⟩⟩
/-! ### lists of places -/
def lX (n : Nat) (X : Nat → Int) : List V := ((List.range n).map X).map V.int
theorem lX_len (n : Nat) (X : Nat → Int) : (lX n X).length = n := by unfold lX; rw [List.length_map, List.length_map, List.length_range]
theorem lX_at {n b : Nat} (X : Nat → Int) (h : b < n) : atI (lX n X) (b : Int) = some (.int (X b)) :=
  atI_nat (by unfold lX; rw [List.getElem?_map, List.getElem?_map, List.getElem?_range h]; rfl)
theorem lX_set (n b : Nat) (X : Nat → Int) (v : Int) : (lX n X).set b (.int v) = lX n (upF X b v) := by
  unfold lX
  rw [← map_set, List.map_set]
theorem lX_zero (n : Nat) : (List.replicate n [V.int 0]).flatten = lX n fun _ => 0 := by
  unfold lX
  induction n with
  | zero => rfl
  | succ n ih =>
    rw [List.replicate_succ', List.flatten_append, ih, List.range_succ, List.map_append, List.map_append]
    rfl
/-- [0] * n -/
theorem el_zeros {n : Nat} (h : Ev tb σ H (.int (n : Int))) (hn : n ≤ 1000) : EvL (tOp rRep (tLst (tCons (tC (.int 0)) tNil)) tb) σ H (lX n fun _ => 0) := fun H1 e Q q => by
  refine ⟨by show 1 ≤ sizeLine; decide, fun l hl => ?_⟩
  have e1 := Ex.new (o := .lst [.int 0]) hl
  refine h _ (e.trans e1) _ fun H2 e2 => ⟨l, (n : Int), [.int 0], rfl, rfl, e2 _ _ upd_same, by omega, by omega, by rw [Int.toNat_natCast]; exact Nat.le_trans (by show 1 * n ≤ 1000; omega) (by decide), fun p hp => ?_⟩
  rw [Int.toNat_natCast, lX_zero]
  exact q p _ (fresh_back (e1.trans e2) hp) ((e1.trans e2).trans (Ex.new hp)) upd_same
theorem eu_cat {xs ys : List V} (ha : EvS K ta σ H xs) (hb : EvS K tb σ H ys) (hx : xs ≠ []) (hy : ys ≠ []) (hl : xs.length + ys.length ≤ 1000) : EvU (tOp (rCatT K) ta tb) σ H (xs ++ ys) := fun H1 e Q q =>
  ha H1 e _ fun p H2 e2 hp => hb H2 (e.trans e2) _ fun r H3 e3 hr => ⟨p, r, xs, ys, rfl, rfl, ex_t e3 hp, hr, hx, Nat.le_trans hl (by decide), fun z => absurd z hy, fun _ u hu => q u _ (fresh_back (e2.trans e3) hu) ((e2.trans e3).trans (Ex.new hu)) upd_same⟩
theorem max_if (a b : Int) : (if b > a then b else a) = max a b := by
  split <;> omega
theorem ok_lPacked {f : Addr} {fd : FuncData} (B : Bi mg) (F : Fun K "_law_packed" "_law_packed" sLPacked f fd) : FnOk P w K mg base CX0 1 f fd ["_law_sizes_here", "_law_first", "_law_second"] (fun vs H Q E => ∃ (p p1 p2 : Addr) (n : Nat) (wd ht : Nat → Int) (l1 l2 : List Nat), vs = [.ref p, .ref p1, .ref p2] ∧ Rws H p n (szRow wd ht) ∧ n ≤ 8 ∧ TupF H p1 (ordI l1) ∧ TupF H p2 (ordI l2) ∧ Perm n l1 ∧ Perm n l2 ∧
  ∀ r H' X Y, H r = none → Ex H H' → Pack n l1 l2 wd ht X Y → Rws H' r n (fun i => [X i, Y i, wd i, ht i]) → Q (.ref r) H') := by
  refine F.ok scLPacked (fun vs H Q E h => ?_) (fun cdv A outer s H vs Q E hr h => ?_)
  · obtain ⟨p, p1, p2, n, wd, ht, l1, l2, rfl, _⟩ := h
    rfl
  · obtain ⟨p, p1, p2, n, wd, ht, l1, l2, rfl, ⟨as, hl, hp, hrow⟩, h8, h1, h2, k1, k2, q⟩ := h
    refine ⟨_, pss_cons (ps_asg (pe_tup (pa_cons (pe_op op_rep (pe_lst (pa_cons pe_int pa_nil)) (pe_callB call_len_seq (by rfl) B.len PySem.boot_len (pa_cons (pv 0) pa_nil))) (pa_cons (pe_op op_rep (pe_lst (pa_cons pe_int pa_nil)) (pe_callB call_len_seq (by rfl) B.len PySem.boot_len (pa_cons (pv 0) pa_nil))) pa_nil)))
        (pg_tup (n := 2) rfl (pgs_cons (pg_name (i := 3) scLPacked.nd rfl (.inr rfl)) (pgs_cons (pg_name (i := 4) scLPacked.nd rfl (.inr rfl)) pgs_nil))))
      (pss_cons (ps_for PassesOwn.never rfl (pi_range1 (by rfl) B.range (pa_cons (pe_callB call_len_seq (by rfl) B.len PySem.boot_len (pa_cons (pv 0) pa_nil)) pa_nil)) (pg_name (i := 5) scLPacked.nd rfl (.inl rfl))
        (pss_one (ps_for PassesOwn.never rfl (pi_range1 (by rfl) B.range (pa_cons (pe_callB call_len_seq (by rfl) B.len PySem.boot_len (pa_cons (pv 0) pa_nil)) pa_nil)) (pg_name (i := 6) scLPacked.nd rfl (.inl rfl))
          (pss_one (ps_for PassesOwn.never rfl (pi_range1 (by rfl) B.range (pa_cons (pe_callB call_len_seq (by rfl) B.len PySem.boot_len (pa_cons (pv 0) pa_nil)) pa_nil)) (pg_name (i := 7) scLPacked.nd rfl (.inl rfl))
            (pss_cons (ps_set (i := 8) scLPacked.nd rfl (.inl rfl) (pe_cmpR op_lt (pe_tidx (pv 1) (pa_cons (pv 6) pa_nil)) (pe_tidx (pv 1) (pa_cons (pv 7) pa_nil)) (nomark _)))
            (pss_one (ps_if (pt_cmpR op_lt (pe_tidx (pv 2) (pa_cons (pv 6) pa_nil)) (pe_tidx (pv 2) (pa_cons (pv 7) pa_nil)) (nomark _))
              (pss_one (ps_if (pt_val (pv 8))
                (pss_one (ps_asg (pe_callB (call_max2 rfl) (by rfl) B.max (by decide +kernel) (pa_cons (pe_ix ix_list (pv 3) (pv 7) (fun _ _ => rfl)) (pa_cons (pe_op op_add (pe_ix ix_list (pv 3) (pv 6) (fun _ _ => rfl)) (pe_ix ix_tup (pe_ix ix_tup (pv 0) (pv 6) (fun _ _ => rfl)) pe_int (fun _ _ => rfl))) pa_nil))) (pg_sub (pv 3) (pv 7) set_list)))
                (pss_one (ps_asg (pe_callB (call_max2 rfl) (by rfl) B.max (by decide +kernel) (pa_cons (pe_ix ix_list (pv 4) (pv 7) (fun _ _ => rfl)) (pa_cons (pe_op op_add (pe_ix ix_list (pv 4) (pv 6) (fun _ _ => rfl)) (pe_ix ix_tup (pe_ix ix_tup (pv 0) (pv 6) (fun _ _ => rfl)) pe_int (fun _ _ => rfl))) pa_nil))) (pg_sub (pv 4) (pv 7) set_list))))) pss_nil))))))))
      (pss_one (ps_ret (pe_callTy call_tupOf (by rfl) B.tuple (by decide +kernel) (pa_cons
        (pe_lc (own := [("_law_at", 9)]) (g := gName 9) (by rfl) scLPacked.nd (pi_range1 (by rfl) B.range (pa_cons (pe_callB call_len_seq (by rfl) B.len PySem.boot_len (pa_cons (pv 0) pa_nil)) pa_nil)) (blkOk_by (N := nLPacked) (sc := defScope sLPacked) (by decide +kernel))
          (fun _ _ _ _ _ => pg_name (i := 9) scLPacked.nd rfl (.inl rfl)) (fun _ _ _ _ _ => pts_nil)
          (fun _ _ _ _ _ => pe_op (op_catTK K) (pe_tup (pa_cons (pe_ix (ix_listK K) (pv 3) (pv 9) (fun _ _ => rfl)) (pa_cons (pe_ix (ix_listK K) (pv 4) (pv 9) (fun _ _ => rfl)) pa_nil))) (pe_ix (ix_tupK K) (pv 0) (pv 9) (fun _ _ => rfl)))) pa_nil))))), ?_⟩
    have hlen : (as.map V.ref).length = n := by rw [List.length_map, hl]
    have row : ∀ H2, Ex H H2 → ∀ b, b < n → ∃ a, atI (as.map V.ref) (b : Int) = some (.ref a) ∧ TupN H2 a [wd b, ht b] := fun H2 e b hb => by
      obtain ⟨a, ha⟩ : ∃ a, as[b]? = some a := ⟨as[b]'(by omega), List.getElem?_eq_getElem (by omega)⟩
      exact ⟨a, atI_nat (by rw [List.getElem?_map, ha]; rfl), e _ _ (hrow b a ha)⟩
    have ln : ∀ {H1 : Hp} {σ1 : L2.St}, Ex H H1 → σ1[0]? = some (some (.ref p)) → Ev (tCB (rLenS K) (tCons (tVar 0) tNil)) σ1 H1 (.int (n : Int)) := fun e h0 => ev_is (ev_lenS (es_r (ev_var h0) (e _ _ hp))) (by rw [hlen])
    have q2 : ∀ b, b < n → l2.idxOf b < n := fun b hb => by
      have := ix_lt (k2.mem hb)
      rw [k2.len] at this
      exact this
    -- lefts, lows
    refine el_zeros (ln (Ex.refl H) rfl) (by omega) H (Ex.refl H) _ fun dl H1 hdl e1 hL => ?_
    refine el_zeros (ln e1 rfl) (by omega) H1 (Ex.refl H1) _ fun dw H2 hdw e2 hW => ?_
    refine ⟨by show 2 ≤ sizeLine; decide, fun t ht' => ⟨t, [.ref dl, .ref dw], rfl, st_of upd_same, rfl, .ref dl, [.ref dw], rfl, .ref dw, [], rfl, rfl, ?_⟩⟩
    have e3 := Ex.new (o := .tup [.ref dl, .ref dw]) ht'
    have hL3 := e3 _ _ (e2 _ _ hL)
    have hW3 := e3 _ _ hW
    have e03 := e1.trans (e2.trans e3)
    have hdw0 : H dw = none := fresh_back e1 hdw
    have hne : dl ≠ dw := ne_of_none hL hdw
    show tSeq _ _ _ _ (upd H2 t (.tup [.ref dl, .ref dw]))
    generalize upd H2 t (.tup [.ref dl, .ref dw]) = H3 at hL3 hW3 e03
    let St3 : L2.St → Hp → Option V → Nat → Nat → Nat → Prop := fun σ' H' o6 t i j => ∃ a5 a7 a8 X Y, σ' = [some (.ref p), some (.ref p1), some (.ref p2), some (.ref dl), some (.ref dw), a5, o6, a7, a8, none] ∧ Ex H H' ∧ H' dl = some (.lst (lX n X)) ∧ H' dw = some (.lst (lX n Y)) ∧
      Rnd n l2.idxOf (RL l1 l2) wd X t i j ∧ Rnd n l2.idxOf (RB l1 l2) ht Y t i j
    refine q_forR1 (n := (n : Int)) (ea_cons (ln e03 rfl) ea_nil) (by omega) (fun i σ' H' => ∃ o6, St3 σ' H' o6 i 0 0) (fun H4 e4 => ⟨none, none, none, none, fun _ => 0, fun _ => 0, rfl, e03.trans e4, e4 _ _ hL3, e4 _ _ hW3, Rnd.start, Rnd.start⟩) (fun tt σ' H4 htt hw => ?_) (fun σ' H4 hw => ?_)
    · obtain ⟨o6, a5, a7, a8, X, Y, rfl, e4, hL4, hW4, rX, rY⟩ := hw
      refine s_forR1 (n := (n : Int)) (ea_cons (ln e4 rfl) ea_nil) (by omega) (fun i σ' H' => ∃ o6, St3 σ' H' o6 tt i 0) (fun H5 e5 => ⟨o6, _, _, _, X, Y, rfl, e4.trans e5, e5 _ _ hL4, e5 _ _ hW4, rX, rY⟩) (fun i σ' H5 hi hw => ?_) (fun σ' H5 hw => ?_)
      · obtain ⟨o6, a5, a7, a8, X, Y, rfl, e5, hL5, hW5, rX, rY⟩ := hw
        have hi' : i < n := by omega
        refine s_forR1 (n := (n : Int)) (ea_cons (ln e5 rfl) ea_nil) (by omega) (fun j σ' H' => St3 σ' H' (some (.int (i : Int))) tt i j) (fun H6 e6 => ⟨_, _, _, X, Y, rfl, e5.trans e6, e6 _ _ hL5, e6 _ _ hW5, rX, rY⟩) (fun j σ' H6 hj hw => ?_) (fun σ' H6 hw => ?_)
        · obtain ⟨a5, a7, a8, X, Y, rfl, e6, hL6, hW6, rX, rY⟩ := hw
          have hj' : j < n := by omega
          have sX := rX.step RL.q hi' hj'
          have sY := rY.step RB.q hi' hj'
          unfold relax at sX sY
          -- ahead
          refine q_asg (v := .bl (decide (((l1.idxOf i : Nat) : Int) < ((l1.idxOf j : Nat) : Int)))) (ev_op (ev_tidx (ev_var rfl) (h1.mono e6) k1.nd (k1.mem hi') (ev_var rfl)) (ev_tidx (ev_var rfl) (h1.mono e6) k1.nd (k1.mem hj') (ev_var rfl)) rv_I0) fun H7 e7 => ?_
          have e07 := e6.trans e7
          have hL7 := e7 _ _ hL6
          have hW7 := e7 _ _ hW6
          refine s_if (b := decide (((l2.idxOf i : Nat) : Int) < ((l2.idxOf j : Nat) : Int))) (et_test (ev_op (ev_tidx (ev_var rfl) (h2.mono e07) k2.nd (k2.mem hi') (ev_var rfl)) (ev_tidx (ev_var rfl) (h2.mono e07) k2.nd (k2.mem hj') (ev_var rfl)) rv_I0)) (fun hb H8 e8 => ?_) (fun hb H8 e8 => ?_)
          · have hq := of_decide_eq_true hb
            have e08 := e07.trans e8
            obtain ⟨ra, ra1, ra2⟩ := row H8 e08 i hi'
            refine s_if (b := decide (((l1.idxOf i : Nat) : Int) < ((l1.idxOf j : Nat) : Int))) (et_B (ev_var rfl)) (fun hc H9 e9 => ?_) (fun hc H9 e9 => ?_)
            · have hp1 := of_decide_eq_true hc
              rw [if_pos (show RL l1 l2 i j from ⟨by omega, by omega⟩)] at sX
              rw [if_neg (show ¬ RB l1 l2 i j from fun h => h.2 (by omega))] at sY
              have hL9 := e9 _ _ (e8 _ _ hL7)
              refine s_setL (j := j) hL9 (ev_is (ev_max2 (ev_op (ev_var rfl) (ev_var rfl) (rv_ixL (sq_of hL9) (lX_at X hj'))) (ev_op (ev_op (ev_var rfl) (ev_var rfl) (rv_ixL (sq_of hL9) (lX_at X hi'))) (ev_row (i := 0) (ev_ixS (es_r (ev_var rfl) (e9 _ _ (e08 _ _ hp))) (ev_var rfl) ra1) (e9 _ _ ra2) rfl) rv_I0)) (congrArg V.int (max_if _ _))) (ev_var rfl) (ev_var rfl) (by rw [lX_len]; exact hj') fun H10 e10 => ?_
              exact ⟨_, _, _, _, Y, rfl, Ex.mut (e08.trans (e9.trans e10)) hdl, by rw [upd_same, lX_set], by rw [upd_ne hne.symm]; exact e10 _ _ (e9 _ _ (e8 _ _ hW7)), sX, sY⟩
            · have hp1 := of_decide_eq_false hc
              rw [if_neg (show ¬ RL l1 l2 i j from fun h => hp1 (by have := h.2; omega))] at sX
              rw [if_pos (show RB l1 l2 i j from ⟨by omega, by omega⟩)] at sY
              have hW9 := e9 _ _ (e8 _ _ hW7)
              refine s_setL (j := j) hW9 (ev_is (ev_max2 (ev_op (ev_var rfl) (ev_var rfl) (rv_ixL (sq_of hW9) (lX_at Y hj'))) (ev_op (ev_op (ev_var rfl) (ev_var rfl) (rv_ixL (sq_of hW9) (lX_at Y hi'))) (ev_row (i := 1) (ev_ixS (es_r (ev_var rfl) (e9 _ _ (e08 _ _ hp))) (ev_var rfl) ra1) (e9 _ _ ra2) rfl) rv_I0)) (congrArg V.int (max_if _ _))) (ev_var rfl) (ev_var rfl) (by rw [lX_len]; exact hj') fun H10 e10 => ?_
              exact ⟨_, _, _, X, _, rfl, Ex.mut (e08.trans (e9.trans e10)) hdw0, by rw [upd_ne hne]; exact e10 _ _ (e9 _ _ (e8 _ _ hL7)), by rw [upd_same, lX_set], sX, sY⟩
          · have hq := of_decide_eq_false hb
            rw [if_neg (show ¬ RL l1 l2 i j from fun h => hq (by have := h.1; omega))] at sX
            rw [if_neg (show ¬ RB l1 l2 i j from fun h => hq (by have := h.1; omega))] at sY
            exact ⟨_, _, _, X, Y, rfl, e07.trans e8, e8 _ _ hL7, e8 _ _ hW7, sX, sY⟩
        · obtain ⟨a5, a7, a8, X, Y, rfl, e6, hL6, hW6, rX, rY⟩ := hw
          rw [Int.toNat_natCast] at rX rY
          exact ⟨_, _, _, _, X, Y, rfl, e6, hL6, hW6, rX.row, rY.row⟩
      · obtain ⟨o6, a5, a7, a8, X, Y, rfl, e6, hL6, hW6, rX, rY⟩ := hw
        rw [Int.toNat_natCast] at rX rY
        exact ⟨_, _, _, _, X, Y, rfl, e6, hL6, hW6, rX.round, rY.round⟩
    · obtain ⟨o6, a5, a7, a8, X, Y, rfl, e5, hL5, hW5, rX, rY⟩ := hw
      rw [Int.toNat_natCast] at rX rY
      refine er_tup (er_range (n := n) (r := fun i => [X i, Y i, wd i, ht i]) (ea_cons (ln e5 rfl) ea_nil) (by omega) (fun _ => rfl) fun i H6 e6 hin => ?_) H4 (Ex.refl H4) _ fun u H7 hu e7 hR => q u H7 X Y (fresh_back e5 hu) (e5.trans e7) ⟨rX.lp q2, rY.lp q2⟩ hR
      obtain ⟨ra, ra1, ra2⟩ := row H6 (e5.trans e6) i hin
      have hL6 := e6 _ _ hL5
      have hW6 := e6 _ _ hW5
      exact eg_u (eu_cat (xs := [.int (X i), .int (Y i)]) (ys := [.int (wd i), .int (ht i)]) (es_u (eu_tup (ea_cons (ev_op (ev_var rfl) (ev_var rfl) (rv_ixL (sq_of hL6) (lX_at X hin))) (ea_cons (ev_op (ev_var rfl) (ev_var rfl) (rv_ixL (sq_of hW6) (lX_at Y hin))) ea_nil)) (by show 2 ≤ 100000; decide)))
        (es_r (ev_ixS (es_r (ev_var rfl) (e6 _ _ (e5 _ _ hp))) (ev_var rfl) ra1) ra2) (by intro z; cases z) (by intro z; cases z) (by show 4 ≤ 1000; decide))
end
end CF

namespace CF
open PySem PySem.Spec PyProof.Rows L2 Evl
/-! ### data: rows compared -/
def dInts (r : List Int) : List PyData := r.map .int
def dRow (r : List Int) : PyData := .tuple (dInts r)
theorem dInts_lay : ∀ r : List Int, PyData.canLayAll0 (dInts r) = true
  | [] => rfl
  | n :: r => by
    show (PyData.canLay0 (.int n) && PyData.canLayAll0 (dInts r)) = true
    rw [dInts_lay r]
    rfl
theorem dInts_depth : ∀ r : List Int, PyData.depthAll (dInts r) = 0
  | [] => rfl
  | n :: r => by
    show max (PyData.depth (.int n)) (PyData.depthAll (dInts r)) = 0
    rw [dInts_depth r]
    rfl
theorem dRows_lay : ∀ rs : List (List Int), PyData.canLayAll0 (rs.map dRow) = true
  | [] => rfl
  | r :: rs => by
    show (PyData.canLayAll0 (dInts r) && PyData.canLayAll0 (rs.map dRow)) = true
    rw [dInts_lay r, dRows_lay rs]
    rfl
theorem dRows_depth : ∀ rs : List (List Int), PyData.depthAll (rs.map dRow) ≤ 1
  | [] => Nat.zero_le _
  | r :: rs => by
    show max (PyData.depthAll (dInts r) + 1) (PyData.depthAll (rs.map dRow)) ≤ 1
    rw [dInts_depth r]
    have := dRows_depth rs
    omega
theorem sh_rowsL (rs : List (List Int)) : SeqAt.shaped (.list (rs.map dRow)) = true := by
  unfold SeqAt.shaped
  rw [Bool.and_eq_true]
  refine ⟨dRows_lay rs, decide_eq_true ?_⟩
  show PyData.depthAll (rs.map dRow) + 1 ≤ 64
  have := dRows_depth rs
  omega
theorem sh_rowsT (rs : List (List Int)) : SeqAt.shaped (.tuple (rs.map dRow)) = true := sh_rowsL rs
theorem sh_ints (r : List Int) : SeqAt.shaped (.list (dInts r)) = true := by
  unfold SeqAt.shaped
  rw [Bool.and_eq_true]
  refine ⟨dInts_lay r, decide_eq_true ?_⟩
  show PyData.depthAll (dInts r) + 1 ≤ 64
  rw [dInts_depth r]
  decide
theorem eqv_nil (ds : List PyData) : PyData.eqv (.list ds) (.list []) = ds.isEmpty := by
  cases ds with
  | nil => rfl
  | cons d r => rfl
section
variable {P : Program} {w : World} {K : PySem.W.Frag} {mg : Str → Option Value} {base : Heap}
variable {σ : L2.St} {H H' : Hp} {ta tb te tl tk tv : TE} {t : TT} {x y z v : V} {D : Ends} {tu tz : TS}
theorem dp_ints : ∀ r : List Int, DpAll K H (r.map V.int) (dInts r)
  | [] => .nil
  | n :: r => .cons (.int n) (dp_ints r)
theorem dp_row {a : Addr} {r : List Int} (h : TupN H a r) : Dp K H (.ref a) (dRow r) := .tup (SqT.of h) (dp_ints r)
theorem dp_ixs {v : Nat → V} {r : Nat → List Int} : ∀ L : List Nat, (∀ j, j ∈ L → ∃ a, v j = .ref a ∧ TupN H a (r j)) → DpAll K H (L.map v) ((L.map r).map dRow)
  | [], _ => .nil
  | j :: L, h => by
    obtain ⟨a, e, ht⟩ := h j List.mem_cons_self
    refine .cons ?_ (dp_ixs L fun i hi => h i (List.mem_cons_of_mem _ hi))
    rw [e]
    exact dp_row ht
theorem ref_get {as : List Addr} {n : Nat} (h : as.length = n) : as.map V.ref = (List.range n).map fun j => V.ref (as.getD j 0) := by
  refine List.ext_getElem? fun i => ?_
  rw [List.getElem?_map, List.getElem?_map]
  by_cases hi : i < n
  · rw [List.getElem?_range hi, List.getElem?_eq_getElem (by omega), Option.map_some, Option.map_some, List.getD_eq_getElem?_getD, List.getElem?_eq_getElem (by omega)]
    rfl
  · rw [List.getElem?_eq_none (by omega), List.getElem?_eq_none (by rw [List.length_range]; omega)]
    rfl
theorem getD_of {as : List Addr} {j : Nat} (h : j < as.length) : as[j]? = some (as.getD j 0) := by
  rw [List.getD_eq_getElem?_getD, List.getElem?_eq_getElem h]
  rfl
theorem dp_rws {p : Addr} {n : Nat} {r : Nat → List Int} (h : Rws H p n r) : Dp K H (.ref p) (.tuple (((List.range n).map r).map dRow)) := by
  obtain ⟨as, hl, hp, hr⟩ := h
  refine .tup (SqT.of hp) ?_
  rw [ref_get hl]
  exact dp_ixs _ fun j hj => ⟨as.getD j 0, rfl, hr j _ (getD_of (by rw [hl]; exact List.mem_range.mp hj))⟩
theorem Rws.exb {r sc p : Addr} {ns : List Int} {n : Nat} {f : Nat → List Int} (h : Rws H p n f) (e : Exb r H H') (hR : RowOk K H r sc ns) : Rws H' p n f :=
  let ⟨as, hl, hp, hr⟩ := h
  ⟨as, hl, e.tup hR hp, fun i a ha => e.tup hR (hr i a ha)⟩
theorem TupF.exb {r sc p : Addr} {ns : List Int} {l : List Int} (h : TupF H p l) (e : Exb r H H') (hR : RowOk K H r sc ns) : TupF H' p l := by
  obtain ⟨o, a, b⟩ := h
  obtain ⟨ys, hy⟩ := hR.lst
  exact ⟨o, e _ _ (ne_of a hy (by intro z; cases z)) a, b⟩
theorem RowsAt.exb {r sc : Addr} {ns : List Int} {as : List Addr} {f : Nat → List Int} (h : RowsAt H as f) (e : Exb r H H') (hR : RowOk K H r sc ns) : RowsAt H' as f := fun i a ha => e.tup hR (h i a ha)
theorem rv_isN : RV (fun x y H Q => y = V.non ∧ Q (.bl (decide (x = .non))) H) x .non H (.bl (decide (x = .non))) := fun H1 _ Q q => ⟨rfl, q H1 (Ex.refl H1)⟩
theorem rv_notN : RV (fun x y H Q => y = V.non ∧ Q (.bl (!decide (x = .non))) H) x .non H (.bl (!decide (x = .non))) := fun H1 _ Q q => ⟨rfl, q H1 (Ex.refl H1)⟩
/-- [o for o in L if overlap(s, o)] == [] -/
def freeOf (n : Nat) (s : Sp4) (f : Nat → Sp4) : Bool := ((List.range n).filter fun i => ovl s (f i)).isEmpty
theorem freeOf_iff {n : Nat} {s : Sp4} {f : Nat → Sp4} : freeOf n s f = true ↔ ∀ i, i < n → ovl s (f i) = false := by
  unfold freeOf
  rw [List.isEmpty_iff, List.filter_eq_nil_iff]
  constructor
  · intro h i hi
    have := h i (List.mem_range.mpr hi)
    cases e : ovl s (f i) with
    | false => rfl
    | true => exact absurd e this
  · intro h i hi
    rw [h i (List.mem_range.mp hi)]
    decide
theorem et_nil {xs : List V} {rs : List (List Int)} (h : EvL ta σ H xs) (hd : DpAll K H xs (rs.map dRow)) (mono : ∀ H1, Ex H H1 → DpAll K H1 xs (rs.map dRow)) : EvT (tTest (tOp (rEqD K) ta (tLst tNil))) σ H rs.isEmpty := fun H1 e Q q =>
  h H1 e _ fun p H2 _ e2 hp => ⟨Nat.zero_le _, fun u hu => ⟨.list (rs.map dRow), .list [], .lst (SqL.of (Ex.new hu _ _ hp)) (mono _ (e.trans (e2.trans (Ex.new hu)))), .lst (SqL.of upd_same) .nil, sh_rowsL _, sh_rowsL [], _, rfl, by
    rw [eqv_nil, List.isEmpty_map]
    exact q _ (e2.trans (Ex.new hu))⟩⟩
theorem et_free {fo : Addr} {as : List Addr} {f : Nat → Sp4} {s : Sp4} {j : Nat} {vs : List Nat} (hfo : H fo = some (.lst (as.map V.ref))) (hrow : RowsAt H as (spRow f)) (hn : as.length ≤ 1000) (hw : ∀ x, wipe ((wipe σ vs).set j (some x)) vs = wipe σ vs)
    (hl : Ev tl σ H (.ref fo)) (he : ∀ x H1, Ev te ((wipe σ vs).set j (some x)) H1 x) (ht : ∀ (i : Nat) (a : Addr) H1, Ex H H1 → as[i]? = some a → EvT t ((wipe σ vs).set j (some (.ref a))) H1 (ovl s (f i))) :
    EvT (tTest (tOp (rEqD K) (tLc (iList K tl) (gName j) t te vs) (tLst tNil))) σ H (freeOf as.length s f) := by
  have hlen : (as.map V.ref).length = as.length := List.length_map _
  have key : EvL (tLc (iList K tl) (gName j) t te vs) σ H (given (as.map V.ref).length (fun i => ovl s (f i)) (fun i => .ref (as.getD i 0))) := by
    refine el_lcM (xs := as.map V.ref) (fun i => ovl s (f i)) (fun i => .ref (as.getD i 0)) (em_r hl hfo) (by omega) hw (fun i x H2 e2 hx => ?_) (fun i x H2 e2 hx _ => ?_)
    · obtain ⟨a, ha, rfl⟩ := ref_at hx
      exact ht i a H2 e2 ha
    · obtain ⟨a, ha, rfl⟩ := ref_at hx
      have : as.getD i 0 = a := by rw [List.getD_eq_getElem?_getD, ha]; rfl
      rw [this]
      exact he _ _
  have dp : ∀ H1, Ex H H1 → DpAll K H1 (given (as.map V.ref).length (fun i => ovl s (f i)) (fun i => .ref (as.getD i 0))) ((((List.range as.length).filter fun i => ovl s (f i)).map (spRow f)).map dRow) := fun H1 e => by
    rw [given_range, hlen]
    refine dp_ixs _ fun i hi => ⟨as.getD i 0, rfl, e _ _ (hrow i _ (getD_of ?_))⟩
    exact List.mem_range.mp (List.mem_filter.mp hi).1
  refine et_is (et_nil key (dp H (Ex.refl H)) dp) ?_
  rw [List.isEmpty_map]
  rfl
theorem eg_if {b : Bool} {xs : List V} (h : EvT t σ H b) (h1 : b = true → EvG ta σ H xs) (h2 : b = false → EvG tb σ H xs) : EvG (tIf t ta tb) σ H xs := fun H1 e Q q => h H1 e _ fun H2 e2 => by
  cases b with
  | true =>
    show ta σ H2 Q
    exact h1 rfl H2 (e.trans e2) Q fun p H3 e3 => q p H3 (e2.trans e3)
  | false =>
    show tb σ H2 Q
    exact h2 rfl H2 (e.trans e2) Q fun p H3 e3 => q p H3 (e2.trans e3)
theorem ev_sum {ns : List Int} (h : EvM K te σ H (ns.map V.int)) : Ev (tCB (rSum K) (tCons te tNil)) σ H (.int ns.sum) := fun H1 e Q q => h H1 e _ fun p H2 e2 hp => ⟨p, ns, rfl, hp, q H2 e2⟩
theorem sum_bound (g : Nat → Int) : ∀ i, (∀ j, j < i → 1 ≤ g j ∧ g j ≤ 6) → 0 ≤ ((List.range i).map g).sum ∧ ((List.range i).map g).sum ≤ 6 * i
  | 0, _ => by
    show (0 : Int) ≤ 0 ∧ (0 : Int) ≤ 6 * 0
    decide
  | i + 1, h => by
    have ih := sum_bound g i fun j hj => h j (by omega)
    have hi := h i (Nat.lt_succ_self i)
    rw [List.range_succ, List.map_append, List.sum_append]
    show 0 ≤ _ + [g i].sum ∧ _ + [g i].sum ≤ _
    rw [List.sum_cons, List.sum_nil]
    omega
/-- a spot of the drawn ones -/
def okPl (s : Sp4) : Prop := (0 ≤ s.x ∧ s.x ≤ 1000) ∧ (0 ≤ s.y ∧ s.y ≤ 1000) ∧ (1 ≤ s.w ∧ s.w ≤ 6) ∧ 1 ≤ s.h ∧ s.h ≤ 6
theorem okPl.spot {s : Sp4} (h : okPl s) : okSpot s := by
  unfold okPl at h
  unfold okSpot okSize
  omega
theorem pack_ok {n : Nat} {l1 l2 : List Nat} {wd ht X Y : Nat → Int} {m : Int} (k1 : Perm n l1) (k2 : Perm n l2) (h : Pack n l1 l2 wd ht X Y) (hr : okRand n 6 wd ht) (n1 : 1 ≤ n) (n8 : n ≤ 8) (hm : m = 1 ∨ m = 2) :
    okPack n fun i => ⟨m * X i, m * Y i, wd i, ht i⟩ := by
  refine ⟨n1, n8, fun i hi => ?_, fun i hi j hj hij => h.apart k1 k2 (by omega) (fun a ha => by have := hr a ha; omega) hi hj hij⟩
  have hb := hr i hi
  have hq : l2.idxOf i < 8 := by
    have := ix_lt (k2.mem hi)
    rw [k2.len] at this
    omega
  have hx0 := h.lx.nn i hi
  have hy0 := h.ly.nn i hi
  have hx1 := h.lx.bound (q := l2.idxOf) (M := 6) RL.q (by decide) (fun a ha => (hr a ha).2.1) i hi
  have hy1 := h.ly.bound (q := l2.idxOf) (M := 6) RB.q (by decide) (fun a ha => (hr a ha).2.2.2) i hi
  show (0 ≤ m * X i ∧ m * X i ≤ 1000) ∧ (0 ≤ m * Y i ∧ m * Y i ≤ 1000) ∧ 1 ≤ wd i ∧ wd i ≤ 100 ∧ 1 ≤ ht i ∧ ht i ≤ 100
  rcases hm with rfl | rfl <;> omega
end
end CF

namespace CF
open PySem PySem.Spec PyProof.Rows L2 Evl
section
variable {P : Program} {w : World} {K : PySem.W.Frag} {mg : Str → Option Value} {base : Heap}
variable {σ : L2.St} {H H' : Hp} {ta tb te tl tk tv : TE} {t : TT} {x y z v : V} {D : Ends} {tu tz : TS}
theorem q_forTn {a : Addr} {xs : List V} {j : Nat} (h : Ev tl σ H (.ref a)) (hx : SqT K H a xs) (Pv : Nat → L2.St → Hp → Prop) (h0 : ∀ H1, Ex H H1 → Pv 0 σ H1) (hl : ∀ i σ' H', i ≤ xs.length → Pv i σ' H' → SqT K H' a xs)
    (hs : ∀ i x σ' H', xs[i]? = some x → Pv i σ' H' → tu { D with nx := Pv (i + 1), ct := Pv (i + 1), bk := tz D } (σ'.set j (some x)) H') (hd : ∀ σ' H', Pv xs.length σ' H' → tz D σ' H') : tSeq (tFor (iTup K tl) (gName j) tu) tz D σ H :=
  q_forT h hx Pv h0 hl hs hd
abbrev spLP : Sp := fun vs H Q E => ∃ (p p1 p2 : Addr) (n : Nat) (wd ht : Nat → Int) (l1 l2 : List Nat), vs = [.ref p, .ref p1, .ref p2] ∧ Rws H p n (szRow wd ht) ∧ n ≤ 8 ∧ TupF H p1 (ordI l1) ∧ TupF H p2 (ordI l2) ∧ Perm n l1 ∧ Perm n l2 ∧
  ∀ r H' X Y, H r = none → Ex H H' → Pack n l1 l2 wd ht X Y → Rws H' r n (fun i => [X i, Y i, wd i, ht i]) → Q (.ref r) H'
def spLSpots (K : PySem.W.Frag) : Sp := fun vs H Q _ => ∃ (r sc : Addr) (ns : List Int) (n : Nat), vs = [.ref r, .int (n : Int), .int 6] ∧ RowOk K H r sc ns ∧ 1 ≤ n ∧ n ≤ 8 ∧
  ∀ p H' n' f, Exb r H H' → RowOk K H' r sc ns → Rws H' p n' (spRow f) → okPack n' f → Q (.ref p) H'
/-- the list of the spots that were put -/
def Foun (H : Hp) (fo : Addr) (i : Nat) : Prop := ∃ (as : List Addr) (f : Nat → Sp4), as.length = i ∧ H fo = some (.lst (as.map V.ref)) ∧ RowsAt H as (spRow f) ∧ ∀ j, j < i → okPl (f j)
theorem Foun.mono {fo : Addr} {i : Nat} (h : Foun H fo i) (e : Ex H H') : Foun H' fo i := let ⟨as, f, a, b, c, d⟩ := h; ⟨as, f, a, e _ _ b, c.mono e, d⟩
theorem Foun.exb {fo r sc : Addr} {ns : List Int} {i : Nat} (h : Foun H fo i) (e : Exb r H H') (hR : RowOk K H r sc ns) (hne : fo ≠ r) : Foun H' fo i := let ⟨as, f, a, b, c, d⟩ := h; ⟨as, f, a, e _ _ hne b, c.exb e hR, d⟩
/-- the tuples stay -/
def Tk (H H' : Hp) : Prop := ∀ b xs, H b = some (.tup xs) → H' b = some (.tup xs)
theorem Tk.refl (H : Hp) : Tk H H := fun _ _ h => h
theorem Tk.trans {H1 : Hp} (a : Tk H H1) (b : Tk H1 H') : Tk H H' := fun c xs h => b c xs (a c xs h)
theorem tk_ex (e : Ex H H') : Tk H H' := fun b xs h => e b _ h
theorem tk_exb {r sc : Addr} {ns : List Int} (e : Exb r H H') (hR : RowOk K H r sc ns) : Tk H H' := fun b xs h => e.tup hR h
theorem tk_upd {l : Addr} {xs : List V} {o : HO} (h : H l = some (.lst xs)) : Tk H (upd H l o) := fun b ys hb => by
  rw [upd_ne (ne_of hb h (by intro z; cases z))]
  exact hb
theorem ok_lSpots {f f1 f2 f3 f4 f5 : Addr} {fd fd1 fd2 fd3 fd4 fd5 : FuncData} (B : Bi mg) (F : Fun K "_law_spots" "_law_spots" sLSpots f fd)
    (A1 : At K mg "_law_taken" sTaken ["_law_row", "_law_many"] f1 fd1) (G1 : FnOk P w K mg base CX0 1 f1 fd1 ["_law_row", "_law_many"] (spTaken K))
    (A2 : At K mg "_law_sizes" sLSizes ["_law_row", "_law_many", "_law_most"] f2 fd2) (G2 : FnOk P w K mg base CX0 2 f2 fd2 ["_law_row", "_law_many", "_law_most"] (spLSizes K))
    (A3 : At K mg "_law_order" sLOrder ["_law_row", "_law_many"] f3 fd3) (G3 : FnOk P w K mg base CX0 2 f3 fd3 ["_law_row", "_law_many"] (spLOrder K))
    (A4 : At K mg "_law_packed" sLPacked ["_law_sizes_here", "_law_first", "_law_second"] f4 fd4) (G4 : FnOk P w K mg base CX0 1 f4 fd4 ["_law_sizes_here", "_law_first", "_law_second"] spLP)
    (A5 : At K mg "_law_overlap" sLOverlap ["_law_one", "_law_other"] f5 fd5) (G5 : FnOk P w K mg base CX0 1 f5 fd5 ["_law_one", "_law_other"] spOverlap) :
    FnOk P w K mg base CX0 3 f fd ["_law_row", "_law_many", "_law_most"] (spLSpots K) := by
  refine F.ok scLSpots (fun vs H Q E h => ?_) (fun cdv A outer s H vs Q E hr h => ?_)
  · obtain ⟨r, sc, ns, n, rfl, _⟩ := h
    rfl
  · obtain ⟨r, sc, ns, n, rfl, hR, n1, n8, q⟩ := h
    have r1 := hr.mono (show 1 ≤ 2 by decide)
    refine ⟨_, pss_cons (ps_par (i := 3) (j := 4) rfl scLSpots.nd rfl rfl (by decide) rfl rfl (pa_cons (pe_call G2 hr (by rfl) A2.g A2.F.kp A2.b .nil pass0 (pa_cons (pv 0) (pa_cons (pv 1) (pa_cons (pv 2) pa_nil)))) (pa_cons (pe_lst pa_nil) pa_nil)) (by rfl))
      (pss_cons (ps_if (pt_cmpR op_eq (pe_call G1 r1 (by rfl) A1.g A1.F.kp A1.b .nil pass0 (pa_cons (pv 0) (pa_cons pe_int pa_nil))) pe_int (nomark _))
        (pss_cons (ps_set (i := 5) scLSpots.nd rfl (.inl rfl) (pe_call G4 r1 (by rfl) A4.g A4.F.kp A4.b .nil pass0 (pa_cons (pv 3) (pa_cons (pe_call G3 hr (by rfl) A3.g A3.F.kp A3.b .nil pass0 (pa_cons (pv 0) (pa_cons (pv 1) pa_nil))) (pa_cons (pe_call G3 hr (by rfl) A3.g A3.F.kp A3.b .nil pass0 (pa_cons (pv 0) (pa_cons (pv 1) pa_nil))) pa_nil)))))
        (pss_one (ps_ret (pe_ifExp (pt_cmpR op_eq (pe_call G1 r1 (by rfl) A1.g A1.F.kp A1.b .nil pass0 (pa_cons (pv 0) (pa_cons pe_int pa_nil))) pe_int (nomark _))
          (pe_callTy call_tupOf (by rfl) B.tuple (by decide +kernel) (pa_cons
            (pe_lc (own := [("_law_spot", 6)]) (g := gName 6) (by rfl) scLSpots.nd (pi_tup (pv 5)) (blkOk_by (N := nLSpots) (sc := defScope sLSpots) (by decide +kernel)) (fun _ _ _ _ _ => pg_name (i := 6) scLSpots.nd rfl (.inl rfl)) (fun _ _ _ _ _ => pts_nil)
              (fun _ _ _ _ _ => pe_op (op_catTK K) (pe_tup (pa_cons (pe_op op_mul pe_int (pe_ix (ix_tupK K) (pv 6) pe_int (fun _ _ => rfl))) (pa_cons (pe_op op_mul pe_int (pe_ix (ix_tupK K) (pv 6) pe_int (fun _ _ => rfl))) pa_nil))) (pe_slice (sl_tupK K) (pv 6) (po_some pe_int) po_none))) pa_nil))
          (pv 5))))) pss_nil)
      (pss_cons (ps_for PassesOwn.never rfl (pi_tup (pv 3)) (pg_name (i := 7) scLSpots.nd rfl (.inl rfl))
        (pss_cons (ps_set (i := 6) scLSpots.nd rfl (.inr rfl) pe_non)
        (pss_cons (ps_for PassesOwn.never rfl (pi_range1 (by rfl) B.range (pa_cons pe_int pa_nil)) (pg_name (i := 8) scLSpots.nd rfl (.inl rfl))
          (pss_cons (ps_set (i := 9) scLSpots.nd rfl (.inr rfl) (pe_op op_catT (pe_tup (pa_cons (pe_call G1 r1 (by rfl) A1.g A1.F.kp A1.b .nil pass0 (pa_cons (pv 0) (pa_cons (pe_op op_mul pe_int (pv 2)) pa_nil))) (pa_cons (pe_call G1 r1 (by rfl) A1.g A1.F.kp A1.b .nil pass0 (pa_cons (pv 0) (pa_cons (pe_op op_mul pe_int (pv 2)) pa_nil))) pa_nil))) (pv 7)))
          (pss_one (ps_if (PW.pt (pw_and (pt_cmpR op_isN (pv 6) pe_non (nomark _)) (pw_and1 (pt_cmpR (op_eqD hr.units)
              (pe_lc (own := [("_law_other", 11)]) (g := gName 11) (by rfl) scLSpots.nd (pi_list (pv 4)) (blkOk_by (N := nLSpots) (sc := defScope sLSpots) (by decide +kernel)) (fun _ _ _ _ _ => pg_name (i := 11) scLSpots.nd rfl (.inl rfl))
                (fun _ _ _ _ _ => pts_one (pt_val (pe_call G5 r1 (by rfl) A5.g A5.F.kp A5.b .nil pass0 (pa_cons (pv 9) (pa_cons (pv 11) pa_nil))))) (fun _ _ _ _ _ => pv 11)) (pe_lst pa_nil) (nomark _)))))
            (pss_one (ps_set (i := 6) scLSpots.nd rfl (.inr rfl) (pv 9))) pss_nil))))
        (pss_one (ps_expr (pe_bm PySem.F.plainAttrs_list PySem.F.slot_list_append PySem.F.type_list_append mt_append (pv 4) (pa_cons
          (pe_ifExp (pt_cmpR op_notN (pv 6) pe_non (nomark _)) (pv 6)
            (pe_op op_catT (pe_tup (pa_cons (pe_op op_add (pe_op op_mul pe_int (pv 2)) (pe_callB (cr_sum rfl) (by rfl) B.sum (by decide +kernel) (pa_cons
                (pe_lc (own := [("_law_other", 11)]) (g := gName 11) (by rfl) scLSpots.nd (pi_list (pv 4)) (blkOk_by (N := nLSpots) (sc := defScope sLSpots) (by decide +kernel)) (fun _ _ _ _ _ => pg_name (i := 11) scLSpots.nd rfl (.inl rfl)) (fun _ _ _ _ _ => pts_nil)
                  (fun _ _ _ _ _ => pe_ix (ix_tupK K) (pv 11) pe_int (fun _ _ => rfl))) pa_nil))) (pa_cons (pe_op op_mul pe_int (pv 2)) pa_nil))) (pv 7))) pa_nil)))))))
      (pss_cons (ps_set (i := 10) scLSpots.nd rfl (.inl rfl) (pe_lst pa_nil))
      (pss_cons (ps_for PassesOwn.never rfl (pi_list (pv 4)) (pg_name (i := 6) scLSpots.nd rfl (.inr rfl))
        (pss_one (ps_if (pt_cmpR (op_eqD hr.units)
              (pe_lc (own := [("_law_other", 11)]) (g := gName 11) (by rfl) scLSpots.nd (pi_list (pv 10)) (blkOk_by (N := nLSpots) (sc := defScope sLSpots) (by decide +kernel)) (fun _ _ _ _ _ => pg_name (i := 11) scLSpots.nd rfl (.inl rfl))
                (fun _ _ _ _ _ => pts_one (pt_val (pe_call G5 r1 (by rfl) A5.g A5.F.kp A5.b .nil pass0 (pa_cons (pv 6) (pa_cons (pv 11) pa_nil))))) (fun _ _ _ _ _ => pv 11)) (pe_lst pa_nil) (nomark _))
          (pss_one (ps_expr (pe_bm PySem.F.plainAttrs_list PySem.F.slot_list_append PySem.F.type_list_append mt_append (pv 10) (pa_cons (pv 6) pa_nil)))) pss_nil)))
      (pss_one (ps_ret (pe_callTy call_tupOf (by rfl) B.tuple (by decide +kernel) (pa_cons (pv 10) pa_nil)))))))), ?_⟩
    -- sizes, found
    refine ⟨.ref r, rfl, .int (n : Int), rfl, .int 6, rfl, r, sc, ns, n, 6, rfl, hR, n8, by decide, by decide, fun ps H1 wd ht e1 hR1 hps hS hok => ⟨Nat.zero_le _, fun fo hfo => ⟨.ref ps, .ref fo, rfl, ?_⟩⟩⟩
    have hfo0 : H fo = none := e1.back hR1 hfo
    have hfr : fo ≠ r := by
      obtain ⟨xs, h⟩ := hR.lst
      exact (ne_of_none h hfo0).symm
    have ef := Ex.new (o := .lst []) hfo
    have e2 := e1.ex ef
    have hR2 := hR1.mono ef
    have hS2 := hS.mono ef
    have hF2 := upd_same (H := H1) (a := fo) (o := .lst [])
    show tSeq _ _ _ _ (upd H1 fo (.lst []))
    generalize upd H1 fo (.lst []) = H2 at e2 hR2 hS2 hF2
    clear ef hfo e1 hR1 hS hps H1
    -- if _law_taken(row, 2) == 0
    refine ⟨.ref r, rfl, r, sc, ns, 2, rfl, hR2, by decide, by decide, fun k H3 k0 k1 e3 hR3 => ⟨rfl, _, rfl, ite2 (fun hb => ?_) (fun hb => ?_)⟩⟩
    · have x3 := e2.trans e3
      have hS3 := hS2.exb e3 hR2
      refine ⟨.ref ps, rfl, .ref r, rfl, .int (n : Int), rfl, r, sc, ns, n, rfl, hR3, n8, fun o1 H4 l1 e4 hR4 _ t1 kk1 => ?_⟩
      refine ⟨.ref r, rfl, .int (n : Int), rfl, r, sc, ns, n, rfl, hR4, n8, fun o2 H5 l2 e5 hR5 _ t2 kk2 => ?_⟩
      have x5 := x3.trans (e4.trans e5)
      refine ⟨ps, o1, o2, n, wd, ht, l1, l2, rfl, (hS3.exb e4 hR3).exb e5 hR4, n8, t1.exb e5 hR4, t2, kk1, kk2, fun sp H6 X Y _ e6 hP hW => ?_⟩
      have hR6 := hR5.mono e6
      have x6 := x5.ex e6
      refine ⟨.ref r, rfl, r, sc, ns, 2, rfl, hR6, by decide, by decide, fun k' H7 k0' k1' e7 hR7 => ⟨rfl, _, rfl, ite2 (fun hb' => ?_) (fun hb' => ?_)⟩⟩
      · obtain ⟨as, hl, hp, hrow⟩ := hW.exb e7 hR6
        refine er_tup (er_S (n := n) (r := fun i => [2 * X i, 2 * Y i, wd i, ht i]) (es_r (ev_var rfl) hp) (by rw [List.length_map, hl]) (by omega) (fun _ => rfl) fun i x H8 e8 hi => ?_) H7 (Ex.refl H7) _ fun u H8 _ e8 hR8 =>
          q u H8 n (fun i => ⟨2 * X i, 2 * Y i, wd i, ht i⟩) ((x6.trans e7).ex e8) (hR7.mono e8) hR8 (pack_ok kk1 kk2 hP hok n1 n8 (.inr rfl))
        obtain ⟨a, ha, rfl⟩ := ref_at hi
        have hT : TupN H8 a [X i, Y i, wd i, ht i] := e8 _ _ (hrow i a ha)
        exact eg_u (eu_cat (xs := [.int (2 * X i), .int (2 * Y i)]) (ys := [.int (wd i), .int (ht i)]) (es_u (eu_tup (ea_cons (ev_op ev_c (ev_row (i := 0) (ev_var rfl) hT rfl) (rv_I (.inl (by decide)))) (ea_cons (ev_op ev_c (ev_row (i := 1) (ev_var rfl) hT rfl) (rv_I (.inl (by decide)))) ea_nil)) (by show 2 ≤ 100000; decide)))
          (es_u (eu_sl (xs := [.int (X i), .int (Y i), .int (wd i), .int (ht i)]) (es_r (ev_var rfl) hT) (eo_some ev_c) eo_none (by show ¬ (HT.sIx 4 0 (some 2) = 0 ∧ HT.sIx 4 4 none = 4); decide))) (by intro z; cases z) (by intro z; cases z) (by show 4 ≤ 1000; decide))
      · refine ⟨.ref sp, rfl, q sp H7 n (fun i => ⟨X i, Y i, wd i, ht i⟩) (x6.trans e7) hR7 (hW.exb e7 hR6) ?_⟩
        have := pack_ok kk1 kk2 hP hok n1 n8 (.inl rfl)
        simp only [Int.one_mul] at this
        exact this
    · have x3 := e2.trans e3
      obtain ⟨as, hl, hp, hrow⟩ := hS2.exb e3 hR2
      have hF3 := e3 _ _ hfr hF2
      clear hR2 hS2 hF2 e2 hb
      have hlen : (as.map V.ref).length = n := by rw [List.length_map, hl]
      refine q_forTn (ev_var rfl) (st_of hp) (fun i σ' H' => (∃ o6 o7 o8 o9, σ' = [some (.ref r), some (.int (n : Int)), some (.int 6), some (.ref ps), some (.ref fo), none, o6, o7, o8, o9, none, none]) ∧ Exb r H H' ∧ Tk H3 H' ∧ RowOk K H' r sc ns ∧ Foun H' fo i)
        (fun H4 e4 => ⟨⟨none, none, none, none, rfl⟩, x3.ex e4, tk_ex e4, hR3.mono e4, [], fun _ => ⟨0, 0, 0, 0⟩, rfl, e4 _ _ hF3, fun i a e => by simp at e, fun j hj => absurd hj (Nat.not_lt_zero _)⟩)
        (fun i σ' H' _ hw => st_of (hw.2.2.1 _ _ hp)) (fun i x σ' H4 hi hw => ?_) (fun σ' H4 hw => ?_)
      · obtain ⟨⟨o6, o7, o8, o9, rfl⟩, x4, k4, hR4, hFo⟩ := hw
        obtain ⟨sz, hsz, rfl⟩ := ref_at hi
        have hin : i < n := by
          have := (List.getElem?_eq_some_iff.mp hsz).1
          omega
        have hokI := hok i hin
        have hT3 : TupN H3 sz [wd i, ht i] := hrow i sz hsz
        -- spot = None
        refine q_asg (v := .non) ev_c fun H5 e5 => ?_
        refine q_forR1 (n := 12) (ea_cons ev_c ea_nil) (by decide) (fun _ σ' H' => (∃ sv o8 o9, σ' = [some (.ref r), some (.int (n : Int)), some (.int 6), some (.ref ps), some (.ref fo), none, some sv, some (.ref sz), o8, o9, none, none] ∧ (sv = .non ∨ ∃ a s, sv = .ref a ∧ TupN H' a (Sp4.row s) ∧ okPl s)) ∧ Exb r H H' ∧ Tk H3 H' ∧ RowOk K H' r sc ns ∧ Foun H' fo i)
          (fun H6 e6 => ⟨⟨.non, _, _, rfl, .inl rfl⟩, x4.ex (e5.trans e6), k4.trans (tk_ex (e5.trans e6)), hR4.mono (e5.trans e6), hFo.mono (e5.trans e6)⟩) (fun tt σ' H6 _ hw => ?_) (fun σ' H6 hw => ?_)
        · obtain ⟨⟨sv, o8, o9, rfl, hsv⟩, x6, k6, hR6, hFo6⟩ := hw
          -- place = ..
          refine ⟨.ref r, rfl, .int 6, rfl, 3, 6, rfl, rfl, .inl (by decide), r, sc, ns, 3 * 6, rfl, hR6, by decide, by decide, fun kx H7 kx0 kx1 e7 hR7 => ?_⟩
          refine ⟨.ref r, rfl, .int 6, rfl, 3, 6, rfl, rfl, .inl (by decide), r, sc, ns, 3 * 6, rfl, hR7, by decide, by decide, fun ky H8 ky0 ky1 e8 hR8 => ?_⟩
          refine ⟨by show 2 ≤ sizeLine; decide, fun pr hpr => ⟨.ref sz, rfl, ?_⟩⟩
          have ep := Ex.new (o := .tup [.int kx, .int ky]) hpr
          have x8 : Exb r H6 H8 := e7.trans e8
          have hsz8 : TupN (upd H8 pr (.tup [.int kx, .int ky])) sz [wd i, ht i] := ep _ _ (x8.tup hR6 (k6 _ _ hT3))
          refine ⟨pr, sz, [.int kx, .int ky], [.int (wd i), .int (ht i)], rfl, rfl, st_of upd_same, st_of hsz8, (by intro z; cases z), (by show 4 ≤ sizeLine; decide), (fun z => by cases z), fun _ pl hpl => ?_⟩
          have ep2 := Ex.new (o := .tup ([.int kx, .int ky] ++ [.int (wd i), .int (ht i)])) hpl
          have hplT : TupN (upd (upd H8 pr (.tup [.int kx, .int ky])) pl (.tup ([.int kx, .int ky] ++ [.int (wd i), .int (ht i)]))) pl (Sp4.row ⟨kx, ky, wd i, ht i⟩) := upd_same
          have e9 := ep.trans ep2
          have x9 := x8.ex e9
          have hR9 := hR8.mono e9
          dsimp only [gName]
          generalize upd (upd H8 pr (.tup [.int kx, .int ky])) pl (.tup ([.int kx, .int ky] ++ [.int (wd i), .int (ht i)])) = H9 at hplT x9 hR9
          have x39 : Exb r H H9 := x6.trans x9
          have k39 : Tk H3 H9 := k6.trans (tk_exb x9 hR6)
          have hFo9 : Foun H9 fo i := hFo6.exb x9 hR6 hfr
          obtain ⟨bs, g, hbl, hbf, hbr, hbo⟩ := id hFo9
          refine s_when (et_and (et_test (ev_op (ev_var rfl) ev_c rv_isN)) fun _ => et_free (s := ⟨kx, ky, wd i, ht i⟩) hbf hbr (by omega) (fun _ => rfl) (ev_var rfl) (fun x H10 => ev_var rfl) (fun j a H10 e10 ha => et_B (Ev.call' (ea_cons (ev_var rfl) (ea_cons (ev_var rfl) ea_nil)) (sv_overlap (e10 _ _ hplT) (e10 _ _ (hbr j a ha))))))
            (fun hb H10 e10 => s_asg (ev_var rfl) fun H11 e11 => ?_) (fun hb H10 e10 => ?_)
          · have e := e10.trans e11
            refine ⟨⟨_, _, _, rfl, .inr ⟨pl, ⟨kx, ky, wd i, ht i⟩, rfl, e _ _ hplT, ?_⟩⟩, x39.ex e, k39.trans (tk_ex e), hR9.mono e, hFo9.mono e⟩
            show (0 ≤ kx ∧ kx ≤ 1000) ∧ (0 ≤ ky ∧ ky ≤ 1000) ∧ (1 ≤ wd i ∧ wd i ≤ 6) ∧ 1 ≤ ht i ∧ ht i ≤ 6
            omega
          · refine ⟨⟨sv, _, _, rfl, ?_⟩, x39.ex e10, k39.trans (tk_ex e10), hR9.mono e10, hFo9.mono e10⟩
            rcases hsv with h | ⟨a, s, h1, h2, h3⟩
            · exact .inl h
            · exact .inr ⟨a, s, h1, e10 _ _ (x9.tup hR6 h2), h3⟩
        · obtain ⟨⟨sv, o8, o9, rfl, hsv⟩, x6, k6, hR6, bs, g, hbl, hbf, hbr, hbo⟩ := hw
          have hszT : TupN H6 sz [wd i, ht i] := k6 _ _ hT3
          have hsum := sum_bound (fun j => (g j).w) i fun j hj => (hbo j hj).2.2.1
          refine ⟨.ref fo, rfl, .inl ⟨rfl, _, sq_of hbf⟩, ?_⟩
          have key : ∃ s, okPl s ∧ EvG (tIf (tTest (tOp (fun x y H Q => y = V.non ∧ Q (.bl (!decide (x = .non))) H) (tVar 6) (tC .non))) (tVar 6)
              (tOp (rCatT K) (tTup (tCons (tOp (rI0 fun i j => .int (i + j)) (tOp (rI CMul fun i j => .int (i * j)) (tC (.int 3)) (tVar 2)) (tCB (rSum K) (tCons (tLc (iList K (tVar 4)) (gName 11) tYes (tOp (rIxT K) (tVar 11) (tC (.int 2))) [11]) tNil))) (tCons (tOp (rI CMul fun i j => .int (i * j)) (tC (.int 3)) (tVar 2)) tNil))) (tVar 7)))
              [some (.ref r), some (.int (n : Int)), some (.int 6), some (.ref ps), some (.ref fo), none, some sv, some (.ref sz), o8, o9, none, none] H6 ((Sp4.row s).map V.int) := by
            rcases hsv with h | ⟨a, s, h1, h2, h3⟩
            · subst h
              refine ⟨⟨18 + ((List.range i).map fun j => (g j).w).sum, 18, wd i, ht i⟩, ?_, eg_if (b := false) (et_test (ev_op (ev_var rfl) ev_c rv_notN)) (fun hb => by cases hb) fun _ => ?_⟩
              · show (0 ≤ 18 + ((List.range i).map fun j => (g j).w).sum ∧ 18 + ((List.range i).map fun j => (g j).w).sum ≤ 1000) ∧ (0 ≤ (18 : Int) ∧ (18 : Int) ≤ 1000) ∧ (1 ≤ wd i ∧ wd i ≤ 6) ∧ 1 ≤ ht i ∧ ht i ≤ 6
                omega
              · refine eg_u (eu_cat (xs := [.int (18 + ((List.range i).map fun j => (g j).w).sum), .int 18]) (ys := [.int (wd i), .int (ht i)]) (es_u (eu_tup (ea_cons (ev_op (ev_op ev_c (ev_var rfl) (rv_I (.inl (by decide)))) (ev_sum (ns := (List.range i).map fun j => (g j).w) (em_u (el_is (el_lcM (xs := bs.map V.ref) (fun _ => true) (fun j => .int (g j).w) (em_r (ev_var rfl) hbf) (by rw [List.length_map]; omega) (fun _ => rfl) (fun _ _ _ _ _ => et_yes) (fun j x H7 e7 hx _ => ?_)) ?_))) rv_I0)
                  (ea_cons (ev_op ev_c (ev_var rfl) (rv_I (.inl (by decide)))) ea_nil)) (by show 2 ≤ 100000; decide))) (es_r (ev_var rfl) hszT) (by intro z; cases z) (by intro z; cases z) (by show 4 ≤ 1000; decide))
                · obtain ⟨b, hb, rfl⟩ := ref_at hx
                  exact ev_row (i := 2) (ev_var rfl) (e7 _ _ (hbr j b hb)) rfl
                · rw [given_all, List.length_map, hbl, List.map_map]
                  rfl
            · subst h1
              exact ⟨s, h3, eg_if (b := true) (et_test (ev_op (ev_var rfl) ev_c rv_notN)) (fun _ => eg_r (ev_var rfl) h2) fun hb => by cases hb⟩
          obtain ⟨s, hs, hE⟩ := key
          refine hE H6 (Ex.refl H6) _ fun pl H7 e7 hpl => ⟨fo, bs.map V.ref, .ref pl, rfl, rfl, e7 _ _ hbf, sz_lt (by rw [List.length_map]; omega), ?_⟩
          obtain ⟨hR8, x8⟩ := hR.put (l := fo) (o := .lst (bs.map V.ref ++ [.ref pl])) (hR6.mono e7) (x6.ex e7) hfo0
          refine ⟨⟨_, _, _, _, rfl⟩, x8, k6.trans ((tk_ex e7).trans (tk_upd (e7 _ _ hbf))), hR8, bs ++ [pl], fun j => if j = i then s else g j, by rw [List.length_append, hbl]; rfl, by rw [upd_same, List.map_append]; rfl, rows_snoc hbl (e7 _ _ hbf) (hbr.mono e7) (fun j hj => ?_) ?_, fun j hj => ?_⟩
          · show (if j = i then s else g j).row = (g j).row
            rw [if_neg (by omega)]
          · show _ = some (HO.tup ((if i = i then s else g i).row.map V.int))
            rw [if_pos rfl]
            exact hpl
          · show okPl (if j = i then s else g j)
            by_cases h : j = i
            · rw [if_pos h]
              exact hs
            · rw [if_neg h]
              exact hbo j (by omega)
      · obtain ⟨⟨o6, o7, o8, o9, rfl⟩, x4, k4, hR4, bs, g, hbl, hbf, hbr, hbo⟩ := hw
        rw [hlen] at hbl hbo
        -- fine = []
        refine q_asgL (el_lst ea_nil (Nat.zero_le _)) fun fi H5 hfi e5 hF5 => ?_
        have hblen : (bs.map V.ref).length = n := by rw [List.length_map, hbl]
        refine q_forLn (ev_var rfl) (sq_of (e5 _ _ hbf)) (fun i σ' H' => (∃ o6, σ' = [some (.ref r), some (.int (n : Int)), some (.int 6), some (.ref ps), some (.ref fo), none, o6, o7, o8, o9, some (.ref fi), none]) ∧ Ex H4 H' ∧ ∃ (cs : List Addr) (c : Nat → Sp4), (1 ≤ i → 1 ≤ cs.length) ∧ cs.length ≤ i ∧ H' fi = some (.lst (cs.map V.ref)) ∧ RowsAt H' cs (spRow c) ∧ (∀ j, j < cs.length → okPl (c j)) ∧
            ∀ a, a < cs.length → ∀ b, b < cs.length → a ≠ b → ovl (c a) (c b) = false)
          (fun H6 e6 => ⟨⟨_, rfl⟩, e5.trans e6, [], fun _ => ⟨0, 0, 0, 0⟩, fun h => absurd h (by decide), Nat.le_refl _, e6 _ _ hF5, fun i a e => by simp at e, fun j hj => absurd hj (Nat.not_lt_zero _), fun j hj => absurd hj (Nat.not_lt_zero _)⟩)
          (fun i σ' H' _ hw => sq_of (hw.2.1 _ _ hbf)) (fun i x σ' H6 hi hw => ?_) (fun σ' H6 hw => ?_)
        · obtain ⟨⟨o6, rfl⟩, e6, cs, c, hc1, hc2, hcf, hcr, hco, hcv⟩ := hw
          obtain ⟨sp, hsp, rfl⟩ := ref_at hi
          have hin : i < n := by
            have := (List.getElem?_eq_some_iff.mp hsp).1
            omega
          have hspT : TupN H6 sp (g i).row := e6 _ _ (hbr i sp hsp)
          refine s_when (et_free (s := g i) hcf hcr (by omega) (fun _ => rfl) (ev_var rfl) (fun x H10 => ev_var rfl) (fun j a H10 e10 ha => et_B (Ev.call' (ea_cons (ev_var rfl) (ea_cons (ev_var rfl) ea_nil)) (sv_overlap (e10 _ _ hspT) (e10 _ _ (hcr j a ha))))))
            (fun hb H7 e7 => ?_) (fun hb H7 e7 => ?_)
          · have hfree := freeOf_iff.mp hb
            refine s_app (e7 _ _ hcf) (ev_var rfl) (ev_var rfl) (by rw [List.length_map]; omega) fun H8 e8 => ?_
            have e := e7.trans e8
            refine ⟨⟨_, rfl⟩, Ex.mut (e6.trans e) hfi, cs ++ [sp], fun j => if j = cs.length then g i else c j, fun _ => by rw [List.length_append, List.length_singleton]; omega, by rw [List.length_append, List.length_singleton]; omega, by rw [upd_same, List.map_append]; rfl,
              rows_snoc rfl (e _ _ hcf) (hcr.mono e) (fun j hj => ?_) ?_, fun j hj => ?_, fun a ha b hb' hab => ?_⟩
            · show (if j = cs.length then g i else c j).row = (c j).row
              rw [if_neg (by omega)]
            · show _ = some (HO.tup ((if cs.length = cs.length then g i else c cs.length).row.map V.int))
              rw [if_pos rfl]
              exact e _ _ hspT
            · rw [List.length_append, List.length_singleton] at hj
              show okPl (if j = cs.length then g i else c j)
              by_cases h : j = cs.length
              · rw [if_pos h]
                exact hbo i hin
              · rw [if_neg h]
                exact hco j (by omega)
            · rw [List.length_append, List.length_singleton] at ha hb'
              show ovl (if a = cs.length then g i else c a) (if b = cs.length then g i else c b) = false
              by_cases h1 : a = cs.length
              · rw [if_pos h1, if_neg (by omega)]
                exact hfree b (by omega)
              · rw [if_neg h1]
                by_cases h2 : b = cs.length
                · rw [if_pos h2, ovl_symm]
                  exact hfree a (by omega)
                · rw [if_neg h2]
                  exact hcv a (by omega) b (by omega) hab
          · have hne : 1 ≤ cs.length := by
              by_cases h : 1 ≤ cs.length
              · exact h
              · exfalso
                have : freeOf cs.length (g i) c = true := freeOf_iff.mpr fun j hj => absurd hj (by omega)
                rw [this] at hb
                cases hb
            exact ⟨⟨_, rfl⟩, e6.trans e7, cs, c, fun _ => hne, by omega, e7 _ _ hcf, hcr.mono e7, hco, hcv⟩
        · obtain ⟨⟨o6, rfl⟩, e6, cs, c, hc1, hc2, hcf, hcr, hco, hcv⟩ := hw
          rw [hblen] at hc1 hc2
          refine s_retU (eu_tupOf (em_r (ev_var rfl) hcf)) fun u H7 hu e7 h7 => q u H7 cs.length c ((x4.ex e6).ex e7) (hR4.mono (e6.trans e7)) ⟨cs, rfl, h7, hcr.mono e7⟩ ⟨hc1 n1, by omega, fun j hj => (hco j hj).spot, hcv⟩
end
end CF

namespace CF
open PySem PySem.Spec PyProof.Rows L2 Evl
theorem Perm.list {n : Nat} {l : List Nat} (h : Perm n l) : l.Perm (List.range n) := by
  refine (List.perm_ext_iff_of_nodup h.nd List.nodup_range).mpr fun a => ⟨fun ha => List.mem_range.mpr (h.lt a ha), fun ha => h.mem (List.mem_range.mp ha)⟩
theorem sorted_ord {n : Nat} {l : List Nat} {ns : List Int} (h : Perm n l) (hp : ns.Perm (ordI l)) (hs : ns.Pairwise (· ≤ ·)) : ns = ordI (List.range n) := by
  refine List.Perm.eq_of_pairwise (le := (· ≤ ·)) (fun a b _ _ h1 h2 => Int.le_antisymm h1 h2) hs ?_ (hp.trans (h.list.map _))
  exact List.pairwise_map.mpr (List.pairwise_lt_range.imp fun {a b} hab => by omega)
section
variable {P : Program} {w : World} {K : PySem.W.Frag} {mg : Str → Option Value} {base : Heap}
variable {σ : L2.St} {H H' : Hp} {ta tb te tl tk tv : TE} {t : TT} {x y z v : V} {D : Ends} {tu tz : TS}
theorem eqv_self (d : PyData) (h : SeqAt.shaped d = true) : PyData.eqv d d = true := SeqAt.eqv_refl d (SeqAt.canLay_of_shaped h)
/-- sorted(order) != list(range(n)) -/
theorem et_sortedNe {p : Addr} {n : Nat} {l : List Nat} (h : Ev ta σ H (.ref p)) (hp : TupQ H p (ordI l)) (k : Perm n l) (hn : n ≤ 8) (h2 : Ev tb σ H (.int (n : Int))) :
    EvT (tTest (tOp (rNeD K) (tCB (rSortedTp K) (tCons ta tNil)) (tLstRg (tRg1 tb)))) σ H false := fun H1 e Q q =>
  h H1 e _ fun H2 e2 => ⟨p, ordI l, rfl, .inl (ex_rd e2 (ex_rd e hp)), by rw [List.length_map, k.len]; omega, fun ns s hperm hs hsn => h2 _ ((e.trans e2).trans (Ex.new hsn)) _ fun H3 e3 => ⟨(n : Int), rfl, RgOk.of_le (by decide) (by omega) (by decide) (by omega), fun u hu => by
    have hns := sorted_ord k hperm hs
    have hrg : rgV 0 (n : Int) = (ordI (List.range n)).map V.int := by
      unfold rgV
      rw [show ((n : Int) - 0).toNat = n by omega, List.map_map]
      refine List.map_congr_left fun i _ => ?_
      show V.int (0 + (i : Int)) = V.int (i : Int)
      rw [Int.zero_add]
    subst hns
    refine ⟨.list (dInts (ordI (List.range n))), .list (dInts (ordI (List.range n))), .lst (SqL.of (Ex.new hu _ _ (e3 _ _ upd_same))) (dp_ints _), .lst (SqL.of upd_same) (by rw [hrg]; exact dp_ints _), sh_ints _, sh_ints _, _, rfl, ?_⟩
    rw [eqv_self _ (sh_ints _)]
    exact q _ ((e2.trans (Ex.new hsn)).trans (e3.trans (Ex.new hu)))⟩⟩
theorem et_nilNe (h : EvL ta σ H []) : EvT (tTest (tOp (rNeD K) ta (tLst tNil))) σ H false := fun H1 e Q q =>
  h H1 e _ fun p H2 _ e2 hp => ⟨Nat.zero_le _, fun u hu => ⟨.list [], .list [], .lst (SqL.of (Ex.new hu _ _ hp)) .nil, .lst (SqL.of upd_same) .nil, sh_rowsL [], sh_rowsL [], _, rfl, q _ (e2.trans (Ex.new hu))⟩⟩
def spLaw (K : PySem.W.Frag) : Sp := fun vs H Q _ => ∃ (a : Addr) (ns : List Int), vs = [.ref a] ∧ SqL K H a (ns.map V.int) ∧ ∀ H', Q (.bl true) H'
theorem ok_law {f f1 f2 f3 f4 f5 : Addr} {fd fd1 fd2 fd3 fd4 fd5 : FuncData} (B : Bi mg) (F : Fun K "law" "law" sLaw f fd)
    (A1 : At K mg "_law_taken" sTaken ["_law_row", "_law_many"] f1 fd1) (G1 : FnOk P w K mg base CX0 1 f1 fd1 ["_law_row", "_law_many"] (spTaken K))
    (A2 : At K mg "_law_spots" sLSpots ["_law_row", "_law_many", "_law_most"] f2 fd2) (G2 : FnOk P w K mg base CX0 3 f2 fd2 ["_law_row", "_law_many", "_law_most"] (spLSpots K))
    (A3 : At K mg "orders_of" sOrdersOf ["spots"] f3 fd3) (G3 : FnOk P w K mg base CX0 6 f3 fd3 ["spots"] spOrdersOf)
    (A4 : At K mg "_law_packed" sLPacked ["_law_sizes_here", "_law_first", "_law_second"] f4 fd4) (G4 : FnOk P w K mg base CX0 1 f4 fd4 ["_law_sizes_here", "_law_first", "_law_second"] spLP)
    (A5 : At K mg "packed" sPacked ["sizes", "first", "second"] f5 fd5) (G5 : FnOk P w K mg base CX0 6 f5 fd5 ["sizes", "first", "second"] spPacked) :
    FnOk P w K mg base CX0 7 f fd ["_law_script"] (spLaw K) := by
  refine F.ok scLaw (fun vs H Q E h => ?_) (fun cdv A outer s H vs Q E hr h => ?_)
  · obtain ⟨a, ns, rfl, _⟩ := h
    rfl
  · obtain ⟨a, ns, rfl, hS, q⟩ := h
    have r1 := hr.mono (show 1 ≤ 6 by decide)
    have r3 := hr.mono (show 3 ≤ 6 by decide)
    refine ⟨_, pss_cons (ps_set (i := 1) scLaw.nd rfl (.inl rfl) (pe_lst (pa_cons (pv 0) (pa_cons pe_int (pa_cons pe_int (pa_cons pe_int pa_nil))))))
      (pss_cons (ps_for PassesOwn.never rfl (pi_range1 (by rfl) B.range (pa_cons pe_int pa_nil)) (pg_name (i := 2) scLaw.nd rfl (.inl rfl))
        (pss_cons (ps_set (i := 3) scLaw.nd rfl (.inr rfl) (pe_call G2 r3 (by rfl) A2.g A2.F.kp A2.b .nil pass0 (pa_cons (pv 1) (pa_cons (pe_op op_add pe_int (pe_call G1 r1 (by rfl) A1.g A1.F.kp A1.b .nil pass0 (pa_cons (pv 1) (pa_cons pe_int pa_nil)))) (pa_cons pe_int pa_nil)))))
        (pss_cons (ps_asg (pe_call G3 hr (by rfl) A3.g A3.F.kp A3.b .nil pass0 (pa_cons (pv 3) pa_nil)) (pg_tup (n := 2) rfl (pgs_cons (pg_name (i := 4) scLaw.nd rfl (.inl rfl)) (pgs_cons (pg_name (i := 5) scLaw.nd rfl (.inl rfl)) pgs_nil))))
        (pss_cons (ps_set (i := 6) scLaw.nd rfl (.inl rfl) (pe_callTy call_tupOf (by rfl) B.tuple (by decide +kernel) (pa_cons
          (pe_lc (own := [("_law_spot", 8)]) (g := gName 8) (by rfl) scLaw.nd (pi_tup (pv 3)) (blkOk_by (N := nLaw) (sc := defScope sLaw) (by decide +kernel)) (fun _ _ _ _ _ => pg_name (i := 8) scLaw.nd rfl (.inl rfl)) (fun _ _ _ _ _ => pts_nil)
            (fun _ _ _ _ _ => pe_slice (sl_tupK K) (pv 8) (po_some pe_int) po_none)) pa_nil)))
        (pss_cons (ps_if (PW.pt (pw_or (pt_cmpR (op_neD hr.units) (pe_callB cr_sortedTp (by rfl) B.sorted (by decide +kernel) (pa_cons (pv 4) pa_nil)) (pe_listRg rfl (by rfl) B.list (prg_1 (by rfl) B.range (pe_callB call_len_seq (by rfl) B.len PySem.boot_len (pa_cons (pv 3) pa_nil)))) (nomark _))
            (pw_or1 (pt_cmpR (op_neD hr.units) (pe_callB cr_sortedTp (by rfl) B.sorted (by decide +kernel) (pa_cons (pv 5) pa_nil)) (pe_listRg rfl (by rfl) B.list (prg_1 (by rfl) B.range (pe_callB call_len_seq (by rfl) B.len PySem.boot_len (pa_cons (pv 3) pa_nil)))) (nomark _))))) (pss_one (ps_ret pe_bl)) pss_nil)
        (pss_cons (ps_set (i := 7) scLaw.nd rfl (.inr rfl) (pe_call G4 r1 (by rfl) A4.g A4.F.kp A4.b .nil pass0 (pa_cons (pv 6) (pa_cons (pv 4) (pa_cons (pv 5) pa_nil)))))
        (pss_cons (ps_if (pt_cmpR (op_neD hr.units) (pe_call G5 hr (by rfl) A5.g A5.F.kp A5.b .nil pass0 (pa_cons (pv 6) (pa_cons (pv 4) (pa_cons (pv 5) pa_nil)))) (pv 7) (nomark _)) (pss_one (ps_ret pe_bl)) pss_nil)
        (pss_one (ps_if (pt_cmpR (op_neD hr.units) (pe_lc (own := [("_law_at", 9)]) (g := gName 9) (by rfl) scLaw.nd (pi_range1 (by rfl) B.range (pa_cons (pe_callB call_len_seq (by rfl) B.len PySem.boot_len (pa_cons (pv 3) pa_nil)) pa_nil)) (blkOk_by (N := nLaw) (sc := defScope sLaw) (by decide +kernel)) (fun _ _ _ _ _ => pg_name (i := 9) scLaw.nd rfl (.inl rfl))
            (fun _ _ _ _ _ => pts_one (PW.pt (pw_or (pt_cmpR op_gt (pe_ix (ix_tupK K) (pe_ix (ix_tupK K) (pv 7) (pv 9) (fun _ _ => rfl)) pe_int (fun _ _ => rfl)) (pe_ix (ix_tupK K) (pe_ix (ix_tupK K) (pv 3) (pv 9) (fun _ _ => rfl)) pe_int (fun _ _ => rfl)) (nomark _))
              (pw_or1 (pt_cmpR op_gt (pe_ix (ix_tupK K) (pe_ix (ix_tupK K) (pv 7) (pv 9) (fun _ _ => rfl)) pe_int (fun _ _ => rfl)) (pe_ix (ix_tupK K) (pe_ix (ix_tupK K) (pv 3) (pv 9) (fun _ _ => rfl)) pe_int (fun _ _ => rfl)) (nomark _))))))
            (fun _ _ _ _ _ => pv 9)) (pe_lst pa_nil) (nomark _)) (pss_one (ps_ret pe_bl)) pss_nil)))))))))
      (pss_one (ps_ret pe_bl))), ?_⟩
    -- row
    refine q_asgL (el_lst (vs := [.ref a, .int 0, .int 3810, .int 0]) (ea_cons (ev_var rfl) (ea_cons ev_c (ea_cons ev_c (ea_cons ev_c ea_nil)))) (by show 4 ≤ 100000; decide)) fun r H1 _ e1 hL => ?_
    have hR1 : RowOk K H1 r a ns := ⟨0, 3810, 0, ⟨hL, ex_l e1 hS⟩, by decide, by decide, by decide, by decide⟩
    refine q_forR1 (n := 2) (ea_cons ev_c ea_nil) (by decide) (fun i σ' H' => (∃ o2 o3 o4 o5 o6 o7, σ' = [some (.ref a), some (.ref r), o2, o3, o4, o5, o6, o7, none, none]) ∧ RowOk K H' r a ns) (fun H2 e2 => ⟨⟨_, _, _, _, _, _, rfl⟩, hR1.mono e2⟩) (fun tt σ' H2 _ hw => ?_) (fun σ' H2 hw => ?_)
    · obtain ⟨⟨o2, o3, o4, o5, o6, o7, rfl⟩, hR2⟩ := hw
      -- spots
      refine ⟨.ref r, rfl, .ref r, rfl, r, a, ns, 6, rfl, hR2, by decide, by decide, fun k H3 k0 k1 e3 hR3 => ⟨1, k, rfl, rfl, ?_⟩⟩
      obtain ⟨m, rfl⟩ : ∃ m : Nat, k = (m : Int) := ⟨k.toNat, by omega⟩
      refine ⟨r, a, ns, 1 + m, by rw [Int.natCast_add]; rfl, hR3, by omega, by omega, fun sp H4 n g _ hR4 hSp hok => ?_⟩
      obtain ⟨n1, n8, hsp, hov⟩ := id hok
      -- orders
      refine ⟨.ref sp, rfl, sp, n, g, rfl, hSp, hok, fun tu r1' r2' H5 l1 l2 e5 htu t1 t2 s1 s2 k1' k2' => ⟨tu, [.ref r1', .ref r2'], rfl, st_of htu, rfl, .ref r1', [.ref r2'], rfl, .ref r2', [], rfl, rfl, ?_⟩⟩
      have p1 := s1.perm k1'
      have p2 := s2.perm k2'
      obtain ⟨as, hl, hp, hrow⟩ := hSp.mono e5
      have hlen : (as.map V.ref).length = n := by rw [List.length_map, hl]
      -- sizes
      refine er_tup (er_S (n := n) (r := szRow (fun i => (g i).w) (fun i => (g i).h)) (es_r (ev_var rfl) hp) hlen (by omega) (fun _ => rfl) fun i x H6 e6 hi => ?_) H5 (Ex.refl H5) _ fun zs H6 _ e6 hZ => ?_
      · obtain ⟨b, hb, rfl⟩ := ref_at hi
        exact eg_u (eu_sl (xs := [.int (g i).x, .int (g i).y, .int (g i).w, .int (g i).h]) (es_r (ev_var rfl) (e6 _ _ (hrow i b hb))) (eo_some ev_c) eo_none (by show ¬ (HT.sIx 4 0 (some 2) = 0 ∧ HT.sIx 4 4 none = 4); decide))
      dsimp only [gName]
      have hln : ∀ {H' : Hp} {σ1 : L2.St}, Ex H5 H' → σ1[3]? = some (some (.ref sp)) → Ev (tCB (rLenS K) (tCons (tVar 3) tNil)) σ1 H' (.int (n : Int)) := fun e h0 => ev_is (ev_lenS (es_r (ev_var h0) (e _ _ hp))) (by rw [hlen])
      refine q_when (et_or (a := false) (b := false) (et_sortedNe (ev_var rfl) (t1.mono e6).q p1 n8 (hln e6 rfl)) fun _ => et_sortedNe (ev_var rfl) (t2.mono e6).q p2 n8 (hln e6 rfl)) (fun hb => by cases hb) fun _ H7 e7 => ?_
      have e57 := e6.trans e7
      have hZ7 := hZ.mono e7
      -- found
      refine ⟨.ref zs, rfl, .ref r1', rfl, .ref r2', rfl, zs, r1', r2', n, fun i => (g i).w, fun i => (g i).h, l1, l2, rfl, hZ7, n8, t1.mono e57, t2.mono e57, p1, p2, fun fo H8 X Y _ e8 hP hF => ?_⟩
      have e58 := e57.trans e8
      -- packed
      refine ⟨.ref zs, rfl, .ref r1', rfl, .ref r2', rfl, zs, r1', r2', n, fun i => (g i).w, fun i => (g i).h, l1, l2, rfl, hZ7.mono e8, ⟨n1, n8, fun i hi => (hsp i hi).2.2⟩, (t1.mono e58).q, (t2.mono e58).q, p1, p2, fun pk H9 X' Y' _ e9 hP' hF' =>
        ⟨.ref fo, rfl, _, _, dp_rws hF', dp_rws (hF.mono e9), sh_rowsT _, sh_rowsT _, _, rfl, ?_⟩⟩
      have hsame : (List.range n).map (fun i => [X' i, Y' i, (g i).w, (g i).h]) = (List.range n).map (fun i => [X i, Y i, (g i).w, (g i).h]) := by
        refine List.map_congr_left fun i hi => ?_
        obtain ⟨h1, h2⟩ := hP'.uniq hP i (List.mem_range.mp hi)
        rw [h1, h2]
      rw [hsame, eqv_self _ (sh_rowsT _)]
      refine iteF ?_
      have e59 := e58.trans e9
      obtain ⟨fs, hfl, hfp, hfr⟩ := hF.mono e9
      have law := Pack.law s1 s2 k1' k2' (fun i hi => by
        have := hsp i hi
        unfold okSpot okSize at this
        omega) hov hP
      refine s_when (et_nilNe (el_is (el_lcR1 (n := (n : Int)) (fun i => decide ((g i).x < X i) || decide ((g i).y < Y i)) (fun i => .int (i : Int)) (ea_cons (hln e59 rfl) ea_nil) (by omega) (fun _ => rfl) (fun i H10 e10 hi => ?_) (fun i H10 e10 _ _ => ev_var rfl)) ?_)) (fun hb => by cases hb) fun _ H10 e10 => ⟨⟨_, _, _, _, _, _, rfl⟩, hR4.mono (e5.trans (e59.trans e10))⟩
      · have hin : i < n := by omega
        have a1 : atI (fs.map V.ref) (i : Int) = some (.ref (fs.getD i 0)) := atI_nat (by rw [List.getElem?_map, getD_of (by omega)]; rfl)
        have a2 : atI (as.map V.ref) (i : Int) = some (.ref (as.getD i 0)) := atI_nat (by rw [List.getElem?_map, getD_of (by omega)]; rfl)
        have c1 := e10 _ _ (hfr i _ (getD_of (by omega)))
        have c2 := e10 _ _ (e59 _ _ (hrow i _ (getD_of (by omega))))
        exact et_or (et_test (ev_op (ev_row (i := 0) (ev_ixS (es_r (ev_var rfl) (e10 _ _ hfp)) (ev_var rfl) a1) c1 rfl) (ev_row (i := 0) (ev_ixS (es_r (ev_var rfl) (e10 _ _ (e59 _ _ hp))) (ev_var rfl) a2) c2 rfl) rv_I0))
          fun _ => et_test (ev_op (ev_row (i := 1) (ev_ixS (es_r (ev_var rfl) (e10 _ _ hfp)) (ev_var rfl) a1) c1 rfl) (ev_row (i := 1) (ev_ixS (es_r (ev_var rfl) (e10 _ _ (e59 _ _ hp))) (ev_var rfl) a2) c2 rfl) rv_I0)
      · rw [given_range, List.filter_eq_nil_iff.mpr fun i hi => ?_]
        · rfl
        · rw [Int.toNat_natCast] at hi
          obtain ⟨h1, h2⟩ := law i (List.mem_range.mp hi)
          rw [decide_eq_false (show ¬ (g i).x < X i by omega), decide_eq_false (show ¬ (g i).y < Y i by omega)]
          decide
    · exact s_ret ev_c fun H3 _ => q H3
end
end CF

namespace CF
open PySem PySem.Spec PyProof.Rows L2 Evl
/-- a def of the text stands behind the top under its name -/
def Stands (K : PySem.W.Frag) (x : Str) (st : Stmt) (f : Addr) : Prop := ∃ (oc : Value) (od an : Option Addr) (sl : Array (Option Value)) (kV dc pm cd ct : Value), PySem.W.nsIn K mainGlobals x = some (some (.ref f)) ∧
  K.lookup f = some ⟨oc, od, .func (PySem.W.fnOf x x (defArgs st) (defBody st) (defScope st) .none kV dc pm an cd ct), sl⟩ ∧ PySem.W.codeIn K cd x = true ∧ PySem.W.keepIn K (.ref f) = true
theorem stands_mk {K : PySem.W.Frag} {x : Str} {st : Stmt} {f : Addr} {oc : Value} {od an : Option Addr} {sl : Array (Option Value)} {kV dc pm cd ct : Value} (a : PySem.W.nsIn K mainGlobals x = some (some (.ref f)))
    (l : K.lookup f = some ⟨oc, od, .func (PySem.W.fnOf x x (defArgs st) (defBody st) (defScope st) .none kV dc pm an cd ct), sl⟩) (c : PySem.W.codeIn K cd x = true) (k : PySem.W.keepIn K (.ref f) = true) : Stands K x st f := ⟨oc, od, an, sl, kV, dc, pm, cd, ct, a, l, c, k⟩
theorem at_mk {K : PySem.W.Frag} {h : Heap} {mg : Str → Option Value} {x : Str} {st : Stmt} {ps : List Str} {f : Addr} (X : K.In h) (G : h.Ns mainGlobals mg) (s : Stands K x st f)
    (b : ∀ (kV doc pm : Value) (an : Option Addr) (cdv ct : Value) (us : List Value), us.length = ps.length → bindArgs (PySem.W.fnOf x x (defArgs st) (defBody st) (defScope st) .none kV doc pm an cdv ct) ⟨us, []⟩ = pure (ps.zip us)) :
    ∃ fd, At K mg x st ps f fd := by
  obtain ⟨oc, od, an, sl, kV, dc, pm, cd, ct, a, l, c, k⟩ := s
  have F := fun_mk (st := st) l c k
  exact ⟨_, F, PySem.W.mg_of X G a, F.binds b⟩

theorem all_mk {l : PySem.W.OpenLaw} {w : World} {K : PySem.W.Frag} {h : Heap} {mg : Str → Option Value} {fa : Addr} (X : K.In h) (G : h.Ns mainGlobals mg) (hfa : mg "law" = some (.ref fa))
    {f1 f2 f3 f4 f5 f6 f7 f8 f9 f10 f11 f12 f13 f14 f15 f16 f17 f18 f19 f20 f21 f22 f23 : Addr} {c1 c2 c3 : Tok}
    (d1 : Stands K "is_integer" sIsInt f1)
    (d2 : Stands K "is_in" sIsIn f2)
    (d3 : Stands K "is_list" sIsList f3)
    (d4 : Stands K "is_size" sIsSize f4)
    (d5 : Stands K "need_sizes" sNeedSizes f5)
    (d6 : Stands K "is_spot" sIsSpot f6)
    (d7 : Stands K "do_overlap" sOverlap f7)
    (d8 : Stands K "need_packing" sNeedPacking f8)
    (d9 : Stands K "is_order" sIsOrder f9)
    (d10 : Stands K "need_orders" sNeedOrders f10)
    (d11 : Stands K "packed_in" sPackedIn f11)
    (d12 : Stands K "packed" sPacked f12)
    (d13 : Stands K "relation" sRelation f13)
    (d14 : Stands K "is_ahead" sIsAhead f14)
    (d15 : Stands K "sorted_by" sSortedBy f15)
    (d16 : Stands K "orders_of" sOrdersOf f16)
    (d17 : Stands K "_law_taken" sTaken f17)
    (d18 : Stands K "_law_sizes" sLSizes f18)
    (d19 : Stands K "_law_order" sLOrder f19)
    (d20 : Stands K "_law_overlap" sLOverlap f20)
    (d21 : Stands K "_law_packed" sLPacked f21)
    (d22 : Stands K "_law_spots" sLSpots f22)
    (d23 : Stands K "law" sLaw f23)
    (m1 : PySem.W.nsIn K mainGlobals "MOST_BLOCKS" = some (some (.int 8 c1)))
    (m2 : PySem.W.nsIn K mainGlobals "MOST_SIDE" = some (some (.int 100 c2)))
    (m3 : PySem.W.nsIn K mainGlobals "MOST_PLACE" = some (some (.int 1000 c3)))
    (z1 : PySem.W.nsIn K mainGlobals "isinstance" = some none)
    (z2 : PySem.W.nsIn K mainGlobals "int" = some none)
    (z3 : PySem.W.nsIn K mainGlobals "bool" = some none)
    (z4 : PySem.W.nsIn K mainGlobals "tuple" = some none)
    (z5 : PySem.W.nsIn K mainGlobals "len" = some none)
    (z6 : PySem.W.nsIn K mainGlobals "all" = some none)
    (z7 : PySem.W.nsIn K mainGlobals "any" = some none)
    (z8 : PySem.W.nsIn K mainGlobals "enumerate" = some none)
    (z9 : PySem.W.nsIn K mainGlobals "set" = some none)
    (z10 : PySem.W.nsIn K mainGlobals "max" = some none)
    (z11 : PySem.W.nsIn K mainGlobals "range" = some none)
    (z12 : PySem.W.nsIn K mainGlobals "sum" = some none)
    (z13 : PySem.W.nsIn K mainGlobals "sorted" = some none)
    (z14 : PySem.W.nsIn K mainGlobals "list" = some none)
    : ∃ fd : FuncData, (∀ (s : Shared) (v : Value), BindsTo s fd ⟨[v], []⟩ [("_law_script", v)]) ∧ ∀ base : Heap, K.In base → base.Ns mainGlobals mg → FnOk l.prog w K mg base CX0 7 fa fd ["_law_script"] (spLaw K) := by
  have B : Bi mg := ⟨PySem.W.mg_none_of X G z1, PySem.W.mg_none_of X G z2, PySem.W.mg_none_of X G z3, PySem.W.mg_none_of X G z4, PySem.W.mg_none_of X G z5, PySem.W.mg_none_of X G z6, PySem.W.mg_none_of X G z7, PySem.W.mg_none_of X G z8, PySem.W.mg_none_of X G z9, PySem.W.mg_none_of X G z10, PySem.W.mg_none_of X G z11, PySem.W.mg_none_of X G z12, PySem.W.mg_none_of X G z13, PySem.W.mg_none_of X G z14⟩
  obtain ⟨fd1, A1⟩ := at_mk (ps := ["value"]) X G d1 fun _ _ _ _ _ _ us hl => match us, hl with | [_], _ => rfl
  obtain ⟨fd2, A2⟩ := at_mk (ps := ["value", "least", "most"]) X G d2 fun _ _ _ _ _ _ us hl => match us, hl with | [_, _, _], _ => rfl
  obtain ⟨fd3, A3⟩ := at_mk (ps := ["value", "least", "most"]) X G d3 fun _ _ _ _ _ _ us hl => match us, hl with | [_, _, _], _ => rfl
  obtain ⟨fd4, A4⟩ := at_mk (ps := ["value"]) X G d4 fun _ _ _ _ _ _ us hl => match us, hl with | [_], _ => rfl
  obtain ⟨fd5, A5⟩ := at_mk (ps := ["sizes"]) X G d5 fun _ _ _ _ _ _ us hl => match us, hl with | [_], _ => rfl
  obtain ⟨fd6, A6⟩ := at_mk (ps := ["value"]) X G d6 fun _ _ _ _ _ _ us hl => match us, hl with | [_], _ => rfl
  obtain ⟨fd7, A7⟩ := at_mk (ps := ["one", "other"]) X G d7 fun _ _ _ _ _ _ us hl => match us, hl with | [_, _], _ => rfl
  obtain ⟨fd8, A8⟩ := at_mk (ps := ["spots"]) X G d8 fun _ _ _ _ _ _ us hl => match us, hl with | [_], _ => rfl
  obtain ⟨fd9, A9⟩ := at_mk (ps := ["value", "many"]) X G d9 fun _ _ _ _ _ _ us hl => match us, hl with | [_, _], _ => rfl
  obtain ⟨fd10, A10⟩ := at_mk (ps := ["sizes", "first", "second"]) X G d10 fun _ _ _ _ _ _ us hl => match us, hl with | [_, _, _], _ => rfl
  obtain ⟨fd11, A11⟩ := at_mk (ps := ["sizes", "first", "second"]) X G d11 fun _ _ _ _ _ _ us hl => match us, hl with | [_, _, _], _ => rfl
  obtain ⟨fd12, A12⟩ := at_mk (ps := ["sizes", "first", "second"]) X G d12 fun _ _ _ _ _ _ us hl => match us, hl with | [_, _, _], _ => rfl
  obtain ⟨fd13, A13⟩ := at_mk (ps := ["one", "other"]) X G d13 fun _ _ _ _ _ _ us hl => match us, hl with | [_, _], _ => rfl
  obtain ⟨fd14, A14⟩ := at_mk (ps := ["one", "other", "number"]) X G d14 fun _ _ _ _ _ _ us hl => match us, hl with | [_, _, _], _ => rfl
  obtain ⟨fd15, A15⟩ := at_mk (ps := ["spots", "number"]) X G d15 fun _ _ _ _ _ _ us hl => match us, hl with | [_, _], _ => rfl
  obtain ⟨fd16, A16⟩ := at_mk (ps := ["spots"]) X G d16 fun _ _ _ _ _ _ us hl => match us, hl with | [_], _ => rfl
  obtain ⟨fd17, A17⟩ := at_mk (ps := ["_law_row", "_law_many"]) X G d17 fun _ _ _ _ _ _ us hl => match us, hl with | [_, _], _ => rfl
  obtain ⟨fd18, A18⟩ := at_mk (ps := ["_law_row", "_law_many", "_law_most"]) X G d18 fun _ _ _ _ _ _ us hl => match us, hl with | [_, _, _], _ => rfl
  obtain ⟨fd19, A19⟩ := at_mk (ps := ["_law_row", "_law_many"]) X G d19 fun _ _ _ _ _ _ us hl => match us, hl with | [_, _], _ => rfl
  obtain ⟨fd20, A20⟩ := at_mk (ps := ["_law_one", "_law_other"]) X G d20 fun _ _ _ _ _ _ us hl => match us, hl with | [_, _], _ => rfl
  obtain ⟨fd21, A21⟩ := at_mk (ps := ["_law_sizes_here", "_law_first", "_law_second"]) X G d21 fun _ _ _ _ _ _ us hl => match us, hl with | [_, _, _], _ => rfl
  obtain ⟨fd22, A22⟩ := at_mk (ps := ["_law_row", "_law_many", "_law_most"]) X G d22 fun _ _ _ _ _ _ us hl => match us, hl with | [_, _, _], _ => rfl
  obtain ⟨oc, od, an, sl, kV, dc, pm, cd, ct, a, lk, c, k⟩ := d23
  have e := hfa.symm.trans (PySem.W.mg_of X G a)
  cases e
  have F := fun_mk (st := sLaw) lk c k
  refine ⟨PySem.W.fnOf "law" "law" (defArgs sLaw) (defBody sLaw) (defScope sLaw) .none kV dc pm an cd ct, fun s v => .of_eq rfl, fun base _ _ => ?_⟩
  have M1 := PySem.W.mg_of X G m1
  have M2 := PySem.W.mg_of X G m2
  have M3 := PySem.W.mg_of X G m3
  have G2 : FnOk l.prog w K mg base CX0 2 f2 fd2 ["value", "least", "most"] spIsIn := ok_isIn B A2.F A1
  have G3 : FnOk l.prog w K mg base CX0 1 f3 fd3 ["value", "least", "most"] spIsList := ok_isList B A3.F
  have G4 : FnOk l.prog w K mg base CX0 3 f4 fd4 ["value"] spIsSize := ok_isSize B M2 A4.F A3 G3 A2 G2
  have G5 : FnOk l.prog w K mg base CX0 4 f5 fd5 ["sizes"] spNeedSizes := ok_needSizes B M1 A5.F A3 G3 A4 G4
  have G6 : FnOk l.prog w K mg base CX0 4 f6 fd6 ["value"] spIsSpot := ok_isSpot B M3 A6.F A3 G3 A2 G2 A4 G4
  have G7 : FnOk l.prog w K mg base CX0 1 f7 fd7 ["one", "other"] spOverlap := ok_overlap A7.F
  have G8 : FnOk l.prog w K mg base CX0 5 f8 fd8 ["spots"] spNeedPacking := ok_needPacking B M1 A8.F A3 G3 A6 G6 A7 G7
  have G9 : FnOk l.prog w K mg base CX0 3 f9 fd9 ["value", "many"] spIsOrder := ok_isOrder B A9.F A3 G3 A2 G2
  have G10 : FnOk l.prog w K mg base CX0 5 f10 fd10 ["sizes", "first", "second"] spNeedOrders := ok_needOrders B A10.F A5 G5 A9 G9
  have G11 : FnOk l.prog w K mg base CX0 1 f11 fd11 ["sizes", "first", "second"] spPackedIn := ok_packedIn B A11.F
  have G12 : FnOk l.prog w K mg base CX0 6 f12 fd12 ["sizes", "first", "second"] spPacked := ok_packed A12.F A10 G10 A11 G11
  have G13 : FnOk l.prog w K mg base CX0 1 f13 fd13 ["one", "other"] spRelation := ok_relation A13.F
  have G14 : FnOk l.prog w K mg base CX0 2 f14 fd14 ["one", "other", "number"] spIsAhead := ok_isAhead A14.F A13 G13
  have G15 : FnOk l.prog w K mg base CX0 3 f15 fd15 ["spots", "number"] spSortedBy := ok_sortedBy B A15.F A14 G14
  have G16 : FnOk l.prog w K mg base CX0 6 f16 fd16 ["spots"] spOrdersOf := ok_ordersOf A16.F A8 G8 A15 G15
  have G17 : FnOk l.prog w K mg base CX0 1 f17 fd17 ["_law_row", "_law_many"] (spTaken K) := ok_taken B A17.F
  have G18 : FnOk l.prog w K mg base CX0 2 f18 fd18 ["_law_row", "_law_many", "_law_most"] (spLSizes K) := ok_lSizes B A18.F A17 G17
  have G19 : FnOk l.prog w K mg base CX0 2 f19 fd19 ["_law_row", "_law_many"] (spLOrder K) := ok_lOrder B A19.F A17 G17
  have G20 : FnOk l.prog w K mg base CX0 1 f20 fd20 ["_law_one", "_law_other"] spOverlap := ok_lOverlap A20.F
  have G21 : FnOk l.prog w K mg base CX0 1 f21 fd21 ["_law_sizes_here", "_law_first", "_law_second"] spLP := ok_lPacked B A21.F
  have G22 : FnOk l.prog w K mg base CX0 3 f22 fd22 ["_law_row", "_law_many", "_law_most"] (spLSpots K) := ok_lSpots B A22.F A17 G17 A18 G18 A19 G19 A21 G21 A20 G20
  exact ok_law B F A17 G17 A22 G22 A16 G16 A21 G21 A12 G12
end CF
open PySem PySem.W PyProof.Rows
set_option maxRecDepth 100000 in
set_option maxHeartbeats 0 in
theorem PySem.Challenge.cw_chipfloor_k10_whole_orders_of_packings_holds : PySem.Challenge.rw_chipfloor_k10_whole_orders_of_packings.Holds := by
  w_on; o_law; k_head; (case hw => w_witness2)
  k_fill
  refine L2.walk_ofK (l := PySem.Challenge.rw_chipfloor_k10_whole_orders_of_packings) (n := 63) (k := 7) (x := "_law_script") (CX := L2.CX0) (sp := CF.spLaw) rfl (by decide) rfl ⟨rfl, by decide, by decide⟩ (fun w h Y => PySem.W.kIn_of Y) ?F (fun _ _ a ns _ _ hS => ⟨a, ns, rfl, hS, fun _ => rfl⟩) (fun _ _ _ _ h => h)
  case F =>
    intro w mg fa h KX G hmg
    refine' CF.all_mk KX G hmg (CF.stands_mk ?a1 ?l1 ?o1 ?k1) (CF.stands_mk ?a2 ?l2 ?o2 ?k2) (CF.stands_mk ?a3 ?l3 ?o3 ?k3) (CF.stands_mk ?a4 ?l4 ?o4 ?k4) (CF.stands_mk ?a5 ?l5 ?o5 ?k5) (CF.stands_mk ?a6 ?l6 ?o6 ?k6) (CF.stands_mk ?a7 ?l7 ?o7 ?k7) (CF.stands_mk ?a8 ?l8 ?o8 ?k8) (CF.stands_mk ?a9 ?l9 ?o9 ?k9) (CF.stands_mk ?a10 ?l10 ?o10 ?k10) (CF.stands_mk ?a11 ?l11 ?o11 ?k11) (CF.stands_mk ?a12 ?l12 ?o12 ?k12) (CF.stands_mk ?a13 ?l13 ?o13 ?k13) (CF.stands_mk ?a14 ?l14 ?o14 ?k14) (CF.stands_mk ?a15 ?l15 ?o15 ?k15) (CF.stands_mk ?a16 ?l16 ?o16 ?k16) (CF.stands_mk ?a17 ?l17 ?o17 ?k17) (CF.stands_mk ?a18 ?l18 ?o18 ?k18) (CF.stands_mk ?a19 ?l19 ?o19 ?k19) (CF.stands_mk ?a20 ?l20 ?o20 ?k20) (CF.stands_mk ?a21 ?l21 ?o21 ?k21) (CF.stands_mk ?a22 ?l22 ?o22 ?k22) (CF.stands_mk ?a23 ?l23 ?o23 ?k23) ?m1 ?m2 ?m3 ?z1 ?z2 ?z3 ?z4 ?z5 ?z6 ?z7 ?z8 ?z9 ?z10 ?z11 ?z12 ?z13 ?z14
    (case a1 => k_is); (case l1 => k_is); (case o1 => k_is); (case k1 => k_is); (case a2 => k_is); (case l2 => k_is); (case o2 => k_is); (case k2 => k_is)
    (case a3 => k_is); (case l3 => k_is); (case o3 => k_is); (case k3 => k_is); (case a4 => k_is); (case l4 => k_is); (case o4 => k_is); (case k4 => k_is)
    (case a5 => k_is); (case l5 => k_is); (case o5 => k_is); (case k5 => k_is); (case a6 => k_is); (case l6 => k_is); (case o6 => k_is); (case k6 => k_is)
    (case a7 => k_is); (case l7 => k_is); (case o7 => k_is); (case k7 => k_is); (case a8 => k_is); (case l8 => k_is); (case o8 => k_is); (case k8 => k_is)
    (case a9 => k_is); (case l9 => k_is); (case o9 => k_is); (case k9 => k_is); (case a10 => k_is); (case l10 => k_is); (case o10 => k_is); (case k10 => k_is)
    (case a11 => k_is); (case l11 => k_is); (case o11 => k_is); (case k11 => k_is); (case a12 => k_is); (case l12 => k_is); (case o12 => k_is); (case k12 => k_is)
    (case a13 => k_is); (case l13 => k_is); (case o13 => k_is); (case k13 => k_is); (case a14 => k_is); (case l14 => k_is); (case o14 => k_is); (case k14 => k_is)
    (case a15 => k_is); (case l15 => k_is); (case o15 => k_is); (case k15 => k_is); (case a16 => k_is); (case l16 => k_is); (case o16 => k_is); (case k16 => k_is)
    (case a17 => k_is); (case l17 => k_is); (case o17 => k_is); (case k17 => k_is); (case a18 => k_is); (case l18 => k_is); (case o18 => k_is); (case k18 => k_is)
    (case a19 => k_is); (case l19 => k_is); (case o19 => k_is); (case k19 => k_is); (case a20 => k_is); (case l20 => k_is); (case o20 => k_is); (case k20 => k_is)
    (case a21 => k_is); (case l21 => k_is); (case o21 => k_is); (case k21 => k_is); (case a22 => k_is); (case l22 => k_is); (case o22 => k_is); (case k22 => k_is)
    (case a23 => k_is); (case l23 => k_is); (case o23 => k_is); (case k23 => k_is); (case m1 => k_is); (case m2 => k_is); (case m3 => k_is); (case z1 => k_is)
    (case z2 => k_is); (case z3 => k_is); (case z4 => k_is); (case z5 => k_is); (case z6 => k_is); (case z7 => k_is); (case z8 => k_is); (case z9 => k_is)
    (case z10 => k_is); (case z11 => k_is); (case z12 => k_is); (case z13 => k_is); (case z14 => k_is)
