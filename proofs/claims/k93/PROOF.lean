import PyProof.Rows.All
import Wide.All
import OpenK.AllK
import Wide.FinOn
import HandS.ForMost
import HandS.EndBits
import HandS.Star
import HandS.Wide
import HandS.Flow
import HandS.IsInst
import HandS.NoneIn
import HandS.TupAny
import HandS.RevRange
import HandS.SortRule
import HandS.SortInts
import HandS.Conv
import HandS.More
import KE.KDictList
import PyProof.MaxThree
import HandS.Walk
import PySem.Challenge.RW_alwaystree_k93_shared_when_nodes_are_lef
set_option Elab.async false
set_option linter.all false
set_option maxRecDepth 100000
set_option maxHeartbeats 4000000
/-! Own rules over the hand layer: max of three ints, list(d.values()), sorted of a tuple of pairs. -/
namespace Ow
open PySem PySem.Spec PyProof.Rows L2

theorem vals3 {x y z : V} {us : List Value} (r : Vals [x, y, z] us) : ∃ u v w, us = [u, v, w] ∧ RelV x u ∧ RelV y v ∧ RelV z w := by
  cases r with
  | cons r1 r => obtain ⟨u, v, rfl, r2, r3⟩ := vals2 r; exact ⟨_, _, _, rfl, r1, r2, r3⟩
def rMax3 : List V → Hp → VK → Prop := fun xs H Q => ∃ i j k : Int, xs = [.int i, .int j, .int k] ∧ Q (.int (max (max i j) k)) H
theorem call_max3 {X : Cx} (hc : X.calm = true) : CallR X (.builtin "max") rMax3 := by
  intro pins s σ H xs us Q I r h
  obtain ⟨i, j, k, rfl, q⟩ := h
  obtain ⟨u, v, w, rfl, ⟨t1, rfl⟩, ⟨t2, rfl⟩, ⟨t3, rfl⟩⟩ := vals3 r
  refine max_three_ints (I.ok.hd hc) fun h' tk kp => ⟨_, H, I.kept kp, ?_, q⟩
  by_cases h1 : j > i
  · rw [if_pos h1]
    by_cases h2 : k > j
    · rw [if_pos h2]; exact ⟨_, by rw [show max (max i j) k = k by omega]⟩
    · rw [if_neg h2]; exact ⟨_, by rw [show max (max i j) k = j by omega]⟩
  · rw [if_neg h1]
    by_cases h2 : k > i
    · rw [if_pos h2]; exact ⟨_, by rw [show max (max i j) k = k by omega]⟩
    · rw [if_neg h2]; exact ⟨_, by rw [show max (max i j) k = i by omega]⟩

/-! ### list(d.values()) -/
theorem pget {α β : Type} {F : α → β → Prop} : ∀ {xs : List α} {ys : List β}, Paired F xs ys → ∀ {i : Nat} {x : α}, xs[i]? = some x → ∃ y, ys[i]? = some y ∧ F x y
  | _, _, .nil, _, _, h => by cases h
  | _, _, .cons r _, 0, _, h => by cases h; exact ⟨_, rfl, r⟩
  | _, _, .cons _ t, _ + 1, _, h => pget t h
def tListVals (te : TE) : TE := fun σ H Q => te σ H fun x H1 => ∃ (d : Addr) (kvs : List (Key × V)), x = .ref d ∧ H1 d = some (.dK kvs) ∧ ∀ q, H1 q = none → Q (.ref q) (upd H1 q (.lst (kvs.map (·.2))))
section
variable {X : Cx} {e : Expr} {te : TE} {p apos cpos pos : Pos}
theorem pe_listValues (hc : X.calm = true) (he : PE X e te) (hg : Gl X "list") (hm : X.mg "list" = none)
    (hb : attributeBase e "values" X.env (eval e X.env) = eval e X.env := by rfl) (hl : (apos.endLine == cpos.line) = true := by rfl)
    (hs : starEach [.Call (.Attribute e "values" apos) [] [] cpos] X.env = (false, eval (.Call (.Attribute e "values" apos) [] [] cpos) X.env) :: starEach [] X.env := by rfl) :
    PE X (.Call (.Name "list" p) [.Call (.Attribute e "values" apos) [] [] cpos] [] pos) (tListVals te) := by
  refine ⟨fun pins s σ H Q I hq => wpAny_Call_Name_kw (ld_blt I hg hm (show bootBuiltins "list" = some (.type "list") by decide +kernel) (PyProof.Rows.callWith_type1 ?_ hs rfl))⟩
  rw [hs]; show wpAny _ _ (spliced ((false, eval (.Call (.Attribute e "values" apos) [] [] cpos) X.env) :: backTo pos (starEach [] X.env))) _ _ s
  refine Calls.spliced_cons (wpAny_Call_method (T := "dict") (id := "dict.values") hb rfl hl F.plainAttrs_dict F.slot_dict_values F.type_dict_values (thn (he.run pins s σ H _ I hq) fun u s1 ⟨x, H1, I1, rx, d, kvs, ex, hd, q⟩ => ?_))
  subst ex; obtain rfl : u = Value.ref d := rx
  obtain ⟨hz, lo, vs, kv, hdo⟩ := I1.hok d _ hd
  obtain ⟨ep, hat⟩ := hdo.dictAt
  have lk : kvs.length = vs.length := Paired.length kv
  have I2 : Inv X pins σ H1 { s1 with heap := s1.heap.push { cls := .type "dict_values", data := .fields #[.ref d] } } := I1.kept (t' := s1.toks) fun b ob z => Heap.get?_push_of_some _ z
  refine ⟨hdo.typeIs, hdo.mapOf.noDict, ?_⟩
  show wpAny _ _ (callWith cpos (.builtin "dict.values") [.ref d] [] []) _ X.xe s1
  refine method_meetsIn F.slot_dict_values F.entry_dict_values rfl (PySem.evalArgs_none ⟨rfl, hdo.typeIs, F.args_dict_values_1 _, _, meets_dict_values (mixKind X.prog X.w) d lo, ⟨vs, hdo⟩, Calls.spliced_nil ?_⟩)
  refine PySem.W.kdl_call (PySem.W.kdl_values (knd := mixKind X.prog X.w) (kvs := vs) (ep := ep)) (I1.ok.hd hc) ⟨⟨_, Heap.get?_push_size _ rfl, rfl, rfl⟩, hat.push _⟩ (by rw [← lk]; exact hz) fun h' tk acc c hk hS hacc => ?_
  have nw := I2.hok.fresh (Nat.le_refl _)
  refine ⟨.ref _, upd H1 _ (.lst (kvs.map (·.2))), I2.laid hk (Nat.le_refl _) ⟨by rw [List.length_map]; exact hz, acc.toList, c, ?_, by rw [Array.toArray_toList]; exact hS⟩, rfl, q _ nw⟩
  have el : acc.toList.length = acc.size := by simp
  refine vals_of_at (by rw [List.length_map, el, hacc.1, lk]) fun j x w h1 h2 => ?_
  obtain ⟨k, hi⟩ := hacc.2 j w (by rw [← Array.getElem?_toList]; exact h2)
  rw [List.getElem?_map] at h1
  cases e1 : kvs[j]? with
  | none => rw [e1] at h1; cases h1
  | some pr =>
    rw [e1] at h1; cases h1
    obtain ⟨y, g1, g2⟩ := pget kv e1
    rw [hi] at g1; cases g1
    exact g2.2
end

/-! ### readings by name, over K -/
def rLenS (K : PySem.W.Frag) : List V → Hp → VK → Prop := fun xs H Q => ∃ p ys, xs = [.ref p] ∧ (SqL K H p ys ∨ SqT K H p ys) ∧ Q (.int ys.length) H
theorem call_lenS {X : Cx} : CallR X (.builtin "len") (rLenS X.K) := call_len_seq
def rTupOf (K : PySem.W.Frag) : List V → Hp → VK → Prop := fun xs H Q => ∃ p ys, xs = [.ref p] ∧ ((SqL K H p ys ∧ ∀ l, H l = none → Q (.ref l) (upd H l (.tup ys))) ∨ (SqT K H p ys ∧ Q (.ref p) H))
theorem call_tupOf {X : Cx} : CallR X (.type "tuple") (rTupOf X.K) := call_tuple_of
def rLstOf (K : PySem.W.Frag) : List V → Hp → VK → Prop := fun xs H Q => ∃ p ys, xs = [.ref p] ∧ (SqL K H p ys ∨ SqT K H p ys) ∧ ∀ l, H l = none → Q (.ref l) (upd H l (.lst ys))
theorem call_lstOf {X : Cx} : CallR X (.type "list") (rLstOf X.K) := call_list_of
def tTru (K : PySem.W.Frag) (ta : TE) : TT := fun σ H Q => ta σ H fun x H' => ∃ k, TruV K x H' k ∧ Q k H'
theorem pt_tru {X : Cx} {a : Expr} {ta : TE} (ha : PE X a ta) (he : ∀ whole, isTrue a X.env whole = (do let v ← whole; standAt a.pos; holding [v] (truthy v)) := by intro _; rfl) : PT X a (tTru X.K ta) := pt_truth ha he

/-! ### sorted of a tuple of pairs of ints -/
section
variable {prog : Program} {w : World} {A : Around} {E : Value → Shared → Prop} {s : Shared}
abbrev cH (h : Heap) (vs : List Value) : Heap := (h.push (seqObj "list" #[] 0)).update h.objs.size (Obj.mapSeq (· ++ vs.toArray))
theorem collect_tup {t : Addr} {vs : List Value} {Q : List Value → Shared → Prop} (ht : IsTup s.heap t vs.toArray) (hz : vs.length ≤ sizeLine) (h : Q vs { s with heap := cH s.heap vs }) : wpAny (model prog w) A (collect (.ref t)) Q E s := by
  obtain ⟨o, ho, hc, n, hd⟩ := ht
  have ho2 : (s.heap.push (seqObj "list" #[] 0)).get? t = some o := Heap.get?_push_of_some _ ho
  have hn2 : (s.heap.push (seqObj "list" #[] 0)).get? s.heap.objs.size = some (seqObj "list" #[] 0) := Heap.get?_push_size _ rfl
  unfold collect; refine wpAny_bind (wpAny_runValue (codeAny_builtin entry_proto_collect' ?_))
  show wpAny _ _ (newList [] >>= fun l => again (.builtin "list.__iadd__" ⟨[l, .ref t], []⟩)) _ _ s
  refine wpAny_bind (wpAny_newList (wpAny_pure ⟨Code.quiet_builtin _ (by decide +kernel), codeAny_builtin entry_list_iadd' ?_⟩)); show wpAny _ _ (Builtin.List.listExtendWith (.ref _) (.ref t) (.ref s.heap.objs.size)) _ _ { s with heap := s.heap.push (seqObj "list" #[] 0) }
  unfold Builtin.List.listExtendWith; refine wpAny_bind (wpAny_typeOf (T := "tuple") ⟨o, ho2, hc⟩ ?_)
  have e1 : (Value.type "tuple" == Value.type "tuple") = true := by rfl
  rw [if_pos (by rw [e1]; simp)]; refine wpAny_bind (listItems_at ho2 hd (wpAny_bind (listItems_at (xs := #[]) (n := 0) hn2 rfl ?_)))
  rw [if_neg (by simp)]; refine wpAny_bind (listUpdate_at (xs := #[]) (n := 0) hn2 rfl (wpAny_pure ?_) (Nat.zero_le _) (by show (#[] ++ vs.toArray).size ≤ sizeLine + 1; rw [Array.size_append]; simp; omega))
  show wpAny (model prog w) A (load s.heap.objs.size >>= fun o => match o.data with | .seq xs _ => pure xs.toList | _ => unsupported "internal:collect") Q E { s with heap := cH s.heap vs }
  refine wpAny_bind (wpAny_load (get?_update_seq hn2 _) ?_); show wpAny _ _ (pure ((#[] : Array Value) ++ vs.toArray).toList) Q E _
  rw [show ((#[] : Array Value) ++ vs.toArray).toList = vs by simp]; exact wpAny_pure h
/-- sorted(t), t a tuple of pairs of ints -/
theorem sorted_tupPairs {t : Addr} {vs : List Value} {k : Value → Int × Int} {Q : Value → Shared → Prop} (ht : IsTup s.heap t vs.toArray) (hz : vs.length ≤ sizeLine) (hp : ∀ v ∈ vs, Srt.IsPair s.heap v (k v).1 (k v).2)
    (h : ∀ (h' : Heap) (d : Addr) (out : List Value), SrtO.Srtd (fun v u => SrtO.lexB (k v) (k u)) out → SrtO.Stb (fun v u => SrtO.lexB (k v) (k u)) out vs → (∀ b o, s.heap.get? b = some o → h'.get? b = some o) → s.heap.objs.size ≤ d → (∃ n, h'.get? d = some (seqObj "list" out.toArray n)) → Q (.ref d) { s with heap := h' }) :
    wpAny (model prog w) A (call (.builtin "sorted") [.ref t]) Q E s := by
  refine Calls.call_function_entry kind_sorted plain_sorted entry_sorted (args_sorted1 _) ?_
  unfold Builtin.«sorted»; refine wpAny_bind (m := checkCount "sorted" 1 1 _) (wpAny_pure (wpAny_bind (collect_tup ht hz (wpAny_bind (wpAny_newList ?_ hz)))))
  have z1 : (cH s.heap vs).objs.size = s.heap.objs.size + 1 := by rw [Heap.size_update, size_push']
  have hL : ((cH s.heap vs).push (seqObj "list" vs.toArray 0)).get? (s.heap.objs.size + 1) = some (seqObj "list" vs.toArray 0) := by rw [← z1]; exact Heap.get?_push_size _ rfl
  have kp : ∀ b o, s.heap.get? b = some o → b ≠ s.heap.objs.size + 1 ∧ ((cH s.heap vs).push (seqObj "list" vs.toArray 0)).get? b = some o := fun b o q => by
    have hb := Heap.lt_size q
    refine ⟨Nat.ne_of_lt (Nat.lt_succ_of_lt hb), Heap.get?_push_of_some _ ?_⟩
    rw [Heap.get?_update_ne _ _ _ _ (Nat.ne_of_lt hb)]; exact Heap.get?_push_of_some _ q
  show wpAny _ _ _ _ _ { s with heap := (cH s.heap vs).push (seqObj "list" vs.toArray 0) }
  rw [z1]; refine wpAny_bind (wpAny_holding (wpAny_call_entry slot_list_sort ⟨_, hL, rfl⟩ entry_list_sort (SrtO.list_sort_ord (SrtO.swo_lex k) hL hz (fun h2 => ?_) fun out hs hb => ⟨_, rfl, wpAny_pure ⟨_, rfl, h _ _ out hs hb (fun b o q => sortedAll_old q) (Nat.le_succ _) (sortedAll_at s.heap vs out.toArray)⟩⟩) (args_list_sort _)))
  refine SrtO.pairs_sortableO (by omega) (fun v hm => (hp v hm).keeps fun b o q _ => (kp b o q).2) fun o e => ?_
  have e' := e.symm.trans hL
  cases e'; intro c; exact absurd (Value.type.inj c) (by decide)
end
def rSortedTP (K : PySem.W.Frag) : List V → Hp → VK → Prop := fun vs H Q => ∃ (a : Addr) (xs : List V) (k : V → Int × Int), vs = [V.ref a] ∧ SqT K H a xs ∧ (∀ x ∈ xs, ∃ t, x = V.ref t ∧ H t = some (.tup [.int (k x).1, .int (k x).2])) ∧
  ∀ ys p, SrtO.Srtd (ltP k) ys → SrtO.Stb (ltP k) ys xs → H p = none → Q (.ref p) (upd H p (.lst ys))
theorem cr_sortedTP {X : Cx} : CallR X (.builtin "sorted") (rSortedTP X.K) := by
  intro pins s σ H vs us Q I r h
  obtain ⟨a, xs, k, rfl, hs, hx, q⟩ := h
  obtain ⟨its, rv, hl, hz⟩ := I.tuple hs
  obtain ⟨u, rfl, ru⟩ := vals1 r; obtain rfl : u = Value.ref a := ru
  obtain ⟨e1, e2⟩ := refs_back rv fun x m => (hx x m).imp fun t e => e.1
  refine sorted_tupPairs (k := fun u => k (backV u)) hl (by rw [← rv.length]; exact hz) (fun v hv => ?_) fun h' d out h1 h2 kp hd hn => ?_
  · obtain ⟨t, rfl⟩ := e2 v hv
    obtain ⟨t', e, ht⟩ := hx (V.ref t) (by rw [e1]; exact List.mem_map.mpr ⟨_, hv, rfl⟩)
    cases e; obtain ⟨_, its2, r2, o, ho, hc, n, hd⟩ := I.hok _ _ ht
    obtain ⟨u1, u2, rfl, ⟨t1, rfl⟩, ⟨t2, rfl⟩⟩ := vals2 r2
    exact ⟨t, o, t1, t2, n, rfl, ho, hc, hd⟩
  · have h3 : ∀ u ∈ out, ∃ a, u = Value.ref a := fun u hu => e2 u (h2.perm.mem_iff.mp hu)
    have hb : SrtO.Stb (ltP k) (out.map backV) xs := by rw [e1]; exact SrtO.Stb.map (ltP_swo k) backV h2
    obtain ⟨n, hn⟩ := hn
    exact ⟨.ref d, upd H d (.lst (out.map backV)), I.laid (t' := s.toks) kp hd ⟨by rw [hb.len]; exact hz, out, n, vals_back h3, hn⟩, rfl, q _ d (SrtO.srtd_map h1) hb (I.hok.fresh hd)⟩
end Ow

/-! Readings, one step at a time: each rule's conclusion has the reading's own head. -/
namespace Ow
open PySem PySem.Spec PyProof.Rows L2
section
variable {K : PySem.W.Frag} {D : Ends} {σ : L2.St} {H : Hp} {Q : VK}
/-! ### statements -/
theorem s_seq {t u : TS} (h : t { D with nx := u D } σ H) : tSeq t u D σ H := h
/-- what follows is shown first, once for all ways -/
theorem s_cut {t u : TS} (N : L2.St → Hp → Prop) (key : ∀ σ' H', N σ' H' → u D σ' H') (h : (∀ σ' H', N σ' H' → u D σ' H') → t { D with nx := u D } σ H) : tSeq t u D σ H := h key
theorem s_asg {te : TE} {g : TG} (h : te σ H fun x H1 => g x σ H1 D.nx) : tAsg te g D σ H := h
theorem s_drop {te : TE} (h : te σ H fun _ H1 => D.nx σ H1) : tDrop te D σ H := h
theorem s_ret {te : TE} (h : te σ H D.rt) : tRet te D σ H := h
theorem s_retN (h : D.rt .non H) : tRetN D σ H := h
theorem s_nx (h : D.nx σ H) : tNext D σ H := h
theorem s_bk (h : D.bk σ H) : tBreak D σ H := h
theorem s_ct (h : D.ct σ H) : tCont D σ H := h
theorem s_ifS {c : TT} {t u : TS} (h : c σ H fun b H1 => if b = true then t D σ H1 else u D σ H1) : tIfS c t u D σ H := h
def atPar (D : Ends) (σ : L2.St) (i j : Nat) : List V → Hp → Prop := fun vs H1 => ∃ v w, vs = [v, w] ∧ D.nx ((σ.set i (some v)).set j (some w)) H1
theorem s_par {i j : Nat} {ta : TA} (h : ta σ H (atPar D σ i j)) : tPar i j ta D σ H := h
theorem s_par2 {i j : Nat} {v w : V} (h : D.nx ((σ.set i (some v)).set j (some w)) H) : atPar D σ i j [v, w] H := ⟨v, w, rfl, h⟩
theorem s_aug {i : Nat} {te : TE} {ti : TIp} {x : V} (e : σ[i]? = some (some x)) (h : te σ H fun y H1 => ti x y H1 fun z H2 => D.nx (σ.set i (some z)) H2) : tAug i te ti D σ H := ⟨x, e, h⟩
theorem s_ip {f : Int → Int → Int} {i j : Int} (h : Q (.int (f i j)) H) : ipI f (.int i) (.int j) H Q := ⟨i, j, rfl, rfl, h⟩
/-! ### targets -/
section
variable {N : L2.St → Hp → Prop}
theorem s_gName {i : Nat} {v : V} (h : N (σ.set i (some v)) H) : gName i v σ H N := h
theorem s_gNil (h : N σ H) : gNil [] σ H N := ⟨rfl, h⟩
theorem s_gCons {t : TG} {u : TGs} {v : V} {r : List V} (h : t v σ H fun σ' H' => u r σ' H' N) : gCons t u (v :: r) σ H N := ⟨v, r, rfl, h⟩
theorem s_gTup {n : Nat} {t : TGs} {a : Addr} {xs : List V} (q : SqT K H a xs) (l : xs.length = n) (h : t xs σ H N) : gTup K n t (.ref a) σ H N := ⟨a, xs, rfl, q, l, h⟩
theorem s_gUnl {n : Nat} {t : TGs} {a : Addr} {xs : List V} (q : SqL K H a xs) (l : xs.length = n) (h : t xs σ H N) : gUnl K n t (.ref a) σ H N := ⟨a, xs, rfl, q, l, h⟩
theorem s_gSub {to ti : TE} {t : TSet} {v : V} (h : to σ H fun o H1 => ti σ H1 fun i H2 => t o i v H2 fun H3 => N σ H3) : gSub to ti t v σ H N := h
end
theorem s_setL {p : Addr} {k : Int} {j : Nat} {v : V} {xs : List V} {N : Hp → Prop} (hp : H p = some (.lst xs)) (hj : ixN xs.length k = some j) (h : N (upd H p (.lst (xs.set j v)))) : rSetL (.ref p) (.int k) v H N := ⟨p, xs, k, j, rfl, rfl, hp, hj, h⟩
/-! ### expressions -/
theorem s_var {i : Nat} {v : V} (e : σ[i]? = some (some v)) (q : Q v H) : tVar i σ H Q := ⟨v, e, q⟩
theorem s_c {v : V} (q : Q v H) : tC v σ H Q := q
theorem s_op {r : R2} {ta tb : TE} (h : ta σ H fun x H1 => tb σ H1 fun y H2 => r x y H2 Q) : tOp r ta tb σ H Q := h
theorem s_un {r : V → Hp → VK → Prop} {ta : TE} (h : ta σ H fun x H1 => r x H1 Q) : tUn r ta σ H Q := h
theorem s_rU {g : Int → V} {i : Int} (q : Q (g i) H) : rU g (.int i) H Q := ⟨i, rfl, q⟩
theorem s_rI0 {g : Int → Int → V} {i j : Int} (q : Q (g i j) H) : rI0 g (.int i) (.int j) H Q := ⟨i, j, rfl, rfl, q⟩
theorem s_rI {C : Int → Int → Prop} {g : Int → Int → V} {i j : Int} (c : C i j) (q : Q (g i j) H) : rI C g (.int i) (.int j) H Q := ⟨i, j, rfl, rfl, c, q⟩
theorem int_dec (i j : Int) : decide (V.int i = V.int j) = decide (i = j) := by
  by_cases e : i = j
  · rw [decide_eq_true e, decide_eq_true (by rw [e])]
  · rw [decide_eq_false e, decide_eq_false fun z => e (V.int.inj z)]
theorem str_dec (i j : Str) : decide (V.str i = V.str j) = decide (i = j) := by
  by_cases e : i = j
  · rw [decide_eq_true e, decide_eq_true (by rw [e])]
  · rw [decide_eq_false e, decide_eq_false fun z => e (V.str.inj z)]
theorem bl_dec (i j : Bool) : decide (V.bl i = V.bl j) = decide (i = j) := by
  by_cases e : i = j
  · rw [decide_eq_true e, decide_eq_true (by rw [e])]
  · rw [decide_eq_false e, decide_eq_false fun z => e (V.bl.inj z)]
theorem s_eqI {i j : Int} (q : Q (.bl (decide (i = j))) H) : rEq (.int i) (.int j) H Q := ⟨rfl, by rw [int_dec]; exact q⟩
theorem s_neI {i j : Int} (q : Q (.bl (!decide (i = j))) H) : rNe (.int i) (.int j) H Q := ⟨rfl, by rw [int_dec]; exact q⟩
theorem s_eqS {i j : Str} (q : Q (.bl (decide (i = j))) H) : rEq (.str i) (.str j) H Q := ⟨rfl, by rw [str_dec]; exact q⟩
theorem s_neS {i j : Str} (q : Q (.bl (!decide (i = j))) H) : rNe (.str i) (.str j) H Q := ⟨rfl, by rw [str_dec]; exact q⟩
theorem s_eqB {i j : Bool} (q : Q (.bl (decide (i = j))) H) : rEq (.bl i) (.bl j) H Q := ⟨rfl, by rw [bl_dec]; exact q⟩
theorem s_neB {i j : Bool} (q : Q (.bl (!decide (i = j))) H) : rNe (.bl i) (.bl j) H Q := ⟨rfl, by rw [bl_dec]; exact q⟩
/-! tests -/
def atBl (Q : Bool → Hp → Prop) : VK := fun x H => ∃ k, x = .bl k ∧ Q k H
section
variable {R : Bool → Hp → Prop}
theorem s_bl {k : Bool} (q : R k H) : atBl R (.bl k) H := ⟨k, rfl, q⟩
theorem s_test {t : TE} (h : t σ H (atBl R)) : tTest t σ H R := h
theorem s_tB {t : TE} (h : t σ H (atBl R)) : tB t σ H R := h
theorem s_and {t u : TT} (h : t σ H fun c H1 => if c = true then u σ H1 R else R false H1) : tAnd t u σ H R := h
theorem s_or {t u : TT} (h : t σ H fun c H1 => if c = true then R true H1 else u σ H1 R) : tOr t u σ H R := h
theorem s_not {t : TT} (h : t σ H fun c H1 => R (!c) H1) : tNot t σ H R := h
theorem s_tru {ta : TE} (h : ta σ H fun x H' => ∃ k, TruV K x H' k ∧ R k H') : tTru K ta σ H R := h
theorem s_yes (h : R true H) : tYes σ H R := h
end
theorem s_andV {ta tb : TE} (h : ta σ H fun x H1 => atBl (fun c H2 => if c = true then tb σ H2 Q else Q (.bl false) H2) x H1) : tAndV ta tb σ H Q := h
theorem s_orV {ta tb : TE} (h : ta σ H fun x H1 => atBl (fun c H2 => if c = true then Q (.bl true) H2 else tb σ H2 Q) x H1) : tOrV ta tb σ H Q := h
theorem s_notV {ta : TE} (h : ta σ H fun x H1 => atBl (fun c H2 => Q (.bl (!c)) H2) x H1) : tNotV ta σ H Q := h
theorem s_ifE {t : TT} {ta tb : TE} (h : t σ H fun c H1 => if c = true then ta σ H1 Q else tb σ H1 Q) : tIf t ta tb σ H Q := h
theorem s_chain {r r' : R2} {ta tb tc : TE} (h : ta σ H fun x H1 => tb σ H1 fun y H2 => r x y H2 (atBl fun k H3 => if k = true then tc σ H3 fun w' H4 => r' y w' H4 Q else Q (.bl false) H3)) : tChain r r' ta tb tc σ H Q := h
/-! fields, methods, calls -/
def atFld (K : PySem.W.Frag) (f : Str) (Q : VK) : VK := fun x H1 => ∃ a C dx fs v, x = .ref a ∧ H1 a = some (.ins C dx fs) ∧ Cls K C ∧ NoAttr K C f ∧ fs.lookup f = some v ∧ Q v H1
theorem s_fld {ta : TE} {f : Str} (h : ta σ H (atFld K f Q)) : tFld K ta f σ H Q := h
theorem s_fld2 {f : Str} {a C dx : Addr} {fs : List (Str × V)} {v : V} (hp : H a = some (.ins C dx fs)) (c : Cls K C) (n : NoAttr K C f) (l : fs.lookup f = some v) (q : Q v H) : atFld K f Q (.ref a) H := ⟨a, C, dx, fs, v, rfl, hp, c, n, l, q⟩
def atMeth (C : Addr) (m : Str) (sp : Sp) (dvs : List V) (E : XK) (t : TA) (σ : L2.St) (Q : VK) : VK := fun x H1 => ∃ a dx fs, x = .ref a ∧ H1 a = some (.ins C dx fs) ∧ fs.lookup m = none ∧ t σ H1 fun vs H2 => sp (x :: (vs ++ dvs)) H2 Q E
theorem s_meth {C : Addr} {m : Str} {sp : Sp} {dvs : List V} {E : XK} {ta : TE} {t : TA} (h : ta σ H (atMeth C m sp dvs E t σ Q)) : tMeth C m sp dvs E ta t σ H Q := h
theorem s_meth2 {C : Addr} {m : Str} {sp : Sp} {dvs : List V} {E : XK} {t : TA} {a dx : Addr} {fs : List (Str × V)} (hp : H a = some (.ins C dx fs)) (l : fs.lookup m = none) (h : t σ H fun vs H2 => sp (.ref a :: (vs ++ dvs)) H2 Q E) : atMeth C m sp dvs E t σ Q (.ref a) H := ⟨a, dx, fs, rfl, hp, l, h⟩
theorem s_call {sp : Sp} {dvs : List V} {E : XK} {t : TA} (h : t σ H fun vs H1 => sp (vs ++ dvs) H1 Q E) : tCall sp dvs E t σ H Q := h
theorem s_make {C : Addr} {sp : Sp} {dvs : List V} {E : XK} {t : TA} (h : t σ H fun vs H1 => ∀ x dx, H1 x = none → H1 dx = none → dx ≠ x → sp (.ref x :: (vs ++ dvs)) (upd (upd H1 dx (.own x)) x (.ins C dx [])) (fun v H2 => v = .non ∧ Q (.ref x) H2) E) : tMake C sp dvs E t σ H Q := h
theorem s_cb {r : List V → Hp → VK → Prop} {t : TA} (h : t σ H fun vs H1 => r vs H1 Q) : tCB r t σ H Q := h
/-! arguments -/
section
variable {R : List V → Hp → Prop}
theorem s_nil (q : R [] H) : tNil σ H R := q
theorem s_cons {ta : TE} {tr : TA} (h : ta σ H fun x H1 => tr σ H1 fun xs H2 => R (x :: xs) H2) : tCons ta tr σ H R := h
def atStar (K : PySem.W.Frag) (t : TA) (σ : L2.St) (R : List V → Hp → Prop) : VK := fun x H1 => ∃ p xs, x = V.ref p ∧ (SqT K H1 p xs ∨ SqL K H1 p xs) ∧ t σ H1 fun ys H2 => R (xs ++ ys) H2
theorem s_star {te : TE} {t : TA} (h : te σ H (atStar K t σ R)) : StX.tStar K te t σ H R := h
theorem s_starT {t : TA} {p : Addr} {xs : List V} (q : SqT K H p xs) (h : t σ H fun ys H2 => R (xs ++ ys) H2) : atStar K t σ R (.ref p) H := ⟨p, xs, rfl, .inl q, h⟩
theorem s_starL {t : TA} {p : Addr} {xs : List V} (q : SqL K H p xs) (h : t σ H fun ys H2 => R (xs ++ ys) H2) : atStar K t σ R (.ref p) H := ⟨p, xs, rfl, .inr q, h⟩
end
/-! displays: what is to be shown of a new object -/
def newTup (Q : VK) : List V → Hp → Prop := fun xs H1 => xs.length ≤ sizeLine ∧ ∀ p, H1 p = none → Q (.ref p) (upd H1 p (.tup xs))
def newLst (Q : VK) : List V → Hp → Prop := fun xs H1 => xs.length ≤ sizeLine ∧ ∀ p, H1 p = none → Q (.ref p) (upd H1 p (.lst xs))
theorem s_tup {t : TA} (h : t σ H (newTup Q)) : tTup t σ H Q := h
theorem s_lst {t : TA} (h : t σ H (newLst Q)) : tLst t σ H Q := h
theorem s_newT {xs : List V} (z : xs.length ≤ sizeLine) (h : ∀ p, H p = none → Q (.ref p) (upd H p (.tup xs))) : newTup Q xs H := ⟨z, h⟩
theorem s_newL {xs : List V} (z : xs.length ≤ sizeLine) (h : ∀ p, H p = none → Q (.ref p) (upd H p (.lst xs))) : newLst Q xs H := ⟨z, h⟩
/-! items, slices -/
theorem s_ixT {p : Addr} {xs : List V} {i : Int} {v : V} (q : SqT K H p xs) (e : atI xs i = some v) (h : Q v H) : rIxT K (.ref p) (.int i) H Q := ⟨p, xs, i, v, rfl, rfl, q, e, h⟩
theorem s_ixL {p : Addr} {xs : List V} {i : Int} {v : V} (q : SqL K H p xs) (e : atI xs i = some v) (h : Q v H) : rIxL K (.ref p) (.int i) H Q := ⟨p, xs, i, v, rfl, rfl, q, e, h⟩
theorem s_sl {r : V → Option Int → Option Int → Hp → VK → Prop} {te : TE} {tl th : TO} (h : te σ H fun x H1 => tl σ H1 fun l H2 => th σ H2 fun u H3 => r x l u H3 Q) : tSl r te tl th σ H Q := h
theorem s_noPart {R : Option Int → Hp → Prop} (h : R none H) : tNoPart σ H R := h
def atPart (R : Option Int → Hp → Prop) : VK := fun x H1 => ∃ i, x = .int i ∧ R (some i) H1
theorem s_part {t : TE} {R : Option Int → Hp → Prop} (h : t σ H (atPart R)) : tPart t σ H R := h
theorem s_part2 {i : Int} {R : Option Int → Hp → Prop} (h : R (some i) H) : atPart R (.int i) H := ⟨i, rfl, h⟩
theorem s_slL {a : Addr} {xs : List V} {lo hi : Option Int} (q : SqL K H a xs) (h : ∀ p, H p = none → Q (.ref p) (upd H p (.lst (cutV xs lo hi)))) : rSlL K (.ref a) lo hi H Q := ⟨a, xs, rfl, q, h⟩
/-- a slice of a tuple: a new one, or the tuple itself -/
theorem s_slT {a : Addr} {xs : List V} {lo hi : Option Int} (q : SqT K H a xs) (h1 : cutV xs lo hi = xs → Q (.ref a) H) (h : ∀ p, H p = none → Q (.ref p) (upd H p (.tup (cutV xs lo hi)))) : rSlA K (.ref a) lo hi H Q := by
  refine ⟨a, xs, rfl, q, fun e => h1 ?_, fun _ p hp => h p hp⟩
  unfold cutV
  rw [e.1, e.2, List.drop_zero, Nat.sub_zero, List.take_length]
theorem s_slT1 {a : Addr} {xs : List V} {lo hi : Option Int} (q : SqT K H a xs) (h : ∀ p H', L2.Same H H' → SqT K H' p (cutV xs lo hi) → Q (.ref p) H') : rSlA K (.ref a) lo hi H Q :=
  s_slT q (fun e => h a H (fun _ _ z => z) (by rw [e]; exact q)) fun p hp => h p _ (fun b o z => by rw [upd_ne (ne_of_none z hp)]; exact z) (SqT.of upd_same)
theorem cutV_nat {xs : List V} {lo hi : Nat} (h : hi ≤ xs.length) (hl : lo ≤ hi) : cutV xs (some (lo : Int)) (some (hi : Int)) = (xs.drop lo).take (hi - lo) := by
  unfold cutV
  rw [HT.sIx_nat, HT.sIx_nat, Nat.min_eq_left h, Nat.min_eq_left (Nat.le_trans hl h)]
/-! methods of lists -/
def atBM (K : PySem.W.Frag) (T : String) (r : V → List V → Hp → VK → Prop) (t : TA) (σ : L2.St) (Q : VK) : VK := fun x H1 => tyV K T x H1 ∧ t σ H1 fun xs H2 => r x xs H2 Q
def atBM0 (K : PySem.W.Frag) (T : String) (r : V → List V → Hp → VK → Prop) (Q : VK) : VK := fun x H1 => tyV K T x H1 ∧ r x [] H1 Q
theorem s_bm {T : String} {r : V → List V → Hp → VK → Prop} {to : TE} {t : TA} (h : to σ H (atBM K T r t σ Q)) : tBM K T r to t σ H Q := h
theorem s_bm0 {T : String} {r : V → List V → Hp → VK → Prop} {to : TE} (h : to σ H (atBM0 K T r Q)) : tBM0 K T r to σ H Q := h
theorem s_bmL {r : V → List V → Hp → VK → Prop} {t : TA} {l : Addr} {xs : List V} (q : SqL K H l xs) (h : t σ H fun ys H2 => r (.ref l) ys H2 Q) : atBM K "list" r t σ Q (.ref l) H := ⟨.inl ⟨rfl, _, q⟩, h⟩
theorem s_bm0L {r : V → List V → Hp → VK → Prop} {l : Addr} {xs : List V} (q : SqL K H l xs) (h : r (.ref l) [] H Q) : atBM0 K "list" r Q (.ref l) H := ⟨.inl ⟨rfl, _, q⟩, h⟩
theorem s_append {l : Addr} {xs : List V} {y : V} (hl : H l = some (.lst xs)) (z : xs.length < sizeLine) (q : Q .non (upd H l (.lst (xs ++ [y])))) : rAppend (.ref l) [y] H Q := ⟨l, xs, y, rfl, rfl, hl, z, q⟩
theorem s_pop {l : Addr} {xs : List V} {y : V} (hl : H l = some (.lst (xs ++ [y]))) (q : Q y (upd H l (.lst xs))) : rPop (.ref l) [] H Q :=
  ⟨l, xs ++ [y], y, rfl, rfl, hl, by simp, by rw [List.dropLast_concat]; exact q⟩
theorem s_max3 {i j k : Int} (q : Q (.int (max (max i j) k)) H) : rMax3 [.int i, .int j, .int k] H Q := ⟨i, j, k, rfl, q⟩
theorem s_lenL {p : Addr} {ys : List V} (q : SqL K H p ys) (h : Q (.int ys.length) H) : rLenS K [.ref p] H Q := ⟨p, ys, rfl, .inl q, h⟩
theorem s_lenT {p : Addr} {ys : List V} (q : SqT K H p ys) (h : Q (.int ys.length) H) : rLenS K [.ref p] H Q := ⟨p, ys, rfl, .inr q, h⟩
theorem s_tupOf {p : Addr} {ys : List V} (q : SqL K H p ys) (h : ∀ l, H l = none → Q (.ref l) (upd H l (.tup ys))) : rTupOf K [.ref p] H Q := ⟨p, ys, rfl, .inl ⟨q, h⟩⟩
theorem s_lstOfL {p : Addr} {ys : List V} (q : SqL K H p ys) (h : ∀ l, H l = none → Q (.ref l) (upd H l (.lst ys))) : rLstOf K [.ref p] H Q := ⟨p, ys, rfl, .inl q, h⟩
/-! an if whose test is known -/
theorem s_T {A B : Prop} {b : Bool} (e : b = true) (h : A) : if b = true then A else B := by rw [if_pos e]; exact h
theorem s_F {A B : Prop} {b : Bool} (e : b = false) (h : B) : if b = true then A else B := by rw [if_neg (by rw [e]; decide)]; exact h
theorem s_if {A B : Prop} {p : Prop} [Decidable p] (h1 : p → A) (h2 : ¬ p → B) : if decide p = true then A else B := by
  by_cases h : p
  · rw [if_pos (decide_eq_true h)]; exact h1 h
  · rw [if_neg (by rw [decide_eq_false h]; decide)]; exact h2 h
theorem s_ifN {A B : Prop} {p : Prop} [Decidable p] (h1 : ¬ p → A) (h2 : p → B) : if (!decide p) = true then A else B := by
  by_cases h : p
  · rw [if_neg (by rw [decide_eq_true h]; decide)]; exact h2 h
  · rw [if_pos (by rw [decide_eq_false h]; rfl)]; exact h1 h
theorem s_ifB {A B : Prop} {b : Bool} (h1 : b = true → A) (h2 : b = false → B) : if b = true then A else B := by
  cases b with
  | true => exact iteT (h1 rfl)
  | false => exact iteF (h2 rfl)
end
/-! ### while -/
section
variable {tb : TS} {D : Ends} {σ : L2.St} {H : Hp}
def wTurn (W : Nat → L2.St → Hp → Prop) (m : Nat) (tb : TS) (D : Ends) (σ : L2.St) : Bool → Hp → Prop := fun b H1 =>
  if b = true then ∃ N : L2.St → Hp → Prop, (∀ σ' H', N σ' H' → ∃ m', m' < m ∧ W m' σ' H') ∧ tb { D with nx := N, ct := N, bk := D.nx } σ H1 else D.nx σ H1
theorem s_while {c : TT} (W : Nat → L2.St → Hp → Prop) (m : Nat) (h0 : W m σ H) (hs : ∀ m σ H, W m σ H → c σ H (wTurn W m tb D σ)) : tWhile c tb D σ H := ⟨W, ⟨m, h0⟩, hs⟩
abbrev wEnds (W : Nat → L2.St → Hp → Prop) (m : Nat) (D : Ends) : Ends := { D with nx := fun σ' H' => ∃ m', m' < m ∧ W m' σ' H', ct := fun σ' H' => ∃ m', m' < m ∧ W m' σ' H', bk := D.nx }
theorem s_wT {W : Nat → L2.St → Hp → Prop} {m : Nat} (h : tb (wEnds W m D) σ H) : wTurn W m tb D σ true H := iteT ⟨_, fun _ _ h => h, h⟩
theorem s_wF {W : Nat → L2.St → Hp → Prop} {m : Nat} (h : D.nx σ H) : wTurn W m tb D σ false H := iteF h
theorem s_wd {W : Nat → L2.St → Hp → Prop} {m : Nat} {p : Prop} [Decidable p] (h1 : p → tb (wEnds W m D) σ H) (h2 : ¬ p → D.nx σ H) : wTurn W m tb D σ (decide p) H := by
  by_cases h : p
  · rw [decide_eq_true h]; exact s_wT (h1 h)
  · rw [decide_eq_false h]; exact s_wF (h2 h)
end
/-! ### heaps -/
/-- all tuples stand as they stood -/
def TSt (H H' : Hp) : Prop := (∀ a xs, Rd H a (.tup xs) → Rd H' a (.tup xs)) ∧ ∀ a xs, H a = some (.tup xs) → H' a = some (.tup xs)
/-- all that was tracked, but at W, is as it was -/
def Kp (W : Addr → Prop) (H H' : Hp) : Prop := ∀ b o, H b = some o → ¬ W b → H' b = some o
section
variable {K : PySem.W.Frag} {H H1 H2 : Hp} {W : Addr → Prop}
theorem TSt.refl : TSt H H := ⟨fun _ _ h => h, fun _ _ h => h⟩
theorem TSt.trans (a : TSt H H1) (b : TSt H1 H2) : TSt H H2 := ⟨fun c xs h => b.1 c xs (a.1 c xs h), fun c xs h => b.2 c xs (a.2 c xs h)⟩
theorem Same.ts (s : Same H H1) : TSt H H1 := ⟨fun _ _ h => h.elim (fun h => .inl (s _ _ h)) fun ⟨o, h⟩ => .inr ⟨o, s _ _ h⟩, fun _ _ h => s _ _ h⟩
theorem TSt.upd' {p : Addr} {o : HO} (a : TSt H H1) (h : H1 p = none) : TSt H (upd H1 p o) := ⟨fun b xs r => by
  rcases a.1 b xs r with e | ⟨o', e⟩
  · exact .inl (by rw [upd_ne (ne_of_none e h)]; exact e)
  · exact .inr ⟨o', by rw [upd_ne (ne_of_none e h)]; exact e⟩, fun b xs e => by
  rw [upd_ne (ne_of_none (a.2 b xs e) h)]; exact a.2 b xs e⟩
def notT : HO → Prop
  | .tup _ => False
  | .frz _ _ => False
  | _ => True
/-- an object that is no tuple is changed -/
theorem TSt.mut {p : Addr} {o o' : HO} (a : TSt H H1) (h : H1 p = some o') (n : notT o') : TSt H (upd H1 p o) := ⟨fun b xs r => by
  rcases a.1 b xs r with e | ⟨u, e⟩
  · exact .inl (by rw [upd_ne (ne_of e h (by rintro rfl; exact n))]; exact e)
  · exact .inr ⟨u, by rw [upd_ne (ne_of e h (by rintro rfl; exact n))]; exact e⟩, fun b xs e => by
  rw [upd_ne (ne_of (a.2 b xs e) h (by rintro rfl; exact n))]; exact a.2 b xs e⟩
theorem TSt.sq {a : Addr} {xs : List V} (t : TSt H H1) (q : SqT K H a xs) : SqT K H1 a xs := q.elim (fun q => .inl (t.1 _ _ q)) .inr
theorem sT {a : Addr} {xs : List V} (s : Same H H1) (q : SqT K H a xs) : SqT K H1 a xs := TSt.sq (Same.ts s) q
theorem Kp.refl : Kp W H H := fun _ _ h _ => h
theorem Kp.trans (a : Kp W H H1) (b : Kp W H1 H2) : Kp W H H2 := fun c o h n => b c o (a c o h n) n
theorem Kp.mono {W' : Addr → Prop} (a : Kp W H H1) (h : ∀ b, W b → W' b) : Kp W' H H1 := fun c o e n => a c o e fun w => n (h c w)
theorem Kp.of (s : Same H H1) : Kp W H H1 := fun c o h _ => s c o h
theorem Kp.upd' {p : Addr} {o : HO} (a : Kp W H H1) (h : H1 p = none) : Kp W H (upd H1 p o) := fun b u e n => by
  rw [upd_ne (ne_of_none (a b u e n) h)]; exact a b u e n
theorem Kp.mut {p : Addr} {o : HO} (a : Kp W H H1) (h : W p) : Kp W H (upd H1 p o) := fun b u e n => by
  rw [upd_ne (fun z => n (by rw [z]; exact h))]; exact a b u e n
theorem Kp.none {p : Addr} (a : Kp W H H1) (n : ¬ W p) (h : H1 p = Option.none) : H p = Option.none := by
  cases q : H p with
  | none => rfl
  | some o => rw [a p o q n] at h; cases h
theorem Same.upd' {p : Addr} {o : HO} (s : Same H H1) (h : H1 p = Option.none) : Same H (upd H1 p o) := fun b u e => by
  rw [upd_ne (ne_of_none (s b u e) h)]; exact s b u e
/-- an object that was not there at first is changed -/
theorem Same.mut {p : Addr} {o : HO} (s : Same H H1) (h : H p = Option.none) : Same H (upd H1 p o) := fun b u e => by
  rw [upd_ne (ne_of_none e h)]; exact s b u e
theorem sU {p : Addr} {o : HO} (s : Same H H1) (h : H1 p = Option.none) : Same H (upd H1 p o) := Same.upd' s h
theorem sM {p : Addr} {o : HO} (s : Same H H1) (h : H p = Option.none) : Same H (upd H1 p o) := Same.mut s h
theorem sq_new {p a : Addr} {o : HO} {xs : List V} (q : SqT K H a xs) (h : H p = Option.none) : SqT K (upd H p o) a xs := TSt.sq (TSt.refl.upd' h) q
theorem sq_mut {p a : Addr} {o : HO} {xs ys : List V} (q : SqT K H a xs) (h : H p = some (.lst ys)) : SqT K (upd H p o) a xs := TSt.sq (TSt.refl.mut h trivial) q
theorem sq_mutI {p a C dx : Addr} {o : HO} {xs : List V} {fs : List (Str × V)} (q : SqT K H a xs) (h : H p = some (.ins C dx fs)) : SqT K (upd H p o) a xs := TSt.sq (TSt.refl.mut h trivial) q
/-- a new instance -/
theorem Same.ins {x dx C : Addr} (nx : H x = Option.none) (nd : H dx = Option.none) : Same H (upd (upd H dx (.own x)) x (.ins C dx [])) := fun b o e => by
  rw [upd_ne (ne_of_none e nx), upd_ne (ne_of_none e nd)]; exact e
end
/-! ### stores -/
section
variable {K : PySem.W.Frag} {D : Ends} {σ : L2.St} {H : Hp}
def atSet (K : PySem.W.Frag) (f : Str) (v : V) (N : Hp → Prop) : VK := fun x H2 => ∃ a C dx fs, x = .ref a ∧ H2 a = some (.ins C dx fs) ∧ Cls K C ∧ NoAttr K C f ∧ fs.length < 1000 ∧ N (upd H2 a (.ins C dx (putF f v fs)))
theorem s_sfld {ta tv : TE} {f : Str} (h : tv σ H fun v H1 => ta σ H1 (atSet K f v (D.nx σ))) : sFld K ta tv f D σ H := h
theorem s_sfld2 {f : Str} {v : V} {N : Hp → Prop} {a C dx : Addr} {fs : List (Str × V)} (hp : H a = some (.ins C dx fs)) (c : Cls K C) (n : NoAttr K C f) (l : fs.length < 1000) (h : N (upd H a (.ins C dx (putF f v fs)))) : atSet K f v N (.ref a) H := ⟨a, C, dx, fs, rfl, hp, c, n, l, h⟩
def atPut (D : Ends) (σ : L2.St) (v x : V) : VK := fun y H3 => ∃ a H4, x = .ref a ∧ DPut H3 a y v H4 ∧ D.nx σ H4
theorem s_dput {td ty tv : TE} (h : tv σ H fun v H1 => td σ H1 fun x H2 => ty σ H2 (atPut D σ v x)) : sDPut td ty tv D σ H := h
theorem s_dput2 {a : Addr} {kvs : List (Key × V)} {k : Key} {v y : V} (e : H a = some (.dK kvs)) (ey : y = kV k) (l : kvs.length < sizeLine) (h : D.nx σ (upd H a (.dK (putK kvs k v)))) : atPut D σ v (.ref a) y H := ⟨a, _, rfl, by rw [ey]; exact DPut.k e l, h⟩
theorem s_dnew {Q : VK} (h : ∀ p, H p = none → Q (.ref p) (upd H p (.dK []))) : tDNewK σ H Q := h
theorem s_lvals {te : TE} {Q : VK} (h : te σ H fun x H1 => ∃ (d : Addr) (kvs : List (Key × V)), x = .ref d ∧ H1 d = some (.dK kvs) ∧ ∀ q, H1 q = none → Q (.ref q) (upd H1 q (.lst (kvs.map (·.2))))) : tListVals te σ H Q := h
/-! ### what is walked -/
section
variable {R : It → Hp → Prop}
def atIL (K : PySem.W.Frag) (R : It → Hp → Prop) : VK := fun x H1 => ∃ a, x = .ref a ∧ (∃ xs, SqL K H1 a xs) ∧ R (Itl K a) H1
def atIT (K : PySem.W.Frag) (R : It → Hp → Prop) : VK := fun x H1 => ∃ a, x = .ref a ∧ (∃ xs, SqT K H1 a xs) ∧ R (Itt K a) H1
theorem s_iL {tl : TE} (h : tl σ H (atIL K R)) : iList K tl σ H R := h
theorem s_iT {tl : TE} (h : tl σ H (atIT K R)) : iTup K tl σ H R := h
theorem s_iL2 {a : Addr} {xs : List V} (q : SqL K H a xs) (h : R (Itl K a) H) : atIL K R (.ref a) H := ⟨a, rfl, ⟨xs, q⟩, h⟩
theorem s_iT2 {a : Addr} {xs : List V} (q : SqT K H a xs) (h : R (Itt K a) H) : atIT K R (.ref a) H := ⟨a, rfl, ⟨xs, q⟩, h⟩
def atR1 (R : It → Hp → Prop) : List V → Hp → Prop := fun vs H1 => ∃ j : Int, vs = [.int j] ∧ -(2 ^ 62) ≤ j ∧ j < 2 ^ 62 ∧ R (Itr 0 j.toNat) H1
def atR2 (R : It → Hp → Prop) : List V → Hp → Prop := fun vs H1 => ∃ i j : Int, vs = [.int i, .int j] ∧ (-(2 ^ 62) ≤ i ∧ i < 2 ^ 62 ∧ -(2 ^ 62) ≤ j ∧ j < 2 ^ 62) ∧ R (Itr i (j - i).toNat) H1
theorem s_iR1 {ta : TA} (h : ta σ H (atR1 R)) : iRng1 ta σ H R := h
theorem s_iR2 {ta : TA} (h : ta σ H (atR2 R)) : iRng2 ta σ H R := h
theorem s_iR1' {j : Int} (h1 : -(2 ^ 62) ≤ j) (h2 : j < 2 ^ 62) (h : R (Itr 0 j.toNat) H) : atR1 R [.int j] H := ⟨j, rfl, h1, h2, h⟩
theorem s_iR2' {i j : Int} (h1 : -(2 ^ 62) ≤ i) (h2 : i < 2 ^ 62) (h3 : -(2 ^ 62) ≤ j) (h4 : j < 2 ^ 62) (h : R (Itr i (j - i).toNat) H) : atR2 R [.int i, .int j] H := ⟨i, j, rfl, ⟨h1, h2, h3, h4⟩, h⟩
def atEn (K : PySem.W.Frag) (R : It → Hp → Prop) : List V → Hp → Prop := fun vs H1 => ∃ a xs, vs = [.ref a] ∧ SqL K H1 a xs ∧ R (Ite K a) H1
theorem s_iE {ta : TA} (h : ta σ H (atEn K R)) : iEnum K ta σ H R := h
theorem s_iE2 {a : Addr} {xs : List V} (q : SqL K H a xs) (h : R (Ite K a) H) : atEn K R [.ref a] H := ⟨a, xs, rfl, q, h⟩
end
/-! ### for -/
def forGoal (J : It) (g : TG) (tb : TS) (D : Ends) (σ : L2.St) (H : Hp) : Prop := ∃ W : Nat → Nat → L2.St → Hp → Prop, (∃ m, W 0 m σ H) ∧ ∀ i m σ H, W i m σ H →
  (J.stop i H ∧ D.nx σ H) ∨ (J.go i H ∧ ∃ N : L2.St → Hp → Prop, (∀ σ' H', N σ' H' → ∃ m', m' < m ∧ W (i + 1) m' σ' H') ∧ ∀ x H', J.yld i H x H' → g x σ H' fun σ2 H2 => tb { D with nx := N, ct := N, bk := D.nx } σ2 H2)
theorem s_for {wi : TI} {g : TG} {tb : TS} (h : wi σ H fun J H1 => forGoal J g tb D σ H1) : tFor wi g tb D σ H := h
abbrev fEnds (N : L2.St → Hp → Prop) (D : Ends) : Ends := { D with nx := N, ct := N, bk := D.nx }
theorem f_it {J : It} {n : Nat} {G : Hp → Prop} {Y : Nat → Hp → V → Hp → Prop} {g : TG} {tb : TS} (w : Walk J n G Y) (Pv : Nat → L2.St → Hp → Prop) (h0 : Pv 0 σ H) (hG : ∀ i σ H, i ≤ n → Pv i σ H → G H)
    (hs : ∀ i x σ H H', i < n → Pv i σ H → Y i H x H' → g x σ H' fun σ2 H2 => tb (fEnds (Pv (i + 1)) D) σ2 H2) (hd : ∀ σ H, Pv n σ H → D.nx σ H) : forGoal J g tb D σ H := for_it w Pv h0 hG hs hd
/-- over a list that stays -/
theorem f_list {a : Addr} {xs : List V} {g : TG} {tb : TS} (Pv : Nat → L2.St → Hp → Prop) (h0 : Pv 0 σ H) (hG : ∀ i σ H, i ≤ xs.length → Pv i σ H → SqL K H a xs)
    (hs : ∀ i x σ H, xs[i]? = some x → Pv i σ H → g x σ H fun σ2 H2 => tb (fEnds (Pv (i + 1)) D) σ2 H2) (hd : ∀ σ H, Pv xs.length σ H → D.nx σ H) : forGoal (Itl K a) g tb D σ H := for_list Pv h0 hG hs hd
theorem f_tup {a : Addr} {xs : List V} {g : TG} {tb : TS} (Pv : Nat → L2.St → Hp → Prop) (h0 : Pv 0 σ H) (hG : ∀ i σ H, i ≤ xs.length → Pv i σ H → SqT K H a xs)
    (hs : ∀ i x σ H, xs[i]? = some x → Pv i σ H → g x σ H fun σ2 H2 => tb (fEnds (Pv (i + 1)) D) σ2 H2) (hd : ∀ σ H, Pv xs.length σ H → D.nx σ H) : forGoal (Itt K a) g tb D σ H := for_tup Pv h0 hG hs hd
theorem f_range {lo : Int} {n : Nat} {g : TG} {tb : TS} (Pv : Nat → L2.St → Hp → Prop) (h0 : Pv 0 σ H)
    (hs : ∀ i σ H, i < n → Pv i σ H → g (.int (lo + i)) σ H fun σ2 H2 => tb (fEnds (Pv (i + 1)) D) σ2 H2) (hd : ∀ σ H, Pv n σ H → D.nx σ H) : forGoal (Itr lo n) g tb D σ H := for_range Pv h0 hs hd
theorem f_enum {a : Addr} {xs : List V} {g : TG} {tb : TS} (Pv : Nat → L2.St → Hp → Prop) (h0 : Pv 0 σ H) (hG : ∀ i σ H, i ≤ xs.length → Pv i σ H → SqL K H a xs)
    (hs : ∀ i x T σ H, xs[i]? = some x → Pv i σ H → H T = none → g (.ref T) σ (upd H T (.tup [.int (i : Nat), x])) fun σ2 H2 => tb (fEnds (Pv (i + 1)) D) σ2 H2) (hd : ∀ σ H, Pv xs.length σ H → D.nx σ H) : forGoal (Ite K a) g tb D σ H :=
  f_it walk_enum Pv h0 hG (fun i v σ H H' _ p y => by
    obtain ⟨T, x, y', e1, e2, e3, e4, e5⟩ := y
    cases e4; subst e1; subst e3
    exact hs i _ T σ H e5 p e2) hd
/-! ### comprehensions -/
def lcGoal (J : It) (g : TG) (tt : TT) (te : TE) (vs : List Nat) (σ : L2.St) (Q : VK) (D : Addr) (H1 : Hp) : Prop := ∃ W : Nat → Nat → Hp → Prop, (∃ m, W 0 m (upd H1 D (.lst []))) ∧ ∀ i m H, W i m H →
  (J.stop i H ∧ Q (.ref D) H) ∨ (J.go i H ∧ ∃ Nx : Hp → Prop, (∀ H', Nx H' → ∃ m', m' < m ∧ W (i + 1) m' H') ∧ ∀ x H', J.yld i H x H' → g x (wipe σ vs) H' fun σ2 H2 => wipe σ2 vs = wipe σ vs ∧ tt σ2 H2 fun b H3 =>
    if b = true then te σ2 H3 fun y H4 => ∃ acc, H4 D = some (.lst acc) ∧ acc.length < sizeLine ∧ Nx (upd H4 D (.lst (acc ++ [y]))) else Nx H3)
theorem s_lc {wi : TI} {g : TG} {tt : TT} {te : TE} {vs : List Nat} {Q : VK} (h : wi σ H fun J H1 => ∀ D, H1 D = none → lcGoal J g tt te vs σ Q D H1) : tLc wi g tt te vs σ H Q := h
def lcAcc (D : Addr) (N : Hp → Prop) : VK := fun y H4 => ∃ acc, H4 D = some (.lst acc) ∧ acc.length < sizeLine ∧ N (upd H4 D (.lst (acc ++ [y])))
def lcBody (tt : TT) (te : TE) (vs : List Nat) (σ : L2.St) (D : Addr) (N : Hp → Prop) : L2.St → Hp → Prop := fun σ2 H2 => wipe σ2 vs = wipe σ vs ∧ tt σ2 H2 fun b H3 => if b = true then te σ2 H3 (lcAcc D N) else N H3
theorem s_lcB {tt : TT} {te : TE} {vs : List Nat} {σ2 : L2.St} {D : Addr} {N : Hp → Prop} (e : wipe σ2 vs = wipe σ vs) (h : tt σ2 H fun b H3 => if b = true then te σ2 H3 (lcAcc D N) else N H3) : lcBody tt te vs σ D N σ2 H := ⟨e, h⟩
theorem s_acc {D : Addr} {N : Hp → Prop} {acc : List V} {y : V} (e : H D = some (.lst acc)) (z : acc.length < sizeLine) (h : N (upd H D (.lst (acc ++ [y])))) : lcAcc D N y H := ⟨acc, e, z, h⟩
theorem c_it {J : It} {n : Nat} {G : Hp → Prop} {Y : Nat → Hp → V → Hp → Prop} {g : TG} {tt : TT} {te : TE} {vs : List Nat} {Q : VK} {D : Addr} (w : Walk J n G Y) (Pv : Nat → Hp → Prop) (h0 : Pv 0 (upd H D (.lst []))) (hG : ∀ i H, i ≤ n → Pv i H → G H)
    (hs : ∀ i x H H', i < n → Pv i H → Y i H x H' → g x (wipe σ vs) H' (lcBody tt te vs σ D (Pv (i + 1)))) (hd : ∀ H, Pv n H → Q (.ref D) H) : lcGoal J g tt te vs σ Q D H := lc_it w Pv h0 hG hs hd
/-- a comprehension that leaves all that stood as it stood; R: what its list is -/
theorem c_gen {J : It} {n : Nat} {G : Hp → Prop} {Y : Nat → Hp → V → Hp → Prop} {g : TG} {tt : TT} {te : TE} {vs : List Nat} {Q : VK} {D : Addr} (w : Walk J n G Y) (hD : H D = none) (R : Nat → List V → Hp → Prop) (hG : ∀ H', Same H H' → G H') (h0 : R 0 [] (upd H D (.lst [])))
    (hs : ∀ i x H1 H2 acc, i < n → Same H H1 → H1 D = some (.lst acc) → R i acc H1 → Y i H1 x H2 → g x (wipe σ vs) H2 (lcBody tt te vs σ D fun H' => Same H H' ∧ ∃ acc', H' D = some (.lst acc') ∧ R (i + 1) acc' H'))
    (hd : ∀ H' acc, Same H H' → H' D = some (.lst acc) → R n acc H' → Q (.ref D) H') : lcGoal J g tt te vs σ Q D H :=
  c_it w (fun i H' => Same H H' ∧ ∃ acc, H' D = some (.lst acc) ∧ R i acc H') ⟨Same.upd' (Same.refl H) hD, [], upd_same, h0⟩ (fun _ _ _ p => hG _ p.1) (fun i x H1 H2 hi ⟨sm, acc, e, r⟩ y => hs i x H1 H2 acc hi sm e r y) fun H' ⟨sm, acc, e, r⟩ => hd H' acc sm e r
end
section
variable {K : PySem.W.Frag} {σ : L2.St} {H : Hp} {g : TG} {tt : TT} {te : TE} {vs : List Nat} {Q : VK} {D : Addr} {a : Addr} {xs : List V}
theorem c_enum (q : SqL K H a xs) (hD : H D = none) (R : Nat → List V → Hp → Prop) (h0 : R 0 [] (upd H D (.lst [])))
    (hs : ∀ i x T H1 acc, xs[i]? = some x → Same H H1 → H1 D = some (.lst acc) → R i acc H1 → H1 T = none → g (.ref T) (wipe σ vs) (upd H1 T (.tup [.int (i : Nat), x])) (lcBody tt te vs σ D fun H' => Same H H' ∧ ∃ acc', H' D = some (.lst acc') ∧ R (i + 1) acc' H'))
    (hd : ∀ H' acc, Same H H' → H' D = some (.lst acc) → R xs.length acc H' → Q (.ref D) H') : lcGoal (Ite K a) g tt te vs σ Q D H :=
  c_gen walk_enum hD R (fun _ s => Same.seq s q) h0 (fun i v H1 H2 acc _ sm e r y => by
    obtain ⟨T, x, y', e1, e2, e3, e4, e5⟩ := y
    cases e4; subst e1; subst e3
    exact hs i _ T H1 acc e5 sm e r e2) hd
theorem c_list (q : SqL K H a xs) (hD : H D = none) (R : Nat → List V → Hp → Prop) (h0 : R 0 [] (upd H D (.lst [])))
    (hs : ∀ i x H1 acc, xs[i]? = some x → Same H H1 → H1 D = some (.lst acc) → R i acc H1 → g x (wipe σ vs) H1 (lcBody tt te vs σ D fun H' => Same H H' ∧ ∃ acc', H' D = some (.lst acc') ∧ R (i + 1) acc' H'))
    (hd : ∀ H' acc, Same H H' → H' D = some (.lst acc) → R xs.length acc H' → Q (.ref D) H') : lcGoal (Itl K a) g tt te vs σ Q D H :=
  c_gen walk_list hD R (fun _ s => Same.seq s q) h0 (fun i v H1 H2 acc _ sm e r ⟨e1, e2⟩ => by subst e1; exact hs i v _ acc e2 sm e r) hd
theorem c_tup (q : SqT K H a xs) (hD : H D = none) (R : Nat → List V → Hp → Prop) (h0 : R 0 [] (upd H D (.lst [])))
    (hs : ∀ i x H1 acc, xs[i]? = some x → Same H H1 → H1 D = some (.lst acc) → R i acc H1 → g x (wipe σ vs) H1 (lcBody tt te vs σ D fun H' => Same H H' ∧ ∃ acc', H' D = some (.lst acc') ∧ R (i + 1) acc' H'))
    (hd : ∀ H' acc, Same H H' → H' D = some (.lst acc) → R xs.length acc H' → Q (.ref D) H') : lcGoal (Itt K a) g tt te vs σ Q D H :=
  c_gen walk_tup hD R (fun _ s => sT s q) h0 (fun i v H1 H2 acc _ sm e r ⟨e1, e2⟩ => by subst e1; exact hs i v _ acc e2 sm e r) hd
theorem c_range {lo : Int} {n : Nat} (hD : H D = none) (R : Nat → List V → Hp → Prop) (h0 : R 0 [] (upd H D (.lst [])))
    (hs : ∀ i H1 acc, i < n → Same H H1 → H1 D = some (.lst acc) → R i acc H1 → g (.int (lo + i)) (wipe σ vs) H1 (lcBody tt te vs σ D fun H' => Same H H' ∧ ∃ acc', H' D = some (.lst acc') ∧ R (i + 1) acc' H'))
    (hd : ∀ H' acc, Same H H' → H' D = some (.lst acc) → R n acc H' → Q (.ref D) H') : lcGoal (Itr lo n) g tt te vs σ Q D H :=
  c_gen walk_range hD R (fun _ _ => trivial) h0 (fun i v H1 H2 acc hi sm e r ⟨e1, e2⟩ => by subst e1; subst e2; exact hs i _ acc hi sm e r) hd
theorem un {p b : Addr} {o : HO} (e : upd H p o b = none) : b ≠ p ∧ H b = none := by
  by_cases h : b = p
  · rw [h, upd_same] at e; cases e
  · rw [upd_ne h] at e; exact ⟨h, e⟩
end
/-! ### items by numbers -/
theorem atI_of {α : Type} {xs : List α} {i : Int} {v : α} (h0 : 0 ≤ i) (h : xs[i.toNat]? = some v) : atI xs i = some v := by
  have e : i = (i.toNat : Int) := by omega
  rw [e]; exact atI_nat h
theorem ixN_of {n : Nat} {i : Int} (h0 : 0 ≤ i) (h1 : i < n) : ixN n i = some i.toNat := by unfold ixN; rw [if_pos h0, if_pos h1]
theorem atI_map {α : Type} (f : α → V) {xs : List α} {j : Nat} {a : α} (h : xs[j]? = some a) : atI (xs.map f) (j : Int) = some (f a) := atI_nat (by rw [List.getElem?_map, h]; rfl)
end Ow

/-! Layings of two rows of nodes, and the greatest count of pairs in a box. Plain mathematics. -/
namespace Sh

/-- a row of nodes: how many, rule and first node of each -/
structure Nd where
  n : Nat
  rule : Nat → Int
  first : Nat → Nat

/-- every node of the box begins within it -/
def Cl (A : Nd) (a x : Nat) : Prop := ∀ j, a ≤ j → j < x → a ≤ A.first j ∧ A.first j ≤ j
/-- nodes of a tree lie within one another -/
def Nest (A : Nd) (n : Nat) : Prop := ∀ k j, k < n → A.first k ≤ j → j ≤ k → A.first k ≤ A.first j ∧ A.first j ≤ j

abbrev Pr := Nat × Nat
def Rel1 (A B : Nd) (p q : Pr) : Prop := p.1 < q.1 ∧ p.2 < q.2 ∧ (A.first q.1 ≤ p.1 ↔ B.first q.2 ≤ p.2)
def Rel (A B : Nd) (p q : Pr) : Prop := Rel1 A B p q ∨ Rel1 A B q p
theorem Rel.symm {A B : Nd} {p q : Pr} (h : Rel A B p q) : Rel A B q p := h.elim .inr .inl
theorem Rel.ne {A B : Nd} {p q : Pr} (h : Rel A B p q) : p ≠ q := by
  intro e
  subst e
  rcases h with h | h <;> exact absurd h.1 (Nat.lt_irrefl _)
theorem Rel.ne1 {A B : Nd} {p q : Pr} (h : Rel A B p q) : p.1 ≠ q.1 := by
  rcases h with h | h
  · exact Nat.ne_of_lt h.1
  · exact (Nat.ne_of_lt h.1).symm

def In (A B : Nd) (a x b y : Nat) (p : Pr) : Prop := a ≤ p.1 ∧ p.1 < x ∧ b ≤ p.2 ∧ p.2 < y ∧ A.rule p.1 = B.rule p.2
structure Lay (A B : Nd) (a x b y : Nat) (l : List Pr) : Prop where
  mem : ∀ p ∈ l, In A B a x b y p
  pw : l.Pairwise (Rel A B)

theorem pw_get {α : Type} {R : α → α → Prop} (sy : ∀ p q, R p q → R q p) : ∀ {l : List α}, l.Pairwise R → ∀ {p q : α}, p ∈ l → q ∈ l → p ≠ q → R p q
  | [], _, _, _, h, _, _ => nomatch h
  | a :: r, h, p, q, hp, hq, ne => by
    obtain ⟨h1, h2⟩ := List.pairwise_cons.mp h
    rcases List.mem_cons.mp hp with e | hp
    · rcases List.mem_cons.mp hq with e' | hq
      · exact absurd (e.trans e'.symm) ne
      · rw [e]; exact h1 q hq
    · rcases List.mem_cons.mp hq with e' | hq
      · rw [e']; exact sy _ _ (h1 p hp)
      · exact pw_get sy h2 hp hq ne
theorem Lay.get {A B : Nd} {a x b y : Nat} {l : List Pr} (h : Lay A B a x b y l) {p q : Pr} (hp : p ∈ l) (hq : q ∈ l) (ne : p ≠ q) : Rel A B p q :=
  pw_get (fun _ _ => Rel.symm) h.pw hp hq ne
theorem Lay.nodup {A B : Nd} {a x b y : Nat} {l : List Pr} (h : Lay A B a x b y l) : l.Nodup := h.pw.imp Rel.ne
theorem Lay.nil {A B : Nd} {a x b y : Nat} : Lay A B a x b y [] := ⟨fun _ h => (nomatch h), .nil⟩
theorem Lay.perm {A B : Nd} {a x b y : Nat} {l l' : List Pr} (h : Lay A B a x b y l) (e : l.Perm l') : Lay A B a x b y l' :=
  ⟨fun p hp => h.mem p (e.mem_iff.mpr hp), e.pairwise h.pw (fun h => Rel.symm h)⟩
theorem Lay.sub {A B : Nd} {a x b y : Nat} {l l' : List Pr} (h : Lay A B a x b y l) (e : l'.Sublist l) : Lay A B a x b y l' :=
  ⟨fun p hp => h.mem p (e.subset hp), h.pw.sublist e⟩
theorem Lay.wide {A B : Nd} {a x b y a' x' b' y' : Nat} {l : List Pr} (h : Lay A B a x b y l) (ha : a' ≤ a) (hx : x ≤ x') (hb : b' ≤ b) (hy : y ≤ y') : Lay A B a' x' b' y' l :=
  ⟨fun p hp => by obtain ⟨h1, h2, h3, h4, h5⟩ := h.mem p hp; exact ⟨by omega, by omega, by omega, by omega, h5⟩, h.pw⟩
/-- another box in which all pairs lie -/
theorem Lay.box {A B : Nd} {a x b y a' x' b' y' : Nat} {l : List Pr} (h : Lay A B a x b y l) (hm : ∀ p ∈ l, a' ≤ p.1 ∧ p.1 < x' ∧ b' ≤ p.2 ∧ p.2 < y') : Lay A B a' x' b' y' l :=
  ⟨fun p hp => by obtain ⟨h1, h2, h3, h4⟩ := hm p hp; exact ⟨h1, h2, h3, h4, (h.mem p hp).2.2.2.2⟩, h.pw⟩

/-- numbers below n, no two alike, are at most n -/
theorem nodup_le : ∀ (n : Nat) (l : List Nat), l.Nodup → (∀ k ∈ l, k < n) → l.length ≤ n
  | 0, l, _, h => by
    cases l with
    | nil => exact Nat.le_refl _
    | cons a r => exact absurd (h a List.mem_cons_self) (Nat.not_lt_zero _)
  | n + 1, l, hn, h => by
    by_cases e : n ∈ l
    · have h1 : (l.erase n).Nodup := hn.erase n
      have h2 := nodup_le n (l.erase n) h1 fun k hk => by
        have k1 := h k (List.mem_of_mem_erase hk)
        have k2 : k ≠ n := by
          intro q
          subst q
          exact (hn.mem_erase_iff.mp hk).1 rfl
        omega
      rw [List.length_erase_of_mem e] at h2
      omega
    · have := nodup_le n l hn fun k hk => by
        have k1 := h k hk
        have k2 : k ≠ n := fun q => e (q ▸ hk)
        omega
      omega
theorem pw_map_nodup {A B : Nd} {l : List Pr} (h : l.Pairwise (Rel A B)) (a : Nat) (ha : ∀ p ∈ l, a ≤ p.1) : (l.map fun p => p.1 - a).Nodup := by
  rw [List.Nodup, List.pairwise_map]
  refine List.Pairwise.imp_of_mem (fun {p q} hp hq r => ?_) h
  have h1 := ha p hp
  have h2 := ha q hq
  have := r.ne1
  omega
theorem Lay.le {A B : Nd} {a x b y : Nat} {l : List Pr} (h : Lay A B a x b y l) : l.length ≤ x - a := by
  have h1 := nodup_le (x - a) _ (pw_map_nodup h.pw a fun p hp => (h.mem p hp).1) fun k hk => by
    obtain ⟨p, hp, rfl⟩ := List.mem_map.mp hk
    have := h.mem p hp
    have := this.1
    have := (h.mem p hp).2.1
    omega
  rw [List.length_map] at h1
  exact h1

theorem exists_max (P : Nat → Prop) : ∀ B : Nat, (∃ n, P n) → (∀ n, P n → n ≤ B) → ∃ n, P n ∧ ∀ m, P m → m ≤ n
  | 0, ⟨n, hn⟩, hb => ⟨n, hn, fun m hm => by have := hb m hm; have := hb n hn; omega⟩
  | B + 1, he, hb => by
    by_cases h : P (B + 1)
    · exact ⟨B + 1, h, hb⟩
    · exact exists_max P B he fun n hn => by
        have := hb n hn
        have : n ≠ B + 1 := fun e => h (e ▸ hn)
        omega
/-- n is the greatest count of a laying in the box -/
def IsM (A B : Nd) (a x b y n : Nat) : Prop := (∃ l, Lay A B a x b y l ∧ l.length = n) ∧ ∀ l, Lay A B a x b y l → l.length ≤ n
theorem isM_ex (A B : Nd) (a x b y : Nat) : ∃ n, IsM A B a x b y n := by
  obtain ⟨n, h1, h2⟩ := exists_max (fun n => ∃ l, Lay A B a x b y l ∧ l.length = n) (x - a) ⟨0, [], .nil, rfl⟩ fun n ⟨l, h, e⟩ => e ▸ h.le
  exact ⟨n, h1, fun l h => h2 _ ⟨l, h, rfl⟩⟩
noncomputable def M (A B : Nd) (a x b y : Nat) : Nat := Classical.choose (isM_ex A B a x b y)
theorem M_is (A B : Nd) (a x b y : Nat) : IsM A B a x b y (M A B a x b y) := Classical.choose_spec (isM_ex A B a x b y)
theorem M_ge {A B : Nd} {a x b y : Nat} {l : List Pr} (h : Lay A B a x b y l) : l.length ≤ M A B a x b y := (M_is A B a x b y).2 l h
theorem M_ex (A B : Nd) (a x b y : Nat) : ∃ l, Lay A B a x b y l ∧ l.length = M A B a x b y := (M_is A B a x b y).1
theorem M_le {A B : Nd} {a x b y k : Nat} (h : ∀ l, Lay A B a x b y l → l.length ≤ k) : M A B a x b y ≤ k := by
  obtain ⟨l, hl, e⟩ := M_ex A B a x b y
  rw [← e]
  exact h l hl
theorem M_mono {A B : Nd} {a x b y a' x' b' y' : Nat} (ha : a' ≤ a) (hx : x ≤ x') (hb : b' ≤ b) (hy : y ≤ y') : M A B a x b y ≤ M A B a' x' b' y' :=
  M_le fun _ h => M_ge (h.wide ha hx hb hy)
theorem M_empty1 {A B : Nd} {a x b y : Nat} (h : x ≤ a) : M A B a x b y = 0 := by
  have : M A B a x b y ≤ 0 := M_le fun l hl => by have := hl.le; omega
  omega
theorem M_empty2 {A B : Nd} {a x b y : Nat} (h : y ≤ b) : M A B a x b y = 0 := by
  have : M A B a x b y ≤ 0 := M_le fun l hl => by
    cases l with
    | nil => exact Nat.le_refl _
    | cons p r =>
      obtain ⟨_, _, h3, h4, _⟩ := hl.mem p List.mem_cons_self
      omega
  omega
theorem M_le_width {A B : Nd} {a x b y : Nat} : M A B a x b y ≤ x - a := M_le fun _ h => h.le

/-! ### laid together -/
theorem glue {A B : Nd} {a u x b v y : Nat} {l1 l2 : List Pr} (h1 : Lay A B a u b v l1) (h2 : Lay A B u x v y l2) (c1 : Cl A u x) (c2 : Cl B v y) (hau : a ≤ u) (hux : u ≤ x) (hbv : b ≤ v) (hvy : v ≤ y) : Lay A B a x b y (l1 ++ l2) := by
  refine ⟨fun p hp => ?_, List.pairwise_append.mpr ⟨h1.pw, h2.pw, fun p hp q hq => ?_⟩⟩
  · rcases List.mem_append.mp hp with hp | hp
    · exact (h1.wide (Nat.le_refl _) hux (Nat.le_refl _) hvy).mem p hp
    · exact (h2.wide hau (Nat.le_refl _) hbv (Nat.le_refl _)).mem p hp
  · obtain ⟨p1, p2, p3, p4, _⟩ := h1.mem p hp
    obtain ⟨q1, q2, q3, q4, _⟩ := h2.mem q hq
    have k1 := (c1 q.1 q1 q2).1
    have k2 := (c2 q.2 q3 q4).1
    exact .inl ⟨by omega, by omega, by constructor <;> intro <;> omega⟩
theorem root {A B : Nd} {x y : Nat} {l : List Pr} (h : Lay A B (A.first x) x (B.first y) y l) (e : A.rule x = B.rule y) (hx : A.first x ≤ x) (hy : B.first y ≤ y) : Lay A B (A.first x) (x + 1) (B.first y) (y + 1) (l ++ [(x, y)]) := by
  refine ⟨fun p hp => ?_, List.pairwise_append.mpr ⟨h.pw, List.pairwise_singleton _ _, fun p hp q hq => ?_⟩⟩
  · rcases List.mem_append.mp hp with hp | hp
    · exact (h.wide (Nat.le_refl _) (Nat.le_succ _) (Nat.le_refl _) (Nat.le_succ _)).mem p hp
    · have e' : p = (x, y) := by simpa using hp
      subst e'
      exact ⟨hx, Nat.lt_succ_self _, hy, Nat.lt_succ_self _, e⟩
  · have e' : q = (x, y) := by simpa using hq
    subst e'
    obtain ⟨p1, p2, p3, p4, _⟩ := h.mem p hp
    exact .inl ⟨p2, p4, by constructor <;> intro <;> assumption⟩

/-- a laying in a box with the last nodes x, y: without x, without y, or with the pair -/
theorem three {A B : Nd} {a x b y : Nat} {l : List Pr} (h : Lay A B a (x + 1) b (y + 1) l) :
    Lay A B a x b (y + 1) l ∨ Lay A B a (x + 1) b y l ∨ ((x, y) ∈ l ∧ ∀ q ∈ l, q ≠ (x, y) → q.1 < x ∧ q.2 < y ∧ (A.first x ≤ q.1 ↔ B.first y ≤ q.2)) := by
  by_cases h1 : ∃ p ∈ l, p.1 = x
  · by_cases h2 : ∃ p ∈ l, p.2 = y
    · obtain ⟨p, hp, e1⟩ := h1
      obtain ⟨q, hq, e2⟩ := h2
      have e : p = q := by
        by_cases e : p = q
        · exact e
        · obtain ⟨p1, p2, p3, p4, _⟩ := h.mem p hp
          obtain ⟨q1, q2, q3, q4, _⟩ := h.mem q hq
          rcases h.get hp hq e with r | r
          · have := r.1; omega
          · have := r.2.1; omega
      subst e
      have e : p = (x, y) := by rw [← e1, ← e2]
      subst e
      refine .inr (.inr ⟨hp, fun q hq ne => ?_⟩)
      obtain ⟨q1, q2, q3, q4, _⟩ := h.mem q hq
      rcases h.get hq hp ne with r | r
      · exact r
      · have := r.1
        have : x < q.1 := this
        omega
    · refine .inr (.inl (h.box fun p hp => ?_))
      obtain ⟨p1, p2, p3, p4, _⟩ := h.mem p hp
      have : p.2 ≠ y := fun e => h2 ⟨p, hp, e⟩
      omega
  · refine .inl (h.box fun p hp => ?_)
    obtain ⟨p1, p2, p3, p4, _⟩ := h.mem p hp
    have : p.1 ≠ x := fun e => h1 ⟨p, hp, e⟩
    omega

theorem filter_len {α : Type} (f : α → Bool) : ∀ l : List α, (l.filter f).length + (l.filter fun x => !f x).length = l.length
  | [] => rfl
  | a :: r => by
    have ih := filter_len f r
    rw [List.filter_cons, List.filter_cons]
    cases f a <;> simp <;> omega

/-- the table's rule for two whole trees -/
theorem M_rec1 {A B : Nd} {x y : Nat} (hx : A.first x ≤ x) (hy : B.first y ≤ y) :
    M A B (A.first x) (x + 1) (B.first y) (y + 1) = max (max (M A B (A.first x) x (B.first y) (y + 1)) (M A B (A.first x) (x + 1) (B.first y) y)) (M A B (A.first x) x (B.first y) y + if A.rule x = B.rule y then 1 else 0) := by
  apply Nat.le_antisymm
  · refine M_le fun l h => ?_
    rcases three h with h1 | h1 | ⟨hm, hq⟩
    · have := M_ge h1; omega
    · have := M_ge h1; omega
    · have e : A.rule x = B.rule y := (h.mem _ hm).2.2.2.2
      rw [if_pos e]
      have h2 : Lay A B (A.first x) x (B.first y) y (l.erase (x, y)) := (h.sub List.erase_sublist).box fun p hp => by
        obtain ⟨ne, hp'⟩ := h.nodup.mem_erase_iff.mp hp
        obtain ⟨p1, p2, p3, p4, _⟩ := h.mem p hp'
        obtain ⟨q1, q2, _⟩ := hq p hp' ne
        exact ⟨p1, q1, p3, q2⟩
      have := M_ge h2
      rw [List.length_erase_of_mem hm] at this
      omega
  · have h1 : M A B (A.first x) x (B.first y) (y + 1) ≤ M A B (A.first x) (x + 1) (B.first y) (y + 1) := M_mono (Nat.le_refl _) (Nat.le_succ _) (Nat.le_refl _) (Nat.le_refl _)
    have h2 : M A B (A.first x) (x + 1) (B.first y) y ≤ M A B (A.first x) (x + 1) (B.first y) (y + 1) := M_mono (Nat.le_refl _) (Nat.le_refl _) (Nat.le_refl _) (Nat.le_succ _)
    have h3 : M A B (A.first x) x (B.first y) y + (if A.rule x = B.rule y then 1 else 0) ≤ M A B (A.first x) (x + 1) (B.first y) (y + 1) := by
      by_cases e : A.rule x = B.rule y
      · rw [if_pos e]
        obtain ⟨l, hl, el⟩ := M_ex A B (A.first x) x (B.first y) y
        have := M_ge (root hl e hx hy)
        rw [List.length_append, el] at this
        exact this
      · rw [if_neg e]
        exact M_mono (Nat.le_refl _) (Nat.le_succ _) (Nat.le_refl _) (Nat.le_succ _)
    omega
/-- the table's rule for any two forests -/
theorem M_rec2 {A B : Nd} {a x b y : Nat} (hx : A.first x ≤ x) (hy : B.first y ≤ y) (ha : a ≤ A.first x) (hb : b ≤ B.first y) (c1 : Cl A (A.first x) (x + 1)) (c2 : Cl B (B.first y) (y + 1)) :
    M A B a (x + 1) b (y + 1) = max (max (M A B a x b (y + 1)) (M A B a (x + 1) b y)) (M A B a (A.first x) b (B.first y) + M A B (A.first x) (x + 1) (B.first y) (y + 1)) := by
  apply Nat.le_antisymm
  · refine M_le fun l h => ?_
    rcases three h with h1 | h1 | ⟨hm, hq⟩
    · have := M_ge h1; omega
    · have := M_ge h1; omega
    · have h2 : Lay A B (A.first x) (x + 1) (B.first y) (y + 1) (l.filter fun p => decide (A.first x ≤ p.1)) := (h.sub List.filter_sublist).box fun p hp => by
        obtain ⟨hp', e⟩ := List.mem_filter.mp hp
        have e := of_decide_eq_true e
        obtain ⟨p1, p2, p3, p4, _⟩ := h.mem p hp'
        refine ⟨e, p2, ?_, p4⟩
        by_cases ne : p = (x, y)
        · rw [ne]; exact hy
        · exact (hq p hp' ne).2.2.mp e
      have h3 : Lay A B a (A.first x) b (B.first y) (l.filter fun p => !decide (A.first x ≤ p.1)) := (h.sub List.filter_sublist).box fun p hp => by
        obtain ⟨hp', e⟩ := List.mem_filter.mp hp
        have e : ¬ A.first x ≤ p.1 := by simpa using e
        obtain ⟨p1, p2, p3, p4, _⟩ := h.mem p hp'
        have ne : p ≠ (x, y) := fun q => e (by rw [q]; exact hx)
        have k := (hq p hp' ne).2.2
        refine ⟨p1, Nat.lt_of_not_le e, p3, Nat.lt_of_not_le fun z => e (k.mpr z)⟩
      have := M_ge h2
      have := M_ge h3
      have := filter_len (fun p : Pr => decide (A.first x ≤ p.1)) l
      omega
  · have h1 : M A B a x b (y + 1) ≤ M A B a (x + 1) b (y + 1) := M_mono (Nat.le_refl _) (Nat.le_succ _) (Nat.le_refl _) (Nat.le_refl _)
    have h2 : M A B a (x + 1) b y ≤ M A B a (x + 1) b (y + 1) := M_mono (Nat.le_refl _) (Nat.le_refl _) (Nat.le_refl _) (Nat.le_succ _)
    obtain ⟨l1, hl1, el1⟩ := M_ex A B a (A.first x) b (B.first y)
    obtain ⟨l2, hl2, el2⟩ := M_ex A B (A.first x) (x + 1) (B.first y) (y + 1)
    have := M_ge (glue hl1 hl2 c1 c2 ha (by omega) hb (by omega))
    rw [List.length_append] at this
    omega
end Sh

/-! Rows of nodes as lists, trees as forests. Plain mathematics. -/
namespace Sh
structure NR where
  rules : List Int
  firsts : List Nat
namespace NR
abbrev n (A : NR) : Nat := A.rules.length
def rule (A : NR) (k : Nat) : Int := A.rules.getD k 0
def first (A : NR) (k : Nat) : Nat := A.firsts.getD k 0
abbrev nd (A : NR) : Nd := ⟨A.rules.length, A.rule, A.first⟩
structure Ok (A : NR) : Prop where
  len : A.firsts.length = A.rules.length
  le : ∀ k, k < A.n → A.first k ≤ k
  nest : ∀ k j, k < A.n → A.first k ≤ j → j ≤ k → A.first k ≤ A.first j
  small : A.n ≤ 1000
def sizes (A : NR) : List Int := (List.range A.n).map fun (k : Nat) => (k : Int) - (A.first k : Int)
/-- of all nodes with the same first one the last, ascending -/
structure Heads (A : NR) (hs : List Nat) : Prop where
  asc : hs.Pairwise (· < ·)
  iff : ∀ k, k ∈ hs ↔ k < A.n ∧ ∀ j, k < j → j < A.n → A.first j ≠ A.first k
theorem rule_get {A : NR} {k : Nat} (h : k < A.n) : A.rules[k]? = some (A.rule k) := by
  unfold rule; rw [List.getD_eq_getElem?_getD, List.getElem?_eq_getElem h]; rfl
theorem first_get {A : NR} (o : A.Ok) {k : Nat} (h : k < A.n) : A.firsts[k]? = some (A.first k) := by
  have h' : k < A.firsts.length := by rw [o.len]; exact h
  unfold first; rw [List.getD_eq_getElem?_getD, List.getElem?_eq_getElem h']; rfl
theorem size_get {A : NR} {k : Nat} (h : k < A.n) : A.sizes[k]? = some ((k : Int) - (A.first k : Int)) := by
  unfold sizes; rw [List.getElem?_map, List.getElem?_range h]; rfl
theorem sizes_len (A : NR) : A.sizes.length = A.n := by unfold sizes; rw [List.length_map, List.length_range]
theorem cl_tree {A : NR} (o : A.Ok) {x : Nat} (h : x < A.n) : Cl A.nd (A.first x) (x + 1) := fun j h1 h2 =>
  ⟨o.nest x j h h1 (by omega), o.le j (by omega)⟩
theorem cl_all {A : NR} (o : A.Ok) : Cl A.nd 0 A.n := fun j _ h2 => ⟨Nat.zero_le _, o.le j h2⟩
/-- the root of the first tree of the forest lo .. hi -/
structure Root (A : NR) (lo hi r : Nat) : Prop where
  ge : lo ≤ r
  lt : r < hi
  first : A.first r = lo
  rest : Cl A.nd (r + 1) hi
theorem cl_step {A : NR} (o : A.Ok) {r hi : Nat} (h : r < A.n) (c : Cl A.nd (r + 1) hi) : Cl A.nd (A.first r) hi := fun j h1 h2 => by
  have l := o.le r h
  by_cases e : j ≤ r
  · exact ⟨o.nest r j h h1 e, o.le j (by omega)⟩
  · obtain ⟨c1, c2⟩ := c j (by omega) h2
    exact ⟨Nat.le_trans (by omega) c1, c2⟩
/-- the nodes from lo to hi - 1 under one more node -/
def under (A : NR) (lo hi : Nat) (mark : Int) : NR := ⟨(A.rules.drop lo).take (hi - lo) ++ [mark], ((A.firsts.drop lo).take (hi - lo)).map (· - lo) ++ [0]⟩
section
variable {A : NR} {lo hi : Nat} {mark : Int} (o : A.Ok) (h : lo ≤ hi) (hn : hi ≤ A.n)
include o h hn
theorem under_n : (A.under lo hi mark).n = hi - lo + 1 := by
  have z1 : A.rules.length = A.n := rfl
  simp only [n, under, List.length_append, List.length_take, List.length_drop, List.length_singleton]; omega
theorem under_rule {k : Nat} (hk : k < hi - lo) : (A.under lo hi mark).rule k = A.rule (lo + k) := by
  have z : ((A.rules.drop lo).take (hi - lo)).length = hi - lo := by
    rw [List.length_take, List.length_drop]; have : A.rules.length = A.n := rfl; omega
  simp only [rule, under, List.getD_eq_getElem?_getD]
  rw [List.getElem?_append_left (by omega), List.getElem?_take_of_lt hk, List.getElem?_drop]
theorem under_top : (A.under lo hi mark).rule (hi - lo) = mark := by
  have z : ((A.rules.drop lo).take (hi - lo)).length = hi - lo := by
    rw [List.length_take, List.length_drop]; have : A.rules.length = A.n := rfl; omega
  simp only [rule, under, List.getD_eq_getElem?_getD]
  rw [List.getElem?_append_right (by omega), z, Nat.sub_self]; rfl
theorem under_flen : ((A.firsts.drop lo).take (hi - lo)).length = hi - lo := by
  rw [List.length_take, List.length_drop]; have := o.len; have z1 : A.rules.length = A.n := rfl; omega
theorem under_first {k : Nat} (hk : k < hi - lo) : (A.under lo hi mark).first k = A.first (lo + k) - lo := by
  have z := under_flen o h hn
  simp only [first, under, List.getD_eq_getElem?_getD]
  rw [List.getElem?_append_left (by rw [List.length_map]; omega), List.getElem?_map, List.getElem?_take_of_lt hk, List.getElem?_drop]
  have h' : lo + k < A.firsts.length := by have z1 : A.rules.length = A.n := rfl; rw [o.len]; omega
  rw [List.getElem?_eq_getElem h']; rfl
theorem under_ftop : (A.under lo hi mark).first (hi - lo) = 0 := by
  have z := under_flen o h hn
  simp only [first, under, List.getD_eq_getElem?_getD]
  rw [List.getElem?_append_right (by rw [List.length_map]; omega), List.length_map, z, Nat.sub_self]; rfl
theorem under_ok (c : Cl A.nd lo hi) (hs : hi - lo < 1000) : (A.under lo hi mark).Ok := by
  have en := under_n (mark := mark) o h hn
  refine ⟨?_, fun k hk => ?_, fun k j hk h1 h2 => ?_, by omega⟩
  · have z := under_flen o h hn
    have z2 : (A.under lo hi mark).rules.length = hi - lo + 1 := en
    rw [z2]; simp only [under, List.length_append, List.length_map, List.length_singleton]; omega
  · by_cases e : k < hi - lo
    · rw [under_first o h hn e]; have := o.le (lo + k) (by omega); omega
    · have : k = hi - lo := by omega
      subst this; rw [under_ftop o h hn]; exact Nat.zero_le _
  · by_cases e : k < hi - lo
    · rw [under_first o h hn e] at h1 ⊢
      have e2 : j < hi - lo := by omega
      rw [under_first o h hn e2]
      have c1 := (c (lo + k) (by omega) (by omega)).1
      have c1 : lo ≤ A.first (lo + k) := c1
      have := o.nest (lo + k) (lo + j) (by omega) (by omega) (by omega)
      omega
    · have : k = hi - lo := by omega
      subst this; rw [under_ftop o h hn]; exact Nat.zero_le _
end
end NR

theorem mapTake {α β : Type} (f : α → β) {l : List α} {i : Nat} {a : α} (h : l[i]? = some a) : (l.take i).map f ++ [f a] = (l.take (i + 1)).map f := by
  rw [List.take_add_one, h]; simp
/-! ### forests: first child, next sibling -/
inductive Fo where
  | nil
  | leaf (t : Int) (rest : Fo)
  | node (r : Int) (kids rest : Fo)
namespace Fo
/-- how many nodes, how many parts (leaves, too) -/
def cnt : Fo → Nat
  | nil => 0
  | leaf _ s => s.cnt
  | node _ k s => k.cnt + 1 + s.cnt
def parts : Fo → Nat
  | nil => 0
  | leaf _ s => s.parts + 1
  | node _ k s => k.parts + 1 + s.parts
def rules : Fo → List Int
  | nil => []
  | leaf _ s => s.rules
  | node r k s => k.rules ++ r :: s.rules
def firsts : Nat → Fo → List Nat
  | _, nil => []
  | o, leaf _ s => s.firsts o
  | o, node _ k s => k.firsts o ++ o :: s.firsts (o + k.cnt + 1)
/-- how many trees -/
def trees : Fo → Nat
  | nil => 0
  | leaf _ s => s.trees + 1
  | node _ _ s => s.trees + 1
/-- all rules of nodes are within -/
def Within (P : Int → Prop) : Fo → Prop
  | nil => True
  | leaf _ s => s.Within P
  | node r k s => P r ∧ k.Within P ∧ s.Within P
theorem rules_len : ∀ f : Fo, f.rules.length = f.cnt
  | nil => rfl
  | leaf _ s => rules_len s
  | node r k s => by simp only [rules, cnt, List.length_append, List.length_cons, rules_len k, rules_len s]; omega
theorem firsts_len : ∀ (f : Fo) (o : Nat), (f.firsts o).length = f.cnt
  | nil, _ => rfl
  | leaf _ s, o => firsts_len s o
  | node r k s, o => by simp only [firsts, cnt, List.length_append, List.length_cons, firsts_len k, firsts_len s]; omega
theorem cnt_le_parts : ∀ f : Fo, f.cnt ≤ f.parts
  | nil => Nat.le_refl _
  | leaf _ s => Nat.le_succ_of_le (cnt_le_parts s)
  | node r k s => by have := cnt_le_parts k; have := cnt_le_parts s; simp only [cnt, parts]; omega
/-- what the firsts tell: with o ahead, they lie in their own part and nest -/
theorem firsts_ok : ∀ (f : Fo) (o k v : Nat), (f.firsts o)[k]? = some v → o ≤ v ∧ v ≤ o + k ∧ ∀ (j u : Nat), (f.firsts o)[j]? = some u → v ≤ o + j → j ≤ k → v ≤ u
  | nil, _, _, _, h => by simp [firsts] at h
  | leaf _ s, o, k, v, h => firsts_ok s o k v h
  | node r ks s, o, k, v, h => by
    have l1 := firsts_len ks o
    rw [show (node r ks s).firsts o = ks.firsts o ++ o :: s.firsts (o + ks.cnt + 1) from rfl] at h ⊢
    by_cases h1 : k < ks.cnt
    · rw [List.getElem?_append_left (by omega)] at h
      obtain ⟨a, b, c⟩ := firsts_ok ks o k v h
      refine ⟨a, b, fun j u hj h2 h3 => ?_⟩
      rw [List.getElem?_append_left (by omega)] at hj
      exact c j u hj h2 h3
    · rw [List.getElem?_append_right (by omega), l1] at h
      by_cases h2 : k = ks.cnt
      · subst h2
        rw [Nat.sub_self] at h
        have e : o = v := by simpa using h
        subst e
        refine ⟨Nat.le_refl _, Nat.le_add_right _ _, fun j u hj _ h3 => ?_⟩
        by_cases h4 : j < ks.cnt
        · rw [List.getElem?_append_left (by omega)] at hj
          exact (firsts_ok ks o j u hj).1
        · have : j = ks.cnt := by omega
          subst this
          rw [List.getElem?_append_right (by omega), l1, Nat.sub_self] at hj
          have : o = u := by simpa using hj
          omega
      · obtain ⟨m, hm⟩ : ∃ m, k = ks.cnt + 1 + m := ⟨k - ks.cnt - 1, by omega⟩
        subst hm
        rw [show ks.cnt + 1 + m - ks.cnt = m + 1 by omega, List.getElem?_cons_succ] at h
        obtain ⟨a, b, c⟩ := firsts_ok s _ m v h
        refine ⟨by omega, by omega, fun j u hj h3 h4 => ?_⟩
        have h5 : ks.cnt + 1 ≤ j := by omega
        obtain ⟨i, hi⟩ : ∃ i, j = ks.cnt + 1 + i := ⟨j - ks.cnt - 1, by omega⟩
        subst hi
        rw [List.getElem?_append_right (by omega), l1, show ks.cnt + 1 + i - ks.cnt = i + 1 by omega, List.getElem?_cons_succ] at hj
        exact c i u hj (by omega) (by omega)
/-- the row of the nodes -/
def nr (f : Fo) : NR := ⟨f.rules, f.firsts 0⟩
theorem nr_n (f : Fo) : f.nr.n = f.cnt := rules_len f
theorem nr_ok (f : Fo) (h : f.cnt ≤ 1000) : f.nr.Ok := by
  have en := nr_n f
  have gt : ∀ k, k < f.cnt → (f.firsts 0)[k]? = some (f.nr.first k) := fun k hk => by
    have h' : k < (f.firsts 0).length := by rw [firsts_len]; exact hk
    show (f.firsts 0)[k]? = some ((f.firsts 0).getD k 0)
    rw [List.getD_eq_getElem?_getD, List.getElem?_eq_getElem h']; rfl
  refine ⟨by show (f.firsts 0).length = f.rules.length; rw [firsts_len, rules_len], fun k hk => ?_, fun k j hk h1 h2 => ?_, by omega⟩
  · have := (firsts_ok f 0 k _ (gt k (by omega))).2.1; omega
  · exact (firsts_ok f 0 k _ (gt k (by omega))).2.2 j _ (gt j (by omega)) (by omega) h2
end Fo
end Sh

/-! What is peeled off; rests under marks; the other way round. Plain mathematics. -/
namespace Sh
theorem Rel1.swap {A B : Nd} {p q : Pr} (h : Rel1 A B p q) : Rel1 B A p.swap q.swap := ⟨h.2.1, h.1, h.2.2.symm⟩
theorem Lay.swap {A B : Nd} {a x b y : Nat} {l : List Pr} (h : Lay A B a x b y l) : Lay B A b y a x (l.map Prod.swap) := by
  refine ⟨fun p hp => ?_, ?_⟩
  · obtain ⟨q, hq, rfl⟩ := List.mem_map.mp hp
    obtain ⟨h1, h2, h3, h4, h5⟩ := h.mem q hq
    exact ⟨h3, h4, h1, h2, h5.symm⟩
  · rw [List.pairwise_map]
    exact h.pw.imp fun r => r.elim (fun r => .inl r.swap) fun r => .inr r.swap
theorem Lay.le2 {A B : Nd} {a x b y : Nat} {l : List Pr} (h : Lay A B a x b y l) : l.length ≤ y - b := by
  have := h.swap.le
  rw [List.length_map] at this; exact this
theorem M_swap (A B : Nd) (a x b y : Nat) : M A B a x b y = M B A b y a x := by
  apply Nat.le_antisymm
  · refine M_le fun l h => ?_
    have := M_ge h.swap
    rw [List.length_map] at this; exact this
  · refine M_le fun l h => ?_
    have := M_ge h.swap
    rw [List.length_map] at this; exact this
/-- a root that is alike on both sides -/
theorem M_root {A B : Nd} {x y : Nat} (hx : A.first x ≤ x) (hy : B.first y ≤ y) (e : A.rule x = B.rule y) : M A B (A.first x) (x + 1) (B.first y) (y + 1) = 1 + M A B (A.first x) x (B.first y) y := by
  apply Nat.le_antisymm
  · refine M_le fun l h => ?_
    -- at most one pair touches x or y
    have sub : ∀ l', Lay A B (A.first x) (x + 1) (B.first y) (y + 1) l' → (∀ p ∈ l', p.1 ≠ x ∧ p.2 ≠ y) → l'.length ≤ M A B (A.first x) x (B.first y) y := fun l' h' hn =>
      M_ge (h'.box fun p hp => by
        obtain ⟨h1, h2, h3, h4, _⟩ := h'.mem p hp
        obtain ⟨n1, n2⟩ := hn p hp
        omega)
    by_cases t : ∃ p ∈ l, p.1 = x ∨ p.2 = y
    · obtain ⟨p, hp, hpt⟩ := t
      have h1 := sub (l.erase p) (h.sub List.erase_sublist) fun q hq => by
        obtain ⟨ne, hq'⟩ := h.nodup.mem_erase_iff.mp hq
        obtain ⟨p1, p2, p3, p4, _⟩ := h.mem p hp
        obtain ⟨q1, q2, q3, q4, _⟩ := h.mem q hq'
        rcases h.get hq' hp ne with r | r
        · have r1 := r.1; have r2 := r.2.1
          omega
        · have r1 := r.1; have r2 := r.2.1
          omega
      rw [List.length_erase_of_mem hp] at h1
      omega
    · have h1 := sub l h fun p hp => ⟨fun z => t ⟨p, hp, .inl z⟩, fun z => t ⟨p, hp, .inr z⟩⟩
      omega
  · obtain ⟨l, hl, el⟩ := M_ex A B (A.first x) x (B.first y) y
    have := M_ge (root hl e hx hy)
    rw [List.length_append, el] at this
    simp at this; omega

/-- two trees are the same, leaves apart: d more nodes below each root -/
structure SameT (A B : Nd) (u v d : Nat) : Prop where
  rule : ∀ i, i ≤ d → A.rule (u + i) = B.rule (v + i)
  first : ∀ i, i ≤ d → u ≤ A.first (u + i) ∧ A.first (u + i) ≤ u + i ∧ A.first (u + i) + v = B.first (v + i) + u
def idl (u v d : Nat) : List Pr := (List.range (d + 1)).map fun i => (u + i, v + i)
theorem idl_len (u v d : Nat) : (idl u v d).length = d + 1 := by unfold idl; rw [List.length_map, List.length_range]
theorem SameT.lay {A B : Nd} {u v d : Nat} (h : SameT A B u v d) : Lay A B u (u + d + 1) v (v + d + 1) (idl u v d) := by
  refine ⟨fun p hp => ?_, ?_⟩
  · obtain ⟨i, hi, rfl⟩ := List.mem_map.mp hp
    have := List.mem_range.mp hi
    exact ⟨Nat.le_add_right _ _, by show u + i < _; omega, Nat.le_add_right _ _, by show v + i < _; omega, h.rule i (by omega)⟩
  · unfold idl
    rw [List.pairwise_map]
    refine List.Pairwise.imp_of_mem (fun {i j} hi hj hij => ?_) List.pairwise_lt_range
    have := List.mem_range.mp hj
    obtain ⟨f1, f2, f3⟩ := h.first j (by omega)
    exact .inl ⟨by show u + i < u + j; omega, by show v + i < v + j; omega, by show A.first (u + j) ≤ u + i ↔ B.first (v + j) ≤ v + i; omega⟩
/-- a laying, split by a tree on each side: what touches them counts no more than the tree has -/
theorem split_le {A B : Nd} {a x b y c k : Nat} {l : List Pr} (h : Lay A B a x b y l) (X Y : Pr → Bool)
    (cross : ∀ p ∈ l, ∀ q ∈ l, X p = true → Y p = false → Y q = true → X q = false → False)
    (hX : (l.filter X).length ≤ c) (hY : (l.filter Y).length ≤ c) (hN : ∀ l', Lay A B a x b y l' → (∀ p ∈ l', p ∈ l ∧ X p = false ∧ Y p = false) → l'.length ≤ k) : l.length ≤ c + k := by
  by_cases t : ∃ q ∈ l, Y q = true ∧ X q = false
  · obtain ⟨q, hq, hq1, hq2⟩ := t
    have h1 := hN (l.filter fun p => !Y p) (h.sub List.filter_sublist) fun p hp => by
      obtain ⟨hp1, hp2⟩ := List.mem_filter.mp hp
      have hp2 : Y p = false := by simpa using hp2
      refine ⟨hp1, ?_, hp2⟩
      cases e : X p with
      | false => rfl
      | true => exact (cross p hp1 q hq e hp2 hq1 hq2).elim
    have := filter_len Y l
    omega
  · have h1 := hN (l.filter fun p => !X p) (h.sub List.filter_sublist) fun p hp => by
      obtain ⟨hp1, hp2⟩ := List.mem_filter.mp hp
      have hp2 : X p = false := by simpa using hp2
      refine ⟨hp1, hp2, ?_⟩
      cases e : Y p with
      | false => rfl
      | true => exact (t ⟨p, hp1, e, hp2⟩).elim
    have := filter_len X l
    omega
/-- the last trees are the same -/
theorem M_last {A B : Nd} {a u b v d : Nat} (s : SameT A B u v d) (ha : a ≤ u) (hb : b ≤ v) (c1 : Cl A u (u + d + 1)) (c2 : Cl B v (v + d + 1)) :
    M A B a (u + d + 1) b (v + d + 1) = (d + 1) + M A B a u b v := by
  apply Nat.le_antisymm
  · refine M_le fun l h => split_le h (fun p => decide (u ≤ p.1)) (fun p => decide (v ≤ p.2)) (fun p hp q hq h1 h2 h3 h4 => ?_) ?_ ?_ fun l' h' hn => ?_
    · have h1 := of_decide_eq_true h1; have h3 := of_decide_eq_true h3
      have h2 : ¬ v ≤ p.2 := by simpa using h2
      have h4 : ¬ u ≤ q.1 := by simpa using h4
      have ne : p ≠ q := fun e => by subst e; exact h4 h1
      rcases h.get hp hq ne with r | r
      · have := r.1; omega
      · have := r.2.1; omega
    · have h2 : Lay A B u (u + d + 1) b (v + d + 1) (l.filter fun p => decide (u ≤ p.1)) := (h.sub List.filter_sublist).box fun p hp => by
        obtain ⟨hp', e⟩ := List.mem_filter.mp hp
        obtain ⟨_, p2, p3, p4, _⟩ := h.mem p hp'
        exact ⟨of_decide_eq_true e, p2, p3, p4⟩
      have := h2.le; omega
    · have h2 : Lay A B a (u + d + 1) v (v + d + 1) (l.filter fun p => decide (v ≤ p.2)) := (h.sub List.filter_sublist).box fun p hp => by
        obtain ⟨hp', e⟩ := List.mem_filter.mp hp
        obtain ⟨p1, p2, _, p4, _⟩ := h.mem p hp'
        exact ⟨p1, p2, of_decide_eq_true e, p4⟩
      have := h2.le2; omega
    · refine M_ge (h'.box fun p hp => ?_)
      obtain ⟨hpl, h1, h2⟩ := hn p hp
      have h1 : ¬ u ≤ p.1 := by simpa using h1
      have h2 : ¬ v ≤ p.2 := by simpa using h2
      obtain ⟨p1, _, p3, _, _⟩ := h.mem p hpl
      omega
  · obtain ⟨l, hl, el⟩ := M_ex A B a u b v
    have := M_ge (glue hl s.lay c1 c2 ha (by omega) hb (by omega))
    rw [List.length_append, idl_len, el] at this
    omega
/-- the first trees are the same -/
theorem M_first {A B : Nd} {u x v y d : Nat} (s : SameT A B u v d) (hx : u + d + 1 ≤ x) (hy : v + d + 1 ≤ y) (c1 : Cl A (u + d + 1) x) (c2 : Cl B (v + d + 1) y) :
    M A B u x v y = (d + 1) + M A B (u + d + 1) x (v + d + 1) y := by
  apply Nat.le_antisymm
  · refine M_le fun l h => split_le h (fun p => decide (p.1 < u + d + 1)) (fun p => decide (p.2 < v + d + 1)) (fun p hp q hq h1 h2 h3 h4 => ?_) ?_ ?_ fun l' h' hn => ?_
    · have h1 := of_decide_eq_true h1; have h3 := of_decide_eq_true h3
      have h2 : ¬ p.2 < v + d + 1 := by simpa using h2
      have h4 : ¬ q.1 < u + d + 1 := by simpa using h4
      have ne : p ≠ q := fun e => by subst e; exact h4 h1
      rcases h.get hp hq ne with r | r
      · have := r.2.1; omega
      · have := r.1; omega
    · have h2 : Lay A B u (u + d + 1) v y (l.filter fun p => decide (p.1 < u + d + 1)) := (h.sub List.filter_sublist).box fun p hp => by
        obtain ⟨hp', e⟩ := List.mem_filter.mp hp
        obtain ⟨p1, _, p3, p4, _⟩ := h.mem p hp'
        exact ⟨p1, of_decide_eq_true e, p3, p4⟩
      have := h2.le; omega
    · have h2 : Lay A B u x v (v + d + 1) (l.filter fun p => decide (p.2 < v + d + 1)) := (h.sub List.filter_sublist).box fun p hp => by
        obtain ⟨hp', e⟩ := List.mem_filter.mp hp
        obtain ⟨p1, p2, p3, _, _⟩ := h.mem p hp'
        exact ⟨p1, p2, p3, of_decide_eq_true e⟩
      have := h2.le2; omega
    · refine M_ge (h'.box fun p hp => ?_)
      obtain ⟨hpl, h1, h2⟩ := hn p hp
      have h1 : ¬ p.1 < u + d + 1 := by simpa using h1
      have h2 : ¬ p.2 < v + d + 1 := by simpa using h2
      obtain ⟨_, p2, _, p4, _⟩ := h.mem p hpl
      omega
  · obtain ⟨l, hl, el⟩ := M_ex A B (u + d + 1) x (v + d + 1) y
    have := M_ge (glue s.lay hl c1 c2 (by omega) hx (by omega) hy)
    rw [List.length_append, idl_len, el] at this
    omega

/-! ### the peeling -/
structure PI (A B : Nd) (n m : Nat) (t : List Pr) (a x b y : Nat) : Prop where
  ax : a ≤ x
  xn : x ≤ n
  by_ : b ≤ y
  ym : y ≤ m
  c1 : Cl A a x
  c2 : Cl B b y
  glue : ∀ l, Lay A B a x b y l → Lay A B 0 n 0 m (t ++ l)
  cnt : M A B 0 n 0 m = t.length + M A B a x b y
theorem PI.step {A B : Nd} {n m : Nat} {t : List Pr} {a x b y : Nat} (h : PI A B n m t a x b y) {t' : List Pr} {a' x' b' y' : Nat} (h1 : a ≤ a') (h2 : a' ≤ x') (h3 : x' ≤ x) (h4 : b ≤ b') (h5 : b' ≤ y') (h6 : y' ≤ y) (c1 : Cl A a' x') (c2 : Cl B b' y')
    (g : ∀ l, Lay A B a' x' b' y' l → Lay A B a x b y (t' ++ l)) (c : M A B a x b y = t'.length + M A B a' x' b' y') : PI A B n m (t ++ t') a' x' b' y' :=
  ⟨h2, Nat.le_trans h3 h.xn, h5, Nat.le_trans h6 h.ym, c1, c2, fun l hl => by rw [List.append_assoc]; exact h.glue _ (g l hl), by rw [h.cnt, c, List.length_append]; omega⟩
theorem PI.start {A B : Nd} {n m : Nat} (c1 : Cl A 0 n) (c2 : Cl B 0 m) : PI A B n m [] 0 n 0 m :=
  ⟨Nat.zero_le _, Nat.le_refl _, Nat.zero_le _, Nat.le_refl _, c1, c2, fun l h => h, by simp⟩
theorem PI.last {A B : Nd} {n m : Nat} {t : List Pr} {a b u v d : Nat} (h : PI A B n m t a (u + d + 1) b (v + d + 1)) (s : SameT A B u v d) (c1 : Cl A u (u + d + 1)) (c2 : Cl B v (v + d + 1)) (ha : a ≤ u) (hb : b ≤ v) : PI A B n m (t ++ idl u v d) a u b v :=
  h.step (Nat.le_refl _) ha (by omega) (Nat.le_refl _) hb (by omega) (fun j h1 h2 => h.c1 j h1 (by omega)) (fun j h1 h2 => h.c2 j h1 (by omega))
    (fun l hl => (Sh.glue hl s.lay c1 c2 ha (by omega) hb (by omega)).perm List.perm_append_comm) (by rw [idl_len]; exact M_last s ha hb c1 c2)
theorem PI.first {A B : Nd} {n m : Nat} {t : List Pr} {x y u v d : Nat} (h : PI A B n m t u x v y) (s : SameT A B u v d) (hx : u + d + 1 ≤ x) (hy : v + d + 1 ≤ y) (c1 : Cl A (u + d + 1) x) (c2 : Cl B (v + d + 1) y) : PI A B n m (t ++ idl u v d) (u + d + 1) x (v + d + 1) y :=
  h.step (by omega) hx (Nat.le_refl _) (by omega) hy (Nat.le_refl _) c1 c2 (fun l hl => Sh.glue s.lay hl c1 c2 (by omega) hx (by omega) hy) (by rw [idl_len]; exact M_first s hx hy c1 c2)
theorem PI.root {A B : Nd} {n m : Nat} {t : List Pr} {x y : Nat} (h : PI A B n m t (A.first x) (x + 1) (B.first y) (y + 1)) (e : A.rule x = B.rule y) (hx : A.first x ≤ x) (hy : B.first y ≤ y) : PI A B n m (t ++ [(x, y)]) (A.first x) x (B.first y) y :=
  h.step (Nat.le_refl _) hx (Nat.le_succ _) (Nat.le_refl _) hy (Nat.le_succ _) (fun j h1 h2 => h.c1 j h1 (by omega)) (fun j h1 h2 => h.c2 j h1 (by omega))
    (fun l hl => (Sh.root hl e hx hy).perm List.perm_append_comm) (M_root hx hy e)

/-! ### rests under marks -/
theorem Lay.map {A B A' B' : Nd} {a x b y a' x' b' y' : Nat} {l : List Pr} (h : Lay A B a x b y l) (f : Pr → Pr) (hm : ∀ p ∈ l, In A' B' a' x' b' y' (f p)) (hr : ∀ p ∈ l, ∀ q ∈ l, Rel1 A B p q → Rel1 A' B' (f p) (f q)) : Lay A' B' a' x' b' y' (l.map f) := by
  refine ⟨fun p hp => ?_, ?_⟩
  · obtain ⟨q, hq, rfl⟩ := List.mem_map.mp hp
    exact hm q hq
  · rw [List.pairwise_map]
    refine List.Pairwise.imp_of_mem (fun {p q} hp hq r => ?_) h.pw
    exact r.elim (fun r => .inl (hr p hp q hq r)) fun r => .inr (hr q hq p hp r)
section
variable {A B : NR} {lo hi lo' hi' : Nat} (oA : A.Ok) (oB : B.Ok) (h1 : lo ≤ hi) (h2 : hi ≤ A.n) (h3 : lo' ≤ hi') (h4 : hi' ≤ B.n) (cA : Cl A.nd lo hi) (cB : Cl B.nd lo' hi') (nA : ∀ k, k < A.n → 0 ≤ A.rule k) (nB : ∀ k, k < B.n → 0 ≤ B.rule k)
def shift (lo lo' : Nat) (p : Pr) : Pr := (p.1 + lo, p.2 + lo')
include oA oB h1 h2 h3 h4 cA cB nA nB
/-- no pair of a laying of the rests has a mark -/
theorem no_mark {p : Pr} (h : In (A.under lo hi (-1)).nd (B.under lo' hi' (-2)).nd 0 (hi - lo + 1) 0 (hi' - lo' + 1) p) : p.1 < hi - lo ∧ p.2 < hi' - lo' := by
  obtain ⟨_, a, _, b, e⟩ := h
  have e : (A.under lo hi (-1)).rule p.1 = (B.under lo' hi' (-2)).rule p.2 := e
  by_cases c1 : p.1 < hi - lo
  · by_cases c2 : p.2 < hi' - lo'
    · exact ⟨c1, c2⟩
    · rw [show p.2 = hi' - lo' by omega, NR.under_top oB h3 h4, NR.under_rule oA h1 h2 c1] at e
      have := nA (lo + p.1) (by omega); omega
  · rw [show p.1 = hi - lo by omega, NR.under_top oA h1 h2] at e
    by_cases c2 : p.2 < hi' - lo'
    · rw [NR.under_rule oB h3 h4 c2] at e
      have := nB (lo' + p.2) (by omega); omega
    · rw [show p.2 = hi' - lo' by omega, NR.under_top oB h3 h4] at e
      omega
theorem under_lay {l : List Pr} (h : Lay (A.under lo hi (-1)).nd (B.under lo' hi' (-2)).nd 0 (hi - lo + 1) 0 (hi' - lo' + 1) l) : Lay A.nd B.nd lo hi lo' hi' (l.map (shift lo lo')) := by
  have nm : ∀ p ∈ l, p.1 < hi - lo ∧ p.2 < hi' - lo' := fun p hp => no_mark oA oB h1 h2 h3 h4 cA cB nA nB (h.mem p hp)
  refine h.map _ (fun p hp => ?_) fun p hp q hq r => ?_
  · obtain ⟨n1, n2⟩ := nm p hp
    have e : (A.under lo hi (-1)).rule p.1 = (B.under lo' hi' (-2)).rule p.2 := (h.mem p hp).2.2.2.2
    rw [NR.under_rule oA h1 h2 n1, NR.under_rule oB h3 h4 n2] at e
    exact ⟨by show lo ≤ p.1 + lo; omega, by show p.1 + lo < hi; omega, by show lo' ≤ p.2 + lo'; omega, by show p.2 + lo' < hi'; omega, by show A.rule (p.1 + lo) = B.rule (p.2 + lo'); rw [Nat.add_comm p.1, Nat.add_comm p.2]; exact e⟩
  · obtain ⟨n1, n2⟩ := nm q hq
    obtain ⟨r1, r2, r3⟩ := r
    have r3 : (A.under lo hi (-1)).first q.1 ≤ p.1 ↔ (B.under lo' hi' (-2)).first q.2 ≤ p.2 := r3
    rw [NR.under_first oA h1 h2 n1, NR.under_first oB h3 h4 n2] at r3
    have c1 : lo ≤ A.first (lo + q.1) := (cA (lo + q.1) (by omega) (by omega)).1
    have c2 : lo' ≤ B.first (lo' + q.2) := (cB (lo' + q.2) (by omega) (by omega)).1
    refine ⟨by show p.1 + lo < q.1 + lo; omega, by show p.2 + lo' < q.2 + lo'; omega, ?_⟩
    show A.first (q.1 + lo) ≤ p.1 + lo ↔ B.first (q.2 + lo') ≤ p.2 + lo'
    rw [Nat.add_comm q.1, Nat.add_comm q.2]
    omega
theorem under_M : M (A.under lo hi (-1)).nd (B.under lo' hi' (-2)).nd 0 (hi - lo + 1) 0 (hi' - lo' + 1) = M A.nd B.nd lo hi lo' hi' := by
  apply Nat.le_antisymm
  · refine M_le fun l h => ?_
    have := M_ge (under_lay oA oB h1 h2 h3 h4 cA cB nA nB h)
    rw [List.length_map] at this; exact this
  · refine M_le fun l h => ?_
    have key : Lay (A.under lo hi (-1)).nd (B.under lo' hi' (-2)).nd 0 (hi - lo + 1) 0 (hi' - lo' + 1) (l.map fun p => (p.1 - lo, p.2 - lo')) := by
      refine h.map _ (fun p hp => ?_) fun p hp q hq r => ?_
      · obtain ⟨a, b, c, d, e⟩ := h.mem p hp
        refine ⟨Nat.zero_le _, by show p.1 - lo < _; omega, Nat.zero_le _, by show p.2 - lo' < _; omega, ?_⟩
        show (A.under lo hi (-1)).rule (p.1 - lo) = (B.under lo' hi' (-2)).rule (p.2 - lo')
        rw [NR.under_rule oA h1 h2 (by omega), NR.under_rule oB h3 h4 (by omega), show lo + (p.1 - lo) = p.1 by omega, show lo' + (p.2 - lo') = p.2 by omega]
        exact e
      · obtain ⟨a, b, c, d, _⟩ := h.mem p hp
        obtain ⟨a', b', c', d', _⟩ := h.mem q hq
        obtain ⟨r1, r2, r3⟩ := r
        have r3 : A.first q.1 ≤ p.1 ↔ B.first q.2 ≤ p.2 := r3
        have k1 : lo ≤ A.first q.1 := (cA q.1 a' b').1
        have k2 : lo' ≤ B.first q.2 := (cB q.2 c' d').1
        refine ⟨by show p.1 - lo < q.1 - lo; omega, by show p.2 - lo' < q.2 - lo'; omega, ?_⟩
        show (A.under lo hi (-1)).first (q.1 - lo) ≤ p.1 - lo ↔ (B.under lo' hi' (-2)).first (q.2 - lo') ≤ p.2 - lo'
        rw [NR.under_first oA h1 h2 (by omega), NR.under_first oB h3 h4 (by omega), show lo + (q.1 - lo) = q.1 by omega, show lo' + (q.2 - lo') = q.2 by omega]
        omega
    have := M_ge key
    rw [List.length_map] at this; exact this
end
end Sh

/-! The tables of what is shared, and how they are read off. Plain mathematics. -/
namespace Sh
abbrev TL (A B : NR) (w : Pr) (l : List Pr) : Prop := Lay A.nd B.nd (A.first w.1) (w.1 + 1) (B.first w.2) (w.2 + 1) l
noncomputable abbrev TM (A B : NR) (x y : Nat) : Nat := M A.nd B.nd (A.first x) (x + 1) (B.first y) (y + 1)
/-- layings of some pairs of trees, one behind the other -/
inductive LL (A B : NR) : List Pr → List Pr → Prop
  | nil : LL A B [] []
  | cons {w : Pr} {ws l L : List Pr} : TL A B w l → LL A B ws L → LL A B (w :: ws) (l ++ L)
theorem LL.app {A B : NR} : ∀ {ws vs L L2 : List Pr}, LL A B ws L → LL A B vs L2 → LL A B (ws ++ vs) (L ++ L2)
  | _, _, _, _, .nil, h => h
  | _, _, _, _, .cons t r, h => by rw [List.cons_append, List.append_assoc]; exact .cons t (LL.app r h)
theorem LL.split {A B : NR} : ∀ {ws vs L : List Pr}, LL A B (ws ++ vs) L → ∃ L1 L2, LL A B ws L1 ∧ LL A B vs L2 ∧ L = L1 ++ L2
  | [], _, _, h => ⟨[], _, .nil, h, rfl⟩
  | w :: ws, vs, _, h => by
    cases h with
    | cons t r =>
      obtain ⟨L1, L2, h1, h2, rfl⟩ := LL.split r
      exact ⟨_, L2, .cons t h1, h2, (List.append_assoc ..).symm⟩
theorem LL.one {A B : NR} {w : Pr} {L : List Pr} (h : LL A B [w] L) : TL A B w L := by
  cases h with
  | cons t r => cases r; rw [List.append_nil]; exact t
theorem LL.of {A B : NR} {w : Pr} {L : List Pr} (h : TL A B w L) : LL A B [w] L := by
  have := LL.cons h LL.nil
  rw [List.append_nil] at this; exact this
noncomputable def wM (A B : NR) (ws : List Pr) : Nat := (ws.map fun w => TM A B w.1 w.2).sum
def wt (A B : NR) (w : Pr) : Nat := (w.1 + 1 - A.first w.1) + (w.2 + 1 - B.first w.2)
def wts (A B : NR) (ws : List Pr) : Nat := (ws.map (wt A B)).sum
theorem wM_app {A B : NR} (ws vs : List Pr) : wM A B (ws ++ vs) = wM A B ws + wM A B vs := by unfold wM; rw [List.map_append, List.sum_append]
theorem wts_app {A B : NR} (ws vs : List Pr) : wts A B (ws ++ vs) = wts A B ws + wts A B vs := by unfold wts; rw [List.map_append, List.sum_append]
theorem wM_one {A B : NR} (w : Pr) : wM A B [w] = TM A B w.1 w.2 := by simp [wM]
theorem wts_one {A B : NR} (w : Pr) : wts A B [w] = wt A B w := by simp [wts]
/-- how far a table has been read -/
structure RO (A B : NR) (X Y x y : Nat) (f ws : List Pr) : Prop where
  xX : x ≤ X + 1
  ax : A.first X ≤ x
  yY : y ≤ Y + 1
  bY : B.first Y ≤ y
  val : ∀ w ∈ ws, w.1 < A.n ∧ w.2 < B.n
  glue : ∀ l L, Lay A.nd B.nd (A.first X) x (B.first Y) y l → LL A B ws L → TL A B (X, Y) (l ++ (f ++ L))
  cnt : TM A B X Y = M A.nd B.nd (A.first X) x (B.first Y) y + f.length + wM A B ws
  ms : x = X + 1 ∧ y = Y + 1 ∧ ws = [] ∨ wts A B ws + (x - A.first X) + (y - B.first Y) < wt A B (X, Y)
section
variable {A B : NR} {X Y x y : Nat} {f ws : List Pr}
theorem RO.le (h : RO A B X Y x y f ws) : wts A B ws + (x - A.first X) + (y - B.first Y) ≤ wt A B (X, Y) := by
  rcases h.ms with ⟨rfl, rfl, rfl⟩ | h
  · simp [wts, wt]
  · exact Nat.le_of_lt h
theorem RO.start (oA : A.Ok) (oB : B.Ok) (hX : X < A.n) (hY : Y < B.n) : RO A B X Y (X + 1) (Y + 1) [] [] :=
  ⟨Nat.le_refl _, Nat.le_succ_of_le (oA.le X hX), Nat.le_refl _, Nat.le_succ_of_le (oB.le Y hY), fun _ h => (nomatch h), fun l L h hl => by cases hl; simpa using h, by simp [wM], .inl ⟨rfl, rfl, rfl⟩⟩
theorem RO.left (h : RO A B X Y (x + 1) y f ws) (ha : A.first X ≤ x) (e : M A.nd B.nd (A.first X) (x + 1) (B.first Y) y = M A.nd B.nd (A.first X) x (B.first Y) y) : RO A B X Y x y f ws :=
  ⟨by have := h.xX; omega, ha, h.yY, h.bY, h.val, fun l L hl hL => h.glue l L (hl.wide (Nat.le_refl _) (Nat.le_succ _) (Nat.le_refl _) (Nat.le_refl _)) hL, by rw [h.cnt, e], .inr (by have := h.le; omega)⟩
theorem RO.up (h : RO A B X Y x (y + 1) f ws) (hb : B.first Y ≤ y) (e : M A.nd B.nd (A.first X) x (B.first Y) (y + 1) = M A.nd B.nd (A.first X) x (B.first Y) y) : RO A B X Y x y f ws :=
  ⟨h.xX, h.ax, by have := h.yY; omega, hb, h.val, fun l L hl hL => h.glue l L (hl.wide (Nat.le_refl _) (Nat.le_refl _) (Nat.le_refl _) (Nat.le_succ _)) hL, by rw [h.cnt, e], .inr (by have := h.le; omega)⟩
theorem RO.both (h : RO A B X Y (x + 1) (y + 1) f ws) (ax : A.first x ≤ x) (bY : B.first y ≤ y) (e1 : A.first x = A.first X) (e2 : B.first y = B.first Y)
    (n1 : M A.nd B.nd (A.first X) (x + 1) (B.first Y) (y + 1) ≠ M A.nd B.nd (A.first X) x (B.first Y) (y + 1)) (n2 : M A.nd B.nd (A.first X) (x + 1) (B.first Y) (y + 1) ≠ M A.nd B.nd (A.first X) (x + 1) (B.first Y) y) : RO A B X Y x y (f ++ [(x, y)]) ws := by
  have r := M_rec1 (A := A.nd) (B := B.nd) (x := x) (y := y) ax bY
  have g1 : A.nd.first x = A.first X := e1
  have g2 : B.nd.first y = B.first Y := e2
  rw [g1, g2] at r
  have m1 : M A.nd B.nd (A.first X) x (B.first Y) y ≤ M A.nd B.nd (A.first X) x (B.first Y) (y + 1) := M_mono (Nat.le_refl _) (Nat.le_refl _) (Nat.le_refl _) (Nat.le_succ _)
  have hr : A.nd.rule x = B.nd.rule y := by
    by_cases e : A.nd.rule x = B.nd.rule y
    · exact e
    · rw [if_neg e] at r; omega
  rw [if_pos hr] at r
  refine ⟨by have := h.xX; omega, by omega, by have := h.yY; omega, by omega, h.val, fun l L hl hL => ?_, ?_, .inr (by have := h.le; omega)⟩
  · have := h.glue (l ++ [(x, y)]) L (by have := root (A := A.nd) (B := B.nd) (x := x) (y := y) (l := l) (by rw [g1, g2]; exact hl) hr ax bY; rw [g1, g2] at this; exact this) hL
    refine this.perm ?_
    rw [List.append_assoc, List.append_assoc f]
    refine List.Perm.append_left l ?_
    rw [← List.append_assoc, ← List.append_assoc]
    exact List.Perm.append_right L List.perm_append_comm
  · rw [h.cnt, List.length_append, List.length_singleton]; omega
theorem RO.wait (h : RO A B X Y (x + 1) (y + 1) f ws) (oA : A.Ok) (oB : B.Ok) (hX : X < A.n) (hY : Y < B.n) (ax : A.first X ≤ x) (bY : B.first Y ≤ y) (nb : ¬ (A.first x = A.first X ∧ B.first y = B.first Y))
    (n1 : M A.nd B.nd (A.first X) (x + 1) (B.first Y) (y + 1) ≠ M A.nd B.nd (A.first X) x (B.first Y) (y + 1)) (n2 : M A.nd B.nd (A.first X) (x + 1) (B.first Y) (y + 1) ≠ M A.nd B.nd (A.first X) (x + 1) (B.first Y) y) : RO A B X Y (A.first x) (B.first y) f (ws ++ [(x, y)]) := by
  have hx := h.xX
  have hy := h.yY
  have hxn : x < A.n := by omega
  have hyn : y < B.n := by omega
  have lx := oA.le x hxn
  have ly := oB.le y hyn
  have c1 : A.first X ≤ A.first x := (oA.nest X x hX ax (by omega))
  have c2 : B.first Y ≤ B.first y := (oB.nest Y y hY bY (by omega))
  have r := M_rec2 (A := A.nd) (B := B.nd) (a := A.first X) (b := B.first Y) (x := x) (y := y) lx ly c1 c2 (NR.cl_tree oA hxn) (NR.cl_tree oB hyn)
  have g1 : A.nd.first x = A.first x := rfl
  have g2 : B.nd.first y = B.first y := rfl
  rw [g1, g2] at r
  refine ⟨by omega, c1, by omega, c2, fun w hw => ?_, fun l L hl hL => ?_, ?_, .inr ?_⟩
  · rcases List.mem_append.mp hw with hw | hw
    · exact h.val w hw
    · rw [List.mem_singleton.mp hw]; exact ⟨hxn, hyn⟩
  · obtain ⟨L1, L2, h1, h2, rfl⟩ := hL.split
    have := h.glue (l ++ L2) L1 (Sh.glue hl h2.one (NR.cl_tree oA hxn) (NR.cl_tree oB hyn) c1 (by omega) c2 (by omega)) h1
    refine this.perm ?_
    rw [List.append_assoc]
    refine List.Perm.append_left l ?_
    exact List.perm_append_comm.trans (by rw [List.append_assoc])
  · rw [h.cnt, wM_app, wM_one]
    show _ = _ + (_ + M A.nd B.nd (A.first x) (x + 1) (B.first y) (y + 1))
    omega
  · have hl := h.ms
    rw [wts_app, wts_one]
    have e1 : wt A B (x, y) = (x + 1 - A.first x) + (y + 1 - B.first y) := rfl
    rcases hl with ⟨ex, ey, rfl⟩ | hl
    · exfalso
      have ex : x = X := by omega
      have ey : y = Y := by omega
      subst ex ey
      exact nb ⟨rfl, rfl⟩
    · omega
theorem RO.done (h : RO A B X Y x y f ws) (oA : A.Ok) (oB : B.Ok) (hX : X < A.n) (hY : Y < B.n) (e : x = A.first X ∨ y = B.first Y) : (∀ L, LL A B ws L → TL A B (X, Y) (f ++ L)) ∧ TM A B X Y = f.length + wM A B ws ∧ wts A B ws < wt A B (X, Y) := by
  refine ⟨fun L hL => h.glue [] L Lay.nil hL, ?_, ?_⟩
  · have e0 : M A.nd B.nd (A.first X) x (B.first Y) y = 0 := e.elim (fun e => M_empty1 (by omega)) fun e => M_empty2 (by omega)
    rw [h.cnt, e0]; omega
  · have lx := oA.le X hX
    have ly := oB.le Y hY
    rcases h.ms with ⟨ex, ey, _⟩ | h
    · rcases e with e | e <;> omega
    · omega
end
/-- how far all is read off -/
structure PO (A B : NR) (f ws : List Pr) : Prop where
  val : ∀ w ∈ ws, w.1 < A.n ∧ w.2 < B.n
  glue : ∀ L, LL A B ws L → Lay A.nd B.nd 0 A.n 0 B.n (f ++ L)
  cnt : M A.nd B.nd 0 A.n 0 B.n = f.length + wM A B ws
section
variable {A B : NR} {X Y x y : Nat} {f ws : List Pr}
theorem PO.start (hX : A.n = X + 1) (hY : B.n = Y + 1) (eX : A.first X = 0) (eY : B.first Y = 0) : PO A B [] [(X, Y)] :=
  ⟨fun w hw => by rw [List.mem_singleton.mp hw]; exact ⟨by show X < A.n; omega, by show Y < B.n; omega⟩, fun L hL => by
    have := hL.one; unfold TL at this; rw [eX, eY] at this; rw [hX, hY]; exact this, by rw [wM_one]; unfold TM; rw [eX, eY, hX, hY]; simp⟩
theorem PO.step {f' ws' : List Pr} (h : PO A B f (ws ++ [(X, Y)])) (oA : A.Ok) (oB : B.Ok) (r : RO A B X Y x y f' ws') (e : x = A.first X ∨ y = B.first Y) : PO A B (f ++ f') (ws ++ ws') ∧ wts A B (ws ++ ws') < wts A B (ws ++ [(X, Y)]) := by
  obtain ⟨hX, hY⟩ : X < A.n ∧ Y < B.n := h.val (X, Y) (by simp)
  obtain ⟨g, c, m⟩ := r.done oA oB hX hY e
  refine ⟨⟨fun w hw => ?_, fun L hL => ?_, ?_⟩, ?_⟩
  · rcases List.mem_append.mp hw with hw | hw
    · exact h.val w (List.mem_append_left _ hw)
    · exact r.val w hw
  · obtain ⟨L1, L2, h1, h2, rfl⟩ := hL.split
    refine (h.glue (L1 ++ (f' ++ L2)) (h1.app (LL.of (g L2 h2)))).perm ?_
    rw [List.append_assoc]
    refine List.Perm.append_left f ?_
    rw [← List.append_assoc, ← List.append_assoc]
    exact List.Perm.append_right L2 List.perm_append_comm
  · have := h.cnt
    rw [wM_app, wM_one] at this
    rw [this, wM_app, List.length_append]
    show _ + (_ + TM A B X Y) = _
    omega
  · rw [wts_app, wts_app, wts_one]; omega
theorem PO.done (h : PO A B f []) : Lay A.nd B.nd 0 A.n 0 B.n f ∧ f.length = M A.nd B.nd 0 A.n 0 B.n :=
  ⟨by have := h.glue [] .nil; rw [List.append_nil] at this; exact this, by have := h.cnt; simp [wM] at this; omega⟩
theorem wts_ge (oA : A.Ok) (ws : List Pr) (hv : ∀ w ∈ ws, w.1 < A.n) : ws.length ≤ wts A B ws := by
  induction ws with
  | nil => exact Nat.zero_le _
  | cons w r ih =>
    have := ih fun v hv' => hv v (List.mem_cons_of_mem _ hv')
    have := oA.le w.1 (hv w (List.mem_cons_self ..))
    have e : wts A B (w :: r) = wt A B w + wts A B r := by simp [wts]
    rw [e, List.length_cons]; unfold wt; omega
end
/-- which trees are right once some heads are done -/
def Right (A B : NR) (tv : Nat → Nat → Nat) (x y : Nat) : Prop := tv x y = TM A B x y
structure HdOk (A B : NR) (tv : Nat → Nat → Nat) (hs : List Nat) : Prop where
  ok : ∀ x y, x < A.n → y < B.n → (∃ h ∈ hs, A.first h = A.first x) → Right A B tv x y
theorem head_of {A : NR} {hs : List Nat} (o : A.Heads hs) : ∀ (k x : Nat), x < A.n → A.n - x = k → ∃ h ∈ hs, A.first h = A.first x ∧ x ≤ h := by
  intro k
  induction k using Nat.strongRecOn with
  | _ k ih =>
    intro x hx e
    by_cases q : ∃ j, x < j ∧ j < A.n ∧ A.first j = A.first x
    · obtain ⟨j, h1, h2, h3⟩ := q
      obtain ⟨h, m, e1, e2⟩ := ih (A.n - j) (by omega) j h2 rfl
      exact ⟨h, m, e1.trans h3, by omega⟩
    · exact ⟨x, (o.iff x).mpr ⟨hx, fun j h1 h2 h3 => q ⟨j, h1, h2, h3⟩⟩, rfl, Nat.le_refl _⟩
/-- the head of a node within a tree that begins elsewhere lies within it -/
theorem head_in {A : NR} (ok : A.Ok) {X x h : Nat} (hX : X < A.n) (hx : A.first X ≤ x) (hxX : x ≤ X) (hh : h < A.n) (e : A.first h = A.first x) (ne : A.first x ≠ A.first X) (hle : x ≤ h) : h < X := by
  have c := ok.nest X x hX hx hxX
  rcases Nat.lt_or_ge h X with q | q
  · exact q
  · exfalso
    have lx := ok.le x (by omega)
    have := ok.nest h X hh (by omega) q
    omega
end Sh

/-! Parts of trees behind one another, as the law lists them. Plain mathematics. -/
namespace Sh
namespace Fo
def postF : Fo → List Fo
  | nil => []
  | leaf t s => leaf t nil :: s.postF
  | node r k s => k.postF ++ node r k nil :: s.postF
def split : Fo → List Fo
  | nil => []
  | leaf t s => leaf t nil :: s.split
  | node r k s => node r k nil :: s.split
theorem post_split : ∀ k : Fo, k.split.flatMap postF = k.postF
  | nil => rfl
  | leaf t s => by rw [split, List.flatMap_cons, post_split s]; rfl
  | node r k s => by rw [split, List.flatMap_cons, post_split s]; simp [postF]
def isNode : Fo → Bool
  | node _ _ _ => true
  | _ => false
def ruleOf : Fo → Int
  | node r _ _ => r
  | _ => 0
def nodes (f : Fo) : List Fo := f.postF.filter isNode
theorem nodes_node (r : Int) (k s : Fo) : (node r k s).nodes = k.nodes ++ node r k nil :: s.nodes := by
  unfold nodes; rw [postF, List.filter_append, List.filter_cons_of_pos rfl]
theorem nodes_leaf (t : Int) (s : Fo) : (leaf t s).nodes = s.nodes := by
  unfold nodes; rw [postF, List.filter_cons_of_neg (fun z => Bool.noConfusion z)]
theorem nodes_rules : ∀ f : Fo, f.nodes.map ruleOf = f.rules
  | nil => rfl
  | leaf t s => by rw [nodes_leaf, nodes_rules s]; rfl
  | node r k s => by rw [nodes_node, List.map_append, List.map_cons, nodes_rules k, nodes_rules s]; rfl
def szs : Fo → List Int
  | nil => []
  | leaf _ s => s.szs
  | node _ k s => k.szs ++ ((k.cnt + 1 : Nat) : Int) :: s.szs
theorem nodes_len : ∀ f : Fo, f.nodes.length = f.cnt
  | nil => rfl
  | leaf t s => by rw [nodes_leaf, nodes_len s]; rfl
  | node r k s => by rw [nodes_node, List.length_append, List.length_cons, nodes_len k, nodes_len s]; simp [cnt]; omega
theorem nodes_szs : ∀ f : Fo, f.nodes.map (fun g => (g.nodes.length : Int)) = f.szs
  | nil => rfl
  | leaf t s => by rw [nodes_leaf, nodes_szs s]; rfl
  | node r k s => by
    rw [nodes_node, List.map_append, List.map_cons, nodes_szs k, nodes_szs s, nodes_len]; simp [szs, cnt]
theorem szs_len : ∀ f : Fo, f.szs.length = f.cnt
  | nil => rfl
  | leaf t s => by simp only [szs, cnt, szs_len s]
  | node r k s => by simp only [szs, cnt, List.length_append, List.length_cons, szs_len k, szs_len s]; omega
theorem szs_get : ∀ (f : Fo) (o k v : Nat), (f.firsts o)[k]? = some v → f.szs[k]? = some (((o + k : Nat) : Int) - (v : Int) + 1)
  | nil, _, _, _, h => by simp [firsts] at h
  | leaf t s, o, k, v, h => szs_get s o k v h
  | node r c s, o, k, v, h => by
    simp only [firsts, szs] at h ⊢
    have lc := firsts_len c o
    have ls := szs_len c
    rcases Nat.lt_trichotomy k c.cnt with q | q | q
    · rw [List.getElem?_append_left (by omega)] at h ⊢
      exact szs_get c o k v h
    · rw [List.getElem?_append_right (by omega), lc, q, Nat.sub_self] at h
      rw [List.getElem?_append_right (by omega), ls, q, Nat.sub_self]
      have : o = v := Option.some.inj h
      rw [List.getElem?_cons_zero]
      congr 1; omega
    · rw [List.getElem?_append_right (by omega), lc] at h
      rw [List.getElem?_append_right (by omega), ls]
      obtain ⟨j, hj⟩ : ∃ j, k - c.cnt = j + 1 := ⟨k - c.cnt - 1, by omega⟩
      rw [hj, List.getElem?_cons_succ] at h ⊢
      rw [szs_get s _ j v h]
      congr 1; omega
theorem post_len : ∀ f : Fo, f.postF.length = f.parts
  | nil => rfl
  | leaf t s => by simp [postF, parts, post_len s]
  | node r k s => by simp only [postF, parts, List.length_append, List.length_cons, post_len k, post_len s]; omega
theorem post_parts : ∀ (f g : Fo), g ∈ f.postF → g.parts ≤ f.parts
  | nil, _, h => nomatch h
  | leaf t s, g, h => by
    simp only [postF, List.mem_cons] at h
    rcases h with rfl | h
    · simp only [parts]; omega
    · have := post_parts s g h; simp only [parts]; omega
  | node r k s, g, h => by
    simp only [postF, List.mem_append, List.mem_cons] at h
    rcases h with h | rfl | h
    · have := post_parts k g h; simp only [parts]; omega
    · simp only [parts]; omega
    · have := post_parts s g h; simp only [parts]; omega
end Fo
end Sh

/-! All layings, one behind the other, as the law makes them. Plain mathematics. -/
namespace Sh
section
variable {A B : Nd}
def leastN (l : List Pr) : Nat := match l.getLast? with
  | some p => p.2 + 1
  | none => 0
def okB (A B : Nd) (m : Nat) (l : List Pr) (n : Nat) : Bool := decide (B.rule n = A.rule m) && l.all fun p => decide (A.first m ≤ p.1) == decide (B.first n ≤ p.2)
def kids (A B : Nd) (N m : Nat) (l : List Pr) : List (List Pr) := (((List.range (N - leastN l)).map (leastN l + ·)).filter (okB A B m l)).map fun n => l ++ [(m, n)]
def stepL (A B : Nd) (N m : Nat) (L : List (List Pr)) : List (List Pr) := L ++ L.flatMap (kids A B N m)
def allL (A B : Nd) (N : Nat) : Nat → List (List Pr)
  | 0 => [[]]
  | m + 1 => stepL A B N m (allL A B N m)
def Full (A B : Nd) (N m : Nat) (l : List Pr) : Prop := l.Pairwise (Rel1 A B) ∧ ∀ p ∈ l, In A B 0 m 0 N p
theorem least_gt {l : List Pr} (h : l.Pairwise (Rel1 A B)) : ∀ p ∈ l, p.2 < leastN l := by
  intro p hp
  unfold leastN
  cases e : l.getLast? with
  | none => rw [List.getLast?_eq_none_iff] at e; subst e; cases hp
  | some q =>
    obtain ⟨r, rfl⟩ := List.getLast?_eq_some_iff.mp e
    rcases List.mem_append.mp hp with hp | hp
    · have := (List.pairwise_append.mp h).2.2 p hp q (List.mem_singleton.mpr rfl)
      have := this.2.1
      show p.2 < q.2 + 1
      omega
    · rw [List.mem_singleton.mp hp]; exact Nat.lt_succ_self _
theorem least_le {l : List Pr} {n : Nat} (h : ∀ p ∈ l, p.2 < n) : leastN l ≤ n := by
  unfold leastN
  cases e : l.getLast? with
  | none => exact Nat.zero_le _
  | some q =>
    obtain ⟨r, rfl⟩ := List.getLast?_eq_some_iff.mp e
    exact h q (by simp)
theorem kids_mem {N m : Nat} {l k : List Pr} : k ∈ kids A B N m l ↔ ∃ n, leastN l ≤ n ∧ n < N ∧ okB A B m l n = true ∧ k = l ++ [(m, n)] := by
  unfold kids
  rw [List.mem_map]
  constructor
  · rintro ⟨n, h, rfl⟩
    rw [List.mem_filter, List.mem_map] at h
    obtain ⟨⟨i, hi, rfl⟩, ho⟩ := h
    have := List.mem_range.mp hi
    exact ⟨_, by omega, by omega, ho, rfl⟩
  · rintro ⟨n, h1, h2, h3, rfl⟩
    refine ⟨n, ?_, rfl⟩
    rw [List.mem_filter, List.mem_map]
    exact ⟨⟨n - leastN l, List.mem_range.mpr (by omega), by omega⟩, h3⟩
theorem ok_iff {m n : Nat} {l : List Pr} : okB A B m l n = true ↔ A.rule m = B.rule n ∧ ∀ p ∈ l, (A.first m ≤ p.1 ↔ B.first n ≤ p.2) := by
  unfold okB
  rw [Bool.and_eq_true, decide_eq_true_iff, List.all_eq_true]
  constructor
  · rintro ⟨h1, h2⟩
    refine ⟨h1.symm, fun p hp => ?_⟩
    have := h2 p hp
    rw [beq_iff_eq, decide_eq_decide] at this
    exact this
  · rintro ⟨h1, h2⟩
    refine ⟨h1.symm, fun p hp => ?_⟩
    rw [beq_iff_eq, decide_eq_decide]
    exact h2 p hp
theorem step_full {N m : Nat} {L : List (List Pr)} (h : ∀ l, l ∈ L ↔ Full A B N m l) : ∀ l, l ∈ stepL A B N m L ↔ Full A B N (m + 1) l := by
  intro k
  unfold stepL
  rw [List.mem_append, List.mem_flatMap]
  constructor
  · rintro (hk | ⟨l, hl, hk⟩)
    · obtain ⟨h1, h2⟩ := (h k).mp hk
      exact ⟨h1, fun p hp => by obtain ⟨a, b, c⟩ := h2 p hp; exact ⟨a, by omega, c⟩⟩
    · obtain ⟨h1, h2⟩ := (h l).mp hl
      obtain ⟨n, g1, g2, g3, rfl⟩ := kids_mem.mp hk
      obtain ⟨o1, o2⟩ := ok_iff.mp g3
      refine ⟨List.pairwise_append.mpr ⟨h1, List.pairwise_singleton .., fun p hp q hq => ?_⟩, fun p hp => ?_⟩
      · rw [List.mem_singleton.mp hq]
        have := least_gt h1 p hp
        exact ⟨(h2 p hp).2.1, by show p.2 < n; omega, o2 p hp⟩
      · rcases List.mem_append.mp hp with hp | hp
        · obtain ⟨a, b, c⟩ := h2 p hp; exact ⟨a, by omega, c⟩
        · rw [List.mem_singleton.mp hp]; exact ⟨Nat.zero_le _, Nat.lt_succ_self _, Nat.zero_le _, g2, o1⟩
  · rintro ⟨h1, h2⟩
    by_cases hm : ∃ p ∈ k, p.1 = m
    · right
      obtain ⟨p, hp, ep⟩ := hm
      obtain ⟨l, r, rfl⟩ := List.append_of_mem hp
      have hr : r = [] := by
        cases r with
        | nil => rfl
        | cons q r =>
          have h3 := (List.pairwise_append.mp h1).2.1
          have h4 := (List.pairwise_cons.mp h3).1 q (by simp)
          have := h4.1
          have h5 := (h2 q (by simp)).2.1
          omega
      subst hr
      obtain ⟨a, b, c⟩ := List.pairwise_append.mp h1
      have i5 := h2 p (by simp)
      refine ⟨l, (h l).mpr ⟨a, fun q hq => ?_⟩, kids_mem.mpr ⟨p.2, least_le fun q hq => (c q hq p (by simp)).2.1, i5.2.2.2.1, ok_iff.mpr ⟨by rw [← ep]; exact i5.2.2.2.2, fun q hq => by rw [← ep]; exact (c q hq p (by simp)).2.2⟩, by rw [← ep]⟩⟩
      obtain ⟨x1, _, x3⟩ := h2 q (by simp [hq])
      have := (c q hq p (by simp)).1
      exact ⟨x1, by omega, x3⟩
    · left
      refine (h k).mpr ⟨h1, fun p hp => ?_⟩
      obtain ⟨a, b, c⟩ := h2 p hp
      exact ⟨a, by have : p.1 ≠ m := fun z => hm ⟨p, hp, z⟩; omega, c⟩
theorem all_full {N : Nat} : ∀ m l, l ∈ allL A B N m ↔ Full A B N m l
  | 0, l => by
    unfold allL
    rw [List.mem_singleton]
    constructor
    · rintro rfl; exact ⟨.nil, fun _ h => (nomatch h)⟩
    · rintro ⟨_, h⟩
      cases l with
      | nil => rfl
      | cons p r => exact absurd (h p (by simp)).2.1 (Nat.not_lt_zero _)
  | m + 1, l => step_full (fun l => all_full m l) l
theorem rel1_sort {l : List Pr} (h : l.Pairwise (Rel A B)) : ∃ l' : List Pr, l'.Perm l ∧ l'.Pairwise (Rel1 A B) := by
  refine ⟨l.mergeSort (fun p q => decide (p.1 ≤ q.1)), List.mergeSort_perm .., ?_⟩
  have h1 : (l.mergeSort (fun p q => decide (p.1 ≤ q.1))).Pairwise (Rel A B) := (List.Perm.pairwise_iff (fun h => h.symm) (List.mergeSort_perm ..)).mpr h
  have h2 := List.pairwise_mergeSort (le := fun p q : Pr => decide (p.1 ≤ q.1)) (fun a b c x y => decide_eq_true (Nat.le_trans (of_decide_eq_true x) (of_decide_eq_true y))) (fun a b => by
    rcases Nat.le_total a.1 b.1 with h | h <;> simp [h]) l
  refine (h1.and h2).imp ?_
  rintro p q ⟨r | r, le⟩
  · exact r
  · have := of_decide_eq_true le
    have := r.1
    omega
theorem all_max {N m : Nat} (k : Int) (h1 : k ∈ (allL A B N m).map fun l => (l.length : Int)) (h2 : ∀ y ∈ (allL A B N m).map fun l => (l.length : Int), y ≤ k) : k = (M A B 0 m 0 N : Int) := by
  obtain ⟨l, hl, rfl⟩ := List.mem_map.mp h1
  obtain ⟨f1, f2⟩ := (all_full m l).mp hl
  have a : l.length ≤ M A B 0 m 0 N := M_ge ⟨f2, f1.imp fun r => .inl r⟩
  obtain ⟨l2, hl2, e2⟩ := M_ex A B 0 m 0 N
  obtain ⟨l3, p3, s3⟩ := rel1_sort hl2.pw
  have := h2 _ (List.mem_map.mpr ⟨l3, (all_full m l3).mpr ⟨s3, fun p hp => hl2.mem p (p3.mem_iff.mp hp)⟩, rfl⟩)
  rw [p3.length_eq, e2] at this
  omega
/-! how many -/
def wL (N : Nat) (l : List Pr) : Nat := 2 ^ (N - leastN l)
def wLs (N : Nat) (L : List (List Pr)) : Nat := (L.map (wL N)).sum
theorem wLs_app (N : Nat) (a b : List (List Pr)) : wLs N (a ++ b) = wLs N a + wLs N b := by unfold wLs; rw [List.map_append, List.sum_append]
theorem len_wLs (N : Nat) (L : List (List Pr)) : L.length ≤ wLs N L := by
  induction L with
  | nil => exact Nat.zero_le _
  | cons l r ih =>
    have e : wLs N (l :: r) = wL N l + wLs N r := by simp [wLs]
    have : 1 ≤ wL N l := Nat.one_le_two_pow
    rw [e, List.length_cons]; omega
theorem sum_pow (N a : Nat) (g : Nat → Bool) : ∀ d, a + d ≤ N → ((((List.range d).map (a + ·)).filter g).map fun n => 2 ^ (N - (n + 1))).sum + 2 ^ (N - (a + d)) ≤ 2 ^ (N - a)
  | 0, _ => by simp
  | d + 1, h => by
    have ih := sum_pow N a g d (by omega)
    rw [List.range_succ, List.map_append, List.filter_append, List.map_append, List.sum_append]
    have e : N - (a + d) = (N - (a + (d + 1))) + 1 := by omega
    rw [e, Nat.pow_succ] at ih
    have : ((([d].map (a + ·)).filter g).map fun n => 2 ^ (N - (n + 1))).sum ≤ 2 ^ (N - (a + (d + 1))) := by
      rw [List.map_cons, List.map_nil]
      cases hg : g (a + d) with
      | true =>
        rw [List.filter_cons_of_pos hg, List.filter_nil, List.map_cons, List.map_nil, List.sum_cons, List.sum_nil, Nat.add_zero, show a + d + 1 = a + (d + 1) by omega]
        exact Nat.le_refl _
      | false =>
        rw [List.filter_cons_of_neg (by rw [hg]; exact Bool.noConfusion), List.filter_nil, List.map_nil, List.sum_nil]
        exact Nat.zero_le _
    omega
theorem kids_w {N m : Nat} (l : List Pr) : wLs N (kids A B N m l) ≤ wL N l := by
  have e : wLs N (kids A B N m l) = ((((List.range (N - leastN l)).map (leastN l + ·)).filter (okB A B m l)).map fun n => 2 ^ (N - (n + 1))).sum := by
    unfold wLs kids
    rw [List.map_map]
    congr 1
    apply List.map_congr_left
    intro n _
    show 2 ^ (N - leastN (l ++ [(m, n)])) = _
    have : leastN (l ++ [(m, n)]) = n + 1 := by unfold leastN; rw [List.getLast?_append]; rfl
    rw [this]
  rw [e]
  unfold wL
  by_cases h : leastN l ≤ N
  · have := sum_pow N (leastN l) (okB A B m l) (N - leastN l) (by omega)
    exact Nat.le_trans (Nat.le_add_right _ _) this
  · rw [show N - leastN l = 0 by omega]; simp
theorem all_count {N : Nat} : ∀ m, wLs N (allL A B N m) ≤ 2 ^ (m + N)
  | 0 => by simp [allL, wLs, wL, leastN]
  | m + 1 => by
    have ih := all_count (N := N) m
    have : ∀ L : List (List Pr), wLs N (L.flatMap (kids A B N m)) ≤ wLs N L := by
      intro L
      induction L with
      | nil => exact Nat.le_refl _
      | cons l r ih =>
        have e : wLs N (l :: r) = wL N l + wLs N r := by simp [wLs]
        rw [List.flatMap_cons, wLs_app, e]
        have := kids_w (A := A) (B := B) (N := N) (m := m) l
        omega
    have h2 := this (allL A B N m)
    show wLs N (_ ++ _) ≤ _
    rw [wLs_app, show m + 1 + N = (m + N) + 1 by omega, Nat.pow_succ]
    omega
end
end Sh

/-! Trees that the law makes: every number but the first lies under a lesser one. Plain mathematics. -/
namespace Sh
theorem sub_sum {g : Nat → Nat} : ∀ {a b : List Nat}, a.Nodup → (∀ x ∈ a, x ∈ b) → (a.map g).sum ≤ (b.map g).sum
  | [], _, _, _ => Nat.zero_le _
  | x :: a, b, h, hs => by
    have hx : x ∈ b := hs x (by simp)
    have hp := (List.perm_cons_erase hx).map g
    rw [hp.sum_nat, List.map_cons, List.map_cons, List.sum_cons, List.sum_cons]
    obtain ⟨h1, h2⟩ := List.nodup_cons.mp h
    have := sub_sum (g := g) (a := a) (b := b.erase x) h2 fun y hy => (List.mem_erase_of_ne (fun e => h1 (by rw [← e]; exact hy))).mpr (hs y (by simp [hy]))
    omega
def roots (ab : Nat → Int) (n k : Nat) : List Nat := (List.range n).filter fun j => decide (k ≤ j) && decide (ab j < (k : Int))
theorem roots_mem {ab : Nat → Int} {n k j : Nat} : j ∈ roots ab n k ↔ j < n ∧ k ≤ j ∧ ab j < k := by
  unfold roots
  rw [List.mem_filter, List.mem_range, Bool.and_eq_true, decide_eq_true_iff, decide_eq_true_iff]
theorem roots_nodup {ab : Nat → Int} {n k : Nat} : (roots ab n k).Nodup := List.nodup_range.filter _
def rsum (ab : Nat → Int) (n k : Nat) (g : Nat → Nat) : Nat := ((roots ab n k).map g).sum
theorem rsum_step {ab : Nat → Int} {n k : Nat} {g g' : Nat → Nat} {ks : List Nat} (hk : ks.Nodup) (hs : ∀ j ∈ ks, k < j ∧ j < n ∧ ab j = (k : Int)) (h1 : g' k ≤ 1 + (ks.map g).sum) (h2 : ∀ j, k < j → g' j = g j) : rsum ab n k g' ≤ 1 + rsum ab n (k + 1) g := by
  let l := (roots ab n k).filter fun j => decide (k < j)
  have lm : ∀ j, j ∈ l ↔ (j < n ∧ k ≤ j ∧ ab j < k) ∧ k < j := fun j => by rw [List.mem_filter, roots_mem, decide_eq_true_iff]
  have ln : l.Nodup := roots_nodup.filter _
  have a1 : rsum ab n k g' ≤ g' k + (l.map g').sum := by
    have := sub_sum (g := g') (a := roots ab n k) (b := k :: l) roots_nodup fun j hj => by
      obtain ⟨x1, x2, x3⟩ := roots_mem.mp hj
      rcases Nat.eq_or_lt_of_le x2 with e | e
      · rw [e]; exact List.mem_cons_self
      · exact List.mem_cons_of_mem _ ((lm j).mpr ⟨⟨x1, x2, x3⟩, e⟩)
    rw [List.map_cons, List.sum_cons] at this
    exact this
  have a2 : (l.map g').sum = (l.map g).sum := by
    congr 1
    apply List.map_congr_left
    intro j hj
    exact h2 j ((lm j).mp hj).2
  have a3 : ((ks ++ l).map g).sum ≤ rsum ab n (k + 1) g := sub_sum (List.nodup_append.mpr ⟨hk, ln, fun x hx y hy e => by
    subst e
    have h3 := (hs x hx).2.2
    have h4 := ((lm x).mp hy).1.2.2
    omega⟩) fun j hj => by
    rcases List.mem_append.mp hj with hj | hj
    · obtain ⟨x1, x2, x3⟩ := hs j hj
      exact roots_mem.mpr ⟨x2, by omega, by omega⟩
    · obtain ⟨⟨x1, x2, x3⟩, x4⟩ := (lm j).mp hj
      exact roots_mem.mpr ⟨x1, by omega, by omega⟩
  rw [List.map_append, List.sum_append] at a3
  omega
theorem rsum_zero {ab : Nat → Int} {n : Nat} {g : Nat → Nat} (h : ab 0 < 0) (hn : 0 < n) : g 0 ≤ rsum ab n 0 g := by
  have := sub_sum (g := g) (a := [0]) (b := roots ab n 0) (by simp) fun x hx => by
    rw [List.mem_singleton.mp hx]; exact roots_mem.mpr ⟨hn, Nat.le_refl _, h⟩
  unfold rsum
  simpa using this
theorem rsum_top {ab : Nat → Int} {n : Nat} {g : Nat → Nat} : rsum ab n n g = 0 := by
  have : roots ab n n = [] := by
    cases e : roots ab n n with
    | nil => rfl
    | cons x r =>
      have : x ∈ roots ab n n := by rw [e]; exact List.mem_cons_self
      obtain ⟨x1, x2, _⟩ := roots_mem.mp this
      omega
  unfold rsum; rw [this]; rfl
/-! forests of single trees -/
namespace Fo
def app1 : Fo → Fo → Fo
  | nil, s => s
  | leaf t _, s => leaf t s
  | node r k _, s => node r k s
def joinF : List Fo → Fo
  | [] => nil
  | f :: fs => f.app1 (joinF fs)
end Fo
end Sh

/-! A tree built anew with some nodes left out and with other rules. Plain mathematics. -/
namespace Sh
namespace Fo
def app : Fo → Fo → Fo
  | nil, b => b
  | leaf t s, b => leaf t (s.app b)
  | node r k s, b => node r k (s.app b)
theorem app_nil : ∀ f : Fo, f.app nil = f
  | nil => rfl
  | leaf t s => by rw [app, app_nil s]
  | node r k s => by rw [app, app_nil s]
theorem app_assoc : ∀ a b c : Fo, (a.app b).app c = a.app (b.app c)
  | nil, _, _ => rfl
  | leaf t s, b, c => by simp only [app, app_assoc s b c]
  | node r k s, b, c => by simp only [app, app_assoc s b c]
theorem app_cnt : ∀ a b : Fo, (a.app b).cnt = a.cnt + b.cnt
  | nil, b => by simp [app, cnt]
  | leaf t s, b => by simp only [app, cnt, app_cnt s b]
  | node r k s, b => by simp only [app, cnt, app_cnt s b]; omega
theorem app_parts : ∀ a b : Fo, (a.app b).parts = a.parts + b.parts
  | nil, b => by simp [app, parts]
  | leaf t s, b => by simp only [app, parts, app_parts s b]; omega
  | node r k s, b => by simp only [app, parts, app_parts s b]; omega
theorem app_rules : ∀ a b : Fo, (a.app b).rules = a.rules ++ b.rules
  | nil, b => by simp [app, rules]
  | leaf t s, b => by simp only [app, rules, app_rules s b]
  | node r k s, b => by simp only [app, rules, app_rules s b, List.append_assoc, List.cons_append]
theorem app_firsts : ∀ (a b : Fo) (o : Nat), (a.app b).firsts o = a.firsts o ++ b.firsts (o + a.cnt)
  | nil, b, o => by simp [app, firsts, cnt]
  | leaf t s, b, o => by simp only [app, firsts, cnt, app_firsts s b o]
  | node r k s, b, o => by
    simp only [app, firsts, cnt, app_firsts s b, List.append_assoc, List.cons_append]
    rw [show o + k.cnt + 1 + s.cnt = o + (k.cnt + 1 + s.cnt) by omega]
def appAll : List Fo → Fo
  | [] => nil
  | a :: r => a.app (appAll r)
theorem appAll_app : ∀ a b : List Fo, appAll (a ++ b) = (appAll a).app (appAll b)
  | [], _ => rfl
  | x :: r, b => by rw [List.cons_append, appAll, appAll_app r b, appAll, app_assoc]
section
variable (gone : Nat → Bool) (rul : Nat → Int)
/-- built anew; o: the number of the first node -/
def reb : Nat → Fo → Fo
  | _, nil => nil
  | o, leaf t s => leaf t (reb o s)
  | o, node _ k s => if gone (o + k.cnt) = true then (reb o k).app (reb (o + k.cnt + 1) s) else node (rul (o + k.cnt)) (reb o k) (reb (o + k.cnt + 1) s)
/-- the same, tree by tree -/
def rebs : Nat → Fo → List Fo
  | _, nil => []
  | o, leaf t s => leaf t nil :: rebs o s
  | o, node _ k s => (if gone (o + k.cnt) = true then reb gone rul o k else node (rul (o + k.cnt)) (reb gone rul o k) nil) :: rebs (o + k.cnt + 1) s
theorem rebs_all : ∀ (o : Nat) (f : Fo), appAll (rebs gone rul o f) = reb gone rul o f
  | _, nil => rfl
  | o, leaf t s => by rw [rebs, appAll, rebs_all o s]; rfl
  | o, node r k s => by
    rw [rebs, appAll, rebs_all (o + k.cnt + 1) s, reb]
    by_cases h : gone (o + k.cnt) = true
    · rw [if_pos h, if_pos h]
    · rw [if_neg h, if_neg h]; rfl
theorem rebs_len : ∀ (o : Nat) (f : Fo), (rebs gone rul o f).length = f.trees
  | _, nil => rfl
  | o, leaf t s => by simp only [rebs, trees, List.length_cons, rebs_len o s]
  | o, node r k s => by simp only [rebs, trees, List.length_cons, rebs_len (o + k.cnt + 1) s]
/-- what one part does to the lot -/
def stepR (st : List Fo × Nat) : Fo → List Fo × Nat
  | nil => st
  | leaf t _ => (st.1 ++ [leaf t nil], st.2)
  | node _ k _ => (st.1.take (st.1.length - k.trees) ++ [if gone st.2 = true then appAll (st.1.drop (st.1.length - k.trees)) else node (rul st.2) (appAll (st.1.drop (st.1.length - k.trees))) nil], st.2 + 1)
def okR : List Fo × Nat → List Fo → Prop
  | _, [] => True
  | st, g :: r => (∀ q k s, g = node q k s → k.trees ≤ st.1.length) ∧ okR (stepR gone rul st g) r
theorem okR_app : ∀ (st : List Fo × Nat) (a b : List Fo), okR gone rul st (a ++ b) ↔ okR gone rul st a ∧ okR gone rul (a.foldl (stepR gone rul) st) b
  | st, [], b => by simp [okR]
  | st, g :: r, b => by simp only [List.cons_append, okR, List.foldl_cons, okR_app (stepR gone rul st g) r b, and_assoc]
theorem run_post : ∀ (f : Fo) (st : List Fo) (o : Nat), f.postF.foldl (stepR gone rul) (st, o) = (st ++ rebs gone rul o f, o + f.cnt) ∧ okR gone rul (st, o) f.postF
  | nil, st, o => by simp [postF, rebs, cnt, okR]
  | leaf t s, st, o => by
    obtain ⟨h1, h2⟩ := run_post s (st ++ [leaf t nil]) o
    refine ⟨?_, ?_⟩
    · rw [postF, List.foldl_cons]
      show List.foldl _ (st ++ [leaf t nil], o) _ = _
      rw [h1, List.append_assoc]; rfl
    · exact ⟨fun _ _ _ e => (by cases e), h2⟩
  | node r k s, st, o => by
    obtain ⟨h1, h2⟩ := run_post k st o
    have e : stepR gone rul (st ++ rebs gone rul o k, o + k.cnt) (node r k nil) = (st ++ [if gone (o + k.cnt) = true then reb gone rul o k else node (rul (o + k.cnt)) (reb gone rul o k) nil], o + k.cnt + 1) := by
      unfold stepR
      dsimp only
      rw [List.length_append, rebs_len, Nat.add_sub_cancel, List.take_left' rfl, List.drop_left' rfl, rebs_all]
    obtain ⟨h3, h4⟩ := run_post s (st ++ [if gone (o + k.cnt) = true then reb gone rul o k else node (rul (o + k.cnt)) (reb gone rul o k) nil]) (o + k.cnt + 1)
    refine ⟨?_, ?_⟩
    · rw [postF, List.foldl_append, h1, List.foldl_cons, e, h3, List.append_assoc]
      simp only [rebs, cnt, List.singleton_append]
      rw [show o + k.cnt + 1 + s.cnt = o + (k.cnt + 1 + s.cnt) by omega]
    · rw [postF, okR_app]
      refine ⟨h2, ?_⟩
      rw [h1]
      refine ⟨fun q k' s' ek => ?_, ?_⟩
      · cases ek
        rw [List.length_append, rebs_len]; omega
      · rw [e]; exact h4
end
end Fo
end Sh

/-! How many nodes stay where a tree is built anew in two ways. Plain mathematics. -/
namespace Sh
section
variable (gone : Nat → Bool)
def kept (a n : Nat) : List Nat := (List.range' a n).filter fun k => !gone k
def rk (a b : Nat) : Nat := (kept gone a (b - a)).length
theorem kept_add (a n m : Nat) : kept gone a (n + m) = kept gone a n ++ kept gone (a + n) m := by
  unfold kept
  rw [← List.filter_append, ← List.range'_append_1]
theorem kept_one (a : Nat) : kept gone a 1 = if gone a = true then [] else [a] := by
  unfold kept
  show List.filter _ [a] = _
  cases h : gone a <;> simp [h]
theorem kept_mem {a n k : Nat} : k ∈ kept gone a n ↔ a ≤ k ∧ k < a + n ∧ gone k = false := by
  unfold kept
  rw [List.mem_filter, List.mem_range'_1]
  simp [and_assoc]
theorem rk_add {a b c : Nat} (h1 : a ≤ b) (h2 : b ≤ c) : rk gone a c = rk gone a b + rk gone b c := by
  unfold rk
  rw [show c - a = (b - a) + (c - b) by omega, kept_add, List.length_append, show a + (b - a) = b by omega]
theorem rk_self (a : Nat) : rk gone a a = 0 := by unfold rk; rw [Nat.sub_self]; rfl
theorem rk_succ (a : Nat) (h : gone a = false) : rk gone a (a + 1) = 1 := by
  unfold rk
  rw [show a + 1 - a = 1 by omega, kept_one, h]; rfl
theorem rk_lt {k l : Nat} (h : k < l) (hk : gone k = false) : rk gone 0 k < rk gone 0 l := by
  rw [rk_add gone (Nat.zero_le k) (show k ≤ l by omega), rk_add gone (show k ≤ k + 1 by omega) (show k + 1 ≤ l by omega), rk_succ gone k hk]; omega
theorem rk_mono {k l : Nat} (h : k ≤ l) : rk gone 0 k ≤ rk gone 0 l := by
  rw [rk_add gone (Nat.zero_le k) h]; omega
theorem rk_le_iff {a k : Nat} (hk : gone k = false) : rk gone 0 a ≤ rk gone 0 k ↔ a ≤ k := by
  constructor
  · intro h
    rcases Nat.lt_or_ge k a with q | q
    · have := rk_lt gone q hk; omega
    · exact q
  · exact rk_mono gone
theorem kept_get {n k : Nat} (hk : gone k = false) (hn : k < n) : (kept gone 0 n)[rk gone 0 k]? = some k := by
  have e : kept gone 0 n = kept gone 0 k ++ (kept gone k 1 ++ kept gone (k + 1) (n - k - 1)) := by
    rw [show n = k + (1 + (n - k - 1)) by omega, kept_add, Nat.zero_add, kept_add, show k + (1 + (n - k - 1)) - k - 1 = n - k - 1 by omega]
  rw [e]
  unfold rk
  rw [Nat.sub_zero, List.getElem?_append_right (Nat.le_refl _), Nat.sub_self, kept_one, hk]; rfl

end
namespace Fo
variable (gone : Nat → Bool) (rul : Nat → Int)
theorem reb_rules : ∀ (o : Nat) (f : Fo), (reb gone rul o f).rules = (kept gone o f.cnt).map rul
  | _, nil => rfl
  | o, leaf t s => by simp only [reb, rules, cnt, reb_rules o s]
  | o, node r k s => by
    simp only [reb, cnt]
    rw [kept_add, kept_add, kept_one]
    by_cases h : gone (o + k.cnt) = true
    · rw [if_pos h, if_pos h, app_rules, reb_rules o k, reb_rules _ s, List.append_nil, List.map_append]; rfl
    · rw [if_neg h, if_neg h]
      simp only [rules]
      rw [reb_rules o k, reb_rules _ s, List.map_append, List.map_append, List.append_assoc]; rfl
theorem reb_cnt (o : Nat) (f : Fo) : (reb gone rul o f).cnt = (kept gone o f.cnt).length := by
  rw [← rules_len, reb_rules, List.length_map]
/-- first nodes, by their old numbers -/
def fstO (o : Nat) (f : Fo) (k : Nat) : Nat := (f.firsts o).getD (k - o) 0
theorem reb_firsts : ∀ (o w : Nat) (f : Fo), (reb gone rul o f).firsts w = (kept gone o f.cnt).map fun k => w + rk gone o (fstO o f k)
  | _, _, nil => rfl
  | o, w, leaf t s => by simp only [reb, firsts, cnt]; rw [reb_firsts o w s]; rfl
  | o, w, node r k s => by
    have e1 : ∀ j ∈ kept gone o k.cnt, w + rk gone o (fstO o k j) = w + rk gone o (fstO o (node r k s) j) := fun j hj => by
      obtain ⟨h1, h2, _⟩ := (kept_mem gone).mp hj
      unfold fstO
      simp only [firsts, List.getD_eq_getElem?_getD]
      rw [List.getElem?_append_left (by rw [firsts_len]; omega)]
    have e2 : fstO o (node r k s) (o + k.cnt) = o := by
      unfold fstO
      simp only [firsts, List.getD_eq_getElem?_getD]
      rw [List.getElem?_append_right (by rw [firsts_len]; omega), firsts_len, show o + k.cnt - o - k.cnt = 0 by omega]; rfl
    have e3 : ∀ (z : Nat), z = (kept gone o (k.cnt + 1)).length → ∀ j ∈ kept gone (o + (k.cnt + 1)) s.cnt, w + z + rk gone (o + k.cnt + 1) (fstO (o + k.cnt + 1) s j) = w + rk gone o (fstO o (node r k s) j) := fun z hz j hj => by
      obtain ⟨h1, h2, _⟩ := (kept_mem gone).mp hj
      have hs : fstO o (node r k s) j = fstO (o + k.cnt + 1) s j := by
        unfold fstO
        simp only [firsts, List.getD_eq_getElem?_getD]
        rw [List.getElem?_append_right (by rw [firsts_len]; omega), firsts_len]
        obtain ⟨i, hi⟩ : ∃ i, j - o - k.cnt = i + 1 := ⟨j - o - k.cnt - 1, by omega⟩
        rw [hi, List.getElem?_cons_succ, show j - (o + k.cnt + 1) = i by omega]
      have ge : o + k.cnt + 1 ≤ fstO (o + k.cnt + 1) s j := by
        have hl : j - (o + k.cnt + 1) < (s.firsts (o + k.cnt + 1)).length := by rw [firsts_len]; omega
        have := (firsts_ok s (o + k.cnt + 1) (j - (o + k.cnt + 1)) _ (List.getElem?_eq_getElem hl)).1
        unfold fstO
        rw [List.getD_eq_getElem?_getD, List.getElem?_eq_getElem hl]; exact this
      rw [hs, rk_add gone (show o ≤ o + k.cnt + 1 by omega) ge, hz]
      unfold rk
      rw [show o + k.cnt + 1 - o = k.cnt + 1 by omega]; omega
    have l1 : (kept gone o (k.cnt + 1)).length = (kept gone o k.cnt).length + (kept gone (o + k.cnt) 1).length := by rw [kept_add, List.length_append]
    simp only [reb, cnt]
    rw [kept_add gone o (k.cnt + 1) s.cnt, List.map_append, kept_add gone o k.cnt 1, List.map_append, kept_one]
    by_cases h : gone (o + k.cnt) = true
    · rw [if_pos h, if_pos h, app_firsts, reb_firsts o w k, reb_firsts _ _ s, reb_cnt, List.map_nil, List.append_nil]
      rw [kept_one, if_pos h] at l1
      congr 1
      · exact List.map_congr_left e1
      · rw [show o + (k.cnt + 1) = o + k.cnt + 1 by omega] at e3 ⊢
        exact List.map_congr_left (e3 _ (by rw [l1] <;> rfl))
    · rw [if_neg h, if_neg h]
      simp only [firsts]
      rw [reb_firsts o w k, reb_firsts _ _ s, reb_cnt, List.map_cons, List.map_nil, e2, rk_self, Nat.add_zero, List.append_assoc]
      rw [kept_one, if_neg h] at l1
      congr 1
      · exact List.map_congr_left e1
      · rw [List.singleton_append]
        congr 1
        rw [show o + (k.cnt + 1) = o + k.cnt + 1 by omega] at e3 ⊢
        exact List.map_congr_left (e3 _ (by rw [l1] <;> rfl))
end Fo
end Sh

/-! The count of what stays: two trees built anew out of one. Plain mathematics. -/
namespace Sh
theorem ones (l : List Nat) : (l.map fun _ => 1).sum = l.length := by
  induction l with
  | nil => rfl
  | cons a r ih => rw [List.map_cons, List.sum_cons, ih, List.length_cons]; omega
theorem sub_len {a b : List Nat} (h : a.Nodup) (hs : ∀ x ∈ a, x ∈ b) : a.length ≤ b.length := by
  have := sub_sum (g := fun _ => 1) h hs
  rw [ones, ones] at this; exact this
section
variable {f : Fo} {gX gY : Nat → Bool} {rX rY : Nat → Int}
theorem old_rule {k : Nat} (hk : gX k = false) (hn : k < f.cnt) : (f.reb gX rX 0).nr.rule (rk gX 0 k) = rX k := by
  unfold NR.rule Fo.nr
  dsimp only
  rw [Fo.reb_rules, List.getD_eq_getElem?_getD, List.getElem?_map, kept_get gX hk hn]; rfl
theorem old_first {k : Nat} (hk : gX k = false) (hn : k < f.cnt) : (f.reb gX rX 0).nr.first (rk gX 0 k) = rk gX 0 (f.nr.first k) := by
  unfold NR.first Fo.nr
  dsimp only
  rw [Fo.reb_firsts, List.getD_eq_getElem?_getD, List.getElem?_map, kept_get gX hk hn]
  show 0 + rk gX 0 (Fo.fstO 0 f k) = _
  rw [Nat.zero_add]; rfl
theorem old_lt {k : Nat} (hk : gX k = false) (hn : k < f.cnt) : rk gX 0 k < (f.reb gX rX 0).cnt := by
  rw [Fo.reb_cnt]
  exact (List.getElem?_eq_some_iff.mp (kept_get gX hk hn)).1
def both (gX gY : Nat → Bool) (rX rY : Nat → Int) (n : Nat) : List Nat := (List.range n).filter fun k => !gX k && !gY k && decide (rX k = rY k)
theorem both_mem {n k : Nat} : k ∈ both gX gY rX rY n ↔ k < n ∧ gX k = false ∧ gY k = false ∧ rX k = rY k := by
  unfold both
  rw [List.mem_filter, List.mem_range, Bool.and_eq_true, Bool.and_eq_true, decide_eq_true_iff]
  simp [and_assoc]
theorem low : (both gX gY rX rY f.cnt).length ≤ M (f.reb gX rX 0).nr.nd (f.reb gY rY 0).nr.nd 0 (f.reb gX rX 0).cnt 0 (f.reb gY rY 0).cnt := by
  have lay : Lay (f.reb gX rX 0).nr.nd (f.reb gY rY 0).nr.nd 0 (f.reb gX rX 0).cnt 0 (f.reb gY rY 0).cnt ((both gX gY rX rY f.cnt).map fun k => (rk gX 0 k, rk gY 0 k)) := by
    refine ⟨fun p hp => ?_, ?_⟩
    · obtain ⟨k, hk, rfl⟩ := List.mem_map.mp hp
      obtain ⟨h1, h2, h3, h4⟩ := both_mem.mp hk
      refine ⟨Nat.zero_le _, old_lt h2 h1, Nat.zero_le _, old_lt h3 h1, ?_⟩
      show (f.reb gX rX 0).nr.rule (rk gX 0 k) = (f.reb gY rY 0).nr.rule (rk gY 0 k)
      rw [old_rule h2 h1, old_rule h3 h1, h4]
    · rw [List.pairwise_map]
      have hs : (both gX gY rX rY f.cnt).Pairwise (· < ·) := List.Pairwise.filter _ List.pairwise_lt_range
      refine List.Pairwise.imp_of_mem (fun {k l} hk hl lt => .inl ?_) hs
      obtain ⟨h1, h2, h3, h4⟩ := both_mem.mp hk
      obtain ⟨g1, g2, g3, g4⟩ := both_mem.mp hl
      refine ⟨rk_lt gX lt h2, rk_lt gY lt h3, ?_⟩
      show (f.reb gX rX 0).nr.first (rk gX 0 l) ≤ rk gX 0 k ↔ (f.reb gY rY 0).nr.first (rk gY 0 l) ≤ rk gY 0 k
      rw [old_first g2 g1, old_first g3 g1, rk_le_iff gX h2, rk_le_iff gY h3]
  have := M_ge lay
  rw [List.length_map] at this; exact this
theorem up {T : List Nat} (h : ∀ k l, k < f.cnt → l < f.cnt → gX k = false → gY l = false → rX k = rY l → l ∈ T) : M (f.reb gX rX 0).nr.nd (f.reb gY rY 0).nr.nd 0 (f.reb gX rX 0).cnt 0 (f.reb gY rY 0).cnt ≤ T.length := by
  refine M_le fun l hl => ?_
  have nd : (kept gY 0 f.cnt).Nodup := List.Nodup.sublist (List.filter_sublist) (List.nodup_range' ..)
  have old : ∀ (g : Nat → Bool) (r : Nat → Int) (i : Nat), i < (f.reb g r 0).cnt → ∃ k, (kept g 0 f.cnt)[i]? = some k ∧ k < f.cnt ∧ g k = false ∧ (f.reb g r 0).nr.rule i = r k := fun g r i hi => by
    rw [Fo.reb_cnt] at hi
    have e := List.getElem?_eq_getElem hi
    obtain ⟨_, h2, h3⟩ := (kept_mem g).mp (List.getElem_mem hi)
    refine ⟨_, e, by omega, h3, ?_⟩
    unfold NR.rule Fo.nr
    dsimp only
    rw [Fo.reb_rules, List.getD_eq_getElem?_getD, List.getElem?_map, e]; rfl
  have key : (l.map fun p => (kept gY 0 f.cnt).getD p.2 0).Nodup := by
    rw [List.nodup_iff_pairwise_ne, List.pairwise_map]
    refine List.Pairwise.imp_of_mem (fun {p q} hp hq r => ?_) hl.pw
    obtain ⟨_, _, _, b1, _⟩ := hl.mem p hp
    obtain ⟨_, _, _, b2, _⟩ := hl.mem q hq
    rw [Fo.reb_cnt] at b1 b2
    have ne : p.2 ≠ q.2 := by
      rcases r with r | r
      · have := r.2.1; omega
      · have := r.2.1; omega
    rw [List.getD_eq_getElem?_getD, List.getD_eq_getElem?_getD, List.getElem?_eq_getElem b1, List.getElem?_eq_getElem b2]
    intro e
    exact ne ((List.getElem_inj nd).mp e)
  have := sub_len key (b := T) fun x hx => by
    obtain ⟨p, hp, rfl⟩ := List.mem_map.mp hx
    obtain ⟨_, a1, _, b1, e⟩ := hl.mem p hp
    obtain ⟨k, k1, k2, k3, k4⟩ := old gX rX p.1 a1
    obtain ⟨j, j1, j2, j3, j4⟩ := old gY rY p.2 b1
    have e' : (f.reb gX rX 0).nr.rule p.1 = (f.reb gY rY 0).nr.rule p.2 := e
    rw [k4, j4] at e'
    rw [List.getD_eq_getElem?_getD, j1]
    exact h k j k2 j2 k3 j3 e'
  rw [List.length_map] at this; exact this
/-- the count, where a pair's second node tells that it stays -/
theorem stay {m : Nat} (hT : (both gX gY rX rY f.cnt).length = m) (h : ∀ k l, k < f.cnt → l < f.cnt → gX k = false → gY l = false → rX k = rY l → gX l = false ∧ rX l = rY l) : M (f.reb gX rX 0).nr.nd (f.reb gY rY 0).nr.nd 0 (f.reb gX rX 0).cnt 0 (f.reb gY rY 0).cnt = m := by
  rw [← hT]
  apply Nat.le_antisymm
  · exact up fun k l hk hl h1 h2 h3 => by
      obtain ⟨q1, q2⟩ := h k l hk hl h1 h2 h3
      exact both_mem.mpr ⟨hl, q1, h2, q2⟩
  · exact low
end
end Sh

/-! A tree built anew: its parts, its rules, none left out. Plain mathematics. -/
namespace Sh
namespace Fo
variable (gone : Nat → Bool) (rul : Nat → Int)
theorem reb_parts : ∀ (o : Nat) (f : Fo), (reb gone rul o f).parts ≤ f.parts
  | _, nil => Nat.le_refl _
  | o, leaf t s => by have := reb_parts o s; simp only [reb, parts]; omega
  | o, node r k s => by
    have h1 := reb_parts o k
    have h2 := reb_parts (o + k.cnt + 1) s
    simp only [reb]
    by_cases h : gone (o + k.cnt) = true
    · rw [if_pos h, app_parts]; simp only [parts]; omega
    · rw [if_neg h]; simp only [parts]; omega
theorem app_within {P : Int → Prop} : ∀ {a b : Fo}, a.Within P → b.Within P → (a.app b).Within P
  | nil, _, _, h => h
  | leaf _ s, _, h, h2 => app_within (a := s) h h2
  | node _ k s, _, ⟨h, h1, h2⟩, h3 => ⟨h, h1, app_within h2 h3⟩
theorem reb_within {P : Int → Prop} : ∀ (o : Nat) (f : Fo), (∀ k, o ≤ k → k < o + f.cnt → P (rul k)) → (reb gone rul o f).Within P
  | _, nil, _ => trivial
  | o, leaf t s, h => reb_within o s h
  | o, node r k s, h => by
    have h1 := reb_within (P := P) o k fun j a b => h j a (by simp only [cnt]; omega)
    have h2 := reb_within (P := P) (o + k.cnt + 1) s fun j a b => h j (by omega) (by simp only [cnt]; omega)
    have h3 := h (o + k.cnt) (by omega) (by simp only [cnt]; omega)
    simp only [reb]
    by_cases hg : gone (o + k.cnt) = true
    · rw [if_pos hg]; exact app_within h1 h2
    · rw [if_neg hg]; exact ⟨h3, h1, h2⟩
/-- none left out: as many nodes -/
theorem reb_cnt0 (o : Nat) (f : Fo) (h : ∀ k, gone k = false) : (reb gone rul o f).cnt = f.cnt := by
  rw [reb_cnt]
  unfold kept
  have : (List.range' o f.cnt).filter (fun k => !gone k) = List.range' o f.cnt := List.filter_eq_self.mpr fun k _ => by rw [h]; rfl
  rw [this, List.length_range']
/-- none left out and its own rules: the tree itself -/
theorem reb_same : ∀ (o : Nat) (f : Fo), (∀ k, gone k = false) → (∀ j x, f.rules[j]? = some x → rul (o + j) = x) → reb gone rul o f = f
  | _, nil, _, _ => rfl
  | o, leaf t s, h, hr => by rw [reb, reb_same o s h hr]
  | o, node r k s, h, hr => by
    have lk := rules_len k
    simp only [rules] at hr
    have h1 := reb_same o k h fun j x hj => hr j x (by rw [List.getElem?_append_left (List.getElem?_eq_some_iff.mp hj).1]; exact hj)
    have h2 := reb_same (o + k.cnt + 1) s h fun j x hj => by
      have := hr (k.cnt + 1 + j) x (by
        rw [List.getElem?_append_right (by omega), lk, show k.cnt + 1 + j - k.cnt = j + 1 by omega, List.getElem?_cons_succ]; exact hj)
      rw [← this]; congr 1; omega
    have h3 := hr k.cnt r (by rw [List.getElem?_append_right (by omega), lk, Nat.sub_self]; rfl)
    simp only [reb]
    rw [if_neg (by rw [h]; exact Bool.noConfusion), h1, h2, h3]
end Fo
end Sh

/-! The counts that the law asks. Plain mathematics. -/
namespace Sh
theorem gone_len {n : Nat} {ks : List Nat} (h : ks.Pairwise (· < ·)) (hb : ∀ k ∈ ks, k < n) : ((List.range n).filter fun k => !decide (k ∈ ks)).length + ks.length = n := by
  have fl : ∀ (p : Nat → Bool) (l : List Nat), (l.filter p).length + (l.filter fun k => !p k).length = l.length := fun p l => by
    induction l with
    | nil => rfl
    | cons a r ih =>
      cases e : p a
      · rw [List.filter_cons_of_neg (by rw [e]; exact Bool.noConfusion), List.filter_cons_of_pos (by rw [e]; rfl), List.length_cons, List.length_cons]; omega
      · rw [List.filter_cons_of_pos e, List.filter_cons_of_neg (by rw [e]; exact Bool.noConfusion), List.length_cons, List.length_cons]; omega
  have e := fl (fun k => decide (k ∈ ks)) (List.range n)
  have nd : ks.Nodup := h.imp fun z => Nat.ne_of_lt z
  have a : ks.length ≤ ((List.range n).filter fun k => decide (k ∈ ks)).length := sub_len nd fun x hx => List.mem_filter.mpr ⟨List.mem_range.mpr (hb x hx), decide_eq_true hx⟩
  have b : ((List.range n).filter fun k => decide (k ∈ ks)).length ≤ ks.length := sub_len (List.nodup_range.filter _) fun x hx => of_decide_eq_true (List.mem_filter.mp hx).2
  rw [List.length_range] at e
  omega
theorem M_self {A : NR} (o : A.Ok) : M A.nd A.nd 0 A.n 0 A.n = A.n := by
  apply Nat.le_antisymm
  · have : M A.nd A.nd 0 A.n 0 A.n ≤ A.n - 0 := M_le_width
    omega
  · rcases Nat.eq_zero_or_pos A.n with h | h
    · omega
    · have st : SameT A.nd A.nd 0 0 (A.n - 1) := ⟨fun _ _ => rfl, fun i hi => ⟨Nat.zero_le _, by have := o.le (0 + i) (by omega); exact this, rfl⟩⟩
      have := M_ge st.lay
      rw [idl_len, show 0 + (A.n - 1) + 1 = A.n by omega] at this
      omega
section
variable {f : Fo} {g0 g gu : Nat → Bool} {r r2 : Nat → Int}
theorem reb_own (h0 : ∀ k, g0 k = false) : (f.reb g0 r 0).reb g0 r 0 = f.reb g0 r 0 := by
  refine Fo.reb_same g0 r 0 _ h0 fun j x hj => ?_
  rw [Fo.reb_rules, List.getElem?_map] at hj
  have : kept g0 0 f.cnt = List.range' 0 f.cnt := List.filter_eq_self.mpr fun k _ => by rw [h0]; rfl
  rw [this] at hj
  cases e : (List.range' 0 f.cnt)[j]? with
  | none => rw [e] at hj; cases hj
  | some k =>
    rw [e] at hj
    have hk := List.getElem?_eq_some_iff.mp e
    obtain ⟨hk1, hk2⟩ := hk
    rw [List.getElem_range'] at hk2
    have : r k = x := Option.some.inj hj
    rw [← this]; congr 1; omega
/-- the tree against one with some left out -/
theorem cnt_gone {ks : List Nat} (h0 : ∀ k, g0 k = false) (hg : ∀ k, g k = decide (k ∈ ks)) (hp : ks.Pairwise (· < ·)) (hb : ∀ k ∈ ks, k < f.cnt) (hs : (f.reb g0 r 0) = f) :
    M f.nr.nd (f.reb g r 0).nr.nd 0 f.cnt 0 (f.reb g r 0).cnt = f.cnt - ks.length := by
  have := stay (f := f) (gX := g0) (gY := g) (rX := r) (rY := r) (m := f.cnt - ks.length) ?_ fun k l _ _ _ _ _ => ⟨h0 l, rfl⟩
  · rw [hs] at this; exact this
  · have e : both g0 g r r f.cnt = (List.range f.cnt).filter fun k => !decide (k ∈ ks) := List.filter_congr fun k _ => by rw [h0, hg]; simp
    rw [e]
    have := gone_len hp hb
    omega
/-- against one with some rules turned -/
theorem cnt_turned {ks : List Nat} (h0 : ∀ k, g0 k = false) (hr2 : ∀ k, k < f.cnt → r2 k = r k + 100 * (if k ∈ ks then 1 else 0)) (hr : ∀ k, k < f.cnt → 0 ≤ r k ∧ r k < 100) (hp : ks.Pairwise (· < ·)) (hb : ∀ k ∈ ks, k < f.cnt) (hs : (f.reb g0 r 0) = f) :
    M f.nr.nd (f.reb g0 r2 0).nr.nd 0 f.cnt 0 (f.reb g0 r2 0).cnt = f.cnt - ks.length := by
  have := stay (f := f) (gX := g0) (gY := g0) (rX := r) (rY := r2) (m := f.cnt - ks.length) ?_ fun k l hk hl _ _ e => ⟨h0 l, ?_⟩
  · rw [hs] at this; exact this
  · have e : both g0 g0 r r2 f.cnt = (List.range f.cnt).filter fun k => !decide (k ∈ ks) := List.filter_congr fun k hk => by
      rw [h0, hr2 k (List.mem_range.mp hk)]
      by_cases h : k ∈ ks
      · rw [if_pos h, decide_eq_true h, decide_eq_false (by omega)]; rfl
      · rw [if_neg h, decide_eq_false h, decide_eq_true (by omega)]; rfl
    rw [e]
    have := gone_len hp hb
    omega
  · rw [hr2 l hl] at e ⊢
    obtain ⟨a, b⟩ := hr k hk
    obtain ⟨c, d⟩ := hr l hl
    by_cases h : l ∈ ks
    · rw [if_pos h] at e; omega
    · rw [if_neg h]; omega
theorem cnt_self {ks : List Nat} (hg : ∀ k, g k = decide (k ∈ ks)) (hp : ks.Pairwise (· < ·)) (hb : ∀ k ∈ ks, k < f.cnt) : (f.reb g r 0).cnt = f.cnt - ks.length := by
  rw [Fo.reb_cnt]
  unfold kept
  have := gone_len hp hb
  rw [show (List.range' 0 f.cnt) = List.range f.cnt from (List.range_eq_range' ..).symm]
  rw [List.filter_congr fun k _ => show (!g k) = !decide (k ∈ ks) by rw [hg]]
  omega
/-- all rules unlike: one with some left out against one with some turned -/
theorem cnt_both {ks us : List Nat} (h0 : ∀ k, g0 k = false) (hg : ∀ k, g k = decide (k ∈ ks)) (hr : ∀ k, k < f.cnt → r k = k) (hr2 : ∀ k, k < f.cnt → r2 k = r k + 100 * (if k ∈ us then 1 else 0)) (hn : f.cnt ≤ 100) :
    M (f.reb g r 0).nr.nd (f.reb g0 r2 0).nr.nd 0 (f.reb g r 0).cnt 0 (f.reb g0 r2 0).cnt = ((List.range f.cnt).filter fun k => !decide (k ∈ ks) && !decide (k ∈ us)).length := by
  refine stay (f := f) (gX := g) (gY := g0) (rX := r) (rY := r2) ?_ fun k l hk hl hgk _ e => ?_
  · have e : both g g0 r r2 f.cnt = (List.range f.cnt).filter fun k => !decide (k ∈ ks) && !decide (k ∈ us) := List.filter_congr fun k hk => by
      have hk := List.mem_range.mp hk
      rw [h0, hg, hr2 k hk]
      by_cases h : k ∈ us
      · rw [if_pos h, decide_eq_true h, decide_eq_false (show ¬ r k = r k + 100 * 1 by omega)]; simp
      · rw [if_neg h, decide_eq_false h, decide_eq_true (show r k = r k + 100 * 0 by omega)]; simp
    rw [e]
  · rw [hr2 l hl, hr k hk, hr l hl] at e
    rw [hr2 l hl, hr l hl]
    by_cases h : l ∈ us
    · rw [if_pos h] at e; omega
    · rw [if_neg h] at e ⊢
      have : k = l := by omega
      subst this
      exact ⟨hgk, by omega⟩
end
end Sh

namespace Sh
open PySem L2 Ow
/-! ### the text by places -/
def top (i : Nat) : Stmt := PySem.Challenge.pw_alwaystree_k93_shared_when_nodes_are_lef.main.body.getD i (.Pass ⟨0, 0, 0, 0⟩)
abbrev s_NodeRow_init : Stmt := inClass (top 1) 0
abbrev N_NodeRow_init : List Str := ["self", "rules", "firsts", "last", "node", "first"]
theorem sc_NodeRow_init : FnScope N_NodeRow_init ["self", "rules", "firsts"] (defScope s_NodeRow_init) := ⟨rfl, rfl, rfl, by decide +kernel, rfl, by decide +kernel, by decide +kernel⟩
abbrev s_NodeRow_many : Stmt := inClass (top 1) 1
abbrev N_NodeRow_many : List Str := ["self"]
theorem sc_NodeRow_many : FnScope N_NodeRow_many ["self"] (defScope s_NodeRow_many) := ⟨rfl, rfl, rfl, by decide +kernel, rfl, by decide +kernel, by decide +kernel⟩
abbrev s_NodeRow_first_root : Stmt := inClass (top 1) 2
abbrev N_NodeRow_first_root : List Str := ["self", "low", "high", "root"]
theorem sc_NodeRow_first_root : FnScope N_NodeRow_first_root ["self", "low", "high"] (defScope s_NodeRow_first_root) := ⟨rfl, rfl, rfl, by decide +kernel, rfl, by decide +kernel, by decide +kernel⟩
abbrev s_NodeRow_under_mark : Stmt := inClass (top 1) 3
abbrev N_NodeRow_under_mark : List Str := ["self", "low", "high", "mark", "rules", "firsts", "first"]
theorem sc_NodeRow_under_mark : FnScope N_NodeRow_under_mark ["self", "low", "high", "mark"] (defScope s_NodeRow_under_mark) := ⟨rfl, rfl, rfl, by decide +kernel, rfl, by decide +kernel, by decide +kernel⟩
abbrev s_noderow_of : Stmt := top 2
abbrev N_noderow_of : List Str := ["tree", "rules", "firsts", "path", "node", "at", "first", "child"]
theorem sc_noderow_of : FnScope N_noderow_of ["tree"] (defScope s_noderow_of) := ⟨rfl, rfl, rfl, by decide +kernel, rfl, by decide +kernel, by decide +kernel⟩
abbrev s_Peeling_init : Stmt := inClass (top 6) 0
abbrev N_Peeling_init : List Str := ["self", "one", "other"]
theorem sc_Peeling_init : FnScope N_Peeling_init ["self", "one", "other"] (defScope s_Peeling_init) := ⟨rfl, rfl, rfl, by decide +kernel, rfl, by decide +kernel, by decide +kernel⟩
abbrev s_Peeling_peels : Stmt := inClass (top 6) 1
abbrev N_Peeling_peels : List Str := ["self"]
theorem sc_Peeling_peels : FnScope N_Peeling_peels ["self"] (defScope s_Peeling_peels) := ⟨rfl, rfl, rfl, by decide +kernel, rfl, by decide +kernel, by decide +kernel⟩
abbrev s_Peeling_takes_last : Stmt := inClass (top 6) 2
abbrev N_Peeling_takes_last : List Str := ["self", "x", "y"]
theorem sc_Peeling_takes_last : FnScope N_Peeling_takes_last ["self"] (defScope s_Peeling_takes_last) := ⟨rfl, rfl, rfl, by decide +kernel, rfl, by decide +kernel, by decide +kernel⟩
abbrev s_Peeling_takes_first : Stmt := inClass (top 6) 3
abbrev N_Peeling_takes_first : List Str := ["self", "x", "y"]
theorem sc_Peeling_takes_first : FnScope N_Peeling_takes_first ["self"] (defScope s_Peeling_takes_first) := ⟨rfl, rfl, rfl, by decide +kernel, rfl, by decide +kernel, by decide +kernel⟩
abbrev s_Peeling_takes_root : Stmt := inClass (top 6) 4
abbrev N_Peeling_takes_root : List Str := ["self", "x", "y"]
theorem sc_Peeling_takes_root : FnScope N_Peeling_takes_root ["self"] (defScope s_Peeling_takes_root) := ⟨rfl, rfl, rfl, by decide +kernel, rfl, by decide +kernel, by decide +kernel⟩
abbrev s_Peeling_same_trees : Stmt := inClass (top 6) 5
abbrev N_Peeling_same_trees : List Str := ["self", "x", "y", "here", "there"]
theorem sc_Peeling_same_trees : FnScope N_Peeling_same_trees ["self", "x", "y"] (defScope s_Peeling_same_trees) := ⟨rfl, rfl, rfl, by decide +kernel, rfl, by decide +kernel, by decide +kernel⟩
abbrev s_Peeling_take_all : Stmt := inClass (top 6) 6
abbrev N_Peeling_take_all : List Str := ["self", "x", "y", "by", "node"]
theorem sc_Peeling_take_all : FnScope N_Peeling_take_all ["self", "x", "y"] (defScope s_Peeling_take_all) := ⟨rfl, rfl, rfl, by decide +kernel, rfl, by decide +kernel, by decide +kernel⟩
abbrev s_Peeling_rests : Stmt := inClass (top 6) 7
abbrev N_Peeling_rests : List Str := ["self", "here", "there"]
theorem sc_Peeling_rests : FnScope N_Peeling_rests ["self"] (defScope s_Peeling_rests) := ⟨rfl, rfl, rfl, by decide +kernel, rfl, by decide +kernel, by decide +kernel⟩
abbrev s_Peeling_moved : Stmt := inClass (top 6) 8
abbrev N_Peeling_moved : List Str := ["self", "x", "y"]
theorem sc_Peeling_moved : FnScope N_Peeling_moved ["self", "x", "y"] (defScope s_Peeling_moved) := ⟨rfl, rfl, rfl, by decide +kernel, rfl, by decide +kernel, by decide +kernel⟩
abbrev s_Sharing_init : Stmt := inClass (top 8) 0
abbrev N_Sharing_init : List Str := ["self", "one", "other", "x", "y", "_"]
theorem sc_Sharing_init : FnScope N_Sharing_init ["self", "one", "other"] (defScope s_Sharing_init) := ⟨rfl, rfl, rfl, by decide +kernel, rfl, by decide +kernel, by decide +kernel⟩
abbrev s_Sharing_same_rule : Stmt := inClass (top 8) 1
abbrev N_Sharing_same_rule : List Str := ["self", "x", "y"]
theorem sc_Sharing_same_rule : FnScope N_Sharing_same_rule ["self", "x", "y"] (defScope s_Sharing_same_rule) := ⟨rfl, rfl, rfl, by decide +kernel, rfl, by decide +kernel, by decide +kernel⟩
abbrev s_Sharing_forests : Stmt := inClass (top 8) 2
abbrev N_Sharing_forests : List Str := ["self", "last_x", "last_y", "start", "width", "table", "x"]
theorem sc_Sharing_forests : FnScope N_Sharing_forests ["self", "last_x", "last_y"] (defScope s_Sharing_forests) := ⟨rfl, rfl, rfl, by decide +kernel, rfl, by decide +kernel, by decide +kernel⟩
abbrev s_Sharing_forest_row : Stmt := inClass (top 8) 3
abbrev N_Sharing_forest_row : List Str := ["self", "table", "x", "start", "last_y", "low", "first_x", "above", "left_of_x", "row", "y", "first_y", "both"]
theorem sc_Sharing_forest_row : FnScope N_Sharing_forest_row ["self", "table", "x", "start", "last_y"] (defScope s_Sharing_forest_row) := ⟨rfl, rfl, rfl, by decide +kernel, rfl, by decide +kernel, by decide +kernel⟩
abbrev s_Sharing_keep : Stmt := inClass (top 8) 4
abbrev N_Sharing_keep : List Str := ["self", "last_x", "last_y", "start", "low", "table", "columns", "x", "y"]
theorem sc_Sharing_keep : FnScope N_Sharing_keep ["self", "last_x", "last_y"] (defScope s_Sharing_keep) := ⟨rfl, rfl, rfl, by decide +kernel, rfl, by decide +kernel, by decide +kernel⟩
abbrev s_Sharing_most : Stmt := inClass (top 8) 5
abbrev N_Sharing_most : List Str := ["self"]
theorem sc_Sharing_most : FnScope N_Sharing_most ["self"] (defScope s_Sharing_most) := ⟨rfl, rfl, rfl, by decide +kernel, rfl, by decide +kernel, by decide +kernel⟩
abbrev s_Sharing_pairs : Stmt := inClass (top 8) 6
abbrev N_Sharing_pairs : List Str := ["self", "found", "waiting", "x", "y"]
theorem sc_Sharing_pairs : FnScope N_Sharing_pairs ["self"] (defScope s_Sharing_pairs) := ⟨rfl, rfl, rfl, by decide +kernel, rfl, by decide +kernel, by decide +kernel⟩
abbrev s_Sharing_read_off : Stmt := inClass (top 8) 7
abbrev N_Sharing_read_off : List Str := ["self", "last_x", "last_y", "found", "waiting", "start", "low", "table", "x", "y", "here"]
theorem sc_Sharing_read_off : FnScope N_Sharing_read_off ["self", "last_x", "last_y", "found", "waiting"] (defScope s_Sharing_read_off) := ⟨rfl, rfl, rfl, by decide +kernel, rfl, by decide +kernel, by decide +kernel⟩
abbrev s_shared : Stmt := top 10
abbrev N_shared : List Str := ["one", "other", "peeling", "here", "there"]
theorem sc_shared : FnScope N_shared ["one", "other"] (defScope s_shared) := ⟨rfl, rfl, rfl, by decide +kernel, rfl, by decide +kernel, by decide +kernel⟩
abbrev s_shared_pairs : Stmt := top 11
abbrev N_shared_pairs : List Str := ["one", "other", "peeling", "here", "there", "found", "x", "y"]
theorem sc_shared_pairs : FnScope N_shared_pairs ["one", "other"] (defScope s_shared_pairs) := ⟨rfl, rfl, rfl, by decide +kernel, rfl, by decide +kernel, by decide +kernel⟩
abbrev s_law_source : Stmt := top 13
abbrev N_law_source : List Str := ["script", "cells"]
theorem sc_law_source : FnScope N_law_source ["script"] (defScope s_law_source) := ⟨rfl, rfl, rfl, by decide +kernel, rfl, by decide +kernel, by decide +kernel⟩
abbrev s_law_draw : Stmt := top 14
abbrev N_law_draw : List Str := ["source", "many", "k", "cell", "low", "digit"]
theorem sc_law_draw : FnScope N_law_draw ["source", "many"] (defScope s_law_draw) := ⟨rfl, rfl, rfl, by decide +kernel, rfl, by decide +kernel, by decide +kernel⟩
abbrev s_law_parts : Stmt := top 15
abbrev N_law_parts : List Str := ["tree", "out", "lot", "k", "one", "part"]
theorem sc_law_parts : FnScope N_law_parts ["tree"] (defScope s_law_parts) := ⟨rfl, rfl, rfl, by decide +kernel, rfl, by decide +kernel, by decide +kernel⟩
abbrev s_law_pure : Stmt := top 16
abbrev N_law_pure : List Str := ["told", "lot", "k", "one", "part"]
theorem sc_law_pure : FnScope N_law_pure ["told"] (defScope s_law_pure) := ⟨rfl, rfl, rfl, by decide +kernel, rfl, by decide +kernel, by decide +kernel⟩
abbrev s_law_sizes : Stmt := top 17
abbrev N_law_sizes : List Str := ["tree", "one", "part"]
theorem sc_law_sizes : FnScope N_law_sizes ["tree"] (defScope s_law_sizes) := ⟨rfl, rfl, rfl, by decide +kernel, rfl, by decide +kernel, by decide +kernel⟩
abbrev s_law_shape_of : Stmt := top 18
abbrev N_law_shape_of : List Str := ["tree", "nodes", "part", "node"]
theorem sc_law_shape_of : FnScope N_law_shape_of ["tree"] (defScope s_law_shape_of) := ⟨rfl, rfl, rfl, by decide +kernel, rfl, by decide +kernel, by decide +kernel⟩
abbrev s_law_is_laying : Stmt := top 19
abbrev N_law_is_laying : List Str := ["one", "other", "told", "many", "mine", "sizes", "theirs", "widths", "pair", "pairs", "k", "m", "n", "high", "wide", "part"]
theorem sc_law_is_laying : FnScope N_law_is_laying ["one", "other", "told", "many"] (defScope s_law_is_laying) := ⟨rfl, rfl, rfl, by decide +kernel, rfl, by decide +kernel, by decide +kernel⟩
abbrev s_law_free_tree : Stmt := top 20
abbrev N_law_free_tree : List Str := ["source", "most", "rules", "above", "k", "kept", "row", "told", "j"]
theorem sc_law_free_tree : FnScope N_law_free_tree ["source", "most", "rules"] (defScope s_law_free_tree) := ⟨rfl, rfl, rfl, by decide +kernel, rfl, by decide +kernel, by decide +kernel⟩
abbrev s_law_rebuilt : Stmt := top 21
abbrev N_law_rebuilt : List Str := ["tree", "gone", "rules", "lot", "number", "one", "kids", "told"]
theorem sc_law_rebuilt : FnScope N_law_rebuilt ["tree", "gone", "rules"] (defScope s_law_rebuilt) := ⟨rfl, rfl, rfl, by decide +kernel, rfl, by decide +kernel, by decide +kernel⟩
abbrev s_law_asked : Stmt := top 22
abbrev N_law_asked : List Str := ["one", "other", "due", "told"]
theorem sc_law_asked : FnScope N_law_asked ["one", "other", "due"] (defScope s_law_asked) := ⟨rfl, rfl, rfl, by decide +kernel, rfl, by decide +kernel, by decide +kernel⟩
abbrev s_law : Stmt := top 23
abbrev N_law : List Str := ["script", "source", "free", "rules", "many", "unlike", "tree", "gone", "turned", "less", "news", "other", "stay", "k"]
theorem sc_law : FnScope N_law ["script"] (defScope s_law) := ⟨rfl, rfl, rfl, by decide +kernel, rfl, by decide +kernel, by decide +kernel⟩
/-! ### what the top has left -/
structure Ev (K : PySem.W.Frag) (mg : Str → Option Value) where
  c_NodeRow : Addr
  c_Peeling : Addr
  c_Sharing : Addr
  a_NodeRow_init : Addr
  d_NodeRow_init : FuncData
  a_NodeRow_many : Addr
  d_NodeRow_many : FuncData
  a_NodeRow_first_root : Addr
  d_NodeRow_first_root : FuncData
  a_NodeRow_under_mark : Addr
  d_NodeRow_under_mark : FuncData
  a_noderow_of : Addr
  d_noderow_of : FuncData
  a_Peeling_init : Addr
  d_Peeling_init : FuncData
  a_Peeling_peels : Addr
  d_Peeling_peels : FuncData
  a_Peeling_takes_last : Addr
  d_Peeling_takes_last : FuncData
  a_Peeling_takes_first : Addr
  d_Peeling_takes_first : FuncData
  a_Peeling_takes_root : Addr
  d_Peeling_takes_root : FuncData
  a_Peeling_same_trees : Addr
  d_Peeling_same_trees : FuncData
  a_Peeling_take_all : Addr
  d_Peeling_take_all : FuncData
  a_Peeling_rests : Addr
  d_Peeling_rests : FuncData
  a_Peeling_moved : Addr
  d_Peeling_moved : FuncData
  a_Sharing_init : Addr
  d_Sharing_init : FuncData
  a_Sharing_same_rule : Addr
  d_Sharing_same_rule : FuncData
  a_Sharing_forests : Addr
  d_Sharing_forests : FuncData
  a_Sharing_forest_row : Addr
  d_Sharing_forest_row : FuncData
  a_Sharing_keep : Addr
  d_Sharing_keep : FuncData
  a_Sharing_most : Addr
  d_Sharing_most : FuncData
  a_Sharing_pairs : Addr
  d_Sharing_pairs : FuncData
  a_Sharing_read_off : Addr
  d_Sharing_read_off : FuncData
  a_shared : Addr
  d_shared : FuncData
  a_shared_pairs : Addr
  d_shared_pairs : FuncData
  a_law_source : Addr
  d_law_source : FuncData
  a_law_draw : Addr
  d_law_draw : FuncData
  a_law_parts : Addr
  d_law_parts : FuncData
  a_law_pure : Addr
  d_law_pure : FuncData
  a_law_sizes : Addr
  d_law_sizes : FuncData
  a_law_shape_of : Addr
  d_law_shape_of : FuncData
  a_law_is_laying : Addr
  d_law_is_laying : FuncData
  a_law_free_tree : Addr
  d_law_free_tree : FuncData
  a_law_rebuilt : Addr
  d_law_rebuilt : FuncData
  a_law_asked : Addr
  d_law_asked : FuncData
  a_law : Addr
  d_law : FuncData
  cl_NodeRow : Cls K c_NodeRow
  m_NodeRow : mg "NodeRow" = some (.ref c_NodeRow)
  mk_NodeRow : Mk K c_NodeRow a_NodeRow_init
  n_NodeRow_firsts : NoAttr K c_NodeRow "firsts"
  n_NodeRow_heads : NoAttr K c_NodeRow "heads"
  n_NodeRow_rules : NoAttr K c_NodeRow "rules"
  n_NodeRow_sizes : NoAttr K c_NodeRow "sizes"
  cl_Peeling : Cls K c_Peeling
  m_Peeling : mg "Peeling" = some (.ref c_Peeling)
  mk_Peeling : Mk K c_Peeling a_Peeling_init
  n_Peeling_high : NoAttr K c_Peeling "high"
  n_Peeling_low : NoAttr K c_Peeling "low"
  n_Peeling_one : NoAttr K c_Peeling "one"
  n_Peeling_other : NoAttr K c_Peeling "other"
  n_Peeling_taken : NoAttr K c_Peeling "taken"
  cl_Sharing : Cls K c_Sharing
  m_Sharing : mg "Sharing" = some (.ref c_Sharing)
  mk_Sharing : Mk K c_Sharing a_Sharing_init
  n_Sharing_one : NoAttr K c_Sharing "one"
  n_Sharing_other : NoAttr K c_Sharing "other"
  n_Sharing_trees : NoAttr K c_Sharing "trees"
  F_NodeRow_init : Fun K "__init__" "NodeRow.__init__" s_NodeRow_init a_NodeRow_init d_NodeRow_init
  b_NodeRow_init : Binds K d_NodeRow_init ["self", "rules", "firsts"] []
  F_NodeRow_many : Fun K "many" "NodeRow.many" s_NodeRow_many a_NodeRow_many d_NodeRow_many
  b_NodeRow_many : Binds K d_NodeRow_many ["self"] []
  mt_NodeRow_many : Meth K c_NodeRow "many" a_NodeRow_many
  F_NodeRow_first_root : Fun K "first_root" "NodeRow.first_root" s_NodeRow_first_root a_NodeRow_first_root d_NodeRow_first_root
  b_NodeRow_first_root : Binds K d_NodeRow_first_root ["self", "low", "high"] []
  mt_NodeRow_first_root : Meth K c_NodeRow "first_root" a_NodeRow_first_root
  F_NodeRow_under_mark : Fun K "under_mark" "NodeRow.under_mark" s_NodeRow_under_mark a_NodeRow_under_mark d_NodeRow_under_mark
  b_NodeRow_under_mark : Binds K d_NodeRow_under_mark ["self", "low", "high", "mark"] []
  mt_NodeRow_under_mark : Meth K c_NodeRow "under_mark" a_NodeRow_under_mark
  F_noderow_of : Fun K "noderow_of" "noderow_of" s_noderow_of a_noderow_of d_noderow_of
  b_noderow_of : Binds K d_noderow_of ["tree"] []
  m_noderow_of : mg "noderow_of" = some (.ref a_noderow_of)
  F_Peeling_init : Fun K "__init__" "Peeling.__init__" s_Peeling_init a_Peeling_init d_Peeling_init
  b_Peeling_init : Binds K d_Peeling_init ["self", "one", "other"] []
  F_Peeling_peels : Fun K "peels" "Peeling.peels" s_Peeling_peels a_Peeling_peels d_Peeling_peels
  b_Peeling_peels : Binds K d_Peeling_peels ["self"] []
  mt_Peeling_peels : Meth K c_Peeling "peels" a_Peeling_peels
  F_Peeling_takes_last : Fun K "takes_last" "Peeling.takes_last" s_Peeling_takes_last a_Peeling_takes_last d_Peeling_takes_last
  b_Peeling_takes_last : Binds K d_Peeling_takes_last ["self"] []
  mt_Peeling_takes_last : Meth K c_Peeling "takes_last" a_Peeling_takes_last
  F_Peeling_takes_first : Fun K "takes_first" "Peeling.takes_first" s_Peeling_takes_first a_Peeling_takes_first d_Peeling_takes_first
  b_Peeling_takes_first : Binds K d_Peeling_takes_first ["self"] []
  mt_Peeling_takes_first : Meth K c_Peeling "takes_first" a_Peeling_takes_first
  F_Peeling_takes_root : Fun K "takes_root" "Peeling.takes_root" s_Peeling_takes_root a_Peeling_takes_root d_Peeling_takes_root
  b_Peeling_takes_root : Binds K d_Peeling_takes_root ["self"] []
  mt_Peeling_takes_root : Meth K c_Peeling "takes_root" a_Peeling_takes_root
  F_Peeling_same_trees : Fun K "same_trees" "Peeling.same_trees" s_Peeling_same_trees a_Peeling_same_trees d_Peeling_same_trees
  b_Peeling_same_trees : Binds K d_Peeling_same_trees ["self", "x", "y"] []
  mt_Peeling_same_trees : Meth K c_Peeling "same_trees" a_Peeling_same_trees
  F_Peeling_take_all : Fun K "take_all" "Peeling.take_all" s_Peeling_take_all a_Peeling_take_all d_Peeling_take_all
  b_Peeling_take_all : Binds K d_Peeling_take_all ["self", "x", "y"] []
  mt_Peeling_take_all : Meth K c_Peeling "take_all" a_Peeling_take_all
  F_Peeling_rests : Fun K "rests" "Peeling.rests" s_Peeling_rests a_Peeling_rests d_Peeling_rests
  b_Peeling_rests : Binds K d_Peeling_rests ["self"] []
  mt_Peeling_rests : Meth K c_Peeling "rests" a_Peeling_rests
  F_Peeling_moved : Fun K "moved" "Peeling.moved" s_Peeling_moved a_Peeling_moved d_Peeling_moved
  b_Peeling_moved : Binds K d_Peeling_moved ["self", "x", "y"] []
  mt_Peeling_moved : Meth K c_Peeling "moved" a_Peeling_moved
  F_Sharing_init : Fun K "__init__" "Sharing.__init__" s_Sharing_init a_Sharing_init d_Sharing_init
  b_Sharing_init : Binds K d_Sharing_init ["self", "one", "other"] []
  F_Sharing_same_rule : Fun K "same_rule" "Sharing.same_rule" s_Sharing_same_rule a_Sharing_same_rule d_Sharing_same_rule
  b_Sharing_same_rule : Binds K d_Sharing_same_rule ["self", "x", "y"] []
  mt_Sharing_same_rule : Meth K c_Sharing "same_rule" a_Sharing_same_rule
  F_Sharing_forests : Fun K "forests" "Sharing.forests" s_Sharing_forests a_Sharing_forests d_Sharing_forests
  b_Sharing_forests : Binds K d_Sharing_forests ["self", "last_x", "last_y"] []
  mt_Sharing_forests : Meth K c_Sharing "forests" a_Sharing_forests
  F_Sharing_forest_row : Fun K "forest_row" "Sharing.forest_row" s_Sharing_forest_row a_Sharing_forest_row d_Sharing_forest_row
  b_Sharing_forest_row : Binds K d_Sharing_forest_row ["self", "table", "x", "start", "last_y"] []
  mt_Sharing_forest_row : Meth K c_Sharing "forest_row" a_Sharing_forest_row
  F_Sharing_keep : Fun K "keep" "Sharing.keep" s_Sharing_keep a_Sharing_keep d_Sharing_keep
  b_Sharing_keep : Binds K d_Sharing_keep ["self", "last_x", "last_y"] []
  mt_Sharing_keep : Meth K c_Sharing "keep" a_Sharing_keep
  F_Sharing_most : Fun K "most" "Sharing.most" s_Sharing_most a_Sharing_most d_Sharing_most
  b_Sharing_most : Binds K d_Sharing_most ["self"] []
  mt_Sharing_most : Meth K c_Sharing "most" a_Sharing_most
  F_Sharing_pairs : Fun K "pairs" "Sharing.pairs" s_Sharing_pairs a_Sharing_pairs d_Sharing_pairs
  b_Sharing_pairs : Binds K d_Sharing_pairs ["self"] []
  mt_Sharing_pairs : Meth K c_Sharing "pairs" a_Sharing_pairs
  F_Sharing_read_off : Fun K "read_off" "Sharing.read_off" s_Sharing_read_off a_Sharing_read_off d_Sharing_read_off
  b_Sharing_read_off : Binds K d_Sharing_read_off ["self", "last_x", "last_y", "found", "waiting"] []
  mt_Sharing_read_off : Meth K c_Sharing "read_off" a_Sharing_read_off
  F_shared : Fun K "shared" "shared" s_shared a_shared d_shared
  b_shared : Binds K d_shared ["one", "other"] []
  m_shared : mg "shared" = some (.ref a_shared)
  F_shared_pairs : Fun K "shared_pairs" "shared_pairs" s_shared_pairs a_shared_pairs d_shared_pairs
  b_shared_pairs : Binds K d_shared_pairs ["one", "other"] []
  m_shared_pairs : mg "shared_pairs" = some (.ref a_shared_pairs)
  F_law_source : Fun K "_law_source" "_law_source" s_law_source a_law_source d_law_source
  b_law_source : Binds K d_law_source ["script"] []
  m_law_source : mg "_law_source" = some (.ref a_law_source)
  F_law_draw : Fun K "_law_draw" "_law_draw" s_law_draw a_law_draw d_law_draw
  b_law_draw : Binds K d_law_draw ["source", "many"] []
  m_law_draw : mg "_law_draw" = some (.ref a_law_draw)
  F_law_parts : Fun K "_law_parts" "_law_parts" s_law_parts a_law_parts d_law_parts
  b_law_parts : Binds K d_law_parts ["tree"] []
  m_law_parts : mg "_law_parts" = some (.ref a_law_parts)
  F_law_pure : Fun K "_law_pure" "_law_pure" s_law_pure a_law_pure d_law_pure
  b_law_pure : Binds K d_law_pure ["told"] []
  m_law_pure : mg "_law_pure" = some (.ref a_law_pure)
  F_law_sizes : Fun K "_law_sizes" "_law_sizes" s_law_sizes a_law_sizes d_law_sizes
  b_law_sizes : Binds K d_law_sizes ["tree"] []
  m_law_sizes : mg "_law_sizes" = some (.ref a_law_sizes)
  F_law_shape_of : Fun K "_law_shape_of" "_law_shape_of" s_law_shape_of a_law_shape_of d_law_shape_of
  b_law_shape_of : Binds K d_law_shape_of ["tree"] []
  m_law_shape_of : mg "_law_shape_of" = some (.ref a_law_shape_of)
  F_law_is_laying : Fun K "_law_is_laying" "_law_is_laying" s_law_is_laying a_law_is_laying d_law_is_laying
  b_law_is_laying : Binds K d_law_is_laying ["one", "other", "told", "many"] []
  m_law_is_laying : mg "_law_is_laying" = some (.ref a_law_is_laying)
  F_law_free_tree : Fun K "_law_free_tree" "_law_free_tree" s_law_free_tree a_law_free_tree d_law_free_tree
  b_law_free_tree : Binds K d_law_free_tree ["source", "most", "rules"] []
  m_law_free_tree : mg "_law_free_tree" = some (.ref a_law_free_tree)
  F_law_rebuilt : Fun K "_law_rebuilt" "_law_rebuilt" s_law_rebuilt a_law_rebuilt d_law_rebuilt
  b_law_rebuilt : Binds K d_law_rebuilt ["tree", "gone", "rules"] []
  m_law_rebuilt : mg "_law_rebuilt" = some (.ref a_law_rebuilt)
  F_law_asked : Fun K "_law_asked" "_law_asked" s_law_asked a_law_asked d_law_asked
  b_law_asked : Binds K d_law_asked ["one", "other", "due"] []
  m_law_asked : mg "_law_asked" = some (.ref a_law_asked)
  F_law : Fun K "law" "law" s_law a_law d_law
  b_law : Binds K d_law ["script"] []
  m_law : mg "law" = some (.ref a_law)
  g_all : mg "all" = none
  g_bool : mg "bool" = none
  g_enumerate : mg "enumerate" = none
  g_int : mg "int" = none
  g_isinstance : mg "isinstance" = none
  g_len : mg "len" = none
  g_list : mg "list" = none
  g_max : mg "max" = none
  g_range : mg "range" = none
  g_reversed : mg "reversed" = none
  g_sorted : mg "sorted" = none
  g_str : mg "str" = none
  g_tuple : mg "tuple" = none
  t_MARK_HERE : Tok
  k_MARK_HERE : mg "MARK_HERE" = some (.int (-1) t_MARK_HERE)
  t_MARK_THERE : Tok
  k_MARK_THERE : mg "MARK_THERE" = some (.int (-2) t_MARK_THERE)
end Sh

namespace Sh
open PySem L2 Ow
local macro_rules | `(tactic| walk_at "ne") => `(tactic| first | assumption | exact Ne.symm (by assumption) | exact ne_of_none (by assumption) (by assumption) | exact (ne_of_none (by assumption) (by assumption)).symm | exact ne_of (by assumption) (by assumption) (by intro z; cases z) | exact (ne_of (by assumption) (by assumption) (by intro z; cases z)).symm)
local macro_rules | `(tactic| walk_at "hp") => `(tactic| first | assumption | exact upd_same | (refine' Eq.trans (upd_ne ?xne) ?_; (case xne => walk_at "ne"); walk_at "hp"))
local macro_rules | `(tactic| walk_at "sq") => `(tactic| first | assumption | (refine' TSt.sq (by assumption) (by assumption)) | (apply SqL.of; walk_at "hp") | (apply SqT.of; walk_at "hp") | (refine' sq_new ?xq ?xh; (case xh => assumption); (case xq => walk_at "sq")) | (refine' sq_mut ?xq ?xh; (case xh => walk_at "hp"); (case xq => walk_at "sq")) | (refine' sq_mutI ?xq ?xh; (case xh => walk_at "hp"); (case xq => walk_at "sq")))
local macro_rules | `(tactic| walk_at "cl") => `(tactic| first | exact Ev.cl_NodeRow _ | exact Ev.cl_Peeling _ | exact Ev.cl_Sharing _)
local macro_rules | `(tactic| walk_at "na") => `(tactic| first | exact Ev.n_NodeRow_firsts _ | exact Ev.n_NodeRow_heads _ | exact Ev.n_NodeRow_rules _ | exact Ev.n_NodeRow_sizes _ | exact Ev.n_Peeling_high _ | exact Ev.n_Peeling_low _ | exact Ev.n_Peeling_one _ | exact Ev.n_Peeling_other _ | exact Ev.n_Peeling_taken _ | exact Ev.n_Sharing_one _ | exact Ev.n_Sharing_other _ | exact Ev.n_Sharing_trees _)
local macro_rules | `(tactic| walk_at "st1") => `(tactic| with_reducible first
  | refine s_seq ?_ | refine s_asg ?_ | refine s_drop ?_ | refine s_ret ?_ | refine s_retN ?_ | refine s_nx ?_ | refine s_bk ?_ | refine s_ct ?_ | refine s_ifS ?_ | refine s_par ?_ | refine s_par2 ?_
  | refine s_gName ?_ | refine s_gNil ?_ | refine s_gCons ?_ | refine s_gSub ?_ | refine s_ip ?_
  | refine s_c ?_ | refine s_op ?_ | refine s_un ?_ | refine s_rU ?_ | refine s_rI0 ?_ | refine s_eqI ?_ | refine s_neI ?_ | refine s_eqS ?_ | refine s_neS ?_ | refine s_eqB ?_ | refine s_neB ?_
  | refine s_bl ?_ | refine s_test ?_ | refine s_tB ?_ | refine s_and ?_ | refine s_or ?_ | refine s_not ?_ | refine s_tru ?_ | refine s_yes ?_ | refine s_andV ?_ | refine s_orV ?_ | refine s_notV ?_ | refine s_ifE ?_ | refine s_chain ?_
  | refine s_fld ?_ | refine s_meth ?_ | refine s_call ?_ | refine s_make ?_ | refine s_cb ?_ | refine s_nil ?_ | refine s_cons ?_ | refine s_star ?_ | refine s_tup ?_ | refine s_lst ?_
  | refine s_sl ?_ | refine s_noPart ?_ | refine s_part ?_ | refine s_part2 ?_ | refine s_bm ?_ | refine s_bm0 ?_ | refine s_max3 ?_ | refine s_sfld ?_ | refine s_dput ?_ | refine s_lvals ?_ | refine s_iL ?_ | refine s_iT ?_ | refine s_iR1 ?_ | refine s_iR2 ?_ | refine s_iE ?_ | refine s_for ?_ | refine s_lc ?_ | refine iteT ?_ | refine iteF ?_)
local macro_rules | `(tactic| walk_at "st2") => `(tactic| first
  | ((with_reducible refine' s_var ?xe ?_); (case xe => exact rfl))
  | ((with_reducible refine' s_aug ?xe ?_); (case xe => exact rfl))
  | ((with_reducible refine' s_fld2 ?xp ?xc ?xn ?xl ?_); (case xp => walk_at "hp"); (case xc => walk_at "cl"); (case xn => walk_at "na"); (case xl => exact rfl))
  | ((with_reducible refine' s_sfld2 ?xp ?xc ?xn ?xl ?_); (case xp => walk_at "hp"); (case xc => walk_at "cl"); (case xn => walk_at "na"); (case xl => exact of_decide_eq_true rfl))
  | ((with_reducible refine' s_iL2 ?xq ?_); (case xq => walk_at "sq"))
  | ((with_reducible refine' s_iT2 ?xq ?_); (case xq => walk_at "sq"))
  | ((with_reducible refine' s_iE2 ?xq ?_); (case xq => walk_at "sq"))
  | ((with_reducible refine' s_iR1' ?xa ?xb ?_); (case xa => omega); (case xb => omega))
  | ((with_reducible refine' s_iR2' ?xa ?xb ?xc ?xd ?_); (case xa => omega); (case xb => omega); (case xc => omega); (case xd => omega))
  | ((with_reducible refine' s_lcB ?xe ?_); (case xe => rfl))
  | ((with_reducible refine' s_gTup ?xq ?xl ?_); (case xq => walk_at "sq"); (case xl => rfl))
  | ((with_reducible refine' s_gUnl ?xq ?xl ?_); (case xq => walk_at "sq"); (case xl => rfl))
  | ((with_reducible refine' s_pop ?xp ?_); (case xp => walk_at "hp"))
  | ((with_reducible refine' s_starT ?xq ?_); (case xq => walk_at "sq"))
  | ((with_reducible refine' s_starL ?xq ?_); (case xq => walk_at "sq"))
  | ((with_reducible refine' s_setL ?xp ?xj ?_); (case xp => walk_at "hp"); (case xj => first | assumption | rfl))
  | ((with_reducible refine' s_meth2 ?xp ?xl ?_); (case xp => walk_at "hp"); (case xl => exact rfl))
  | ((with_reducible refine' s_ixT ?xq ?xe ?_); (case xq => walk_at "sq"); (case xe => assumption))
  | ((with_reducible refine' s_ixL ?xq ?xe ?_); (case xq => walk_at "sq"); (case xe => assumption))
  | ((with_reducible refine' s_bmL ?xq ?_); (case xq => walk_at "sq"))
  | ((with_reducible refine' s_bm0L ?xq ?_); (case xq => walk_at "sq"))
  | ((with_reducible refine' s_lenL ?xq ?_); (case xq => walk_at "sq"))
  | ((with_reducible refine' s_lenT ?xq ?_); (case xq => walk_at "sq")))
local macro_rules | `(tactic| walk_at "st") => `(tactic| repeat' (first | walk_at "st1" | walk_at "st2"))
section
variable {P : Program} {w : World} {K : PySem.W.Frag} {mg : Str → Option Value} {base : Heap}
/-! ### a row of nodes as an object -/
abbrev iV (k : Nat) : V := .int k
abbrev fsN (r f s h : V) : List (Str × V) := [("rules", r), ("firsts", f), ("sizes", s), ("heads", h)]
structure NRAt (K : PySem.W.Frag) (C : Addr) (H : Hp) (a : Addr) (A : NR) : Prop where
  ob : ∃ (dx r f s h : Addr) (hs : List Nat), H a = some (.ins C dx (fsN (.ref r) (.ref f) (.ref s) (.ref h))) ∧ SqT K H r (A.rules.map V.int) ∧ SqT K H f (A.firsts.map iV) ∧ SqT K H s (A.sizes.map V.int) ∧ SqT K H h (hs.map iV) ∧ A.Heads hs
  ok : A.Ok
theorem NRAt.keep {C : Addr} {H H' : Hp} {a : Addr} {A : NR} {W : Addr → Prop} (h : NRAt K C H a A) (k : Kp W H H') (t : TSt H H') (n : ¬ W a) : NRAt K C H' a A := by
  obtain ⟨⟨dx, r, f, s, h', hs, e, q1, q2, q3, q4, o⟩, ok⟩ := h
  exact ⟨⟨dx, r, f, s, h', hs, k _ _ e n, t.sq q1, t.sq q2, t.sq q3, t.sq q4, o⟩, ok⟩
theorem NRAt.same {C : Addr} {H H' : Hp} {a : Addr} {A : NR} (h : NRAt K C H a A) (s : Same H H') : NRAt K C H' a A := h.keep (W := fun _ => False) (Kp.of s) (Same.ts s) id
theorem NRAt.there {C : Addr} {H : Hp} {a p : Addr} {A : NR} (h : NRAt K C H a A) (n : H p = none) : a ≠ p := by
  obtain ⟨⟨_, _, _, _, _, _, e, _⟩, _⟩ := h
  exact ne_of_none e n
/-! ### many -/
def sp_NodeRow_many (T : Ev K mg) : Sp := fun vs H Q _ => ∃ (a : Addr) (A : NR), vs = [.ref a] ∧ NRAt K T.c_NodeRow H a A ∧ Q (.int A.n) H
theorem ok_NodeRow_many (T : Ev K mg) : FnOk P w K mg base CX0 1 T.a_NodeRow_many T.d_NodeRow_many ["self"] (sp_NodeRow_many T) := by
  refine T.F_NodeRow_many.ok sc_NodeRow_many (fun vs H Q E h => ?_) (fun cdv A outer s H vs Q E hr h => ?_)
  · obtain ⟨a, A, rfl, _⟩ := h; rfl
  · obtain ⟨a, B, rfl, ⟨⟨dx, r, f, s, h', hs, e, q1, q2, q3, q4, o⟩, ok⟩, k⟩ := h
    refine ⟨_, (pss_one (ps_ret (pe_callB call_lenS (by rfl) T.g_len (by decide +kernel) (pa_cons (pe_fld (pv 0) rfl) pa_nil)))), ?_⟩
    walk_at "st"
    show Q _ H
    rw [List.length_map]; exact k
/-! ### first_root -/
def sp_NodeRow_first_root (T : Ev K mg) : Sp := fun vs H Q _ => ∃ (a : Addr) (A : NR) (lo hi : Nat), vs = [.ref a, .int lo, .int hi] ∧ NRAt K T.c_NodeRow H a A ∧ lo < hi ∧ hi ≤ A.n ∧ Cl A.nd lo hi ∧ ∀ r : Nat, A.Root lo hi r → Q (.int r) H
theorem ok_NodeRow_first_root (T : Ev K mg) : FnOk P w K mg base CX0 1 T.a_NodeRow_first_root T.d_NodeRow_first_root ["self", "low", "high"] (sp_NodeRow_first_root T) := by
  refine T.F_NodeRow_first_root.ok sc_NodeRow_first_root (fun vs H Q E h => ?_) (fun cdv A outer s H vs Q E hr h => ?_)
  · obtain ⟨a, A, lo, hi, rfl, _⟩ := h; rfl
  · obtain ⟨a, B, lo, hi, rfl, ⟨⟨dx, r, f, s, h', hs, e, q1, q2, q3, q4, o⟩, ok⟩, hlt, hle, hc, k⟩ := h
    refine ⟨_, (pss_cons (ps_set (i := 3) sc_NodeRow_first_root.nd rfl (Or.inl rfl) (pe_op op_sub (pv 2) pe_int))
      (pss_cons (ps_while PassesOwn.never (pt_cmpR op_gt (pe_ix ix_tup (pe_fld (pv 0) rfl) (pv 3) (fun _ _ => rfl)) (pv 1) (nomark _)) (pss_one (ps_set (i := 3) sc_NodeRow_first_root.nd rfl (Or.inl rfl) (pe_op op_sub (pe_ix ix_tup (pe_fld (pv 0) rfl) (pv 3) (fun _ _ => rfl)) pe_int))))
      (pss_one (ps_ret (pv 3))))), ?_⟩
    walk_at "st"
    refine s_while (fun r σ H' => σ = [some (.ref a), some (.int lo), some (.int hi), some (.int r)] ∧ H' = H ∧ lo ≤ r ∧ r < hi ∧ Cl B.nd (r + 1) hi) (hi - 1) ⟨?_, rfl, by omega, by omega, fun j h1 h2 => by omega⟩ ?_
    · rw [show ((hi - 1 : Nat) : Int) = (hi : Int) - 1 by omega]; rfl
    · rintro r σ _ ⟨rfl, rfl, h1, h2, h3⟩
      have hrn : r < B.n := by omega
      have e1 : atI (B.firsts.map iV) (r : Int) = some (iV (B.first r)) := atI_map iV (NR.first_get ok hrn)
      walk_at "st"
      have c1 : lo ≤ B.first r := (hc r h1 h2).1
      have c2 : B.first r ≤ r := ok.le r hrn
      refine s_wd (fun hgt => ?_) fun hgt => ?_
      · walk_at "st"
        refine ⟨B.first r - 1, by omega, ?_, rfl, by omega, by omega, ?_⟩
        · rw [show ((B.first r - 1 : Nat) : Int) = (B.first r : Int) - 1 by omega]; rfl
        · rw [show B.first r - 1 + 1 = B.first r by omega]
          exact NR.cl_step ok hrn h3
      · walk_at "st"
        exact k r ⟨h1, h2, by omega, h3⟩

/-! ### NodeRow(rules, firsts) -/
/-- the dict: of each first one the last node so far -/
structure Last (B : NR) (i : Nat) (kvs : List (Key × V)) : Prop where
  nd : (kvs.map (·.1)).Nodup
  len : kvs.length ≤ i
  val : ∀ p ∈ kvs, ∃ j, j < i ∧ p = (Sum.inl (B.first j : Int), V.int j) ∧ ∀ m, j < m → m < i → B.first m ≠ B.first j
  has : ∀ j, j < i → (∀ m, j < m → m < i → B.first m ≠ B.first j) → (Sum.inl (B.first j : Int), V.int j) ∈ kvs
theorem Last.step {B : NR} {i : Nat} {kvs : List (Key × V)} (h : Last B i kvs) : Last B (i + 1) (putK kvs (Sum.inl (B.first i : Int)) (V.int i)) := by
  have key : ∀ {a b : Nat}, (Sum.inl (a : Int) : Key) = Sum.inl (b : Int) → a = b := fun e => by have := Sum.inl.inj e; omega
  by_cases c : (kvs.any fun kv => decide (kv.1 = Sum.inl (B.first i : Int))) = true
  · have e : putK kvs (Sum.inl (B.first i : Int)) (V.int i) = kvs.map (fun kv => if kv.1 = Sum.inl (B.first i : Int) then (kv.1, V.int i) else kv) := by unfold putK; rw [if_pos c]
    rw [e]
    refine ⟨?_, by rw [List.length_map]; have := h.len; omega, fun p hp => ?_, fun j hj hl => ?_⟩
    · rw [List.map_map]
      have : ((·.1) ∘ fun kv : Key × V => if kv.1 = Sum.inl (B.first i : Int) then (kv.1, V.int i) else kv) = (·.1) := by
        funext kv; show (if kv.1 = _ then (kv.1, V.int i) else kv).1 = kv.1
        split <;> rfl
      rw [this]; exact h.nd
    · obtain ⟨q, hq, rfl⟩ := List.mem_map.mp hp
      obtain ⟨j, hj, rfl, hl⟩ := h.val q hq
      by_cases z : (Sum.inl (B.first j : Int) : Key) = Sum.inl (B.first i : Int)
      · refine ⟨i, by omega, ?_, fun m h1 h2 => by omega⟩
        show (if (Sum.inl (B.first j : Int) : Key) = Sum.inl (B.first i : Int) then ((Sum.inl (B.first j : Int) : Key), V.int i) else _) = _
        rw [if_pos z, z]
      · refine ⟨j, by omega, by rw [if_neg z], fun m h1 h2 => ?_⟩
        by_cases hm : m = i
        · subst hm; intro q; exact z (by rw [q])
        · exact hl m h1 (by omega)
    · by_cases hji : j = i
      · subst hji
        obtain ⟨q, hq, hk⟩ := List.any_eq_true.mp c
        have hk := of_decide_eq_true hk
        refine List.mem_map.mpr ⟨q, hq, ?_⟩
        rw [if_pos hk, hk]
      · have := h.has j (by omega) fun m h1 h2 => hl m h1 (by omega)
        refine List.mem_map.mpr ⟨_, this, ?_⟩
        rw [if_neg]
        intro z
        exact hl i (by omega) (by omega) (key z).symm
  · have e : putK kvs (Sum.inl (B.first i : Int)) (V.int i) = kvs ++ [(Sum.inl (B.first i : Int), V.int i)] := by unfold putK; rw [if_neg c]
    have nk : ∀ q ∈ kvs, q.1 ≠ Sum.inl (B.first i : Int) := fun q hq z => c (List.any_eq_true.mpr ⟨q, hq, decide_eq_true z⟩)
    rw [e]
    refine ⟨?_, by rw [List.length_append, List.length_singleton]; have := h.len; omega, fun p hp => ?_, fun j hj hl => ?_⟩
    · rw [List.map_append]
      refine List.nodup_append.mpr ⟨h.nd, by simp, fun a ha b hb => ?_⟩
      obtain ⟨q, hq, rfl⟩ := List.mem_map.mp ha
      have : b = Sum.inl (B.first i : Int) := by simpa using hb
      rw [this]; exact nk q hq
    · rcases List.mem_append.mp hp with hp2 | hp2
      · obtain ⟨j, hj, rfl, hl⟩ := h.val p hp2
        refine ⟨j, by omega, rfl, fun m h1 h2 => ?_⟩
        by_cases hm : m = i
        · intro q; exact nk _ hp2 (by show (Sum.inl (B.first j : Int) : Key) = _; rw [← q, hm])
        · exact hl m h1 (by omega)
      · have : p = (Sum.inl (B.first i : Int), V.int i) := by simpa using hp2
        exact ⟨i, by omega, this, fun m h1 h2 => by omega⟩
    · by_cases hji : j = i
      · subst hji; exact List.mem_append_right _ (by simp)
      · exact List.mem_append_left _ (h.has j (by omega) fun m h1 h2 => hl m h1 (by omega))
/-- its values, sorted, are the heads -/
theorem Last.heads {B : NR} {kvs : List (Key × V)} (h : Last B B.n kvs) {ns ns' : List Int} (e : kvs.map (·.2) = ns.map V.int) (p : ns'.Perm ns) (s : ns'.Pairwise (· ≤ ·)) : ∃ hs, ns' = hs.map (fun k : Nat => (k : Int)) ∧ B.Heads hs := by
  have mem : ∀ z : Int, z ∈ ns' ↔ ∃ j : Nat, z = j ∧ j < B.n ∧ ∀ m, j < m → m < B.n → B.first m ≠ B.first j := fun z => by
    rw [p.mem_iff]
    constructor
    · intro hz
      have : V.int z ∈ kvs.map (·.2) := by rw [e]; exact List.mem_map.mpr ⟨z, hz, rfl⟩
      obtain ⟨q, hq, e2⟩ := List.mem_map.mp this
      obtain ⟨j, hj, rfl, hl⟩ := h.val q hq
      have := V.int.inj e2
      exact ⟨j, this.symm, hj, hl⟩
    · rintro ⟨j, rfl, hj, hl⟩
      have : V.int (j : Int) ∈ ns.map V.int := by rw [← e]; exact List.mem_map.mpr ⟨_, h.has j hj hl, rfl⟩
      obtain ⟨z, hz, e2⟩ := List.mem_map.mp this
      rw [V.int.inj e2] at hz; exact hz
  have nd : ns'.Nodup := by
    refine p.nodup_iff.mpr ?_
    have : (kvs.map (·.2)).Nodup := by
      rw [List.Nodup, List.pairwise_map]
      refine List.Pairwise.imp_of_mem (fun {a b} ha hb r => ?_) (List.pairwise_map.mp h.nd)
      obtain ⟨j, _, rfl, _⟩ := h.val a ha
      obtain ⟨m, _, rfl, _⟩ := h.val b hb
      intro z
      have := V.int.inj z
      have : j = m := by omega
      exact r (by rw [this])
    rw [e, List.Nodup, List.pairwise_map] at this
    exact this.imp fun r z => r (by rw [z])
  have nn : ns' = (ns'.map Int.toNat).map (fun k : Nat => (k : Int)) := by
    rw [List.map_map]
    conv => lhs; rw [← List.map_id ns']
    refine List.map_congr_left fun z hz => ?_
    obtain ⟨j, rfl, _⟩ := (mem z).mp hz
    rfl
  refine ⟨ns'.map Int.toNat, nn, ?_, fun k => ?_⟩
  · rw [List.pairwise_map]
    refine List.Pairwise.imp_of_mem (fun {a b} ha hb r => ?_) (List.pairwise_and_iff.mpr ⟨s, nd⟩)
    obtain ⟨j, rfl, _⟩ := (mem a).mp ha
    obtain ⟨m, rfl, _⟩ := (mem b).mp hb
    have r1 := r.1
    have r2 := r.2
    show j < m
    omega
  · rw [List.mem_map]
    constructor
    · rintro ⟨z, hz, rfl⟩
      obtain ⟨j, rfl, h1, h2⟩ := (mem z).mp hz
      exact ⟨h1, h2⟩
    · rintro ⟨h1, h2⟩
      exact ⟨(k : Int), (mem _).mpr ⟨k, rfl, h1, h2⟩, rfl⟩
theorem Last.ints {B : NR} {i : Nat} {kvs : List (Key × V)} (h : Last B i kvs) : ∃ ns : List Int, kvs.map (·.2) = ns.map V.int := by
  have : ∀ l : List (Key × V), (∀ p ∈ l, ∃ z : Int, p.2 = V.int z) → ∃ ns : List Int, l.map (·.2) = ns.map V.int := by
    intro l
    induction l with
    | nil => exact fun _ => ⟨[], rfl⟩
    | cons p r ih =>
      intro hl
      obtain ⟨z, e⟩ := hl p List.mem_cons_self
      obtain ⟨ns, e2⟩ := ih fun q hq => hl q (List.mem_cons_of_mem _ hq)
      exact ⟨z :: ns, by rw [List.map_cons, List.map_cons, e, e2]⟩
  exact this kvs fun p hp => by
    obtain ⟨j, _, rfl, _⟩ := h.val p hp
    exact ⟨j, rfl⟩
def sp_NodeRow_init (T : Ev K mg) : Sp := fun vs H Q _ => ∃ (p dx ra fa : Addr) (A : NR), vs = [.ref p, .ref ra, .ref fa] ∧ H p = some (.ins T.c_NodeRow dx []) ∧ H ra = some (.lst (A.rules.map V.int)) ∧ H fa = some (.lst (A.firsts.map iV)) ∧ A.Ok ∧
  ∀ H', NRAt K T.c_NodeRow H' p A → Kp (· = p) H H' → TSt H H' → Q .non H'
set_option maxHeartbeats 16000000 in
theorem ok_NodeRow_init (T : Ev K mg) : FnOk P w K mg base CX0 1 T.a_NodeRow_init T.d_NodeRow_init ["self", "rules", "firsts"] (sp_NodeRow_init T) := by
  refine T.F_NodeRow_init.ok sc_NodeRow_init (fun vs H Q E h => ?_) (fun cdv A outer s H vs Q E hr h => ?_)
  · obtain ⟨p, dx, ra, fa, A, rfl, _⟩ := h; rfl
  · obtain ⟨p, dx, ra, fa, B, rfl, hp, hra, hfa, ok, k⟩ := h
    have small : B.n ≤ 1000 := ok.small
    have nfp : fa ≠ p := ne_of hfa hp (by intro z; cases z)
    refine ⟨_, (pss_cons (ps_fld (pv 0) (pe_callTy call_tupOf (by rfl) T.g_tuple (by decide +kernel) (pa_cons (pv 1) pa_nil)) rfl)
      (pss_cons (ps_fld (pv 0) (pe_callTy call_tupOf (by rfl) T.g_tuple (by decide +kernel) (pa_cons (pv 2) pa_nil)) rfl)
      (pss_cons (ps_fld (pv 0) (pe_callTy call_tupOf (by rfl) T.g_tuple (by decide +kernel) (pa_cons (pe_lc (own := [("node", 4), ("first", 5)]) (g := (gTup K 2 (gCons (gName 4) (gCons (gName 5) gNil)))) (tt := tYes) (te := (tOp _ (tVar 4) (tVar 5))) rfl sc_NodeRow_init.nd (pi_enum (by rfl) T.g_enumerate (pa_cons (pv 2) pa_nil)) (blkOk_by (N := N_NodeRow_init) (sc := defScope s_NodeRow_init) (by decide +kernel)) (fun _ _ _ _ _ => (pg_tup (by rfl) (pgs_cons (pg_name (i := 4) sc_NodeRow_init.nd rfl (Or.inl rfl)) (pgs_cons (pg_name (i := 5) sc_NodeRow_init.nd rfl (Or.inl rfl)) pgs_nil)))) (fun _ _ _ _ _ => pts_nil) (fun _ _ _ _ _ => (pe_op op_sub (pv 4) (pv 5)))) pa_nil)) rfl)
      (pss_cons (ps_set (i := 3) sc_NodeRow_init.nd rfl (Or.inl rfl) pe_dnewK)
      (pss_cons (ps_for PassesOwn.never rfl (pi_enum (by rfl) T.g_enumerate (pa_cons (pv 2) pa_nil)) (pg_tup (by rfl) (pgs_cons (pg_name (i := 4) sc_NodeRow_init.nd rfl (Or.inl rfl)) (pgs_cons (pg_name (i := 5) sc_NodeRow_init.nd rfl (Or.inl rfl)) pgs_nil)))
      (pss_one (ps_dput (hu_of hr) (pv 3) (pv 5) (pv 4) rfl)))
      (pss_one (ps_fld (pv 0) (pe_callTy call_tupOf (by rfl) T.g_tuple (by decide +kernel) (pa_cons (pe_callB cr_sortedI (by rfl) T.g_sorted (by decide +kernel) (pa_cons (pe_listValues rfl (pv 3) (by rfl) T.g_list) pa_nil)) pa_nil)) rfl))))))), ?_⟩
    walk_at "st"
    refine s_tupOf (SqL.of hra) fun l1 n1 => ?_
    have npl1 : p ≠ l1 := ne_of_none hp n1
    have nfl1 : fa ≠ l1 := ne_of_none hfa n1
    walk_at "st"
    refine s_tupOf (SqL.of (by walk_at "hp")) fun l2 m2 => ?_
    obtain ⟨d1, m3⟩ := un m2
    obtain ⟨d2, n2⟩ := un m3
    have nfl2 : fa ≠ l2 := ne_of_none hfa n2
    walk_at "st"
    generalize hH : upd (upd (upd (upd H l1 (.tup (B.rules.map V.int))) p (.ins T.c_NodeRow dx (putF "rules" (.ref l1) []))) l2 (.tup (B.firsts.map iV))) p (.ins T.c_NodeRow dx (putF "firsts" (.ref l2) (putF "rules" (.ref l1) []))) = H1
    have a1 : H1 fa = some (.lst (B.firsts.map iV)) := by rw [← hH]; walk_at "hp"
    have a2 : H1 p = some (.ins T.c_NodeRow dx (putF "firsts" (.ref l2) (putF "rules" (.ref l1) []))) := by rw [← hH]; exact upd_same
    have a3 : H1 l1 = some (.tup (B.rules.map V.int)) := by rw [← hH, upd_ne npl1.symm, upd_ne d2.symm, upd_ne npl1.symm]; exact upd_same
    have a4 : H1 l2 = some (.tup (B.firsts.map iV)) := by rw [← hH, upd_ne d1]; exact upd_same
    have k1 : Kp (· = p) H H1 := by rw [← hH]; exact Kp.mut (W := (· = p)) (Kp.upd' (Kp.mut (W := (· = p)) (Kp.refl.upd' n1) rfl) m2) rfl
    have t1 : TSt H H1 := by rw [← hH]; exact (((TSt.refl.upd' n1).mut (o' := .ins T.c_NodeRow dx []) (by walk_at "hp") trivial).upd' m2).mut (o' := .ins T.c_NodeRow dx (putF "rules" (.ref l1) [])) (by walk_at "hp") trivial
    clear hH m2 m3
    intro C nC
    have item : ∀ {i : Nat} {x : V}, (B.firsts.map iV)[i]? = some x → i < B.n ∧ x = .int (B.first i : Int) := fun {i x} hx => by
      rw [List.getElem?_map] at hx
      cases e : B.firsts[i]? with
      | none => rw [e] at hx; cases hx
      | some v =>
        have hi : i < B.n := by
          have := (List.getElem?_eq_some_iff.mp e).1
          have := ok.len; have z : B.rules.length = B.n := rfl; omega
        rw [NR.first_get ok hi] at hx
        exact ⟨hi, (Option.some.inj hx).symm⟩
    have fl : (B.firsts.map iV).length = B.n := by rw [List.length_map]; exact ok.len
    refine c_enum (SqL.of a1) nC (fun i acc _ => acc = (B.sizes.take i).map V.int) rfl ?_ ?_
    · rintro i x Ta H2 acc hx sm e rfl nT
      obtain ⟨hi, rfl⟩ := item hx
      have nTC : C ≠ Ta := ne_of_none e nT
      refine s_gTup (SqT.of upd_same) rfl ?_
      walk_at "st"
      refine s_acc (by walk_at "hp") ?_ ⟨sM (sU sm nT) nC, _, upd_same, ?_⟩
      · rw [List.length_map, List.length_take]; exact small1000 (by omega)
      · exact mapTake V.int (NR.size_get hi)
    · rintro H2 acc sm e rfl
      rw [fl, ← NR.sizes_len, List.take_length] at e
      walk_at "st"
      refine s_tupOf (SqL.of e) fun l3 n3 => ?_
      have b1 : H2 p = some (.ins T.c_NodeRow dx (putF "firsts" (.ref l2) (putF "rules" (.ref l1) []))) := sm _ _ a2
      have npl3 : p ≠ l3 := ne_of_none b1 n3
      walk_at "st"
      refine s_dnew fun d nd => ?_
      have e1 : H2 fa = some (.lst (B.firsts.map iV)) := sm _ _ a1
      obtain ⟨dp, nd1⟩ := un nd
      obtain ⟨dl3, nd2⟩ := un nd1
      have dfa : fa ≠ d := ne_of_none e1 nd2
      have fl3 : fa ≠ l3 := ne_of_none e1 n3
      walk_at "st"
      generalize hH : upd (upd (upd H2 l3 (.tup (B.sizes.map V.int))) p (.ins T.c_NodeRow dx (putF "sizes" (.ref l3) (putF "firsts" (.ref l2) (putF "rules" (.ref l1) []))))) d (.dK []) = H3
      have c1 : H3 fa = some (.lst (B.firsts.map iV)) := by rw [← hH]; walk_at "hp"
      have c2 : H3 p = some (.ins T.c_NodeRow dx (putF "sizes" (.ref l3) (putF "firsts" (.ref l2) (putF "rules" (.ref l1) [])))) := by rw [← hH, upd_ne dp.symm]; exact upd_same
      have c3 : H3 d = some (.dK []) := by rw [← hH]; exact upd_same
      have t3 : TSt H2 H3 := by rw [← hH]; exact ((TSt.refl.upd' n3).mut (o' := .ins T.c_NodeRow dx (putF "firsts" (.ref l2) (putF "rules" (.ref l1) []))) (by walk_at "hp") trivial).upd' nd
      have k3 : Kp (· = p) H2 H3 := by rw [← hH]; exact Kp.upd' (Kp.mut (W := (· = p)) (Kp.refl.upd' n3) rfl) nd
      have q3 : SqT K H3 l3 (B.sizes.map V.int) := by rw [← hH]; exact SqT.of (by rw [upd_ne dl3.symm, upd_ne npl3.symm]; exact upd_same)
      have q1 : SqT K H3 l1 (B.rules.map V.int) := (Same.ts sm |>.trans t3).sq (SqT.of a3)
      have q2 : SqT K H3 l2 (B.firsts.map iV) := (Same.ts sm |>.trans t3).sq (SqT.of a4)
      have k4 : Kp (· = p) H H3 := (k1.trans (Kp.of sm)).trans k3
      have t4 : TSt H H3 := (t1.trans (Same.ts sm)).trans t3
      have hd0 : H d = none := by
        cases q : H d with
        | none => rfl
        | some o =>
          have := (k1.trans (Kp.of sm)) d o q dp
          rw [nd2] at this; cases this
      clear hH nd nd1 t3 k3
      refine (f_enum (xs := B.firsts.map iV) (fun i σ H' => ∃ kvs v4 v5, σ = [some (.ref p), some (.ref ra), some (.ref fa), some (.ref d), v4, v5] ∧ Kp (· = d) H3 H' ∧ TSt H3 H' ∧ H' d = some (.dK kvs) ∧ Last B i kvs) ?_ ?_ ?_ ?_)
      · exact ⟨[], none, none, rfl, Kp.refl, TSt.refl, c3, ⟨List.Pairwise.nil, Nat.zero_le _, fun _ h => (nomatch h), fun _ h => by omega⟩⟩
      · rintro i σ H' _ ⟨kvs, v4, v5, rfl, kp, _⟩
        exact SqL.of (kp _ _ c1 dfa)
      · rintro i x Ta σ H' hx ⟨kvs, v4, v5, rfl, kp, ts, hd, la⟩ nT
        obtain ⟨hi, rfl⟩ := item hx
        have nTd : d ≠ Ta := ne_of_none hd nT
        refine s_gTup (SqT.of upd_same) rfl ?_
        walk_at "st"
        refine s_dput2 (kvs := kvs) (k := Sum.inl (B.first i : Int)) (by walk_at "hp") rfl (small1000 (by have := la.len; omega)) ?_
        exact ⟨_, _, _, rfl, Kp.mut (W := (· = d)) (kp.upd' nT) rfl, (ts.upd' nT).mut (o' := .dK kvs) (by walk_at "hp") trivial, upd_same, la.step⟩
      · rintro σ H' ⟨kvs, v4, v5, rfl, kp, ts, hd, la⟩
        rw [fl] at la
        obtain ⟨ns, ens⟩ := la.ints
        walk_at "st"
        refine ⟨d, kvs, rfl, hd, fun C2 nC2 => ?_⟩
        walk_at "st"
        refine ⟨C2, ns, rfl, SqL.of (by rw [upd_same, ens]), fun ns' S hp' hs' nS => ?_⟩
        walk_at "st"
        refine s_tupOf (SqL.of upd_same) fun h4 n4 => ?_
        obtain ⟨x1, n4'⟩ := un n4
        obtain ⟨x2, n4''⟩ := un n4'
        obtain ⟨x3, nS'⟩ := un nS
        have z1 : H' p = some (.ins T.c_NodeRow dx (putF "sizes" (.ref l3) (putF "firsts" (.ref l2) (putF "rules" (.ref l1) [])))) := kp _ _ c2 dp.symm
        have y1 : p ≠ C2 := ne_of_none z1 nC2
        have y2 : p ≠ S := ne_of_none z1 nS'
        have y3 : p ≠ h4 := ne_of_none z1 n4''
        walk_at "st"
        obtain ⟨hs, rfl, hh⟩ := la.heads ens hp' hs'
        have tt : TSt H3 (upd (upd (upd (upd H' C2 (.lst (kvs.map (·.2)))) S (.lst ((hs.map fun k : Nat => (k : Int)).map V.int))) h4 (.tup ((hs.map fun k : Nat => (k : Int)).map V.int))) p (.ins T.c_NodeRow dx (putF "heads" (.ref h4) (putF "sizes" (.ref l3) (putF "firsts" (.ref l2) (putF "rules" (.ref l1) [])))))) :=
          (((ts.upd' nC2).upd' nS).upd' n4).mut (o' := .ins T.c_NodeRow dx (putF "sizes" (.ref l3) (putF "firsts" (.ref l2) (putF "rules" (.ref l1) [])))) (by walk_at "hp") trivial
        refine k _ ⟨⟨dx, l1, l2, l3, h4, hs, upd_same, tt.sq q1, tt.sq q2, tt.sq q3, SqT.of ?_, hh⟩, ok⟩ ?_ (t4.trans tt)
        · rw [upd_ne y3.symm, upd_same, List.map_map]; rfl
        · refine Kp.mut (W := (· = p)) (Kp.upd' (Kp.upd' (Kp.upd' (fun b o hb nb => ?_) nC2) nS) n4) rfl
          refine kp b o (k4 b o hb nb) fun z => ?_
          rw [z, hd0] at hb; cases hb

/-! ### under_mark -/
def sp_NodeRow_under_mark (T : Ev K mg) : Sp := fun vs H Q _ => ∃ (a : Addr) (A : NR) (lo hi : Nat) (mark : Int), vs = [.ref a, .int lo, .int hi, .int mark] ∧ NRAt K T.c_NodeRow H a A ∧ lo ≤ hi ∧ hi ≤ A.n ∧ hi - lo < 1000 ∧ Cl A.nd lo hi ∧
  ∀ b H', H b = none → NRAt K T.c_NodeRow H' b (A.under lo hi mark) → Same H H' → Q (.ref b) H'
theorem ok_NodeRow_under_mark (T : Ev K mg) : FnOk P w K mg base CX0 3 T.a_NodeRow_under_mark T.d_NodeRow_under_mark ["self", "low", "high", "mark"] (sp_NodeRow_under_mark T) := by
  refine T.F_NodeRow_under_mark.ok sc_NodeRow_under_mark (fun vs H Q E h => ?_) (fun cdv A outer s H vs Q E hr h => ?_)
  · obtain ⟨a, A, lo, hi, mark, rfl, _⟩ := h; rfl
  · obtain ⟨a, B, lo, hi, mark, rfl, ⟨⟨dx, r, f, s, h', hs, e, q1, q2, q3, q4, o⟩, ok⟩, hle, hn, hsm, hc, k⟩ := h
    refine ⟨_, (pss_cons (ps_set (i := 4) sc_NodeRow_under_mark.nd rfl (Or.inl rfl) (pe_lst (StX.pa_star (pe_slice sl_tupA (pe_fld (pv 0) rfl) (po_some (pv 1)) (po_some (pv 2))) (pa_cons (pv 3) pa_nil))))
      (pss_cons (ps_setLc (i := 5) (own := [("first", 6)]) (g := (gName 6)) (tt := tYes) (te := (tOp _ (tVar 6) (tVar 1))) rfl sc_NodeRow_under_mark.nd rfl rfl (sw_true rfl rfl rfl (by decide +kernel)) (pi_tup (pe_slice sl_tupA (pe_fld (pv 0) rfl) (po_some (pv 1)) (po_some (pv 2)))) (blkOk_by (N := N_NodeRow_under_mark) (sc := defScope s_NodeRow_under_mark) (by decide +kernel)) (fun _ _ _ _ _ => (pg_name (i := 6) sc_NodeRow_under_mark.nd rfl (Or.inl rfl))) (fun _ _ _ _ _ => pts_nil) (fun _ _ _ _ _ => (pe_op op_sub (pv 6) (pv 1))))
      (pss_one (ps_ret (pe_make T.mk_NodeRow (ok_NodeRow_init T) hr (by rfl) T.m_NodeRow T.b_NodeRow_init .nil pass0 (pa_cons (pv 4) (pa_cons (pe_lst (StX.pa_star (pv 5) (pa_cons pe_int pa_nil))) pa_nil))))))), ?_⟩
    have zl : B.rules.length = B.n := rfl
    have zf := ok.len
    walk_at "st"
    refine s_slT1 q1 fun p1 H1 sm1 k1 => ?_
    rw [cutV_nat (by rw [List.length_map]; omega) hle, ← List.map_drop, ← List.map_take] at k1
    refine s_starT k1 ?_
    walk_at "st"
    refine s_newL ?_ fun l1 n1 => ?_
    · rw [List.length_append, List.length_map, List.length_take]; exact Nat.le_of_lt (small1000 (by simp; omega))
    have e1 := sm1 _ _ e
    have nal : a ≠ l1 := ne_of_none e1 n1
    walk_at "st"
    refine s_slT1 (sT (sU sm1 n1) q2) fun p2 H2 sm2 k2 => ?_
    rw [cutV_nat (by rw [List.length_map]; omega) hle, ← List.map_drop, ← List.map_take] at k2
    walk_at "st"
    intro D nD
    have fl : (((B.firsts.drop lo).take (hi - lo)).map iV).length = hi - lo := by rw [List.length_map]; exact NR.under_flen ok hle hn
    refine c_tup k2 nD (fun i acc _ => acc = ((((B.firsts.drop lo).take (hi - lo)).map (· - lo)).take i).map iV) rfl ?_ ?_
    · rintro i x H3 acc hx sm3 e3 rfl
      have hi' : i < hi - lo := by rw [← fl]; exact (List.getElem?_eq_some_iff.mp hx).1
      have g1 : ((B.firsts.drop lo).take (hi - lo))[i]? = some (B.first (lo + i)) := by
        rw [List.getElem?_take_of_lt hi', List.getElem?_drop]; exact NR.first_get ok (by omega)
      rw [List.getElem?_map, g1] at hx
      obtain rfl := Option.some.inj hx
      have g2 : lo ≤ B.first (lo + i) := (hc (lo + i) (by omega) (by omega)).1
      walk_at "st"
      refine s_acc e3 ?_ ⟨sM sm3 nD, _, upd_same, ?_⟩
      · rw [List.length_map, List.length_take]; exact small1000 (by omega)
      · rw [show V.int ((B.first (lo + i) : Int) - (lo : Int)) = iV (B.first (lo + i) - lo) by show _ = V.int _; rw [Int.ofNat_sub g2]]
        exact mapTake iV (by rw [List.getElem?_map, g1]; rfl)
    · rintro H3 acc sm3 e3 rfl
      rw [fl, List.take_of_length_le (by rw [List.length_map, NR.under_flen ok hle hn]; exact Nat.le_refl _)] at e3
      walk_at "st"
      refine s_newL ?_ fun l2 n2 => ?_
      · rw [List.length_append, List.length_map, List.length_map, NR.under_flen ok hle hn]; exact Nat.le_of_lt (small1000 (by simp; omega))
      walk_at "st"
      intro x dx2 nx ndx nex
      have s1 : Same H (upd H1 l1 (.lst (((B.rules.drop lo).take (hi - lo)).map V.int ++ [.int mark]))) := sU sm1 n1
      have s3 : Same H H3 := (s1.trans sm2).trans sm3
      have s4 : Same H (upd H3 l2 (.lst (((((B.firsts.drop lo).take (hi - lo)).map (· - lo)).map iV) ++ [.int 0]))) := sU s3 n2
      have el : H3 l1 = some (.lst (((B.rules.drop lo).take (hi - lo)).map V.int ++ [.int mark])) := sm3 _ _ (sm2 _ _ upd_same)
      have l12 : l1 ≠ l2 := ne_of_none el n2
      have e5 : (upd H3 l2 (.lst (((((B.firsts.drop lo).take (hi - lo)).map (· - lo)).map iV) ++ [.int 0]))) l1 = some (.lst (((B.rules.drop lo).take (hi - lo)).map V.int ++ [.int mark])) := by rw [upd_ne l12]; exact el
      have s5 := Same.ins (C := T.c_NodeRow) nx ndx
      refine ⟨x, dx2, l1, l2, B.under lo hi mark, rfl, upd_same, ?_, ?_, NR.under_ok ok hle hn hc hsm, fun H6 hN hK hT => ⟨rfl, ?_⟩⟩
      · rw [s5 _ _ e5]; show _ = some (HO.lst ((_ ++ [mark]).map V.int)); rw [List.map_append]; rfl
      · rw [s5 _ _ upd_same]; show _ = some (HO.lst ((_ ++ [0]).map iV)); rw [List.map_append]; rfl
      · refine k x H6 (s4.free nx) hN fun b o hb => ?_
        exact hK b o (s5 _ _ (s4 _ _ hb)) (ne_of_none (s4 _ _ hb) nx)

/-! ### trees as values -/
def ForV (K : PySem.W.Frag) (H : Hp) : List V → Fo → Prop
  | vs, .nil => vs = []
  | vs, .leaf t s => ∃ (p : Addr) (r : List V), vs = .ref p :: r ∧ SqT K H p [.str "leaf", .int t] ∧ ForV K H r s
  | vs, .node n k s => ∃ (p q : Addr) (ks r : List V), vs = .ref p :: r ∧ SqT K H p [.str "node", .int n, .ref q] ∧ SqT K H q ks ∧ ForV K H ks k ∧ ForV K H r s
theorem ForV.ts {H H' : Hp} (t : TSt H H') : ∀ {f : Fo} {vs : List V}, ForV K H vs f → ForV K H' vs f
  | .nil, _, h => h
  | .leaf _ _, _, ⟨p, r, e, q, h⟩ => ⟨p, r, e, t.sq q, ForV.ts t h⟩
  | .node _ _ _, _, ⟨p, q, ks, r, e, q1, q2, h1, h2⟩ => ⟨p, q, ks, r, e, t.sq q1, t.sq q2, ForV.ts t h1, ForV.ts t h2⟩
theorem ForV.len {H : Hp} : ∀ {f : Fo} {vs : List V}, ForV K H vs f → vs.length = f.trees
  | .nil, _, h => by rw [show _ = [] from h]; rfl
  | .leaf _ s, _, ⟨p, r, e, q, h⟩ => by rw [e, List.length_cons, ForV.len h]; rfl
  | .node _ _ s, _, ⟨p, q, ks, r, e, q1, q2, h1, h2⟩ => by rw [e, List.length_cons, ForV.len h2]; rfl
theorem ForV.nil_of {H : Hp} : ∀ {f : Fo}, ForV K H [] f → f = .nil
  | .nil, _ => rfl
  | .leaf _ _, ⟨_, _, e, _⟩ => nomatch e
  | .node _ _ _, ⟨_, _, _, _, e, _⟩ => nomatch e
/-- a value and its tree -/
abbrev TreeV (K : PySem.W.Frag) (H : Hp) (v : V) (f : Fo) : Prop := ForV K H [v] f
/-! ### noderow_of -/
structure Fr where
  q : Addr
  r : Int
  rest : Fo
  first : Nat
def wF : Fo → Nat
  | .nil => 0
  | .leaf _ s => 1 + wF s
  | .node _ k s => 2 + wF k + wF s
def remR : List Fr → List Int
  | [] => []
  | fr :: st => fr.rest.rules ++ fr.r :: remR st
def remF : Nat → List Fr → List Nat
  | _, [] => []
  | o, fr :: st => fr.rest.firsts o ++ fr.first :: remF (o + fr.rest.cnt + 1) st
def wS : List Fr → Nat
  | [] => 0
  | fr :: st => 1 + wF fr.rest + wS st
theorem remR_len : ∀ st : List Fr, st.length ≤ (remR st).length
  | [] => Nat.le_refl _
  | fr :: st => by have := remR_len st; simp only [remR, List.length_append, List.length_cons]; omega
def FrV (K : PySem.W.Frag) (H : Hp) (fr : Fr) : Prop := ∃ (nd c : Addr) (ks : List V) (at_ : Nat), H fr.q = some (.lst [.ref nd, .int at_, .int fr.first]) ∧ SqT K H nd [.str "node", .int fr.r, .ref c] ∧ SqT K H c ks ∧ ForV K H (ks.drop at_) fr.rest ∧ at_ ≤ ks.length
theorem FrV.keep {H H' : Hp} {fr : Fr} (h : FrV K H fr) (t : TSt H H') (e : H' fr.q = H fr.q) : FrV K H' fr := by
  obtain ⟨nd, c, ks, a, e1, q1, q2, f, l⟩ := h
  exact ⟨nd, c, ks, a, e.trans e1, t.sq q1, t.sq q2, f.ts t, l⟩
def stV (st : List Fr) : List V := (st.map fun fr => V.ref fr.q).reverse
theorem stV_cons (fr : Fr) (st : List Fr) : stV (fr :: st) = stV st ++ [.ref fr.q] := by unfold stV; rw [List.map_cons, List.reverse_cons]
/-- the heap's part of the invariant -/
structure NrH (K : PySem.W.Frag) (H : Hp) (ra fa pa : Addr) (R : List Int) (F : List Nat) (st : List Fr) (H' : Hp) : Prop where
  sm : Same H H'
  hr : H' ra = some (.lst (R.map V.int))
  hf : H' fa = some (.lst (F.map iV))
  hp : H' pa = some (.lst (stV st))
  nr : H ra = none
  nf : H fa = none
  np : H pa = none
  d1 : ra ≠ fa
  d2 : ra ≠ pa
  d3 : fa ≠ pa
  fs : ∀ fr ∈ st, FrV K H' fr
  new : ∀ fr ∈ st, H fr.q = none ∧ fr.q ≠ ra ∧ fr.q ≠ fa ∧ fr.q ≠ pa
  nd : (st.map (·.q)).Nodup
structure NrE (f : Fo) (R : List Int) (F : List Nat) (st : List Fr) : Prop where
  rules : R ++ remR st = f.rules
  firsts : F ++ remF F.length st = f.firsts 0
  len : R.length = F.length
theorem NrE.small {f : Fo} {R : List Int} {F : List Nat} {st : List Fr} (h : NrE f R F st) : R.length ≤ f.cnt ∧ st.length ≤ f.cnt := by
  have e := congrArg List.length h.rules
  rw [List.length_append, Fo.rules_len] at e
  have := remR_len st
  omega
/-- the top frame is finished -/
theorem NrH.done {H : Hp} {ra fa pa : Addr} {R : List Int} {F : List Nat} {fr : Fr} {st : List Fr} {H' : Hp} (h : NrH K H ra fa pa R F (fr :: st) H') :
    NrH K H ra fa pa (R ++ [fr.r]) (F ++ [fr.first]) st (upd (upd (upd H' pa (.lst (stV st))) ra (.lst ((R ++ [fr.r]).map V.int))) fa (.lst ((F ++ [fr.first]).map iV))) := by
  have off : ∀ b, b ≠ ra → b ≠ fa → b ≠ pa → (upd (upd (upd H' pa (.lst (stV st))) ra (.lst ((R ++ [fr.r]).map V.int))) fa (.lst ((F ++ [fr.first]).map iV))) b = H' b := fun b h1 h2 h3 => by
    rw [upd_ne h2, upd_ne h1, upd_ne h3]
  have ts : TSt H' (upd (upd (upd H' pa (.lst (stV st))) ra (.lst ((R ++ [fr.r]).map V.int))) fa (.lst ((F ++ [fr.first]).map iV))) :=
    ((TSt.refl.mut h.hp trivial).mut (o' := .lst (R.map V.int)) (by rw [upd_ne h.d2]; exact h.hr) trivial).mut (o' := .lst (F.map iV)) (by rw [upd_ne h.d1.symm, upd_ne h.d3]; exact h.hf) trivial
  have nd := List.nodup_cons.mp h.nd
  refine ⟨sM (sM (sM h.sm h.np) h.nr) h.nf, ?_, upd_same, ?_, h.nr, h.nf, h.np, h.d1, h.d2, h.d3, fun g hg => ?_, fun g hg => h.new g (List.mem_cons_of_mem _ hg), nd.2⟩
  · rw [upd_ne h.d1]; exact upd_same
  · rw [upd_ne h.d3.symm, upd_ne h.d2.symm]; exact upd_same
  · obtain ⟨_, n1, n2, n3⟩ := h.new g (List.mem_cons_of_mem _ hg)
    exact (h.fs g (List.mem_cons_of_mem _ hg)).keep ts (off _ n1 n2 n3)
theorem NrE.done {f : Fo} {R : List Int} {F : List Nat} {fr : Fr} {st : List Fr} (h : NrE f R F (fr :: st)) (e : fr.rest = .nil) : NrE f (R ++ [fr.r]) (F ++ [fr.first]) st :=
  ⟨by rw [← h.rules]; simp [remR, e, Fo.rules], by rw [← h.firsts]; simp [remF, e, Fo.firsts, Fo.cnt], by simp [h.len]⟩
/-- the top frame goes on by one child -/
theorem NrH.next {H : Hp} {ra fa pa : Addr} {R : List Int} {F : List Nat} {fr : Fr} {st : List Fr} {H' : Hp} (h : NrH K H ra fa pa R F (fr :: st) H') {nd c : Addr} {ks : List V} {at_ : Nat} {s : Fo}
    (q1 : SqT K H' nd [.str "node", .int fr.r, .ref c]) (q2 : SqT K H' c ks) (fv : ForV K H' (ks.drop (at_ + 1)) s) (l : at_ + 1 ≤ ks.length) (o : H' fr.q = some (.lst [.ref nd, .int at_, .int fr.first])) :
    NrH K H ra fa pa R F (⟨fr.q, fr.r, s, fr.first⟩ :: st) (upd H' fr.q (.lst [.ref nd, .int ((at_ : Int) + 1), .int fr.first])) := by
  obtain ⟨n0, n1, n2, n3⟩ := h.new fr List.mem_cons_self
  have ts : TSt H' (upd H' fr.q (.lst [.ref nd, .int ((at_ : Int) + 1), .int fr.first])) := TSt.refl.mut o trivial
  have ndp := List.nodup_cons.mp h.nd
  refine ⟨sM h.sm n0, by rw [upd_ne n1.symm]; exact h.hr, by rw [upd_ne n2.symm]; exact h.hf, by rw [upd_ne n3.symm, h.hp, stV_cons, stV_cons], h.nr, h.nf, h.np, h.d1, h.d2, h.d3, fun g hg => ?_, fun g hg => ?_, h.nd⟩
  · rcases List.mem_cons.mp hg with rfl | hg
    · exact ⟨nd, c, ks, at_ + 1, upd_same, ts.sq q1, ts.sq q2, fv.ts ts, l⟩
    · refine (h.fs g (List.mem_cons_of_mem _ hg)).keep ts (upd_ne fun z => ndp.1 ?_)
      show fr.q ∈ _
      rw [← z]; exact List.mem_map.mpr ⟨g, hg, rfl⟩
  · rcases List.mem_cons.mp hg with rfl | hg
    · exact ⟨n0, n1, n2, n3⟩
    · exact h.new g (List.mem_cons_of_mem _ hg)
theorem NrE.next {f : Fo} {R : List Int} {F : List Nat} {fr : Fr} {st : List Fr} (h : NrE f R F (fr :: st)) {s : Fo} {t : Int} (e : fr.rest = .leaf t s) : NrE f R F (⟨fr.q, fr.r, s, fr.first⟩ :: st) :=
  ⟨by rw [← h.rules]; simp [remR, e, Fo.rules], by rw [← h.firsts]; simp [remF, e, Fo.firsts, Fo.cnt], h.len⟩
/-- a frame is laid on top -/
theorem NrH.push {H : Hp} {ra fa pa : Addr} {R : List Int} {F : List Nat} {st : List Fr} {H' : Hp} (h : NrH K H ra fa pa R F st H')
    {q nd2 c : Addr} {r : Int} {k : Fo} {ks : List V} (nq : H' q = none) (q1 : SqT K H' nd2 [.str "node", .int r, .ref c]) (q2 : SqT K H' c ks) (fv : ForV K H' ks k) :
    NrH K H ra fa pa R F (⟨q, r, k, R.length⟩ :: st) (upd (upd H' q (.lst [.ref nd2, .int 0, .int (R.length : Nat)])) pa (.lst (stV st ++ [.ref q]))) := by
  have e1 : q ≠ ra := (ne_of_none h.hr nq).symm
  have e2 : q ≠ fa := (ne_of_none h.hf nq).symm
  have e3 : q ≠ pa := (ne_of_none h.hp nq).symm
  have ts : TSt H' (upd (upd H' q (.lst [.ref nd2, .int 0, .int (R.length : Nat)])) pa (.lst (stV st ++ [.ref q]))) := (TSt.refl.upd' nq).mut (o' := .lst (stV st)) (by rw [upd_ne e3.symm]; exact h.hp) trivial
  have off : ∀ fr ∈ st, fr.q ≠ q := fun fr hfr z => by
    obtain ⟨_, _, _, _, e, _⟩ := h.fs fr hfr
    rw [z, nq] at e; cases e
  refine ⟨sM (sU h.sm nq) h.np, by rw [upd_ne h.d2, upd_ne e1.symm]; exact h.hr, by rw [upd_ne h.d3, upd_ne e2.symm]; exact h.hf, by rw [stV_cons]; exact upd_same, h.nr, h.nf, h.np, h.d1, h.d2, h.d3, fun g hg => ?_, fun g hg => ?_, ?_⟩
  · rcases List.mem_cons.mp hg with rfl | hg
    · exact ⟨nd2, c, ks, 0, by rw [upd_ne e3]; exact upd_same, ts.sq q1, ts.sq q2, fv.ts ts, Nat.zero_le _⟩
    · exact (h.fs g hg).keep ts (by rw [upd_ne (h.new g hg).2.2.2, upd_ne (off g hg)])
  · rcases List.mem_cons.mp hg with rfl | hg
    · exact ⟨h.sm.free nq, e1, e2, e3⟩
    · exact h.new g hg
  · refine List.nodup_cons.mpr ⟨fun z => ?_, h.nd⟩
    obtain ⟨g, hg, e⟩ := List.mem_map.mp z
    exact off g hg e
theorem NrE.push {f : Fo} {R : List Int} {F : List Nat} {fr : Fr} {st : List Fr} (h : NrE f R F (fr :: st)) {s k : Fo} {r : Int} (e : fr.rest = .node r k s) (q : Addr) : NrE f R F (⟨q, r, k, R.length⟩ :: ⟨fr.q, fr.r, s, fr.first⟩ :: st) :=
  ⟨by rw [← h.rules]; simp [remR, e, Fo.rules], by rw [← h.firsts]; simp [remF, e, Fo.firsts, Fo.cnt, h.len, Nat.add_assoc], h.len⟩
abbrev NrI (K : PySem.W.Frag) (H : Hp) (f : Fo) (ra fa pa : Addr) (R : List Int) (F : List Nat) (st : List Fr) (H' : Hp) : Prop := NrH K H ra fa pa R F st H' ∧ NrE f R F st
def sp_noderow_of (T : Ev K mg) : Sp := fun vs H Q _ => ∃ (v : V) (f : Fo), vs = [v] ∧ TreeV K H v f ∧ f.cnt ≤ 1000 ∧ ∀ b H', H b = none → NRAt K T.c_NodeRow H' b f.nr → Same H H' → Q (.ref b) H'
theorem leaf_ne : ¬ (("leaf" : Str) = "node") := by decide +kernel
set_option maxHeartbeats 16000000 in
theorem ok_noderow_of (T : Ev K mg) : FnOk P w K mg base CX0 3 T.a_noderow_of T.d_noderow_of ["tree"] (sp_noderow_of T) := by
  refine T.F_noderow_of.ok sc_noderow_of (fun vs H Q E h => ?_) (fun cdv A outer s H vs Q E hr h => ?_)
  · obtain ⟨v, f, rfl, _⟩ := h; rfl
  · obtain ⟨v, f, rfl, tv, small, k⟩ := h
    refine ⟨_, (pss_cons (ps_set (i := 1) sc_noderow_of.nd rfl (Or.inl rfl) (pe_lst pa_nil))
      (pss_cons (ps_set (i := 2) sc_noderow_of.nd rfl (Or.inl rfl) (pe_lst pa_nil))
      (pss_cons (ps_set (i := 3) sc_noderow_of.nd rfl (Or.inl rfl) (pe_lst pa_nil))
      (pss_cons (ps_if (pt_cmpR op_eq (pe_ix ix_tup (pv 0) pe_int (fun _ _ => rfl)) pe_str (nomark _)) (pss_one (ps_expr (pe_bm PySem.F.plainAttrs_list PySem.F.slot_list_append PySem.F.type_list_append mt_append (pv 3) (pa_cons (pe_lst (pa_cons (pv 0) (pa_cons pe_int (pa_cons pe_int pa_nil)))) pa_nil)))) pss_nil)
      (pss_cons (ps_while PassesOwn.never (pt_cmpR op_gt (pe_callB call_lenS (by rfl) T.g_len (by decide +kernel) (pa_cons (pv 3) pa_nil)) pe_int (nomark _)) (pss_cons (ps_asg (pe_ix ix_list (pv 3) (pe_un un_neg pe_int) (fun _ _ => rfl)) (pg_unl (by rfl) (pgs_cons (pg_name (i := 4) sc_noderow_of.nd rfl (Or.inl rfl)) (pgs_cons (pg_name (i := 5) sc_noderow_of.nd rfl (Or.inl rfl)) (pgs_cons (pg_name (i := 6) sc_noderow_of.nd rfl (Or.inl rfl)) pgs_nil)))))
      (pss_one (ps_if (pt_cmpR op_eq (pv 5) (pe_callB call_lenS (by rfl) T.g_len (by decide +kernel) (pa_cons (pe_ix ix_tup (pv 4) pe_int (fun _ _ => rfl)) pa_nil)) (nomark _)) (pss_cons (ps_expr (pe_bm0 PySem.F.plainAttrs_list PySem.F.slot_list_pop PySem.F.type_list_pop mt_pop (pv 3)))
      (pss_cons (ps_expr (pe_bm PySem.F.plainAttrs_list PySem.F.slot_list_append PySem.F.type_list_append mt_append (pv 1) (pa_cons (pe_ix ix_tup (pv 4) pe_int (fun _ _ => rfl)) pa_nil)))
      (pss_one (ps_expr (pe_bm PySem.F.plainAttrs_list PySem.F.slot_list_append PySem.F.type_list_append mt_append (pv 2) (pa_cons (pv 6) pa_nil)))))) (pss_cons (ps_asg (pe_op op_add (pv 5) pe_int) (pg_sub (pe_ix ix_list (pv 3) (pe_un un_neg pe_int) (fun _ _ => rfl)) pe_int set_list))
      (pss_cons (ps_set (i := 7) sc_noderow_of.nd rfl (Or.inl rfl) (pe_ix ix_tup (pe_ix ix_tup (pv 4) pe_int (fun _ _ => rfl)) (pv 5) (fun _ _ => rfl)))
      (pss_one (ps_if (pt_cmpR op_eq (pe_ix ix_tup (pv 7) pe_int (fun _ _ => rfl)) pe_str (nomark _)) (pss_one (ps_expr (pe_bm PySem.F.plainAttrs_list PySem.F.slot_list_append PySem.F.type_list_append mt_append (pv 3) (pa_cons (pe_lst (pa_cons (pv 7) (pa_cons pe_int (pa_cons (pe_callB call_lenS (by rfl) T.g_len (by decide +kernel) (pa_cons (pv 1) pa_nil)) pa_nil)))) pa_nil)))) pss_nil))))))))
      (pss_one (ps_ret (pe_make T.mk_NodeRow (ok_NodeRow_init T) hr (by rfl) T.m_NodeRow T.b_NodeRow_init .nil pass0 (pa_cons (pv 1) (pa_cons (pv 2) pa_nil)))))))))), ?_⟩
    walk_at "st"
    refine s_newL (Nat.zero_le _) fun ra n1 => ?_
    walk_at "st"
    refine s_newL (Nat.zero_le _) fun fa n2 => ?_
    obtain ⟨d1, n2'⟩ := un n2
    walk_at "st"
    refine s_newL (Nat.zero_le _) fun pa n3 => ?_
    obtain ⟨d3, n3'⟩ := un n3
    obtain ⟨d2, n3''⟩ := un n3'
    have i0 : Same H (upd (upd (upd H ra (.lst [])) fa (.lst [])) pa (.lst [])) := sU (sU (sU (Same.refl H) n1) n2) n3
    generalize hH0 : upd (upd (upd H ra (.lst [])) fa (.lst [])) pa (.lst []) = H0 at i0
    have hr0 : H0 ra = some (.lst (([] : List Int).map V.int)) := by rw [← hH0, upd_ne d2.symm, upd_ne d1.symm]; exact upd_same
    have hf0 : H0 fa = some (.lst (([] : List Nat).map iV)) := by rw [← hH0, upd_ne d3.symm]; exact upd_same
    have hp0 : H0 pa = some (.lst (stV [])) := by rw [← hH0]; exact upd_same
    clear hH0 n2 n3 n3'
    refine s_gName ?_
    dsimp only
    refine s_cut (fun σ' H' => ∃ (R : List Int) (F : List Nat) (st : List Fr) (a b c d : Option V), σ' = [some v, some (.ref ra), some (.ref fa), some (.ref pa), a, b, c, d] ∧ NrI K H f ra fa pa R F st H') ?_ fun key => ?_
    · rintro σ' H' ⟨R, F, st, a, b, c, d, rfl, I⟩
      walk_at "st"
      refine s_while (fun m σ' H' => ∃ (R : List Int) (F : List Nat) (st : List Fr) (a b c d : Option V), m = wS st ∧ σ' = [some v, some (.ref ra), some (.ref fa), some (.ref pa), a, b, c, d] ∧ NrI K H f ra fa pa R F st H') (wS st) ⟨R, F, st, a, b, c, d, rfl, rfl, I⟩ ?_
      clear I R F st a b c d
      rintro _ _ H' ⟨R, F, st, a, b, c, d, rfl, rfl, I, J⟩
      have hp := I.hp
      have hR := I.hr
      have hF := I.hf
      have sml := J.small
      have r1 := I.d1
      have r2 := I.d2
      have r3 := I.d3
      walk_at "st"
      refine s_wd (fun hne => ?_) fun he => ?_
      · cases st with
        | nil => exact absurd hne (by decide)
        | cons fr st =>
          obtain ⟨nd, cc, ks, at_, e1, q1, q2, fv, le⟩ := I.fs fr List.mem_cons_self
          obtain ⟨n0, m1, m2, m3⟩ := I.new fr List.mem_cons_self
          rw [stV_cons] at hp
          have p1 : atI (stV st ++ [V.ref fr.q]) (-1) = some (.ref fr.q) := atI_last _ _
          have p2 : atI [V.str "node", V.int fr.r, V.ref cc] 2 = some (.ref cc) := rfl
          have p3 : atI [V.str "node", V.int fr.r, V.ref cc] 1 = some (.int fr.r) := rfl
          walk_at "st"
          refine s_if (fun heq => ?_) fun hne => ?_
          · have en : fr.rest = .nil := by
              have : ks.drop at_ = [] := List.drop_eq_nil_of_le (by omega)
              rw [this] at fv; exact fv.nil_of
            have I' := I.done
            have J' := J.done en
            walk_at "st"
            refine s_append (by walk_at "hp") (by rw [List.length_map]; exact small1000 (by omega)) ?_
            walk_at "st"
            refine s_append (by walk_at "hp") (by rw [List.length_map, ← J.len]; exact small1000 (by omega)) ?_
            walk_at "st"
            refine ⟨wS st, by simp only [wS]; omega, R ++ [fr.r], F ++ [fr.first], st, _, _, _, _, rfl, rfl, ?_, J'⟩
            rw [show R.map V.int ++ [V.int fr.r] = (R ++ [fr.r]).map V.int by simp, show F.map iV ++ [V.int fr.first] = (F ++ [fr.first]).map iV by simp]
            exact I'
          · have lt : at_ < ks.length := by omega
            obtain ⟨ch, hch⟩ : ∃ ch, ks[at_]? = some ch := ⟨_, List.getElem?_eq_getElem lt⟩
            have p4 : atI ks (at_ : Int) = some ch := atI_nat hch
            have dr : ks.drop at_ = ch :: ks.drop (at_ + 1) := by
              rw [List.drop_eq_getElem_cons lt]
              rw [List.getElem?_eq_getElem lt] at hch
              rw [Option.some.inj hch]
            rw [dr] at fv
            cases er : fr.rest with
            | nil => rw [er] at fv; cases fv
            | leaf t s =>
              rw [er] at fv
              obtain ⟨p, r, ep, qp, fv⟩ := fv
              obtain ⟨rfl, rfl⟩ := List.cons.inj ep
              have p5 : atI [V.str "leaf", V.int t] 0 = some (.str "leaf") := rfl
              walk_at "st"
              refine s_F (decide_eq_false leaf_ne) ?_
              walk_at "st"
              exact ⟨wS (⟨fr.q, fr.r, s, fr.first⟩ :: st), by simp only [wS, er, wF]; omega, R, F, _, _, _, _, _, rfl, rfl, I.next q1 q2 fv lt e1, J.next er⟩
            | node r k s =>
              rw [er] at fv
              obtain ⟨p, q, ks2, rr, ep, qp, qq, fv1, fv⟩ := fv
              obtain ⟨rfl, rfl⟩ := List.cons.inj ep
              have p5 : atI [V.str "node", V.int r, V.ref q] 0 = some (.str "node") := rfl
              have I' := I.next q1 q2 fv lt e1
              have ts : TSt H' (upd H' fr.q (.lst [.ref nd, .int ((at_ : Int) + 1), .int fr.first])) := TSt.refl.mut e1 trivial
              walk_at "st"
              refine s_T (decide_eq_true rfl) ?_
              walk_at "st"
              refine s_newL (by show 3 ≤ sizeLine; decide) fun q2 nq => ?_
              have I2 := I'.push nq (ts.sq qp) (ts.sq qq) (fv1.ts ts)
              have x1 : pa ≠ q2 := ne_of_none I'.hp nq
              have x2 : pa ≠ fr.q := m3.symm
              rw [stV_cons] at I2
              have el : (R.map V.int).length = R.length := List.length_map _
              walk_at "st"
              have len : (stV st ++ [V.ref fr.q]).length < sizeLine := by
                have z : (stV st).length = st.length := by unfold stV; rw [List.length_reverse, List.length_map]
                rw [List.length_append, z]; exact small1000 (by have := sml.2; simp only [List.length_cons] at this ⊢; simp; omega)
              refine s_append (by walk_at "hp") len ?_
              walk_at "st"
              rw [el]
              exact ⟨wS (⟨q2, r, k, R.length⟩ :: ⟨fr.q, fr.r, s, fr.first⟩ :: st), by simp only [wS, er, wF]; omega, R, F, _, _, _, _, _, rfl, rfl, I2, J.push er q2⟩
      · have en : st = [] := by
          cases st with
          | nil => rfl
          | cons fr st => rw [stV_cons] at he; simp at he
        subst en
        walk_at "st"
        intro x dx nx ndx nex
        have eR : R = f.rules := by rw [← J.rules]; simp [remR]
        have eF : F = f.firsts 0 := by rw [← J.firsts]; simp [remF]
        subst eR eF
        have s5 := Same.ins (C := T.c_NodeRow) nx ndx
        refine ⟨x, dx, ra, fa, f.nr, rfl, upd_same, s5 _ _ hR, s5 _ _ hF, f.nr_ok small, fun H6 hN hK hT => ⟨rfl, ?_⟩⟩
        exact k x H6 (I.sm.free nx) hN fun b o hb => hK b o (s5 _ _ (I.sm _ _ hb)) (ne_of_none (I.sm _ _ hb) nx)
    · have base : NrH K H ra fa pa [] [] [] H0 := ⟨i0, hr0, hf0, hp0, n1, n2', n3'', d1.symm, d2.symm, d3.symm, fun _ h => (nomatch h), fun _ h => (nomatch h), List.Pairwise.nil⟩
      have tv0 : TreeV K H0 v f := tv.ts (Same.ts i0)
      cases f with
      | nil => cases tv0
      | leaf t s =>
        obtain ⟨p, r, ep, qp, fv⟩ := tv0
        obtain ⟨rfl, rfl⟩ := List.cons.inj ep
        obtain rfl := fv.nil_of
        have p5 : atI [V.str "leaf", V.int t] 0 = some (.str "leaf") := rfl
        walk_at "st"
        refine s_F (decide_eq_false leaf_ne) ?_
        walk_at "st"
        exact key _ _ ⟨[], [], [], _, _, _, _, rfl, base, ⟨rfl, rfl, rfl⟩⟩
      | node r ks s =>
        obtain ⟨p, q, ks2, rr, ep, qp, qq, fv1, fv⟩ := tv0
        obtain ⟨rfl, rfl⟩ := List.cons.inj ep
        obtain rfl := fv.nil_of
        have p5 : atI [V.str "node", V.int r, V.ref q] 0 = some (.str "node") := rfl
        walk_at "st"
        refine s_T (decide_eq_true rfl) ?_
        walk_at "st"
        refine s_newL (by show 3 ≤ sizeLine; decide) fun q2 nq => ?_
        have I2 := base.push nq qp qq fv1
        have x1 : pa ≠ q2 := ne_of_none hp0 nq
        walk_at "st"
        refine s_append (by walk_at "hp") (by show 0 < sizeLine; decide) ?_
        walk_at "st"
        exact key _ _ ⟨[], [], _, _, _, _, _, rfl, I2, ⟨rfl, rfl, rfl⟩⟩

/-! ### pairs of numbers as values -/
def PairsV (_ : PySem.W.Frag) (H : Hp) (vs : List V) (ps : List Pr) : Prop := Paired (fun (v : V) (p : Pr) => ∃ c, v = .ref c ∧ H c = some (.tup [iV p.1, iV p.2])) vs ps
theorem PairsV.ts {H H' : Hp} (t : TSt H H') {vs : List V} {ps : List Pr} (h : PairsV K H vs ps) : PairsV K H' vs ps := Paired.mapP h fun _ _ ⟨c, e, q⟩ => ⟨c, e, t.2 _ _ q⟩
theorem PairsV.len {H : Hp} {vs : List V} {ps : List Pr} (h : PairsV K H vs ps) : vs.length = ps.length := Paired.length h
theorem pd_app {α β : Type} {F : α → β → Prop} : ∀ {xs ys : List α} {us ws : List β}, Paired F xs us → Paired F ys ws → Paired F (xs ++ ys) (us ++ ws)
  | _, _, _, _, .nil, s => s
  | _, _, _, _, .cons r t, s => .cons r (pd_app t s)
/-! ### the peeling as an object -/
abbrev fsP (a b l q1 q2 : Addr) : List (Str × V) := [("one", .ref a), ("other", .ref b), ("taken", .ref l), ("low", .ref q1), ("high", .ref q2)]
structure PlAt (K : PySem.W.Frag) (cP cN : Addr) (H : Hp) (p l : Addr) (A B : NR) (t : List Pr) (a x b y : Nat) : Prop where
  ex : ∃ (dx o1 o2 q1 q2 : Addr) (tv : List V), H p = some (.ins cP dx (fsP o1 o2 l q1 q2)) ∧ NRAt K cN H o1 A ∧ NRAt K cN H o2 B ∧ o1 ≠ p ∧ o2 ≠ p ∧ H l = some (.lst tv) ∧ PairsV K H tv t ∧ SqT K H q1 [iV a, iV b] ∧ SqT K H q2 [iV x, iV y]
theorem PlAt.keep {cP cN : Addr} {H H' : Hp} {p l : Addr} {A B : NR} {t : List Pr} {a x b y : Nat} {W : Addr → Prop} (h : PlAt K cP cN H p l A B t a x b y) (k : Kp W H H') (ts : TSt H H') (np : ¬ W p) (nl : ¬ W l) (ni : ∀ c C dx fs, H c = some (.ins C dx fs) → ¬ W c) : PlAt K cP cN H' p l A B t a x b y := by
  obtain ⟨dx, o1, o2, q1, q2, tv, e, n1, n2, d1, d2, el, pvs, s1, s2⟩ := h.ex
  obtain ⟨_, _, _, _, _, _, e1, _⟩ := n1.ob
  obtain ⟨_, _, _, _, _, _, e2, _⟩ := n2.ob
  exact ⟨dx, o1, o2, q1, q2, tv, k _ _ e np, n1.keep k ts (ni _ _ _ _ e1), n2.keep k ts (ni _ _ _ _ e2), d1, d2, k _ _ el nl, pvs.ts ts, ts.sq s1, ts.sq s2⟩
theorem PlAt.same {cP cN : Addr} {H H' : Hp} {p l : Addr} {A B : NR} {t : List Pr} {a x b y : Nat} (h : PlAt K cP cN H p l A B t a x b y) (s : Same H H') : PlAt K cP cN H' p l A B t a x b y :=
  h.keep (W := fun _ => False) (Kp.of s) (Same.ts s) id id fun _ _ _ _ _ => id
/-! ### moved -/
def sp_Peeling_moved (T : Ev K mg) : Sp := fun vs H Q _ => ∃ (p l : Addr) (A B : NR) (t : List Pr) (a x b y i j : Nat), vs = [.ref p, .int i, .int j] ∧ PlAt K T.c_Peeling T.c_NodeRow H p l A B t a x b y ∧ ∀ q, H q = none → Q (.ref q) (upd H q (.tup [iV (i + a), iV (j + b)]))
theorem ok_Peeling_moved (T : Ev K mg) : FnOk P w K mg base CX0 1 T.a_Peeling_moved T.d_Peeling_moved ["self", "x", "y"] (sp_Peeling_moved T) := by
  refine T.F_Peeling_moved.ok sc_Peeling_moved (fun vs H Q E h => ?_) (fun cdv A outer s H vs Q E hr h => ?_)
  · obtain ⟨_, _, _, _, _, _, _, _, _, _, _, rfl, _⟩ := h; rfl
  · obtain ⟨p, l, A, B, t, a, x, b, y, i, j, rfl, ⟨dx, o1, o2, q1, q2, tv, e, n1, n2, d1, d2, el, pvs, s1, s2⟩, k⟩ := h
    refine ⟨_, (pss_one (ps_ret (pe_tup (pa_cons (pe_op op_add (pv 1) (pe_ix ix_tup (pe_fld (pv 0) rfl) pe_int (fun _ _ => rfl))) (pa_cons (pe_op op_add (pv 2) (pe_ix ix_tup (pe_fld (pv 0) rfl) pe_int (fun _ _ => rfl))) pa_nil))))), ?_⟩
    have p1 : atI [iV a, iV b] 0 = some (iV a) := rfl
    have p2 : atI [iV a, iV b] 1 = some (iV b) := rfl
    walk_at "st"
    refine s_newT (by show 2 ≤ sizeLine; decide) fun q nq => ?_
    have := k q nq
    walk_at "st"
    exact this
/-! ### same_trees -/
theorem ints_dp {H : Hp} : ∀ ns : List Int, DpAll K H (ns.map V.int) (ns.map PyData.int)
  | [] => .nil
  | n :: r => .cons (.int n) (ints_dp r)
theorem shaped_ints (ns : List Int) : SeqAt.shaped (.tuple (ns.map PyData.int)) = true := by
  have h1 : ∀ ns : List Int, PyData.canLayAll0 (ns.map PyData.int) = true := by
    intro ns
    induction ns with
    | nil => rfl
    | cons n r ih => simp [PyData.canLayAll0, PyData.canLay0, ih]
  have h2 : ∀ ns : List Int, PyData.depthAll (ns.map PyData.int) = 0 := by
    intro ns
    induction ns with
    | nil => rfl
    | cons n r ih => simp [PyData.depthAll, PyData.depth, ih]
  unfold SeqAt.shaped
  simp [PyData.canLay0, PyData.depth, h1, h2]
theorem eqv_ints : ∀ ns ms : List Int, PyData.eqv (.tuple (ns.map PyData.int)) (.tuple (ms.map PyData.int)) = decide (ns = ms) := by
  have h : ∀ ns ms : List Int, PyData.eqvAll (ns.map PyData.int) (ms.map PyData.int) = decide (ns = ms) := by
    intro ns
    induction ns with
    | nil => intro ms; cases ms <;> simp [PyData.eqvAll]
    | cons n r ih => intro ms; cases ms with
      | nil => simp [PyData.eqvAll]
      | cons m r2 => simp [PyData.eqvAll, PyData.eqv, ih]; by_cases e : n = m <;> simp [e]
  intro ns ms
  rw [PyData.eqv]; exact h ns ms
theorem s_neT {H : Hp} {Q : VK} {a b : Addr} {ns ms : List Int} (q1 : SqT K H a (ns.map V.int)) (q2 : SqT K H b (ms.map V.int)) (h : Q (.bl (!decide (ns = ms))) H) : rNeD K (.ref a) (.ref b) H Q :=
  ⟨_, _, .tup q1 (ints_dp ns), .tup q2 (ints_dp ms), shaped_ints ns, shaped_ints ms, by rw [eqv_ints]; exact h⟩
theorem s_eqT {H : Hp} {Q : VK} {a b : Addr} {ns ms : List Int} (q1 : SqT K H a (ns.map V.int)) (q2 : SqT K H b (ms.map V.int)) (h : Q (.bl (decide (ns = ms))) H) : rEqD K (.ref a) (.ref b) H Q :=
  ⟨_, _, .tup q1 (ints_dp ns), .tup q2 (ints_dp ms), shaped_ints ns, shaped_ints ms, by rw [eqv_ints]; exact h⟩
/-- equal stretches, item by item -/
theorem cut_eq {α : Type} {l m : List α} {u v d : Nat} (h : (l.drop u).take (d + 1) = (m.drop v).take (d + 1)) {i : Nat} (hi : i ≤ d) : l[u + i]? = m[v + i]? := by
  have := congrArg (fun z => z[i]?) h
  simp only [List.getElem?_take_of_lt (show i < d + 1 by omega), List.getElem?_drop] at this
  exact this
theorem sameT_of {A B : NR} (oA : A.Ok) (oB : B.Ok) {u v d : Nat} (hu : u + d < A.n) (hv : v + d < B.n) (fu : A.first (u + d) = u) (e1 : (A.rules.drop u).take (d + 1) = (B.rules.drop v).take (d + 1)) (e2 : (A.sizes.drop u).take (d + 1) = (B.sizes.drop v).take (d + 1)) : SameT A.nd B.nd u v d := by
  refine ⟨fun i hi => ?_, fun i hi => ?_⟩
  · have := cut_eq e1 hi
    rw [NR.rule_get (show u + i < A.n by omega), NR.rule_get (show v + i < B.n by omega)] at this
    exact Option.some.inj this
  · have := cut_eq e2 hi
    rw [NR.size_get (show u + i < A.n by omega), NR.size_get (show v + i < B.n by omega)] at this
    have e := Option.some.inj this
    have h1 := oA.le (u + i) (by omega)
    have h2 := oB.le (v + i) (by omega)
    have h3 := oA.nest (u + d) (u + i) hu (by omega) (by omega)
    refine ⟨by show u ≤ A.first (u + i); omega, h1, ?_⟩
    show A.first (u + i) + v = B.first (v + i) + u
    omega
def sp_Peeling_same_trees (T : Ev K mg) : Sp := fun vs H Q _ => ∃ (p l : Addr) (A B : NR) (t : List Pr) (a x b y i j : Nat), vs = [.ref p, .int i, .int j] ∧ PlAt K T.c_Peeling T.c_NodeRow H p l A B t a x b y ∧ i < A.n ∧ j < B.n ∧
  ∀ r H', Same H H' → (r = true → i - A.first i = j - B.first j ∧ SameT A.nd B.nd (A.first i) (B.first j) (i - A.first i)) → Q (.bl r) H'
theorem ok_Peeling_same_trees (T : Ev K mg) : FnOk P w K mg base CX0 1 T.a_Peeling_same_trees T.d_Peeling_same_trees ["self", "x", "y"] (sp_Peeling_same_trees T) := by
  refine T.F_Peeling_same_trees.ok sc_Peeling_same_trees (fun vs H Q E h => ?_) (fun cdv A outer s H vs Q E hr h => ?_)
  · obtain ⟨_, _, _, _, _, _, _, _, _, _, _, rfl, _⟩ := h; rfl
  · obtain ⟨p, l, A, B, t, a, x, b, y, i, j, rfl, ⟨dx, o1, o2, q1, q2, tv, e, ⟨⟨dxa, ra, fa, sa, ha, hsa, ea, qa1, qa2, qa3, qa4, oa⟩, oA⟩, ⟨⟨dxb, rb, fb, sb, hb, hsb, eb, qb1, qb2, qb3, qb4, ob⟩, oB⟩, d1, d2, el, pvs, s1, s2⟩, hi, hj, k⟩ := h
    refine ⟨_, (pss_cons (ps_if (pt_cmpR op_ne (pe_ix ix_tup (pe_fld (pe_fld (pv 0) rfl) rfl) (pv 1) (fun _ _ => rfl)) (pe_ix ix_tup (pe_fld (pe_fld (pv 0) rfl) rfl) (pv 2) (fun _ _ => rfl)) (nomark _)) (pss_one (ps_ret pe_bl)) pss_nil)
      (pss_cons (ps_par (i := 3) (j := 4) (by rfl) sc_Peeling_same_trees.nd rfl rfl (by decide) rfl rfl (pa_cons (pe_ix ix_tup (pe_fld (pe_fld (pv 0) rfl) rfl) (pv 1) (fun _ _ => rfl)) (pa_cons (pe_ix ix_tup (pe_fld (pe_fld (pv 0) rfl) rfl) (pv 2) (fun _ _ => rfl)) pa_nil)) (by rfl))
      (pss_cons (ps_if (pt_cmpR (op_neD hr.units) (pe_slice sl_tupA (pe_fld (pe_fld (pv 0) rfl) rfl) (po_some (pv 3)) (po_some (pe_op op_add (pv 1) pe_int))) (pe_slice sl_tupA (pe_fld (pe_fld (pv 0) rfl) rfl) (po_some (pv 4)) (po_some (pe_op op_add (pv 2) pe_int))) (nomark _)) (pss_one (ps_ret pe_bl)) pss_nil)
      (pss_one (ps_ret (pe_cmpR (op_eqD hr.units) (pe_slice sl_tupA (pe_fld (pe_fld (pv 0) rfl) rfl) (po_some (pv 3)) (po_some (pe_op op_add (pv 1) pe_int))) (pe_slice sl_tupA (pe_fld (pe_fld (pv 0) rfl) rfl) (po_some (pv 4)) (po_some (pe_op op_add (pv 2) pe_int))) (nomark _))))))), ?_⟩
    have za : A.rules.length = A.n := rfl
    have zb : B.rules.length = B.n := rfl
    have p1 : atI (A.sizes.map V.int) (i : Int) = some (.int ((i : Int) - (A.first i : Int))) := atI_map V.int (NR.size_get hi)
    have p2 : atI (B.sizes.map V.int) (j : Int) = some (.int ((j : Int) - (B.first j : Int))) := atI_map V.int (NR.size_get hj)
    have p3 : atI (A.firsts.map iV) (i : Int) = some (iV (A.first i)) := atI_map iV (NR.first_get oA hi)
    have p4 : atI (B.firsts.map iV) (j : Int) = some (iV (B.first j)) := atI_map iV (NR.first_get oB hj)
    have la := oA.le i hi
    have lb := oB.le j hj
    walk_at "st"
    refine s_ifN (fun hne => ?_) fun heq => ?_
    · walk_at "st"
      exact k false H (Same.refl H) fun z => nomatch z
    have ca : ∀ {ns : List Int}, ns.length = A.n → cutV (ns.map V.int) (some (A.first i : Int)) (some ((i : Int) + 1)) = ((ns.drop (A.first i)).take (i - A.first i + 1)).map V.int := fun {ns} hz => by
      have := cutV_nat (xs := ns.map V.int) (lo := A.first i) (hi := i + 1) (by rw [List.length_map]; omega) (by omega)
      rw [show ((i + 1 : Nat) : Int) = (i : Int) + 1 by omega] at this
      rw [this, ← List.map_drop, ← List.map_take, show i + 1 - A.first i = i - A.first i + 1 by omega]
    have cb : ∀ {ns : List Int}, ns.length = B.n → cutV (ns.map V.int) (some (B.first j : Int)) (some ((j : Int) + 1)) = ((ns.drop (B.first j)).take (j - B.first j + 1)).map V.int := fun {ns} hz => by
      have := cutV_nat (xs := ns.map V.int) (lo := B.first j) (hi := j + 1) (by rw [List.length_map]; omega) (by omega)
      rw [show ((j + 1 : Nat) : Int) = (j : Int) + 1 by omega] at this
      rw [this, ← List.map_drop, ← List.map_take, show j + 1 - B.first j = j - B.first j + 1 by omega]
    walk_at "st"
    refine s_slT1 qa1 fun c1 H1 sm1 k1 => ?_
    have e' := sm1 _ _ e
    have eb' := sm1 _ _ eb
    rw [ca za] at k1
    walk_at "st"
    refine s_slT1 (sT sm1 qb1) fun c2 H2 sm2 k2 => ?_
    rw [cb zb] at k2
    refine s_neT (sT sm2 k1) k2 ?_
    walk_at "st"
    refine s_ifN (fun hne => ?_) fun heq2 => ?_
    · walk_at "st"
      exact k false H2 (sm1.trans sm2) fun z => nomatch z
    have e' := sm2 _ _ e'
    have ea' := sm2 _ _ (sm1 _ _ ea)
    walk_at "st"
    refine s_slT1 (sT (sm1.trans sm2) qa3) fun c3 H3 sm3 k3 => ?_
    rw [ca (NR.sizes_len A)] at k3
    have e' := sm3 _ _ e'
    have eb' := sm3 _ _ (sm2 _ _ eb')
    walk_at "st"
    refine s_slT1 (sT ((sm1.trans sm2).trans sm3) qb3) fun c4 H4 sm4 k4 => ?_
    rw [cb (NR.sizes_len B)] at k4
    refine s_eqT (sT sm4 k3) k4 ?_
    refine k _ H4 (((sm1.trans sm2).trans sm3).trans sm4) fun hh => ?_
    have hh := of_decide_eq_true hh
    have de : i - A.first i = j - B.first j := by omega
    refine ⟨de, sameT_of oA oB (by omega) (by omega) ?_ ?_ ?_⟩
    · rw [show A.first i + (i - A.first i) = i by omega]
    · rw [heq2, de]
    · rw [hh, de]

/-! ### take_all -/
theorem idl_get {u v d k : Nat} (h : k < d + 1) : (idl u v d)[k]? = some (u + k, v + k) := by unfold idl; rw [List.getElem?_map, List.getElem?_range h]; rfl
theorem take_snoc {α : Type} {l : List α} {i : Nat} {a : α} (h : l[i]? = some a) : l.take i ++ [a] = l.take (i + 1) := by rw [List.take_add_one, h]; rfl
def sp_Peeling_take_all (T : Ev K mg) : Sp := fun vs H Q _ => ∃ (p l : Addr) (A B : NR) (t : List Pr) (a x b y i j : Nat), vs = [.ref p, .int i, .int j] ∧ PlAt K T.c_Peeling T.c_NodeRow H p l A B t a x b y ∧ i < A.n ∧ j < B.n ∧ i - A.first i = j - B.first j ∧ t.length ≤ 1000 ∧
  ∀ H', PlAt K T.c_Peeling T.c_NodeRow H' p l A B (t ++ idl (A.first i) (B.first j) (i - A.first i)) a x b y → Kp (fun c => c = l) H H' → TSt H H' → Q .non H'
theorem ok_Peeling_take_all (T : Ev K mg) : FnOk P w K mg base CX0 1 T.a_Peeling_take_all T.d_Peeling_take_all ["self", "x", "y"] (sp_Peeling_take_all T) := by
  refine T.F_Peeling_take_all.ok sc_Peeling_take_all (fun vs H Q E h => ?_) (fun cdv A outer s H vs Q E hr h => ?_)
  · obtain ⟨_, _, _, _, _, _, _, _, _, _, _, rfl, _⟩ := h; rfl
  · obtain ⟨p, l, A, B, t, a, x, b, y, i, j, rfl, pl, hi, hj, hd, ht, k⟩ := h
    obtain ⟨dx, o1, o2, q1, q2, tv, e, n1, n2, d1, d2, el, pvs, s1, s2⟩ := pl.ex
    obtain ⟨⟨dxa, ra, fa, sa, ha, hsa, ea, qa1, qa2, qa3, qa4, oa⟩, oA⟩ := n1
    have p3 : atI (A.firsts.map iV) (i : Int) = some (iV (A.first i)) := atI_map iV (NR.first_get oA hi)
    have la := oA.le i hi
    have lb := n2.ok.le j hj
    have sA : A.n ≤ 1000 := oA.small
    have npl : p ≠ l := ne_of e el (by intro z; cases z)
    refine ⟨_, (pss_cons (ps_set (i := 3) sc_Peeling_take_all.nd rfl (Or.inl rfl) (pe_op op_sub (pv 2) (pv 1)))
      (pss_one (ps_for PassesOwn.never rfl (pi_range2 rfl T.g_range (pa_cons (pe_ix ix_tup (pe_fld (pe_fld (pv 0) rfl) rfl) (pv 1) (fun _ _ => rfl)) (pa_cons (pe_op op_add (pv 1) pe_int) pa_nil))) (pg_name (i := 4) sc_Peeling_take_all.nd rfl (Or.inl rfl))
      (pss_one (ps_expr (pe_bm PySem.F.plainAttrs_list PySem.F.slot_list_append PySem.F.type_list_append mt_append (pe_fld (pv 0) rfl) (pa_cons (pe_tup (pa_cons (pv 4) (pa_cons (pe_op op_add (pv 4) (pv 3)) pa_nil))) pa_nil))))))), ?_⟩
    walk_at "st"
    have en : (((i : Int) + 1) - (A.first i : Int)).toNat = i - A.first i + 1 := by omega
    rw [en]
    refine f_range (fun n σ H' => ∃ v : Option V, σ = [some (.ref p), some (.int i), some (.int j), some (.int ((j : Int) - i)), v] ∧ Kp (fun c => c = l) H H' ∧ TSt H H' ∧ ∃ tv', H' l = some (.lst tv') ∧ PairsV K H' tv' (t ++ (idl (A.first i) (B.first j) (i - A.first i)).take n)) ⟨_, rfl, Kp.refl, TSt.refl, tv, el, by rw [List.take_zero, List.append_nil]; exact pvs⟩ ?_ ?_
    · rintro n σ H' hn ⟨v, rfl, kp, ts, tv', el', pv'⟩
      have e' := kp _ _ e npl
      walk_at "st"
      refine s_newT (by show 2 ≤ sizeLine; decide) fun c nc => ?_
      have nlc : l ≠ c := ne_of_none el' nc
      walk_at "st"
      have len := pv'.len
      rw [List.length_append, List.length_take, idl_len] at len
      refine s_append (by walk_at "hp") (Nat.lt_of_le_of_lt (m := 3000) (by omega) (by decide)) ?_
      have ts2 : TSt H' (upd (upd H' c (.tup [.int ((A.first i : Int) + n), .int ((A.first i : Int) + n + ((j : Int) - i))])) l (.lst (tv' ++ [.ref c]))) := (TSt.refl.upd' nc).mut (o' := .lst tv') (by walk_at "hp") trivial
      refine ⟨_, rfl, Kp.mut (W := fun c => c = l) (kp.upd' nc) rfl, ts.trans ts2, _, upd_same, ?_⟩
      rw [← take_snoc (idl_get hn), ← List.append_assoc]
      refine pd_app (pv'.ts ts2) (.cons ⟨c, rfl, ?_⟩ .nil)
      rw [upd_ne nlc.symm, upd_same]
      show some (HO.tup [V.int ((A.first i : Int) + n), V.int ((A.first i : Int) + n + ((j : Int) - i))]) = some (HO.tup [V.int ((A.first i + n : Nat) : Int), V.int ((B.first j + n : Nat) : Int)])
      rw [show ((A.first i + n : Nat) : Int) = (A.first i : Int) + n by omega, show ((B.first j + n : Nat) : Int) = (A.first i : Int) + n + ((j : Int) - i) by omega]
    · rintro σ H' ⟨v, rfl, kp, ts, tv', el', pv'⟩
      rw [List.take_of_length_le (by rw [idl_len]; exact Nat.le_refl _)] at pv'
      have pl' := pl.keep (W := fun c => c = l) kp ts npl
      refine k H' ⟨dx, o1, o2, q1, q2, tv', kp _ _ e npl, ?_, ?_, d1, d2, el', pv', ts.sq s1, ts.sq s2⟩ kp ts
      · exact (NRAt.mk ⟨dxa, ra, fa, sa, ha, hsa, ea, qa1, qa2, qa3, qa4, oa⟩ oA).keep kp ts (ne_of ea el (by intro z; cases z))
      · obtain ⟨⟨_, _, _, _, _, _, eb, _⟩, _⟩ := id n2
        exact n2.keep kp ts (ne_of eb el (by intro z; cases z))
/-! ### takes_last, takes_first, takes_root -/
def plPost (K : PySem.W.Frag) (cP cN : Addr) (A B : NR) (H : Hp) (p l : Addr) (a x b y : Nat) (Q : VK) : Prop := ∀ (r : Bool) (H' : Hp) (t' : List Pr) (a' x' b' y' : Nat),
  PlAt K cP cN H' p l A B t' a' x' b' y' → PI A.nd B.nd A.n B.n t' a' x' b' y' → (r = true → x' - a' + (y' - b') < x - a + (y - b)) → (r = false → a' = a ∧ x' = x ∧ b' = b ∧ y' = y) → Kp (fun c => c = p ∨ c = l) H H' → TSt H H' → Q (.bl r) H'
theorem PI.tlen {A B : NR} {t : List Pr} {a x b y : Nat} (h : PI A.nd B.nd A.n B.n t a x b y) (o : A.Ok) : t.length ≤ 1000 := by
  have h1 : M A.nd B.nd 0 A.n 0 B.n = t.length + M A.nd B.nd a x b y := h.cnt
  have h2 : M A.nd B.nd 0 A.n 0 B.n ≤ A.n - 0 := M_le_width
  have h3 : A.n ≤ 1000 := o.small
  generalize M A.nd B.nd 0 A.n 0 B.n = z at h1 h2
  omega
/-- the box is set anew by a store of low or high -/
theorem PlAt.sto {cP cN : Addr} {H : Hp} {p l : Addr} {A B : NR} {t : List Pr} {a' x' b' y' : Nat} {dx o1 o2 q1 q2 q1' q2' : Addr} {tv : List V}
    (e : H p = some (.ins cP dx (fsP o1 o2 l q1 q2))) (n1 : NRAt K cN H o1 A) (n2 : NRAt K cN H o2 B) (d1 : o1 ≠ p) (d2 : o2 ≠ p) (el : H l = some (.lst tv)) (pvs : PairsV K H tv t) (s1 : SqT K H q1' [iV a', iV b']) (s2 : SqT K H q2' [iV x', iV y']) :
    PlAt K cP cN (upd H p (.ins cP dx (fsP o1 o2 l q1' q2'))) p l A B t a' x' b' y' := by
  have kp : Kp (fun c => c = p) H (upd H p (.ins cP dx (fsP o1 o2 l q1' q2'))) := Kp.mut (W := fun c => c = p) Kp.refl rfl
  have ts : TSt H (upd H p (.ins cP dx (fsP o1 o2 l q1' q2'))) := TSt.refl.mut e trivial
  exact ⟨dx, o1, o2, q1', q2', tv, upd_same, n1.keep kp ts d1, n2.keep kp ts d2, d1, d2, by rw [upd_ne (ne_of e el (by intro z; cases z)).symm]; exact el, pvs.ts ts, ts.sq s1, ts.sq s2⟩
def sp_Peeling_takes_last (T : Ev K mg) : Sp := fun vs H Q _ => ∃ (p l : Addr) (A B : NR) (t : List Pr) (a x b y : Nat), vs = [.ref p] ∧ PlAt K T.c_Peeling T.c_NodeRow H p l A B t a x b y ∧ PI A.nd B.nd A.n B.n t a x b y ∧ a < x ∧ b < y ∧ plPost K T.c_Peeling T.c_NodeRow A B H p l a x b y Q
theorem ok_Peeling_takes_last (T : Ev K mg) : FnOk P w K mg base CX0 2 T.a_Peeling_takes_last T.d_Peeling_takes_last ["self"] (sp_Peeling_takes_last T) := by
  refine T.F_Peeling_takes_last.ok sc_Peeling_takes_last (fun vs H Q E h => ?_) (fun cdv A outer s H vs Q E hr h => ?_)
  · obtain ⟨_, _, _, _, _, _, _, _, _, rfl, _⟩ := h; rfl
  · obtain ⟨p, l, A, B, t, a, x, b, y, rfl, pl, I, hax, hby, k⟩ := h
    obtain ⟨dx, o1, o2, q1, q2, tv, e, n1, n2, d1, d2, el, pvs, s1, s2⟩ := pl.ex
    have oA := n1.ok
    have oB := n2.ok
    have p1 : atI [iV x, iV y] 0 = some (iV x) := rfl
    have p2 : atI [iV x, iV y] 1 = some (iV y) := rfl
    have xn := I.xn
    have ym := I.ym
    have e1 : (x : Int) - 1 = ((x - 1 : Nat) : Int) := by omega
    have e2 : (y : Int) - 1 = ((y - 1 : Nat) : Int) := by omega
    refine ⟨_, (pss_cons (ps_par (i := 1) (j := 2) (by rfl) sc_Peeling_takes_last.nd rfl rfl (by decide) rfl rfl (pa_cons (pe_op op_sub (pe_ix ix_tup (pe_fld (pv 0) rfl) pe_int (fun _ _ => rfl)) pe_int) (pa_cons (pe_op op_sub (pe_ix ix_tup (pe_fld (pv 0) rfl) pe_int (fun _ _ => rfl)) pe_int) pa_nil)) (by rfl))
      (pss_cons (ps_if (pt_not (pt_val (pe_meth (pv 0) T.cl_Peeling T.mt_Peeling_same_trees (ok_Peeling_same_trees T) hr T.b_Peeling_same_trees .nil pass0 (pa_cons (pv 1) (pa_cons (pv 2) pa_nil))))) (pss_one (ps_ret pe_bl)) pss_nil)
      (pss_cons (ps_expr (pe_meth (pv 0) T.cl_Peeling T.mt_Peeling_take_all (ok_Peeling_take_all T) hr T.b_Peeling_take_all .nil pass0 (pa_cons (pv 1) (pa_cons (pv 2) pa_nil))))
      (pss_cons (ps_fld (pv 0) (pe_tup (pa_cons (pe_ix ix_tup (pe_fld (pe_fld (pv 0) rfl) rfl) (pv 1) (fun _ _ => rfl)) (pa_cons (pe_ix ix_tup (pe_fld (pe_fld (pv 0) rfl) rfl) (pv 2) (fun _ _ => rfl)) pa_nil))) rfl)
      (pss_one (ps_ret pe_bl)))))), ?_⟩
    walk_at "st"
    rw [e1, e2]
    refine ⟨p, l, A, B, t, a, x, b, y, x - 1, y - 1, rfl, pl, by omega, by omega, fun r H1 sm1 hr1 => ?_⟩
    have pl1 := pl.same sm1
    walk_at "st"
    cases r with
    | false =>
      refine s_T rfl ?_
      walk_at "st"
      exact k false H1 t a x b y pl1 I (fun z => nomatch z) (fun _ => ⟨rfl, rfl, rfl, rfl⟩) (Kp.of sm1) (Same.ts sm1)
    | true =>
      refine s_F rfl ?_
      obtain ⟨hd, st⟩ := hr1 rfl
      have e' := sm1 _ _ e
      walk_at "st"
      refine ⟨p, l, A, B, t, a, x, b, y, x - 1, y - 1, rfl, pl1, by omega, by omega, hd, I.tlen oA, fun H2 pl2 kp2 ts2 => ?_⟩
      obtain ⟨dx2, r1, r2, w1, w2, tv2, f2, m1, m2, x1, x2, el2, pv2, z1, z2⟩ := pl2.ex
      obtain ⟨⟨dxa, ra, fa, sa, ha, hsa, ea, qa1, qa2, qa3, qa4, oa⟩, _⟩ := id m1
      obtain ⟨⟨dxb, rb, fb, sb, hb, hsb, eb, qb1, qb2, qb3, qb4, ob⟩, _⟩ := id m2
      have p3 : atI (A.firsts.map iV) ((x - 1 : Nat) : Int) = some (iV (A.first (x - 1))) := atI_map iV (NR.first_get oA (by omega))
      have p4 : atI (B.firsts.map iV) ((y - 1 : Nat) : Int) = some (iV (B.first (y - 1))) := atI_map iV (NR.first_get oB (by omega))
      walk_at "st"
      refine s_newT (by show 2 ≤ sizeLine; decide) fun q nq => ?_
      have npq : p ≠ q := ne_of_none f2 nq
      walk_at "st"
      have lx := oA.le (x - 1) (by omega)
      have ly := oB.le (y - 1) (by omega)
      have c1 : a ≤ A.first (x - 1) := (I.c1 (x - 1) (by omega) (by omega)).1
      have c2 : b ≤ B.first (y - 1) := (I.c2 (y - 1) (by omega) (by omega)).1
      have I2 : PI A.nd B.nd A.n B.n (t ++ idl (A.first (x - 1)) (B.first (y - 1)) (x - 1 - A.first (x - 1))) a (A.first (x - 1)) b (B.first (y - 1)) := by
        have ex : A.first (x - 1) + (x - 1 - A.first (x - 1)) + 1 = x := by omega
        have ey : B.first (y - 1) + (x - 1 - A.first (x - 1)) + 1 = y := by omega
        refine PI.last (d := x - 1 - A.first (x - 1)) (by rw [ex, ey]; exact I) st ?_ ?_ c1 c2
        · rw [ex]; have := NR.cl_tree oA (show x - 1 < A.n by omega); rw [show x - 1 + 1 = x by omega] at this; exact this
        · rw [ey]; have := NR.cl_tree oB (show y - 1 < B.n by omega); rw [show y - 1 + 1 = y by omega] at this; exact this
      have pl3 := PlAt.sto (K := K) (H := upd H2 q (.tup [iV (A.first (x - 1)), iV (B.first (y - 1))])) (q1' := w1) (q2' := q) (by rw [upd_ne npq]; exact f2) (m1.same (sU (Same.refl H2) nq)) (m2.same (sU (Same.refl H2) nq)) x1 x2 (by rw [upd_ne (ne_of_none el2 nq)]; exact el2) (pv2.ts (TSt.refl.upd' nq)) (TSt.sq (TSt.refl.upd' nq) z1) (SqT.of upd_same)
      refine k true _ _ a (A.first (x - 1)) b (B.first (y - 1)) pl3 I2 (fun _ => by omega) (fun z => nomatch z) ?_ ?_
      · exact Kp.mut (W := fun c => c = p ∨ c = l) (Kp.upd' (Kp.trans (Kp.of sm1) (kp2.mono fun c z => .inr z)) nq) (.inl rfl)
      · exact ((Same.ts sm1).trans ts2).trans ((TSt.refl.upd' nq).mut (o' := .ins T.c_Peeling dx2 (fsP r1 r2 l w1 w2)) (by rw [upd_ne npq]; exact f2) trivial)
def sp_Peeling_takes_first (T : Ev K mg) : Sp := fun vs H Q _ => ∃ (p l : Addr) (A B : NR) (t : List Pr) (a x b y : Nat), vs = [.ref p] ∧ PlAt K T.c_Peeling T.c_NodeRow H p l A B t a x b y ∧ PI A.nd B.nd A.n B.n t a x b y ∧ a < x ∧ b < y ∧ plPost K T.c_Peeling T.c_NodeRow A B H p l a x b y Q
theorem ok_Peeling_takes_first (T : Ev K mg) : FnOk P w K mg base CX0 2 T.a_Peeling_takes_first T.d_Peeling_takes_first ["self"] (sp_Peeling_takes_first T) := by
  refine T.F_Peeling_takes_first.ok sc_Peeling_takes_first (fun vs H Q E h => ?_) (fun cdv A outer s H vs Q E hr h => ?_)
  · obtain ⟨_, _, _, _, _, _, _, _, _, rfl, _⟩ := h; rfl
  · obtain ⟨p, l, A, B, t, a, x, b, y, rfl, pl, I, hax, hby, k⟩ := h
    obtain ⟨dx, o1, o2, q1, q2, tv, e, n1, n2, d1, d2, el, pvs, s1, s2⟩ := pl.ex
    obtain ⟨⟨dxa, ra, fa, sa, ha, hsa, ea, qa1, qa2, qa3, qa4, oa⟩, oA⟩ := id n1
    obtain ⟨⟨dxb, rb, fb, sb, hb, hsb, eb, qb1, qb2, qb3, qb4, ob⟩, oB⟩ := id n2
    have p1 : atI [iV x, iV y] 0 = some (iV x) := rfl
    have p2 : atI [iV x, iV y] 1 = some (iV y) := rfl
    have p3 : atI [iV a, iV b] 0 = some (iV a) := rfl
    have p4 : atI [iV a, iV b] 1 = some (iV b) := rfl
    have xn := I.xn
    have ym := I.ym
    refine ⟨_, (pss_cons (ps_set (i := 1) sc_Peeling_takes_first.nd rfl (Or.inl rfl) (pe_meth (pe_fld (pv 0) rfl) T.cl_NodeRow T.mt_NodeRow_first_root (ok_NodeRow_first_root T) hr T.b_NodeRow_first_root .nil pass0 (pa_cons (pe_ix ix_tup (pe_fld (pv 0) rfl) pe_int (fun _ _ => rfl)) (pa_cons (pe_ix ix_tup (pe_fld (pv 0) rfl) pe_int (fun _ _ => rfl)) pa_nil))))
      (pss_cons (ps_set (i := 2) sc_Peeling_takes_first.nd rfl (Or.inl rfl) (pe_meth (pe_fld (pv 0) rfl) T.cl_NodeRow T.mt_NodeRow_first_root (ok_NodeRow_first_root T) hr T.b_NodeRow_first_root .nil pass0 (pa_cons (pe_ix ix_tup (pe_fld (pv 0) rfl) pe_int (fun _ _ => rfl)) (pa_cons (pe_ix ix_tup (pe_fld (pv 0) rfl) pe_int (fun _ _ => rfl)) pa_nil))))
      (pss_cons (ps_if (pt_not (pt_val (pe_meth (pv 0) T.cl_Peeling T.mt_Peeling_same_trees (ok_Peeling_same_trees T) hr T.b_Peeling_same_trees .nil pass0 (pa_cons (pv 1) (pa_cons (pv 2) pa_nil))))) (pss_one (ps_ret pe_bl)) pss_nil)
      (pss_cons (ps_expr (pe_meth (pv 0) T.cl_Peeling T.mt_Peeling_take_all (ok_Peeling_take_all T) hr T.b_Peeling_take_all .nil pass0 (pa_cons (pv 1) (pa_cons (pv 2) pa_nil))))
      (pss_cons (ps_fld (pv 0) (pe_tup (pa_cons (pe_op op_add (pv 1) pe_int) (pa_cons (pe_op op_add (pv 2) pe_int) pa_nil))) rfl)
      (pss_one (ps_ret pe_bl))))))), ?_⟩
    walk_at "st"
    refine ⟨o1, A, a, x, rfl, n1, hax, xn, I.c1, fun i ri => ?_⟩
    walk_at "st"
    refine ⟨o2, B, b, y, rfl, n2, hby, ym, I.c2, fun j rj => ?_⟩
    walk_at "st"
    have hi := ri.lt
    have hj := rj.lt
    have gi := ri.ge
    have gj := rj.ge
    refine ⟨p, l, A, B, t, a, x, b, y, i, j, rfl, pl, by omega, by omega, fun r H1 sm1 hr1 => ?_⟩
    have pl1 := pl.same sm1
    walk_at "st"
    cases r with
    | false =>
      refine s_T rfl ?_
      walk_at "st"
      exact k false H1 t a x b y pl1 I (fun z => nomatch z) (fun _ => ⟨rfl, rfl, rfl, rfl⟩) (Kp.of sm1) (Same.ts sm1)
    | true =>
      refine s_F rfl ?_
      obtain ⟨hd, st⟩ := hr1 rfl
      have e' := sm1 _ _ e
      walk_at "st"
      refine ⟨p, l, A, B, t, a, x, b, y, i, j, rfl, pl1, by omega, by omega, hd, I.tlen oA, fun H2 pl2 kp2 ts2 => ?_⟩
      obtain ⟨dx2, r1, r2, w1, w2, tv2, f2, m1, m2, x1, x2, el2, pv2, z1, z2⟩ := pl2.ex
      walk_at "st"
      refine s_newT (by show 2 ≤ sizeLine; decide) fun q nq => ?_
      have npq : p ≠ q := ne_of_none f2 nq
      walk_at "st"
      have fi := ri.first
      have fj := rj.first
      rw [fi, fj] at st pl2 pv2
      rw [fi, fj] at hd
      have I2 : PI A.nd B.nd A.n B.n (t ++ idl a b (i - a)) (i + 1) x (j + 1) y := by
        have ex : a + (i - a) + 1 = i + 1 := by omega
        have ey : b + (i - a) + 1 = j + 1 := by omega
        have := PI.first (d := i - a) I st (by omega) (by omega) (by rw [ex]; exact ri.rest) (by rw [ey]; exact rj.rest)
        rw [ex, ey] at this; exact this
      have pl3 := PlAt.sto (K := K) (H := upd H2 q (.tup [iV (i + 1), iV (j + 1)])) (q1' := q) (q2' := w2) (by rw [upd_ne npq]; exact f2) (m1.same (sU (Same.refl H2) nq)) (m2.same (sU (Same.refl H2) nq)) x1 x2 (by rw [upd_ne (ne_of_none el2 nq)]; exact el2) (pv2.ts (TSt.refl.upd' nq)) (SqT.of upd_same) (TSt.sq (TSt.refl.upd' nq) z2)
      refine k true _ _ (i + 1) x (j + 1) y pl3 I2 (fun _ => by omega) (fun z => nomatch z) ?_ ?_
      · exact Kp.mut (W := fun c => c = p ∨ c = l) (Kp.upd' (Kp.trans (Kp.of sm1) (kp2.mono fun c z => .inr z)) nq) (.inl rfl)
      · exact ((Same.ts sm1).trans ts2).trans ((TSt.refl.upd' nq).mut (o' := .ins T.c_Peeling dx2 (fsP r1 r2 l w1 w2)) (by rw [upd_ne npq]; exact f2) trivial)
def sp_Peeling_takes_root (T : Ev K mg) : Sp := fun vs H Q _ => ∃ (p l : Addr) (A B : NR) (t : List Pr) (a x b y : Nat), vs = [.ref p] ∧ PlAt K T.c_Peeling T.c_NodeRow H p l A B t a x b y ∧ PI A.nd B.nd A.n B.n t a x b y ∧ a < x ∧ b < y ∧ plPost K T.c_Peeling T.c_NodeRow A B H p l a x b y Q
theorem ok_Peeling_takes_root (T : Ev K mg) : FnOk P w K mg base CX0 1 T.a_Peeling_takes_root T.d_Peeling_takes_root ["self"] (sp_Peeling_takes_root T) := by
  refine T.F_Peeling_takes_root.ok sc_Peeling_takes_root (fun vs H Q E h => ?_) (fun cdv A outer s H vs Q E hr h => ?_)
  · obtain ⟨_, _, _, _, _, _, _, _, _, rfl, _⟩ := h; rfl
  · obtain ⟨p, l, A, B, t, a, x, b, y, rfl, pl, I, hax, hby, k⟩ := h
    obtain ⟨dx, o1, o2, q1, q2, tv, e, n1, n2, d1, d2, el, pvs, s1, s2⟩ := pl.ex
    obtain ⟨⟨dxa, ra, fa, sa, ha, hsa, ea, qa1, qa2, qa3, qa4, oa⟩, oA⟩ := id n1
    obtain ⟨⟨dxb, rb, fb, sb, hb, hsb, eb, qb1, qb2, qb3, qb4, ob⟩, oB⟩ := id n2
    have p1 : atI [iV x, iV y] 0 = some (iV x) := rfl
    have p2 : atI [iV x, iV y] 1 = some (iV y) := rfl
    have xn := I.xn
    have ym := I.ym
    obtain ⟨i, rfl⟩ : ∃ i, x = i + 1 := ⟨x - 1, by omega⟩
    obtain ⟨j, rfl⟩ : ∃ j, y = j + 1 := ⟨y - 1, by omega⟩
    have e1 : (((i + 1 : Nat) : Int)) - 1 = (i : Int) := by omega
    have e2 : (((j + 1 : Nat) : Int)) - 1 = (j : Int) := by omega
    have p3 : atI (A.firsts.map iV) (i : Int) = some (iV (A.first i)) := atI_map iV (NR.first_get oA (by omega))
    have p4 : atI (B.firsts.map iV) (j : Int) = some (iV (B.first j)) := atI_map iV (NR.first_get oB (by omega))
    have p5 : atI (A.rules.map V.int) (i : Int) = some (.int (A.rule i)) := atI_map V.int (NR.rule_get (by omega))
    have p6 : atI (B.rules.map V.int) (j : Int) = some (.int (B.rule j)) := atI_map V.int (NR.rule_get (by omega))
    refine ⟨_, (pss_cons (ps_par (i := 1) (j := 2) (by rfl) sc_Peeling_takes_root.nd rfl rfl (by decide) rfl rfl (pa_cons (pe_op op_sub (pe_ix ix_tup (pe_fld (pv 0) rfl) pe_int (fun _ _ => rfl)) pe_int) (pa_cons (pe_op op_sub (pe_ix ix_tup (pe_fld (pv 0) rfl) pe_int (fun _ _ => rfl)) pe_int) pa_nil)) (by rfl))
      (pss_cons (ps_if (pt_cmpR (op_neD hr.units) (pe_tup (pa_cons (pe_ix ix_tup (pe_fld (pe_fld (pv 0) rfl) rfl) (pv 1) (fun _ _ => rfl)) (pa_cons (pe_ix ix_tup (pe_fld (pe_fld (pv 0) rfl) rfl) (pv 2) (fun _ _ => rfl)) pa_nil))) (pe_fld (pv 0) rfl) (nomark _)) (pss_one (ps_ret pe_bl)) pss_nil)
      (pss_cons (ps_if (pt_cmpR op_ne (pe_ix ix_tup (pe_fld (pe_fld (pv 0) rfl) rfl) (pv 1) (fun _ _ => rfl)) (pe_ix ix_tup (pe_fld (pe_fld (pv 0) rfl) rfl) (pv 2) (fun _ _ => rfl)) (nomark _)) (pss_one (ps_ret pe_bl)) pss_nil)
      (pss_cons (ps_expr (pe_bm PySem.F.plainAttrs_list PySem.F.slot_list_append PySem.F.type_list_append mt_append (pe_fld (pv 0) rfl) (pa_cons (pe_tup (pa_cons (pv 1) (pa_cons (pv 2) pa_nil))) pa_nil)))
      (pss_cons (ps_fld (pv 0) (pe_tup (pa_cons (pv 1) (pa_cons (pv 2) pa_nil))) rfl)
      (pss_one (ps_ret pe_bl))))))), ?_⟩
    walk_at "st"
    rw [e1, e2]
    walk_at "st"
    refine s_newT (by show 2 ≤ sizeLine; decide) fun q nq => ?_
    have npq : p ≠ q := ne_of_none e nq
    have naq : o1 ≠ q := ne_of_none ea nq
    have nbq : o2 ≠ q := ne_of_none eb nq
    walk_at "st"
    have sm1 : Same H (upd H q (.tup [iV (A.first i), iV (B.first j)])) := sU (Same.refl H) nq
    refine s_neT (ns := [(A.first i : Int), (B.first j : Int)]) (ms := [(a : Int), (b : Int)]) (SqT.of upd_same) (sT sm1 s1) ?_
    walk_at "st"
    refine s_ifN (fun hne => ?_) fun heq => ?_
    · walk_at "st"
      exact k false _ t a _ b _ (pl.same sm1) I (fun z => nomatch z) (fun _ => ⟨rfl, rfl, rfl, rfl⟩) (Kp.of sm1) (Same.ts sm1)
    have f1 : A.first i = a := by have := List.cons.inj heq; omega
    have f2 : B.first j = b := by have := List.cons.inj (List.cons.inj heq).2; omega
    walk_at "st"
    refine s_ifN (fun hne => ?_) fun heq2 => ?_
    · walk_at "st"
      exact k false _ t a _ b _ (pl.same sm1) I (fun z => nomatch z) (fun _ => ⟨rfl, rfl, rfl, rfl⟩) (Kp.of sm1) (Same.ts sm1)
    generalize upd H q (.tup [iV (A.first i), iV (B.first j)]) = H1 at sm1
    have e' := sm1 _ _ e
    have el' := sm1 _ _ el
    have npl : p ≠ l := ne_of e el (by intro z; cases z)
    walk_at "st"
    refine s_newT (by show 2 ≤ sizeLine; decide) fun c nc => ?_
    have nlc : l ≠ c := ne_of_none el' nc
    have npc : p ≠ c := ne_of_none e' nc
    walk_at "st"
    have tl := I.tlen oA
    refine s_append (by walk_at "hp") (by rw [pvs.len]; exact small1000 tl) ?_
    walk_at "st"
    refine s_newT (by show 2 ≤ sizeLine; decide) fun c2 nc2 => ?_
    obtain ⟨c2l, nc2'⟩ := un nc2
    obtain ⟨c2c, nc2''⟩ := un nc2'
    have npc2 : p ≠ c2 := ne_of_none e' nc2''
    walk_at "st"
    subst f1 f2
    have I2 := I.root heq2 (oA.le i (by omega)) (oB.le j (by omega))
    have ts1 : TSt H1 (upd H1 c (.tup [.int i, .int j])) := TSt.refl.upd' nc
    have ts2 : TSt H1 (upd (upd H1 c (.tup [.int i, .int j])) l (.lst (tv ++ [.ref c]))) := ts1.mut (o' := .lst tv) (by walk_at "hp") trivial
    have ts3 := ts2.upd' (o := .tup [.int i, .int j]) nc2
    have kp3 : Kp (fun c => c = l) H1 (upd (upd (upd H1 c (.tup [.int i, .int j])) l (.lst (tv ++ [.ref c]))) c2 (.tup [.int i, .int j])) := Kp.upd' (Kp.mut (W := fun c => c = l) (Kp.refl.upd' nc) rfl) nc2
    have pv3 : PairsV K (upd (upd (upd H1 c (.tup [.int i, .int j])) l (.lst (tv ++ [.ref c]))) c2 (.tup [.int i, .int j])) (tv ++ [.ref c]) (t ++ [(i, j)]) :=
      pd_app ((pvs.ts (Same.ts sm1)).ts ts3) (.cons ⟨c, rfl, (by rw [upd_ne c2c.symm, upd_ne nlc.symm]; exact upd_same)⟩ .nil)
    have nal : ∀ {o : Addr} {A : NR}, NRAt K T.c_NodeRow H1 o A → o ≠ l := fun {o A} h => by
      obtain ⟨⟨_, _, _, _, _, _, ez, _⟩, _⟩ := h
      exact ne_of ez el' (by intro z; cases z)
    have pl3 := PlAt.sto (K := K) (q1' := q1) (q2' := c2) (A := A) (B := B) (cP := T.c_Peeling) (p := p) (l := l) (o1 := o1) (o2 := o2) (q1 := q1) (q2 := q2) (dx := dx) (by rw [upd_ne npc2, upd_ne npl, upd_ne npc]; exact e') ((n1.same sm1).keep kp3 ts3 (nal (n1.same sm1))) ((n2.same sm1).keep kp3 ts3 (nal (n2.same sm1))) d1 d2 (by rw [upd_ne c2l.symm]; exact upd_same) pv3 (ts3.sq (sT sm1 s1)) (SqT.of (xs := [iV i, iV j]) upd_same)
    refine k true _ _ _ i _ j pl3 I2 (fun _ => by have := oA.le i (by omega); have := oB.le j (by omega); omega) (fun z => nomatch z) ?_ ?_
    · exact Kp.mut (W := fun c => c = p ∨ c = l) ((Kp.of sm1).trans (kp3.mono fun c z => .inr z)) (.inl rfl)
    · exact (Same.ts sm1).trans (ts3.mut (o' := .ins T.c_Peeling dx (fsP o1 o2 l q1 q2)) (by rw [upd_ne npc2, upd_ne npl, upd_ne npc]; exact e') trivial)

/-! ### peels -/
def sp_Peeling_peels (T : Ev K mg) : Sp := fun vs H Q _ => ∃ (p l : Addr) (A B : NR) (t : List Pr) (a x b y : Nat), vs = [.ref p] ∧ PlAt K T.c_Peeling T.c_NodeRow H p l A B t a x b y ∧ PI A.nd B.nd A.n B.n t a x b y ∧ plPost K T.c_Peeling T.c_NodeRow A B H p l a x b y Q
theorem plPost.next {cP cN : Addr} {A B : NR} {H H1 : Hp} {p l : Addr} {a x b y : Nat} {Q : VK} (k : plPost K cP cN A B H p l a x b y Q) (kp : Kp (fun c => c = p ∨ c = l) H H1) (ts : TSt H H1) : plPost K cP cN A B H1 p l a x b y Q :=
  fun r H' t' a' x' b' y' h1 h2 h3 h4 h5 h6 => k r H' t' a' x' b' y' h1 h2 h3 h4 (kp.trans h5) (ts.trans h6)
theorem ok_Peeling_peels (T : Ev K mg) : FnOk P w K mg base CX0 3 T.a_Peeling_peels T.d_Peeling_peels ["self"] (sp_Peeling_peels T) := by
  refine T.F_Peeling_peels.ok sc_Peeling_peels (fun vs H Q E h => ?_) (fun cdv A outer s H vs Q E hr h => ?_)
  · obtain ⟨_, _, _, _, _, _, _, _, _, rfl, _⟩ := h; rfl
  · obtain ⟨p, l, A, B, t, a, x, b, y, rfl, pl, I, k⟩ := h
    obtain ⟨dx, o1, o2, q1, q2, tv, e, n1, n2, d1, d2, el, pvs, s1, s2⟩ := pl.ex
    have p1 : atI [iV x, iV y] 0 = some (iV x) := rfl
    have p2 : atI [iV x, iV y] 1 = some (iV y) := rfl
    have p3 : atI [iV a, iV b] 0 = some (iV a) := rfl
    have p4 : atI [iV a, iV b] 1 = some (iV b) := rfl
    have ax := I.ax
    have bY := I.by_
    refine ⟨_, (pss_cons (ps_if (pw_or (pt_cmpR op_eq (pe_ix ix_tup (pe_fld (pv 0) rfl) pe_int (fun _ _ => rfl)) (pe_ix ix_tup (pe_fld (pv 0) rfl) pe_int (fun _ _ => rfl)) (nomark _)) (pw_or1 (pt_cmpR op_eq (pe_ix ix_tup (pe_fld (pv 0) rfl) pe_int (fun _ _ => rfl)) (pe_ix ix_tup (pe_fld (pv 0) rfl) pe_int (fun _ _ => rfl)) (nomark _)))).pt (pss_one (ps_ret pe_bl)) pss_nil)
      (pss_one (ps_ret (pe_or (pe_meth0 (pv 0) T.cl_Peeling T.mt_Peeling_takes_last (ok_Peeling_takes_last T) hr T.b_Peeling_takes_last .nil pass0) (pe_or (pe_meth0 (pv 0) T.cl_Peeling T.mt_Peeling_takes_first (ok_Peeling_takes_first T) hr T.b_Peeling_takes_first .nil pass0) (pe_one (pe_meth0 (pv 0) T.cl_Peeling T.mt_Peeling_takes_root (ok_Peeling_takes_root T) (hr.mono (by decide)) T.b_Peeling_takes_root .nil pass0))))))), ?_⟩
    walk_at "st"
    refine s_if (fun h1 => ?_) fun h1 => ?_
    · walk_at "st"
      exact k false H t a x b y pl I (fun z => nomatch z) (fun _ => ⟨rfl, rfl, rfl, rfl⟩) Kp.refl TSt.refl
    walk_at "st"
    refine s_if (fun h2 => ?_) fun h2 => ?_
    · walk_at "st"
      exact k false H t a x b y pl I (fun z => nomatch z) (fun _ => ⟨rfl, rfl, rfl, rfl⟩) Kp.refl TSt.refl
    walk_at "st"
    refine ⟨p, l, A, B, t, a, x, b, y, rfl, pl, I, by omega, by omega, fun r H1 t1 a1 x1 b1 y1 pl1 I1 m1 m0 kp1 ts1 => ?_⟩
    walk_at "st"
    cases r with
    | true =>
      walk_at "st"
      exact k true H1 t1 a1 x1 b1 y1 pl1 I1 m1 m0 kp1 ts1
    | false =>
    obtain ⟨rfl, rfl, rfl, rfl⟩ := m0 rfl
    obtain ⟨dx1, o11, o21, q11, q21, tv1, e1, _⟩ := pl1.ex
    walk_at "st"
    refine ⟨p, l, A, B, t1, a1, x1, b1, y1, rfl, pl1, I1, by omega, by omega, fun r H2 t2 a2 x2 b2 y2 pl2 I2 m2 m02 kp2 ts2 => ?_⟩
    walk_at "st"
    cases r with
    | true =>
      walk_at "st"
      exact (k.next kp1 ts1) true H2 t2 a2 x2 b2 y2 pl2 I2 m2 m02 kp2 ts2
    | false =>
    obtain ⟨rfl, rfl, rfl, rfl⟩ := m02 rfl
    obtain ⟨dx2, o12, o22, q12, q22, tv2, e2, _⟩ := pl2.ex
    walk_at "st"
    exact ⟨p, l, A, B, t2, a2, x2, b2, y2, rfl, pl2, I2, by omega, by omega, ((k.next kp1 ts1).next kp2 ts2)⟩
/-! ### Peeling.__init__ -/
def sp_Peeling_init (T : Ev K mg) : Sp := fun vs H Q _ => ∃ (p dx oa ob : Addr) (A B : NR), vs = [.ref p, .ref oa, .ref ob] ∧ H p = some (.ins T.c_Peeling dx []) ∧ NRAt K T.c_NodeRow H oa A ∧ NRAt K T.c_NodeRow H ob B ∧
  ∀ H' l t a x b y, PlAt K T.c_Peeling T.c_NodeRow H' p l A B t a x b y → PI A.nd B.nd A.n B.n t a x b y → Kp (· = p) H H' → TSt H H' → Q .non H'
theorem ok_Peeling_init (T : Ev K mg) : FnOk P w K mg base CX0 4 T.a_Peeling_init T.d_Peeling_init ["self", "one", "other"] (sp_Peeling_init T) := by
  refine T.F_Peeling_init.ok sc_Peeling_init (fun vs H Q E h => ?_) (fun cdv A outer s H vs Q E hr h => ?_)
  · obtain ⟨_, _, _, _, _, _, rfl, _⟩ := h; rfl
  · obtain ⟨p, dx, oa, ob, A, B, rfl, hp, na, nb, k⟩ := h
    have oA := na.ok
    have oB := nb.ok
    have npa : oa ≠ p := by
      obtain ⟨⟨_, _, _, _, _, _, ea, _⟩, _⟩ := id na
      exact ne_of ea hp (by intro z; injection z with _ _ z; cases z)
    have npb : ob ≠ p := by
      obtain ⟨⟨_, _, _, _, _, _, eb, _⟩, _⟩ := id nb
      exact ne_of eb hp (by intro z; injection z with _ _ z; cases z)
    refine ⟨_, (pss_cons (ps_fld (pv 0) (pv 1) rfl)
      (pss_cons (ps_fld (pv 0) (pv 2) rfl)
      (pss_cons (ps_fld (pv 0) (pe_lst pa_nil) rfl)
      (pss_cons (ps_fld (pv 0) (pe_tup (pa_cons pe_int (pa_cons pe_int pa_nil))) rfl)
      (pss_cons (ps_fld (pv 0) (pe_tup (pa_cons (pe_meth0 (pv 1) T.cl_NodeRow T.mt_NodeRow_many (ok_NodeRow_many T) (hr.mono (by decide)) T.b_NodeRow_many .nil pass0) (pa_cons (pe_meth0 (pv 2) T.cl_NodeRow T.mt_NodeRow_many (ok_NodeRow_many T) (hr.mono (by decide)) T.b_NodeRow_many .nil pass0) pa_nil))) rfl)
      (pss_one (ps_while PassesOwn.never (pt_val (pe_meth0 (pv 0) T.cl_Peeling T.mt_Peeling_peels (ok_Peeling_peels T) hr T.b_Peeling_peels .nil pass0)) (pss_one ps_pass)))))))), ?_⟩
    walk_at "st"
    refine s_newL (by show 0 ≤ sizeLine; decide) fun l nl => ?_
    have nl0 : H l = none := by
      refine Kp.none (W := (· = p)) (Kp.mut (Kp.mut Kp.refl rfl) rfl) ?_ nl
      rintro rfl
      rw [upd_same] at nl; cases nl
    have npl : p ≠ l := ne_of_none hp nl0
    walk_at "st"
    refine s_newT (by show 2 ≤ sizeLine; decide) fun q1 nq1 => ?_
    obtain ⟨f1, nq1'⟩ := un nq1
    obtain ⟨g1, nq1''⟩ := un nq1'
    walk_at "st"
    obtain ⟨h1, nq10⟩ := un nq1''
    obtain ⟨_, nq100⟩ := un nq10
    generalize hG : (upd (upd (upd (upd (upd (upd H p (.ins T.c_Peeling dx (putF "one" (.ref oa) []))) p (.ins T.c_Peeling dx (putF "other" (.ref ob) (putF "one" (.ref oa) [])))) l (.lst [])) p (.ins T.c_Peeling dx (putF "taken" (.ref l) (putF "other" (.ref ob) (putF "one" (.ref oa) []))))) q1 (.tup [.int 0, .int 0])) p (.ins T.c_Peeling dx (putF "low" (.ref q1) (putF "taken" (.ref l) (putF "other" (.ref ob) (putF "one" (.ref oa) [])))))) = G
    have eG : G p = some (.ins T.c_Peeling dx (putF "low" (.ref q1) (putF "taken" (.ref l) (putF "other" (.ref ob) (putF "one" (.ref oa) []))))) := by rw [← hG]; exact upd_same
    have eq1 : SqT K G q1 [iV 0, iV 0] := by rw [← hG]; exact SqT.of (by rw [upd_ne f1]; exact upd_same)
    have el : G l = some (.lst []) := by rw [← hG, upd_ne npl.symm, upd_ne g1.symm, upd_ne npl.symm]; exact upd_same
    have kp : Kp (· = p) H G := by rw [← hG]; exact Kp.mut (W := (· = p)) (Kp.upd' (Kp.mut (W := (· = p)) (Kp.upd' (Kp.mut (W := (· = p)) (Kp.mut (W := (· = p)) Kp.refl rfl) rfl) nl) rfl) nq1) rfl
    have ts : TSt H G := by
      rw [← hG]
      refine TSt.mut (o' := .ins T.c_Peeling dx (putF "taken" (.ref l) (putF "other" (.ref ob) (putF "one" (.ref oa) [])))) (TSt.upd' (TSt.mut (o' := .ins T.c_Peeling dx (putF "other" (.ref ob) (putF "one" (.ref oa) []))) (TSt.upd' (TSt.mut (o' := .ins T.c_Peeling dx (putF "one" (.ref oa) [])) (TSt.mut TSt.refl hp trivial) upd_same trivial) nl) ?_ trivial) nq1) ?_ trivial
      · rw [upd_ne npl]; exact upd_same
      · rw [upd_ne f1.symm]; exact upd_same
    clear hG nq1 nq1' nq1'' nq10
    have nA := na.keep kp ts npa
    have nB := nb.keep kp ts npb
    obtain ⟨⟨dxa, ra, fa, sa, ha, hsa, ea, qa1, qa2, qa3, qa4, oa'⟩, _⟩ := id nA
    obtain ⟨⟨dxb, rb, fb, sb, hb, hsb, eb, qb1, qb2, qb3, qb4, ob'⟩, _⟩ := id nB
    walk_at "st"
    refine ⟨oa, A, rfl, nA, ?_⟩
    walk_at "st"
    refine ⟨ob, B, rfl, nB, ?_⟩
    walk_at "st"
    refine s_newT (by show 2 ≤ sizeLine; decide) fun q2 nq2 => ?_
    have npq2 : p ≠ q2 := ne_of_none eG nq2
    have nlq2 : l ≠ q2 := ne_of_none el nq2
    walk_at "st"
    have kp2 : Kp (· = p) H (upd (upd G q2 (.tup [iV A.n, iV B.n])) p (.ins T.c_Peeling dx (putF "high" (.ref q2) (putF "low" (.ref q1) (putF "taken" (.ref l) (putF "other" (.ref ob) (putF "one" (.ref oa) []))))))) := Kp.mut (W := (· = p)) (kp.upd' nq2) rfl
    have tsG : TSt G (upd (upd G q2 (.tup [iV A.n, iV B.n])) p (.ins T.c_Peeling dx (putF "high" (.ref q2) (putF "low" (.ref q1) (putF "taken" (.ref l) (putF "other" (.ref ob) (putF "one" (.ref oa) []))))))) := (TSt.refl.upd' nq2).mut (o' := .ins T.c_Peeling dx (putF "low" (.ref q1) (putF "taken" (.ref l) (putF "other" (.ref ob) (putF "one" (.ref oa) []))))) (by rw [upd_ne npq2]; exact eG) trivial
    have kpG : Kp (· = p) G (upd (upd G q2 (.tup [iV A.n, iV B.n])) p (.ins T.c_Peeling dx (putF "high" (.ref q2) (putF "low" (.ref q1) (putF "taken" (.ref l) (putF "other" (.ref ob) (putF "one" (.ref oa) []))))))) := Kp.mut (W := (· = p)) (Kp.refl.upd' nq2) rfl
    have pl0 : PlAt K T.c_Peeling T.c_NodeRow (upd (upd G q2 (.tup [iV A.n, iV B.n])) p (.ins T.c_Peeling dx (putF "high" (.ref q2) (putF "low" (.ref q1) (putF "taken" (.ref l) (putF "other" (.ref ob) (putF "one" (.ref oa) []))))))) p l A B [] 0 A.n 0 B.n :=
      ⟨dx, oa, ob, q1, q2, [], upd_same, nA.keep kpG tsG npa, nB.keep kpG tsG npb, npa, npb, by rw [upd_ne npl.symm, upd_ne nlq2]; exact el, .nil, tsG.sq eq1, SqT.of (by rw [upd_ne npq2.symm]; exact upd_same)⟩
    have ts2 := ts.trans tsG
    generalize upd (upd G q2 (.tup [iV A.n, iV B.n])) p (.ins T.c_Peeling dx (putF "high" (.ref q2) (putF "low" (.ref q1) (putF "taken" (.ref l) (putF "other" (.ref ob) (putF "one" (.ref oa) [])))))) = G2 at kp2 pl0 ts2
    refine s_while (fun m σ H' => ∃ t a x b y, σ = [some (.ref p), some (.ref oa), some (.ref ob)] ∧ PlAt K T.c_Peeling T.c_NodeRow H' p l A B t a x b y ∧ PI A.nd B.nd A.n B.n t a x b y ∧ Kp (· = p) H H' ∧ TSt H H' ∧ m = x - a + (y - b)) (A.n - 0 + (B.n - 0)) ⟨[], 0, A.n, 0, B.n, rfl, pl0, PI.start (NR.cl_all oA) (NR.cl_all oB), kp2, ts2, rfl⟩ ?_
    rintro m σ H' ⟨t, a, x, b, y, rfl, pl1, I1, kp1, ts1, rfl⟩
    obtain ⟨dx1, o11, o21, q11, q21, tv1, e1, _⟩ := pl1.ex
    walk_at "st"
    refine ⟨p, l, A, B, t, a, x, b, y, rfl, pl1, I1, fun r H2 t2 a2 x2 b2 y2 pl2 I2 m2 _ kp2' ts2' => ?_⟩
    have kp3 : Kp (· = p) H H2 := fun c o hc nc => kp2' c o (kp1 c o hc nc) fun z => z.elim nc fun z => by rw [z, nl0] at hc; cases hc
    walk_at "st"
    cases r with
    | true =>
      refine s_wT ?_
      walk_at "st"
      exact ⟨_, m2 rfl, t2, a2, x2, b2, y2, rfl, pl2, I2, kp3, ts1.trans ts2', rfl⟩
    | false =>
      refine s_wF ?_
      walk_at "st"
      exact k H2 l t2 a2 x2 b2 y2 pl2 I2 kp3 (ts1.trans ts2')
/-! ### rests -/
def sp_Peeling_rests (T : Ev K mg) : Sp := fun vs H Q _ => ∃ (p l : Addr) (A B : NR) (t : List Pr) (a x b y : Nat), vs = [.ref p] ∧ PlAt K T.c_Peeling T.c_NodeRow H p l A B t a x b y ∧ PI A.nd B.nd A.n B.n t a x b y ∧ A.n < 1000 ∧ B.n < 1000 ∧
  ∀ H' q o1 o2, SqT K H' q [.ref o1, .ref o2] → NRAt K T.c_NodeRow H' o1 (A.under a x (-1)) → NRAt K T.c_NodeRow H' o2 (B.under b y (-2)) → Same H H' → Q (.ref q) H'
theorem ok_Peeling_rests (T : Ev K mg) : FnOk P w K mg base CX0 4 T.a_Peeling_rests T.d_Peeling_rests ["self"] (sp_Peeling_rests T) := by
  refine T.F_Peeling_rests.ok sc_Peeling_rests (fun vs H Q E h => ?_) (fun cdv A outer s H vs Q E hr h => ?_)
  · obtain ⟨_, _, _, _, _, _, _, _, _, rfl, _⟩ := h; rfl
  · obtain ⟨p, l, A, B, t, a, x, b, y, rfl, pl, I, hA, hB, k⟩ := h
    obtain ⟨dx, o1, o2, q1, q2, tv, e, n1, n2, d1, d2, el, pvs, s1, s2⟩ := pl.ex
    obtain ⟨⟨dxa, ra, fa, sa, ha, hsa, ea, qa1, qa2, qa3, qa4, oa⟩, oA⟩ := id n1
    obtain ⟨⟨dxb, rb, fb, sb, hb, hsb, eb, qb1, qb2, qb3, qb4, ob⟩, oB⟩ := id n2
    have p1 : atI [iV x, iV y] 0 = some (iV x) := rfl
    have p2 : atI [iV x, iV y] 1 = some (iV y) := rfl
    have p3 : atI [iV a, iV b] 0 = some (iV a) := rfl
    have p4 : atI [iV a, iV b] 1 = some (iV b) := rfl
    have ax := I.ax
    have bY := I.by_
    have xn := I.xn
    have ym := I.ym
    refine ⟨_, (pss_cons (ps_set (i := 1) sc_Peeling_rests.nd rfl (Or.inl rfl) (pe_meth (pe_fld (pv 0) rfl) T.cl_NodeRow T.mt_NodeRow_under_mark (ok_NodeRow_under_mark T) hr T.b_NodeRow_under_mark .nil pass0 (pa_cons (pe_ix ix_tup (pe_fld (pv 0) rfl) pe_int (fun _ _ => rfl)) (pa_cons (pe_ix ix_tup (pe_fld (pv 0) rfl) pe_int (fun _ _ => rfl)) (pa_cons (pe_glob (v := .int (-1)) rfl T.k_MARK_HERE ⟨_, rfl⟩) pa_nil)))))
      (pss_cons (ps_set (i := 2) sc_Peeling_rests.nd rfl (Or.inl rfl) (pe_meth (pe_fld (pv 0) rfl) T.cl_NodeRow T.mt_NodeRow_under_mark (ok_NodeRow_under_mark T) hr T.b_NodeRow_under_mark .nil pass0 (pa_cons (pe_ix ix_tup (pe_fld (pv 0) rfl) pe_int (fun _ _ => rfl)) (pa_cons (pe_ix ix_tup (pe_fld (pv 0) rfl) pe_int (fun _ _ => rfl)) (pa_cons (pe_glob (v := .int (-2)) rfl T.k_MARK_THERE ⟨_, rfl⟩) pa_nil)))))
      (pss_one (ps_ret (pe_tup (pa_cons (pv 1) (pa_cons (pv 2) pa_nil))))))), ?_⟩
    walk_at "st"
    refine ⟨o1, A, a, x, -1, rfl, n1, ax, xn, by omega, I.c1, fun c1 H1 nc1 m1 sm1 => ?_⟩
    have e' := sm1 _ _ e
    have eb' := sm1 _ _ eb
    have s1' := sT sm1 s1
    have s2' := sT sm1 s2
    walk_at "st"
    refine ⟨o2, B, b, y, -2, rfl, n2.same sm1, bY, ym, by omega, I.c2, fun c2 H2 nc2 m2 sm2 => ?_⟩
    walk_at "st"
    refine s_newT (by show 2 ≤ sizeLine; decide) fun q nq => ?_
    walk_at "st"
    have sm3 : Same H2 (upd H2 q (.tup [.ref c1, .ref c2])) := sU (Same.refl H2) nq
    exact k _ q c1 c2 (SqT.of upd_same) ((m1.same sm2).same sm3) (m2.same sm3) ((sm1.trans sm2).trans sm3)

/-! ### rows of numbers; the object -/
def rowV (m : Nat) (f : Nat → Nat) : List V := (List.range m).map fun y => iV (f y)
theorem row_len (m : Nat) (f : Nat → Nat) : (rowV m f).length = m := by unfold rowV; rw [List.length_map, List.length_range]
theorem row_get {m : Nat} {f : Nat → Nat} {k : Nat} (h : k < m) : (rowV m f)[k]? = some (iV (f k)) := by unfold rowV; rw [List.getElem?_map, List.getElem?_range h]; rfl
theorem row_at {m : Nat} {f : Nat → Nat} {i : Int} {k : Nat} (e : i = (k : Int)) (h : k < m) : atI (rowV m f) i = some (iV (f k)) := by rw [e]; exact atI_nat (row_get h)
theorem row_app {m : Nat} {f : Nat → Nat} {v : V} (e : v = iV (f m)) : rowV m f ++ [v] = rowV (m + 1) f := by unfold rowV; rw [List.range_succ, List.map_append, e]; rfl
theorem row_ext {m : Nat} {f g : Nat → Nat} (h : ∀ k, k < m → f k = g k) : rowV m f = rowV m g := List.map_congr_left fun k hk => by rw [h k (List.mem_range.mp hk)]
theorem row_set {m : Nat} {f : Nat → Nat} {y v : Nat} : (rowV m f).set y (iV v) = rowV m fun k => if k = y then v else f k := by
  apply List.ext_getElem?
  intro k
  rw [List.getElem?_set, row_len]
  by_cases hk : k < m
  · rw [row_get hk]
    by_cases e : y = k
    · subst e
      rw [if_pos rfl, if_pos hk, row_get hk, if_pos rfl]
    · rw [if_neg e, row_get hk, if_neg fun z => e z.symm]
  · have e1 : (rowV m f)[k]? = none := List.getElem?_eq_none (by rw [row_len]; omega)
    have e2 : (rowV m fun k => if k = y then v else f k)[k]? = none := List.getElem?_eq_none (by rw [row_len]; omega)
    rw [e1, e2]
    by_cases e : y = k
    · rw [if_pos e, if_neg (by omega)]
    · rw [if_neg e]
theorem ref_at {rs : List Addr} {i : Int} {k : Nat} {r : Addr} (e : i = (k : Int)) (h : rs[k]? = some r) : atI (rs.map V.ref) i = some (.ref r) := by rw [e]; exact atI_map V.ref h
abbrev fsS (a b t : Addr) : List (Str × V) := [("one", .ref a), ("other", .ref b), ("trees", .ref t)]
structure ShAt (K : PySem.W.Frag) (cS cN : Addr) (H : Hp) (p : Addr) (rs : List Addr) (A B : NR) (tv : Nat → Nat → Nat) : Prop where
  ex : ∃ (dx oa ob tr : Addr), H p = some (.ins cS dx (fsS oa ob tr)) ∧ NRAt K cN H oa A ∧ NRAt K cN H ob B ∧ H tr = some (.lst (rs.map V.ref)) ∧ tr ∉ rs ∧ rs.length = A.n ∧ rs.Nodup ∧ ∀ x r, rs[x]? = some r → H r = some (.lst (rowV B.n (tv x)))
theorem ShAt.same {cS cN : Addr} {H H' : Hp} {p : Addr} {rs : List Addr} {A B : NR} {tv : Nat → Nat → Nat} (h : ShAt K cS cN H p rs A B tv) (s : Same H H') : ShAt K cS cN H' p rs A B tv := by
  obtain ⟨dx, oa, ob, tr, e, n1, n2, et, nt, l, nd, er⟩ := h.ex
  exact ⟨dx, oa, ob, tr, s _ _ e, n1.same s, n2.same s, s _ _ et, nt, l, nd, fun x r hx => s _ _ (er x r hx)⟩
/-- a table: rows that are all new to an older heap -/
def TbAt (H0 H : Hp) (t : Addr) (k : Nat) (F : Nat → List V) : Prop := ∃ rs : List Addr, H t = some (.lst (rs.map V.ref)) ∧ rs.length = k ∧ H0 t = none ∧ ∀ (i : Nat) (r : Addr), rs[i]? = some r → H0 r = none ∧ H r = some (.lst (F i))
theorem TbAt.same {H0 H H' : Hp} {t : Addr} {k : Nat} {F : Nat → List V} (h : TbAt H0 H t k F) (s : Same H H') : TbAt H0 H' t k F := by
  obtain ⟨rs, e, l, n, r⟩ := h
  exact ⟨rs, s _ _ e, l, n, fun i a hi => ⟨(r i a hi).1, s _ _ (r i a hi).2⟩⟩
theorem TbAt.keep {H0 H H' : Hp} {t : Addr} {k : Nat} {F : Nat → List V} {W : Addr → Prop} (h : TbAt H0 H t k F) (s : Kp W H H') (hw : ∀ a, W a → ∃ o, H0 a = some o) : TbAt H0 H' t k F := by
  obtain ⟨rs, e, l, n, r⟩ := h
  have nw : ∀ a, H0 a = none → ¬ W a := fun a ha wa => by
    obtain ⟨o, ho⟩ := hw a wa
    rw [ha] at ho; cases ho
  exact ⟨rs, s _ _ e (nw _ n), l, n, fun i a hi => ⟨(r i a hi).1, s _ _ (r i a hi).2 (nw _ (r i a hi).1)⟩⟩
/-! ### same_rule -/
def sp_Sharing_same_rule (T : Ev K mg) : Sp := fun vs H Q _ => ∃ (p : Addr) (rs : List Addr) (A B : NR) (tv : Nat → Nat → Nat) (x y : Nat), vs = [.ref p, .int x, .int y] ∧ ShAt K T.c_Sharing T.c_NodeRow H p rs A B tv ∧ x < A.n ∧ y < B.n ∧ Q (iV (if A.rule x = B.rule y then 1 else 0)) H
theorem ok_Sharing_same_rule (T : Ev K mg) : FnOk P w K mg base CX0 1 T.a_Sharing_same_rule T.d_Sharing_same_rule ["self", "x", "y"] (sp_Sharing_same_rule T) := by
  refine T.F_Sharing_same_rule.ok sc_Sharing_same_rule (fun vs H Q E h => ?_) (fun cdv A outer s H vs Q E hr h => ?_)
  · obtain ⟨_, _, _, _, _, _, _, rfl, _⟩ := h; rfl
  · obtain ⟨p, rs, A, B, tv, x, y, rfl, ⟨dx, oa, ob, tr, e, n1, n2, et, nt, l, nd, er⟩, hx, hy, k⟩ := h
    obtain ⟨⟨dxa, ra, fa, sa, ha, hsa, ea, qa1, qa2, qa3, qa4, oa'⟩, oA⟩ := n1
    obtain ⟨⟨dxb, rb, fb, sb, hb, hsb, eb, qb1, qb2, qb3, qb4, ob'⟩, oB⟩ := n2
    have p1 : atI (A.rules.map V.int) (x : Int) = some (.int (A.rule x)) := atI_map V.int (NR.rule_get hx)
    have p2 : atI (B.rules.map V.int) (y : Int) = some (.int (B.rule y)) := atI_map V.int (NR.rule_get hy)
    refine ⟨_, (pss_one (ps_ret (pe_ifExp (pt_cmpR op_eq (pe_ix ix_tup (pe_fld (pe_fld (pv 0) rfl) rfl) (pv 1) (fun _ _ => rfl)) (pe_ix ix_tup (pe_fld (pe_fld (pv 0) rfl) rfl) (pv 2) (fun _ _ => rfl)) (nomark _)) pe_int pe_int))), ?_⟩
    walk_at "st"
    refine s_if (fun h1 => ?_) fun h1 => ?_
    · walk_at "st"
      rw [if_pos h1] at k; exact k
    · walk_at "st"
      rw [if_neg h1] at k; exact k
/-! ### forest_row -/
noncomputable abbrev tb (A B : NR) (a b i j : Nat) : Nat := M A.nd B.nd a (a + i) b (b + j)
def TvOk (A B : NR) (tv : Nat → Nat → Nat) (X Y : Nat) : Prop := ∀ x y, A.first X ≤ x → x ≤ X → B.first Y ≤ y → y ≤ Y → ¬ (A.first x = A.first X ∧ B.first y = B.first Y) → Right A B tv x y
def sp_Sharing_forest_row (T : Ev K mg) : Sp := fun vs H Q _ => ∃ (p t : Addr) (rs : List Addr) (A B : NR) (tv : Nat → Nat → Nat) (H0 : Hp) (x X Y : Nat), vs = [.ref p, .ref t, .int x, .int (A.first X), .int Y] ∧ ShAt K T.c_Sharing T.c_NodeRow H p rs A B tv ∧ X < A.n ∧ Y < B.n ∧ A.first X ≤ x ∧ x ≤ X ∧ TvOk A B tv X Y ∧
  TbAt H0 H t (x - A.first X + 1) (fun i => rowV (Y - B.first Y + 2) (tb A B (A.first X) (B.first Y) i)) ∧
  ∀ q H', H q = none → H' q = some (.lst (rowV (Y - B.first Y + 2) (tb A B (A.first X) (B.first Y) (x - A.first X + 1)))) → Same H H' → Q (.ref q) H'
theorem ok_Sharing_forest_row (T : Ev K mg) : FnOk P w K mg base CX0 2 T.a_Sharing_forest_row T.d_Sharing_forest_row ["self", "table", "x", "start", "last_y"] (sp_Sharing_forest_row T) := by
  refine T.F_Sharing_forest_row.ok sc_Sharing_forest_row (fun vs H Q E h => ?_) (fun cdv A outer s H vs Q E hr h => ?_)
  · obtain ⟨_, _, _, _, _, _, _, _, _, _, rfl, _⟩ := h; rfl
  · obtain ⟨p, t, rs, A, B, tv, H0, x, X, Y, rfl, ⟨dx, oa, ob, tr, e, n1, n2, et, nt, l, nd, er⟩, hX, hY, hax, hxX, ok, ⟨us, eu, lu, _, ur⟩, k⟩ := h
    obtain ⟨⟨dxa, ra, fa, sa, ha, hsa, ea, qa1, qa2, qa3, qa4, oa'⟩, oA⟩ := n1
    obtain ⟨⟨dxb, rb, fb, sb, hb, hsb, eb, qb1, qb2, qb3, qb4, ob'⟩, oB⟩ := n2
    have hxn : x < A.n := by omega
    have lx := oA.le x hxn
    have lY := oB.le Y hY
    have sB : B.n ≤ 1000 := oB.small
    have gx := oA.nest X x hX hax hxX
    have p1 : atI (B.firsts.map iV) (Y : Int) = some (iV (B.first Y)) := atI_map iV (NR.first_get oB hY)
    have p2 : atI (A.firsts.map iV) (x : Int) = some (iV (A.first x)) := atI_map iV (NR.first_get oA hxn)
    obtain ⟨u1, hu1⟩ : ∃ r, us[x - A.first X]? = some r := ⟨_, List.getElem?_eq_getElem (by omega)⟩
    obtain ⟨u2, hu2⟩ : ∃ r, us[A.first x - A.first X]? = some r := ⟨_, List.getElem?_eq_getElem (by omega)⟩
    have p3 : atI (us.map V.ref) ((x : Int) - (A.first X : Int)) = some (.ref u1) := ref_at (by omega) hu1
    have p4 : atI (us.map V.ref) ((A.first x : Int) - (A.first X : Int)) = some (.ref u2) := ref_at (by omega) hu2
    have eu1 : H u1 = some (.lst (rowV (Y - B.first Y + 2) (tb A B (A.first X) (B.first Y) (x - A.first X)))) := (ur _ _ hu1).2
    have eu2 : H u2 = some (.lst (rowV (Y - B.first Y + 2) (tb A B (A.first X) (B.first Y) (A.first x - A.first X)))) := (ur _ _ hu2).2
    obtain ⟨r3, hr3⟩ : ∃ r, rs[x]? = some r := ⟨_, List.getElem?_eq_getElem (by omega)⟩
    have p5 : atI (rs.map V.ref) (x : Int) = some (.ref r3) := ref_at rfl hr3
    have er3 := er _ _ hr3
    refine ⟨_, (pss_cons (ps_set (i := 5) sc_Sharing_forest_row.nd rfl (Or.inl rfl) (pe_ix ix_tup (pe_fld (pe_fld (pv 0) rfl) rfl) (pv 4) (fun _ _ => rfl)))
      (pss_cons (ps_set (i := 6) sc_Sharing_forest_row.nd rfl (Or.inl rfl) (pe_ix ix_tup (pe_fld (pe_fld (pv 0) rfl) rfl) (pv 2) (fun _ _ => rfl)))
      (pss_cons (ps_set (i := 7) sc_Sharing_forest_row.nd rfl (Or.inl rfl) (pe_ix ix_list (pv 1) (pe_op op_sub (pv 2) (pv 3)) (fun _ _ => rfl)))
      (pss_cons (ps_set (i := 8) sc_Sharing_forest_row.nd rfl (Or.inl rfl) (pe_ix ix_list (pv 1) (pe_op op_sub (pv 6) (pv 3)) (fun _ _ => rfl)))
      (pss_cons (ps_set (i := 9) sc_Sharing_forest_row.nd rfl (Or.inl rfl) (pe_lst (pa_cons pe_int pa_nil)))
      (pss_cons (ps_for PassesOwn.never rfl (pi_range2 rfl T.g_range (pa_cons (pv 5) (pa_cons (pe_op op_add (pv 4) pe_int) pa_nil))) (pg_name (i := 10) sc_Sharing_forest_row.nd rfl (Or.inl rfl))
      (pss_cons (ps_set (i := 11) sc_Sharing_forest_row.nd rfl (Or.inl rfl) (pe_ix ix_tup (pe_fld (pe_fld (pv 0) rfl) rfl) (pv 10) (fun _ _ => rfl)))
      (pss_cons (ps_if (pw_and (pt_cmpR op_eq (pv 6) (pv 3) (nomark _)) (pw_and1 (pt_cmpR op_eq (pv 11) (pv 5) (nomark _)))).pt (pss_one (ps_set (i := 12) sc_Sharing_forest_row.nd rfl (Or.inl rfl) (pe_op op_add (pe_ix ix_list (pv 7) (pe_op op_sub (pv 10) (pv 5)) (fun _ _ => rfl)) (pe_meth (pv 0) T.cl_Sharing T.mt_Sharing_same_rule (ok_Sharing_same_rule T) hr T.b_Sharing_same_rule .nil pass0 (pa_cons (pv 2) (pa_cons (pv 10) pa_nil)))))) (pss_one (ps_set (i := 12) sc_Sharing_forest_row.nd rfl (Or.inl rfl) (pe_op op_add (pe_ix ix_list (pv 8) (pe_op op_sub (pv 11) (pv 5)) (fun _ _ => rfl)) (pe_ix ix_list (pe_ix ix_list (pe_fld (pv 0) rfl) (pv 2) (fun _ _ => rfl)) (pv 10) (fun _ _ => rfl))))))
      (pss_one (ps_expr (pe_bm PySem.F.plainAttrs_list PySem.F.slot_list_append PySem.F.type_list_append mt_append (pv 9) (pa_cons (pe_callB (call_max3 rfl) (by rfl) T.g_max (by decide +kernel) (pa_cons (pe_ix ix_list (pv 7) (pe_op op_add (pe_op op_sub (pv 10) (pv 5)) pe_int) (fun _ _ => rfl)) (pa_cons (pe_ix ix_list (pv 9) (pe_op op_sub (pv 10) (pv 5)) (fun _ _ => rfl)) (pa_cons (pv 12) pa_nil)))) pa_nil)))))))
      (pss_one (ps_ret (pv 9))))))))), ?_⟩
    walk_at "st"
    refine s_newL (by show 1 ≤ sizeLine; decide) fun q nq => ?_
    walk_at "st"
    have eN : ((Y : Int) + 1 - (B.first Y : Int)).toNat = Y - B.first Y + 1 := by omega
    rw [eN]
    refine f_range (fun i σ H' => ∃ v10 v11 v12 : Option V, σ = [some (.ref p), some (.ref t), some (.int x), some (iV (A.first X)), some (.int Y), some (iV (B.first Y)), some (iV (A.first x)), some (.ref u1), some (.ref u2), some (.ref q), v10, v11, v12] ∧ Same H H' ∧ H' q = some (.lst (rowV (i + 1) (tb A B (A.first X) (B.first Y) (x - A.first X + 1))))) ⟨none, none, none, rfl, sU (Same.refl H) nq, ?_⟩ ?_ ?_
    · rw [upd_same]
      show some (HO.lst [V.int 0]) = some (.lst [V.int ((M A.nd B.nd _ _ (B.first Y) (B.first Y + 0) : Nat) : Int)])
      rw [M_empty2 (by omega)]; rfl
    · rintro i σ H' hi ⟨v10, v11, v12, rfl, sm, eq⟩
      have hyn : B.first Y + i < B.n := by omega
      have ly := oB.le (B.first Y + i) hyn
      have gy : B.first Y ≤ B.first (B.first Y + i) := oB.nest Y (B.first Y + i) hY (by omega) (by omega)
      have e' := sm _ _ e
      have ea' := sm _ _ ea
      have eb' := sm _ _ eb
      have et' := sm _ _ et
      have eu1' := sm _ _ eu1
      have eu2' := sm _ _ eu2
      have er3' := sm _ _ er3
      have s1 := sT sm qb2
      have c1 : atI (B.firsts.map iV) ((B.first Y : Int) + (i : Int)) = some (iV (B.first (B.first Y + i))) := by
        rw [show (B.first Y : Int) + (i : Int) = ((B.first Y + i : Nat) : Int) by omega]; exact atI_map iV (NR.first_get oB hyn)
      have c2 : atI (rowV (Y - B.first Y + 2) (tb A B (A.first X) (B.first Y) (x - A.first X))) ((B.first Y : Int) + (i : Int) - (B.first Y : Int)) = some (iV (tb A B (A.first X) (B.first Y) (x - A.first X) i)) := row_at (by omega) (by omega)
      have c3 : atI (rowV (Y - B.first Y + 2) (tb A B (A.first X) (B.first Y) (x - A.first X))) ((B.first Y : Int) + (i : Int) - (B.first Y : Int) + 1) = some (iV (tb A B (A.first X) (B.first Y) (x - A.first X) (i + 1))) := row_at (by omega) (by omega)
      have c4 : atI (rowV (i + 1) (tb A B (A.first X) (B.first Y) (x - A.first X + 1))) ((B.first Y : Int) + (i : Int) - (B.first Y : Int)) = some (iV (tb A B (A.first X) (B.first Y) (x - A.first X + 1) i)) := row_at (by omega) (by omega)
      have c5 : atI (rowV (Y - B.first Y + 2) (tb A B (A.first X) (B.first Y) (A.first x - A.first X))) ((B.first (B.first Y + i) : Int) - (B.first Y : Int)) = some (iV (tb A B (A.first X) (B.first Y) (A.first x - A.first X) (B.first (B.first Y + i) - B.first Y))) := row_at (by omega) (by omega)
      have c6 : atI (rowV B.n (tv x)) ((B.first Y : Int) + (i : Int)) = some (iV (tv x (B.first Y + i))) := row_at (by omega) hyn
      have t1 : A.first X + (x - A.first X) = x := by omega
      have t2 : A.first X + (x - A.first X + 1) = x + 1 := by omega
      have t3 : A.first X + (A.first x - A.first X) = A.first x := by omega
      have t4 : B.first Y + (B.first (B.first Y + i) - B.first Y) = B.first (B.first Y + i) := by omega
      walk_at "st"
      have fin : ∀ (z : Int) (v : Option V), max (max (tb A B (A.first X) (B.first Y) (x - A.first X) (i + 1) : Int) (tb A B (A.first X) (B.first Y) (x - A.first X + 1) i : Int)) z = (M A.nd B.nd (A.first X) (x + 1) (B.first Y) (B.first Y + i + 1) : Int) →
          ∃ v10 v11 v12 : Option V, [some (.ref p), some (.ref t), some (.int x), some (iV (A.first X)), some (.int Y), some (iV (B.first Y)), some (iV (A.first x)), some (.ref u1), some (.ref u2), some (.ref q), some (.int ((B.first Y : Int) + (i : Int))), some (iV (B.first (B.first Y + i))), v] = [some (.ref p), some (.ref t), some (.int x), some (iV (A.first X)), some (.int Y), some (iV (B.first Y)), some (iV (A.first x)), some (.ref u1), some (.ref u2), some (.ref q), v10, v11, v12] ∧ Same H (upd H' q (.lst (rowV (i + 1) (tb A B (A.first X) (B.first Y) (x - A.first X + 1)) ++ [.int (max (max (tb A B (A.first X) (B.first Y) (x - A.first X) (i + 1) : Int) (tb A B (A.first X) (B.first Y) (x - A.first X + 1) i : Int)) z)]))) ∧ (upd H' q (.lst (rowV (i + 1) (tb A B (A.first X) (B.first Y) (x - A.first X + 1)) ++ [.int (max (max (tb A B (A.first X) (B.first Y) (x - A.first X) (i + 1) : Int) (tb A B (A.first X) (B.first Y) (x - A.first X + 1) i : Int)) z)]))) q = some (.lst (rowV (i + 1 + 1) (tb A B (A.first X) (B.first Y) (x - A.first X + 1)))) := fun z v hz => by
        refine ⟨_, _, _, rfl, sM sm nq, ?_⟩
        rw [upd_same, hz, row_app]
        show V.int _ = V.int ((M A.nd B.nd (A.first X) (A.first X + (x - A.first X + 1)) (B.first Y) (B.first Y + (i + 1)) : Nat) : Int)
        rw [t2]; rfl
      have z1 : (rowV (i + 1) (tb A B (A.first X) (B.first Y) (x - A.first X + 1))).length < sizeLine := by rw [row_len]; exact small1000 (by omega)
      have hf1 : A.nd.first x = A.first x := rfl
      have hf2 : B.nd.first (B.first Y + i) = B.first (B.first Y + i) := rfl
      have rec2 : ¬ (A.first x = A.first X ∧ B.first (B.first Y + i) = B.first Y) → max (max (tb A B (A.first X) (B.first Y) (x - A.first X) (i + 1) : Int) (tb A B (A.first X) (B.first Y) (x - A.first X + 1) i : Int)) ((tb A B (A.first X) (B.first Y) (A.first x - A.first X) (B.first (B.first Y + i) - B.first Y) : Int) + (tv x (B.first Y + i) : Int)) = (M A.nd B.nd (A.first X) (x + 1) (B.first Y) (B.first Y + i + 1) : Int) := fun hn => by
        have r := M_rec2 (A := A.nd) (B := B.nd) (a := A.first X) (b := B.first Y) (x := x) (y := B.first Y + i) lx ly gx gy (NR.cl_tree oA hxn) (NR.cl_tree oB hyn)
        have rt : tv x (B.first Y + i) = M A.nd B.nd (A.first x) (x + 1) (B.first (B.first Y + i)) (B.first Y + i + 1) := ok x (B.first Y + i) hax hxX (by omega) (by omega) hn
        rw [hf1, hf2] at r
        simp only [tb, t1, t2, t3, t4, rt]
        rw [r, show B.first Y + (i + 1) = B.first Y + i + 1 by omega]
        omega
      refine s_if (fun h1 => ?_) fun h1 => ?_
      · walk_at "st"
        refine s_if (fun h2 => ?_) fun h2 => ?_
        · walk_at "st"
          refine ⟨p, rs, A, B, tv, x, B.first Y + i, rfl, ⟨dx, oa, ob, tr, e', ⟨⟨dxa, ra, fa, sa, ha, hsa, ea', sT sm qa1, sT sm qa2, sT sm qa3, sT sm qa4, oa'⟩, oA⟩, ⟨⟨dxb, rb, fb, sb, hb, hsb, eb', sT sm qb1, sT sm qb2, sT sm qb3, sT sm qb4, ob'⟩, oB⟩, et', nt, l, nd, fun x r hx => sm _ _ (er x r hx)⟩, hxn, hyn, ?_⟩
          walk_at "st"
          refine s_append (by walk_at "hp") z1 ?_
          walk_at "st"
          refine fin _ _ ?_
          have h1' : A.first x = A.first X := by omega
          have h2' : B.first (B.first Y + i) = B.first Y := by omega
          have r := M_rec1 (A := A.nd) (B := B.nd) (x := x) (y := B.first Y + i) lx ly
          rw [hf1, hf2, h1', h2'] at r
          simp only [tb, t1, t2]
          rw [r, show B.first Y + (i + 1) = B.first Y + i + 1 by omega]
          by_cases er : A.rule x = B.rule (B.first Y + i)
          · rw [if_pos er]; omega
          · rw [if_neg er]; omega
        · walk_at "st"
          refine s_append (by walk_at "hp") z1 ?_
          walk_at "st"
          exact fin _ _ (rec2 fun z => h2 (by omega))
      · walk_at "st"
        refine s_append (by walk_at "hp") z1 ?_
        walk_at "st"
        exact fin _ _ (rec2 fun z => h1 (by omega))
    · rintro σ H' ⟨v10, v11, v12, rfl, sm, eq⟩
      walk_at "st"
      exact k q H' nq eq sm

/-! ### forests -/
theorem s_rep1 {l : Addr} {v : V} {k : Nat} {H : Hp} {Q : VK} (hl : H l = some (.lst [v])) (hk : k ≤ 2000) (h : ∀ p, H p = none → Q (.ref p) (upd H p (.lst (List.replicate k v)))) : rRep (.ref l) (.int k) H Q :=
  ⟨l, k, [v], rfl, rfl, hl, by omega, by omega, by simp; exact Nat.le_of_lt (Nat.lt_of_le_of_lt hk (by decide)), fun p hp => by
    have e : (List.replicate (k : Int).toNat [v]).flatten = List.replicate k v := by
      rw [show (k : Int).toNat = k by omega]
      clear h hk
      induction k with
      | zero => rfl
      | succ k ih => rw [List.replicate_succ, List.replicate_succ, List.flatten_cons, ih]; rfl
    rw [e]; exact h p hp⟩
theorem rep_row {k : Nat} {f : Nat → Nat} (h : ∀ j, j < k → f j = 0) : List.replicate k (V.int 0) = rowV k f := by
  rw [row_ext (g := fun _ => 0) h]
  unfold rowV
  rw [List.eq_replicate_of_mem (l := (List.range k).map fun _ => iV 0) (a := V.int 0) (fun b hb => by
    obtain ⟨_, _, rfl⟩ := List.mem_map.mp hb; rfl), List.length_map, List.length_range]
def sp_Sharing_forests (T : Ev K mg) : Sp := fun vs H Q _ => ∃ (p : Addr) (rs : List Addr) (A B : NR) (tv : Nat → Nat → Nat) (X Y : Nat), vs = [.ref p, .int X, .int Y] ∧ ShAt K T.c_Sharing T.c_NodeRow H p rs A B tv ∧ X < A.n ∧ Y < B.n ∧ TvOk A B tv X Y ∧
  ∀ t H', TbAt H H' t (X - A.first X + 2) (fun i => rowV (Y - B.first Y + 2) (tb A B (A.first X) (B.first Y) i)) → Same H H' → Q (.ref t) H'
theorem ok_Sharing_forests (T : Ev K mg) : FnOk P w K mg base CX0 3 T.a_Sharing_forests T.d_Sharing_forests ["self", "last_x", "last_y"] (sp_Sharing_forests T) := by
  refine T.F_Sharing_forests.ok sc_Sharing_forests (fun vs H Q E h => ?_) (fun cdv A outer s H vs Q E hr h => ?_)
  · obtain ⟨_, _, _, _, _, _, _, rfl, _⟩ := h; rfl
  · obtain ⟨p, rs, A, B, tv, X, Y, rfl, sh, hX, hY, ok, k⟩ := h
    obtain ⟨dx, oa, ob, tr, e, n1, n2, et, nt, l, nd, er⟩ := sh.ex
    obtain ⟨⟨dxa, ra, fa, sa, ha, hsa, ea, qa1, qa2, qa3, qa4, oa'⟩, oA⟩ := n1
    obtain ⟨⟨dxb, rb, fb, sb, hb, hsb, eb, qb1, qb2, qb3, qb4, ob'⟩, oB⟩ := n2
    have lX := oA.le X hX
    have lY := oB.le Y hY
    have sA : A.n ≤ 1000 := oA.small
    have sB : B.n ≤ 1000 := oB.small
    have p1 : atI (A.firsts.map iV) (X : Int) = some (iV (A.first X)) := atI_map iV (NR.first_get oA hX)
    have p2 : atI (B.sizes.map V.int) (Y : Int) = some (.int ((Y : Int) - (B.first Y : Int))) := atI_map V.int (NR.size_get hY)
    refine ⟨_, (pss_cons (ps_set (i := 3) sc_Sharing_forests.nd rfl (Or.inl rfl) (pe_ix ix_tup (pe_fld (pe_fld (pv 0) rfl) rfl) (pv 1) (fun _ _ => rfl)))
      (pss_cons (ps_set (i := 4) sc_Sharing_forests.nd rfl (Or.inl rfl) (pe_op op_add (pe_ix ix_tup (pe_fld (pe_fld (pv 0) rfl) rfl) (pv 2) (fun _ _ => rfl)) pe_int))
      (pss_cons (ps_set (i := 5) sc_Sharing_forests.nd rfl (Or.inl rfl) (pe_lst (pa_cons (pe_op op_rep (pe_lst (pa_cons pe_int pa_nil)) (pe_op op_add (pv 4) pe_int)) pa_nil)))
      (pss_cons (ps_for PassesOwn.never rfl (pi_range2 rfl T.g_range (pa_cons (pv 3) (pa_cons (pe_op op_add (pv 1) pe_int) pa_nil))) (pg_name (i := 6) sc_Sharing_forests.nd rfl (Or.inl rfl))
      (pss_one (ps_expr (pe_bm PySem.F.plainAttrs_list PySem.F.slot_list_append PySem.F.type_list_append mt_append (pv 5) (pa_cons (pe_meth (pv 0) T.cl_Sharing T.mt_Sharing_forest_row (ok_Sharing_forest_row T) hr T.b_Sharing_forest_row .nil pass0 (pa_cons (pv 5) (pa_cons (pv 6) (pa_cons (pv 3) (pa_cons (pv 2) pa_nil))))) pa_nil)))))
      (pss_one (ps_ret (pv 5))))))), ?_⟩
    walk_at "st"
    refine s_newL (by show 1 ≤ sizeLine; decide) fun z nz => ?_
    walk_at "st"
    rw [show (Y : Int) - (B.first Y : Int) + 1 + 1 = ((Y - B.first Y + 2 : Nat) : Int) by omega]
    refine s_rep1 upd_same (by omega) fun r0 nr0 => ?_
    obtain ⟨d0, nr00⟩ := un nr0
    walk_at "st"
    refine s_newL (by show 1 ≤ sizeLine; decide) fun t nt0 => ?_
    obtain ⟨d1, nt1⟩ := un nt0
    obtain ⟨d2, nt2⟩ := un nt1
    walk_at "st"
    have eN : ((X : Int) + 1 - (A.first X : Int)).toNat = X - A.first X + 1 := by omega
    rw [eN]
    refine f_range (fun i σ H' => ∃ v : Option V, σ = [some (.ref p), some (.int X), some (.int Y), some (iV (A.first X)), some (.int ((Y : Int) - (B.first Y : Int) + 1)), some (.ref t), v] ∧ Same H H' ∧ TbAt H H' t (i + 1) (fun i => rowV (Y - B.first Y + 2) (tb A B (A.first X) (B.first Y) i))) ⟨none, rfl, ?_, [r0], upd_same, rfl, nt2, ?_⟩ ?_ ?_
    · exact sU (sU (sU (Same.refl H) nz) nr0) nt0
    · intro i r hi
      have : i = 0 ∧ r0 = r := by
        cases i with
        | zero => exact ⟨rfl, Option.some.inj hi⟩
        | succ i => cases hi
      obtain ⟨rfl, rfl⟩ := this
      refine ⟨nr00, ?_⟩
      rw [upd_ne d1.symm, upd_same, rep_row (f := tb A B (A.first X) (B.first Y) 0) fun j _ => M_empty1 (by omega)]
    · rintro i σ H' hi ⟨v, rfl, sm, tbl⟩
      have e' := sm _ _ e
      obtain ⟨us, eu, lu, _, ur⟩ := id tbl
      walk_at "st"
      have ei : A.first X + i - A.first X = i := by omega
      refine ⟨p, t, rs, A, B, tv, H, A.first X + i, X, Y, ?_, sh.same sm, hX, hY, by omega, by omega, ok, by rw [ei]; exact tbl, fun q H2 nq eq sm2 => ?_⟩
      · rw [show ((A.first X + i : Nat) : Int) = (A.first X : Int) + (i : Int) by omega]; rfl
      have eu2 := sm2 _ _ eu
      walk_at "st"
      refine s_append (by walk_at "hp") (by rw [List.length_map, lu]; exact small1000 (by omega)) ?_
      walk_at "st"
      refine ⟨_, rfl, sM (sm.trans sm2) nt2, us ++ [q], ?_, by rw [List.length_append, lu]; rfl, nt2, ?_⟩
      · rw [upd_same, List.map_append]; rfl
      · intro j r hj
        have ntr : ∀ {a : Addr} {m : Nat} {f : Nat → Nat}, H2 a = some (.lst (rowV m f)) → 0 < m → a ≠ t := fun {a m f} ha hm => by
          rintro rfl
          rw [eu2] at ha
          have := HO.lst.inj (Option.some.inj ha)
          cases us with
          | nil => simp at lu
          | cons u r =>
            have h0 := congrArg (fun l : List V => l[0]?) this
            rw [row_get hm] at h0
            exact absurd (Option.some.inj h0) (by intro z; cases z)
        rcases Nat.lt_trichotomy j us.length with hl | hl | hl
        · rw [List.getElem?_append_left hl] at hj
          obtain ⟨g1, g2⟩ := ur j r hj
          have g3 := sm2 _ _ g2
          exact ⟨g1, by rw [upd_ne (ntr g3 (by omega))]; exact g3⟩
        · subst hl
          rw [List.getElem?_append_right (Nat.le_refl _), Nat.sub_self] at hj
          obtain rfl : q = r := Option.some.inj hj
          refine ⟨?_, by rw [upd_ne (ntr eq (by omega)), eq, ei, lu]⟩
          cases hq : H q with
          | none => rfl
          | some o => rw [sm _ _ hq] at nq; cases nq
        · rw [List.getElem?_append_right (by omega), List.getElem?_eq_none (by simp; omega)] at hj; cases hj
    · rintro σ H' ⟨v, rfl, sm, tbl⟩
      walk_at "st"
      exact k t H' tbl sm
/-! ### keep -/
theorem NRAt.notIn {C : Addr} {H : Hp} {a : Addr} {A : NR} {l : List V} {r : Addr} (h : NRAt K C H a A) (e : H r = some (.lst l)) : a ≠ r := by
  obtain ⟨⟨_, _, _, _, _, _, ez, _⟩, _⟩ := h
  exact ne_of ez e (by intro z; cases z)
theorem ShAt.set {cS cN : Addr} {H : Hp} {p r : Addr} {rs : List Addr} {A B : NR} {tv : Nat → Nat → Nat} {x y v : Nat} (h : ShAt K cS cN H p rs A B tv) (hx : rs[x]? = some r) : ShAt K cS cN (upd H r (.lst ((rowV B.n (tv x)).set y (iV v)))) p rs A B (fun x' y' => if x' = x ∧ y' = y then v else tv x' y') := by
  obtain ⟨dx, oa, ob, tr, e, n1, n2, et, nt, l, nd, er⟩ := h.ex
  have kp : Kp (fun c => c = r) H (upd H r (.lst ((rowV B.n (tv x)).set y (iV v)))) := Kp.mut (W := fun c => c = r) Kp.refl rfl
  have ts : TSt H (upd H r (.lst ((rowV B.n (tv x)).set y (iV v)))) := TSt.refl.mut (er x r hx) trivial
  refine ⟨dx, oa, ob, tr, kp _ _ e (ne_of e (er x r hx) (by intro z; cases z)), n1.keep kp ts (n1.notIn (er x r hx)), n2.keep kp ts (n2.notIn (er x r hx)), kp _ _ et (fun z => nt (z ▸ List.mem_of_getElem? hx)), nt, l, nd, fun x' r' hx' => ?_⟩
  by_cases ex : x' = x
  · subst ex
    rw [hx] at hx'
    cases hx'
    rw [upd_same, row_set]
    congr 2
    apply row_ext
    intro j _
    by_cases ey : j = y
    · rw [if_pos ey, if_pos ⟨rfl, ey⟩]
    · rw [if_neg ey, if_neg fun z => ey z.2]
  · have nr : r' ≠ r := fun z => by
      subst z
      have i1 := (List.getElem?_eq_some_iff.mp hx).1
      exact ex ((List.getElem?_inj i1 nd).mp (hx.trans hx'.symm)).symm
    rw [upd_ne nr, er x' r' hx']
    congr 2
    apply row_ext
    intro j _
    rw [if_neg fun z => ex z.1]

def Cond (A B : NR) (X Y x y : Nat) : Prop := A.first X ≤ x ∧ x ≤ X ∧ A.first x = A.first X ∧ B.first Y ≤ y ∧ y ≤ Y ∧ B.first y = B.first Y
def sp_Sharing_keep (T : Ev K mg) : Sp := fun vs H Q _ => ∃ (p : Addr) (rs : List Addr) (A B : NR) (tv : Nat → Nat → Nat) (X Y : Nat), vs = [.ref p, .int X, .int Y] ∧ ShAt K T.c_Sharing T.c_NodeRow H p rs A B tv ∧ X < A.n ∧ Y < B.n ∧ TvOk A B tv X Y ∧
  ∀ tv' H', ShAt K T.c_Sharing T.c_NodeRow H' p rs A B tv' → (∀ x y, (Cond A B X Y x y → Right A B tv' x y) ∧ (Right A B tv x y → Right A B tv' x y)) → Kp (fun c => c ∈ rs) H H' → TSt H H' → Q .non H'
def colsTo (B : NR) (Y i : Nat) : List Nat := ((List.range i).map (B.first Y + ·)).filter fun y => decide (B.first y = B.first Y)
theorem cols_mem {B : NR} {Y i y : Nat} : y ∈ colsTo B Y i ↔ B.first Y ≤ y ∧ y < B.first Y + i ∧ B.first y = B.first Y := by
  unfold colsTo
  rw [List.mem_filter, List.mem_map]
  constructor
  · rintro ⟨⟨k, hk, rfl⟩, h⟩
    have := List.mem_range.mp hk
    exact ⟨by omega, by omega, of_decide_eq_true h⟩
  · rintro ⟨h1, h2, h3⟩
    exact ⟨⟨y - B.first Y, List.mem_range.mpr (by omega), by omega⟩, decide_eq_true h3⟩
theorem ok_Sharing_keep (T : Ev K mg) : FnOk P w K mg base CX0 4 T.a_Sharing_keep T.d_Sharing_keep ["self", "last_x", "last_y"] (sp_Sharing_keep T) := by
  refine T.F_Sharing_keep.ok sc_Sharing_keep (fun vs H Q E h => ?_) (fun cdv A outer s H vs Q E hr h => ?_)
  · obtain ⟨_, _, _, _, _, _, _, rfl, _⟩ := h; rfl
  · obtain ⟨p, rs, A, B, tv, X, Y, rfl, sh, hX, hY, ok, k⟩ := h
    obtain ⟨dx, oa, ob, tr, e, n1, n2, et, nt, l, nd, er⟩ := sh.ex
    obtain ⟨⟨dxa, ra, fa, sa, ha, hsa, ea, qa1, qa2, qa3, qa4, oa'⟩, oA⟩ := n1
    obtain ⟨⟨dxb, rb, fb, sb, hb, hsb, eb, qb1, qb2, qb3, qb4, ob'⟩, oB⟩ := n2
    have lX := oA.le X hX
    have lY := oB.le Y hY
    have sA : A.n ≤ 1000 := oA.small
    have sB : B.n ≤ 1000 := oB.small
    have p1 : atI (A.firsts.map iV) (X : Int) = some (iV (A.first X)) := atI_map iV (NR.first_get oA hX)
    have p2 : atI (B.firsts.map iV) (Y : Int) = some (iV (B.first Y)) := atI_map iV (NR.first_get oB hY)
    refine ⟨_, (pss_cons (ps_set (i := 3) sc_Sharing_keep.nd rfl (Or.inl rfl) (pe_ix ix_tup (pe_fld (pe_fld (pv 0) rfl) rfl) (pv 1) (fun _ _ => rfl)))
      (pss_cons (ps_set (i := 4) sc_Sharing_keep.nd rfl (Or.inr rfl) (pe_ix ix_tup (pe_fld (pe_fld (pv 0) rfl) rfl) (pv 2) (fun _ _ => rfl)))
      (pss_cons (ps_set (i := 5) sc_Sharing_keep.nd rfl (Or.inl rfl) (pe_meth (pv 0) T.cl_Sharing T.mt_Sharing_forests (ok_Sharing_forests T) hr T.b_Sharing_forests .nil pass0 (pa_cons (pv 1) (pa_cons (pv 2) pa_nil))))
      (pss_cons (ps_setLc (i := 6) (own := [("y", 8)]) (g := (gName 8)) (tt := (tTest (tOp _ (tOp (rIxT K) (tFld K (tFld K (tVar 0) "other") "firsts") (tVar 8)) (tVar 4)))) (te := (tVar 8)) rfl sc_Sharing_keep.nd rfl rfl (sw_true rfl rfl rfl (by decide +kernel)) (pi_range2 rfl T.g_range (pa_cons (pv 4) (pa_cons (pe_op op_add (pv 2) pe_int) pa_nil))) (blkOk_by (N := N_Sharing_keep) (sc := defScope s_Sharing_keep) (by decide +kernel)) (fun _ _ _ _ _ => (pg_name (i := 8) sc_Sharing_keep.nd rfl (Or.inl rfl))) (fun _ _ _ _ _ => pts_one (pt_cmpR op_eq (pe_ix ix_tup (pe_fld (pe_fld (pv 0) rfl) rfl) (pv 8) (fun _ _ => rfl)) (pv 4) (nomark _))) (fun _ _ _ _ _ => (pv 8)))
      (pss_one (ps_for PassesOwn.never rfl (pi_range2 rfl T.g_range (pa_cons (pv 3) (pa_cons (pe_op op_add (pv 1) pe_int) pa_nil))) (pg_name (i := 7) sc_Sharing_keep.nd rfl (Or.inl rfl))
      (pss_one (ps_if (pt_cmpR op_eq (pe_ix ix_tup (pe_fld (pe_fld (pv 0) rfl) rfl) (pv 7) (fun _ _ => rfl)) (pv 3) (nomark _)) (pss_one (ps_for PassesOwn.never rfl (pi_list (pv 6)) (pg_name (i := 8) sc_Sharing_keep.nd rfl (Or.inl rfl))
      (pss_one (ps_asg (pe_ix ix_list (pe_ix ix_list (pv 5) (pe_op op_add (pe_op op_sub (pv 7) (pv 3)) pe_int) (fun _ _ => rfl)) (pe_op op_add (pe_op op_sub (pv 8) (pv 4)) pe_int) (fun _ _ => rfl)) (pg_sub (pe_ix ix_list (pe_fld (pv 0) rfl) (pv 7) (fun _ _ => rfl)) (pv 8) set_list))))) pss_nil)))))))), ?_⟩
    walk_at "st"
    refine ⟨p, rs, A, B, tv, X, Y, rfl, sh, hX, hY, ok, fun t H1 tbl sm1 => ?_⟩
    have e1 := sm1 _ _ e
    have ea1 := sm1 _ _ ea
    have eb1 := sm1 _ _ eb
    have sh1 := sh.same sm1
    walk_at "st"
    intro D nD
    have eN : ((Y : Int) + 1 - (B.first Y : Int)).toNat = Y - B.first Y + 1 := by omega
    rw [eN]
    have q2 := sT sm1 qb2
    refine c_range nD (fun i acc _ => acc = (colsTo B Y i).map iV) rfl ?_ ?_
    · rintro i H2 acc hi sm2 eD rfl
      have e2 := sm2 _ _ e1
      have eb2 := sm2 _ _ eb1
      have q3 := sT sm2 q2
      have c1 : atI (B.firsts.map iV) ((B.first Y : Int) + (i : Int)) = some (iV (B.first (B.first Y + i))) := by
        rw [show (B.first Y : Int) + (i : Int) = ((B.first Y + i : Nat) : Int) by omega]; exact atI_map iV (NR.first_get oB (by omega))
      walk_at "st"
      have hc : colsTo B Y (i + 1) = colsTo B Y i ++ (if B.first (B.first Y + i) = B.first Y then [B.first Y + i] else []) := by
        unfold colsTo
        rw [List.range_succ, List.map_append, List.filter_append]
        congr 1
        by_cases hh : B.first (B.first Y + i) = B.first Y
        · rw [if_pos hh]; simp [hh]
        · rw [if_neg hh]; simp [hh]
      refine s_if (fun h1 => ?_) fun h1 => ?_
      · walk_at "st"
        refine s_acc eD ?_ ⟨sM sm2 nD, _, upd_same, ?_⟩
        · rw [List.length_map]; unfold colsTo
          refine Nat.lt_of_le_of_lt (List.length_filter_le ..) ?_
          rw [List.length_map, List.length_range]; exact small1000 (by omega)
        · rw [hc, if_pos (by omega), List.map_append]
          rfl
      · refine ⟨sm2, _, eD, ?_⟩
        rw [hc, if_neg (by omega), List.append_nil]
    · rintro H2 acc sm2 eD rfl
      walk_at "st"
      have eN2 : ((X : Int) + 1 - (A.first X : Int)).toNat = X - A.first X + 1 := by omega
      rw [eN2]
      have sh2 := sh1.same sm2
      have tb2 := tbl.same sm2
      have hw : ∀ a, a ∈ rs → ∃ o, H a = some o := fun a ha => by
        obtain ⟨i, hi⟩ := List.getElem?_of_mem ha
        exact ⟨_, er i a hi⟩
      have dD : D ∉ rs := fun hd => by
        obtain ⟨o, ho⟩ := hw D hd
        rw [sm1 _ _ ho] at nD; cases nD
      refine f_range (fun i σ H' => ∃ (v7 v8 : Option V) (tv' : Nat → Nat → Nat), σ = [some (.ref p), some (.int X), some (.int Y), some (iV (A.first X)), some (iV (B.first Y)), some (.ref t), some (.ref D), v7, v8] ∧ ShAt K T.c_Sharing T.c_NodeRow H' p rs A B tv' ∧ Kp (fun c => c ∈ rs) H2 H' ∧ TSt H2 H' ∧
        ∀ x y, (x < A.first X + i → Cond A B X Y x y → Right A B tv' x y) ∧ (Right A B tv x y → Right A B tv' x y)) ⟨_, _, tv, rfl, sh2, Kp.refl, TSt.refl, fun x y => ⟨fun h c => by have := c.1; omega, id⟩⟩ ?_ ?_
      · rintro i σ H3 hi ⟨v7, v8, tv3, rfl, sh3, kp3, ts3, r3⟩
        obtain ⟨dx3, oa3, ob3, tr3, e3, n13, n23, et3, nt3, _, _, er3⟩ := sh3.ex
        obtain ⟨⟨dxa3, ra3, fa3, sa3, ha3, hsa3, ea3, _, qa3', _, _, _⟩, _⟩ := id n13
        have hxn : A.first X + i < A.n := by omega
        have c1 : atI (A.firsts.map iV) ((A.first X : Int) + (i : Int)) = some (iV (A.first (A.first X + i))) := by
          rw [show (A.first X : Int) + (i : Int) = ((A.first X + i : Nat) : Int) by omega]; exact atI_map iV (NR.first_get oA hxn)
        walk_at "st"
        refine s_if (fun h1 => ?_) fun h1 => ?_
        · walk_at "st"
          have eD3 : H3 D = some (.lst ((colsTo B Y (Y - B.first Y + 1)).map iV)) := kp3 _ _ eD dD
          refine s_iL2 (SqL.of eD3) ?_
          refine f_list (xs := (colsTo B Y (Y - B.first Y + 1)).map iV) (fun j σ H' => ∃ (v8 : Option V) (tv' : Nat → Nat → Nat), σ = [some (.ref p), some (.int X), some (.int Y), some (iV (A.first X)), some (iV (B.first Y)), some (.ref t), some (.ref D), some (.int ((A.first X : Int) + (i : Int))), v8] ∧ ShAt K T.c_Sharing T.c_NodeRow H' p rs A B tv' ∧ Kp (fun c => c ∈ rs) H2 H' ∧ TSt H2 H' ∧
            ∀ x y, (x < A.first X + i → Cond A B X Y x y → Right A B tv' x y) ∧ (x = A.first X + i → y ∈ (colsTo B Y (Y - B.first Y + 1)).take j → Right A B tv' x y) ∧ (Right A B tv x y → Right A B tv' x y)) ⟨_, tv3, rfl, sh3, kp3, ts3, fun x y => ⟨(r3 x y).1, fun _ h => (by rw [List.take_zero] at h; cases h), (r3 x y).2⟩⟩ ?_ ?_ ?_
          · rintro j σ H' _ ⟨v8, tv', rfl, sh', kp', ts', r'⟩
            exact SqL.of (kp' _ _ eD dD)
          · rintro j yv σ H' hj ⟨v8, tv', rfl, sh', kp', ts', r'⟩
            rw [List.getElem?_map] at hj
            obtain ⟨y, hy, rfl⟩ : ∃ y, (colsTo B Y (Y - B.first Y + 1))[j]? = some y ∧ iV y = yv := by
              cases hq : (colsTo B Y (Y - B.first Y + 1))[j]? with
              | none => rw [hq] at hj; cases hj
              | some y => rw [hq] at hj; exact ⟨y, rfl, Option.some.inj hj⟩
            obtain ⟨g1, g2, g3⟩ := cols_mem.mp (List.mem_of_getElem? hy)
            obtain ⟨us, eu, lu, _, ur⟩ := tb2.keep kp' hw
            obtain ⟨dx4, oa4, ob4, tr4, e4, n14, n24, et4, nt4, _, _, er4⟩ := sh'.ex
            obtain ⟨u, hu⟩ : ∃ u, us[i + 1]? = some u := ⟨_, List.getElem?_eq_getElem (by omega)⟩
            obtain ⟨r, hr4⟩ : ∃ r, rs[A.first X + i]? = some r := ⟨_, List.getElem?_eq_getElem (by omega)⟩
            have er5 := er4 _ _ hr4
            have eu5 : H' u = some (.lst (rowV (Y - B.first Y + 2) (tb A B (A.first X) (B.first Y) (i + 1)))) := (ur _ _ hu).2
            have c2 : atI (us.map V.ref) ((A.first X : Int) + (i : Int) - (A.first X : Int) + 1) = some (.ref u) := ref_at (by omega) hu
            have c3 : atI (rowV (Y - B.first Y + 2) (tb A B (A.first X) (B.first Y) (i + 1))) ((y : Int) - (B.first Y : Int) + 1) = some (iV (tb A B (A.first X) (B.first Y) (i + 1) (y - B.first Y + 1))) := row_at (by omega) (by omega)
            have c4 : atI (rs.map V.ref) ((A.first X : Int) + (i : Int)) = some (.ref r) := ref_at (by omega) hr4
            have c5 : ixN (rowV B.n (tv' (A.first X + i))).length (y : Int) = some y := by rw [row_len]; exact ixN_of (by omega) (by omega)
            walk_at "st"
            have val : tb A B (A.first X) (B.first Y) (i + 1) (y - B.first Y + 1) = TM A B (A.first X + i) y := by
              have h1' : A.first (A.first X + i) = A.first X := by omega
              show M A.nd B.nd (A.first X) (A.first X + (i + 1)) (B.first Y) (B.first Y + (y - B.first Y + 1)) = M A.nd B.nd (A.first (A.first X + i)) (A.first X + i + 1) (B.first y) (y + 1)
              rw [h1', g3, show A.first X + (i + 1) = A.first X + i + 1 by omega, show B.first Y + (y - B.first Y + 1) = y + 1 by omega]
            rw [val]
            refine ⟨_, _, rfl, sh'.set (x := A.first X + i) (y := y) (v := TM A B (A.first X + i) y) hr4, Kp.mut kp' (List.mem_of_getElem? hr4), ts'.mut er5 trivial, fun x' y' => ?_⟩
            have up : Right A B tv' x' y' → Right A B (fun x'_1 y'_1 => if x'_1 = A.first X + i ∧ y'_1 = y then TM A B (A.first X + i) y else tv' x'_1 y'_1) x' y' := fun h => by
              unfold Right at h ⊢
              by_cases q : x' = A.first X + i ∧ y' = y
              · dsimp only; rw [if_pos q, q.1, q.2]
              · dsimp only; rw [if_neg q]; exact h
            refine ⟨fun h c => up ((r' x' y').1 h c), fun h m => ?_, fun h => up ((r' x' y').2.2 h)⟩
            rw [List.take_add_one, hy] at m
            rcases List.mem_append.mp m with m | m
            · exact up ((r' x' y').2.1 h m)
            · have ey : y' = y := by simpa using m
              unfold Right
              dsimp only
              rw [if_pos ⟨h, ey⟩, h, ey]
          · rintro σ H' ⟨v8, tv', rfl, sh', kp', ts', r'⟩
            walk_at "st"
            refine ⟨_, _, tv', rfl, sh', kp', ts', fun x y => ⟨fun hx c => ?_, (r' x y).2.2⟩⟩
            rcases Nat.lt_or_ge x (A.first X + i) with q | q
            · exact (r' x y).1 q c
            · have ex : x = A.first X + i := by omega
              refine (r' x y).2.1 ex ?_
              rw [List.length_map, List.take_length]
              exact cols_mem.mpr ⟨c.2.2.2.1, by have := c.2.2.2.2.1; omega, c.2.2.2.2.2⟩
        · walk_at "st"
          refine ⟨_, _, tv3, rfl, sh3, kp3, ts3, fun x y => ⟨fun hx c => ?_, (r3 x y).2⟩⟩
          refine (r3 x y).1 ?_ c
          rcases Nat.lt_or_ge x (A.first X + i) with q | q
          · exact q
          · have : x = A.first X + i := by omega
            subst this
            exact absurd c.2.2.1 (by omega)
      · rintro σ H' ⟨v7, v8, tv', rfl, sh', kp', ts', r'⟩
        walk_at "st"
        exact k tv' H' sh' (fun x y => ⟨fun c => (r' x y).1 (by have := c.2.1; omega) c, (r' x y).2⟩) ((Kp.of (sm1.trans sm2)).trans kp') ((Same.ts (sm1.trans sm2)).trans ts')

/-! ### Sharing.__init__ -/
theorem heads_step {A : NR} {hs : List Nat} (o : A.Heads hs) {i X : Nat} (hx : hs[i]? = some X) {h : Nat} (hm : h ∈ hs) (hl : h < X) : h ∈ hs.take i := by
  obtain ⟨j, hj⟩ := List.getElem?_of_mem hm
  rcases Nat.lt_or_ge j i with q | q
  · exact List.mem_of_getElem? (i := j) (by rw [List.getElem?_take_of_lt q]; exact hj)
  · exfalso
    obtain ⟨hi, ei⟩ := List.getElem?_eq_some_iff.mp hx
    obtain ⟨hj', ej⟩ := List.getElem?_eq_some_iff.mp hj
    rcases Nat.eq_or_lt_of_le q with q | q
    · subst q; omega
    · have := List.pairwise_iff_getElem.mp o.asc i j hi hj' q
      omega
def sp_Sharing_init (T : Ev K mg) : Sp := fun vs H Q _ => ∃ (p dx oa ob : Addr) (A B : NR), vs = [.ref p, .ref oa, .ref ob] ∧ H p = some (.ins T.c_Sharing dx []) ∧ NRAt K T.c_NodeRow H oa A ∧ NRAt K T.c_NodeRow H ob B ∧
  ∀ rs tv H', ShAt K T.c_Sharing T.c_NodeRow H' p rs A B tv → (∀ x y, x < A.n → y < B.n → Right A B tv x y) → Kp (· = p) H H' → TSt H H' → Q .non H'
theorem ok_Sharing_init (T : Ev K mg) : FnOk P w K mg base CX0 5 T.a_Sharing_init T.d_Sharing_init ["self", "one", "other"] (sp_Sharing_init T) := by
  refine T.F_Sharing_init.ok sc_Sharing_init (fun vs H Q E h => ?_) (fun cdv A outer s H vs Q E hr h => ?_)
  · obtain ⟨_, _, _, _, _, _, rfl, _⟩ := h; rfl
  · obtain ⟨p, dx, oa, ob, A, B, rfl, hp, na, nb, k⟩ := h
    have oA := na.ok
    have oB := nb.ok
    have sA : A.n ≤ 1000 := oA.small
    have sB : B.n ≤ 1000 := oB.small
    have npa : oa ≠ p := by
      obtain ⟨⟨_, _, _, _, _, _, ea, _⟩, _⟩ := id na
      exact ne_of ea hp (by intro z; injection z with _ _ z; cases z)
    have npb : ob ≠ p := by
      obtain ⟨⟨_, _, _, _, _, _, eb, _⟩, _⟩ := id nb
      exact ne_of eb hp (by intro z; injection z with _ _ z; cases z)
    refine ⟨_, (pss_cons (ps_fld (pv 0) (pv 1) rfl)
      (pss_cons (ps_fld (pv 0) (pv 2) rfl)
      (pss_cons (ps_fld (pv 0) (pe_lc (own := [("_", 5)]) (g := (gName 5)) (tt := tYes) (te := (tOp _ (tLst (tCons _ tNil)) (tMeth _ _ _ _ _ (tVar 2) tNil))) rfl sc_Sharing_init.nd (pi_range1 rfl T.g_range (pa_cons (pe_meth0 (pv 1) T.cl_NodeRow T.mt_NodeRow_many (ok_NodeRow_many T) (hr.mono (by decide)) T.b_NodeRow_many .nil pass0) pa_nil)) (blkOk_by (N := N_Sharing_init) (sc := defScope s_Sharing_init) (by decide +kernel)) (fun _ _ _ _ _ => (pg_name (i := 5) sc_Sharing_init.nd rfl (Or.inl rfl))) (fun _ _ _ _ _ => pts_nil) (fun _ _ _ _ _ => (pe_op op_rep (pe_lst (pa_cons pe_int pa_nil)) (pe_meth0 (pv 2) T.cl_NodeRow T.mt_NodeRow_many (ok_NodeRow_many T) (hr.mono (by decide)) T.b_NodeRow_many .nil pass0)))) rfl)
      (pss_one (ps_for PassesOwn.never rfl (pi_tup (pe_fld (pv 1) rfl)) (pg_name (i := 3) sc_Sharing_init.nd rfl (Or.inl rfl))
      (pss_one (ps_for PassesOwn.never rfl (pi_tup (pe_fld (pv 2) rfl)) (pg_name (i := 4) sc_Sharing_init.nd rfl (Or.inl rfl))
      (pss_one (ps_expr (pe_meth (pv 0) T.cl_Sharing T.mt_Sharing_keep (ok_Sharing_keep T) hr T.b_Sharing_keep .nil pass0 (pa_cons (pv 3) (pa_cons (pv 4) pa_nil)))))))))))), ?_⟩
    walk_at "st"
    generalize hG : upd (upd H p (.ins T.c_Sharing dx (putF "one" (.ref oa) []))) p (.ins T.c_Sharing dx (putF "other" (.ref ob) (putF "one" (.ref oa) []))) = G
    have eG : G p = some (.ins T.c_Sharing dx (putF "other" (.ref ob) (putF "one" (.ref oa) []))) := by rw [← hG]; exact upd_same
    have kp : Kp (· = p) H G := by rw [← hG]; exact Kp.mut (W := (· = p)) (Kp.mut (W := (· = p)) Kp.refl rfl) rfl
    have ts : TSt H G := by rw [← hG]; exact TSt.mut (o' := .ins T.c_Sharing dx (putF "one" (.ref oa) [])) (TSt.mut TSt.refl hp trivial) upd_same trivial
    clear hG
    have nA := na.keep kp ts npa
    have nB := nb.keep kp ts npb
    obtain ⟨⟨dxa, ra, fa, sa, ha, hsa, ea, qa1, qa2, qa3, qa4, hdA⟩, _⟩ := id nA
    obtain ⟨⟨dxb, rb, fb, sb, hb, hsb, eb, qb1, qb2, qb3, qb4, hdB⟩, _⟩ := id nB
    walk_at "st"
    refine ⟨oa, A, rfl, nA, ?_⟩
    walk_at "st"
    intro D nD
    rw [show ((A.n : Int)).toNat = A.n by omega]
    refine c_range nD (fun i acc H' => ∃ rs : List Addr, acc = rs.map V.ref ∧ rs.length = i ∧ rs.Nodup ∧ D ∉ rs ∧ ∀ r ∈ rs, G r = none ∧ H' r = some (.lst (rowV B.n fun _ => 0))) ⟨[], rfl, rfl, .nil, (by simp), fun _ h => (nomatch h)⟩ ?_ ?_
    · rintro i H2 acc hi sm2 eD ⟨rs, rfl, hl, hnd, hD, hrs⟩
      have eb2 := sm2 _ _ eb
      walk_at "st"
      refine s_newL (by show 1 ≤ sizeLine; decide) fun z nz => ?_
      have nzb : ob ≠ z := ne_of_none eb2 nz
      walk_at "st"
      refine ⟨ob, B, rfl, nB.same (sm2.trans (sU (Same.refl H2) nz)), ?_⟩
      refine s_rep1 upd_same (by omega) fun r nr => ?_
      obtain ⟨d1, nr1⟩ := un nr
      have nDr : D ≠ r := ne_of_none eD nr1
      have nDz : D ≠ z := ne_of_none eD nz
      walk_at "st"
      refine s_acc (by walk_at "hp") (by rw [List.length_map, hl]; exact small1000 (by omega)) ⟨sM (sU (sU sm2 nz) nr) nD, _, upd_same, rs ++ [r], by rw [List.map_append]; rfl, by rw [List.length_append, hl]; rfl, ?_, ?_, ?_⟩
      · rw [List.nodup_append]
        refine ⟨hnd, by simp, fun a ha b hb => ?_⟩
        rw [List.mem_singleton.mp hb]
        exact ne_of_none (hrs a ha).2 nr1
      · intro hm
        rcases List.mem_append.mp hm with hm | hm
        · exact hD hm
        · exact nDr (List.mem_singleton.mp hm)
      · intro a ha
        rcases List.mem_append.mp ha with ha | ha
        · obtain ⟨g1, g2⟩ := hrs a ha
          refine ⟨g1, ?_⟩
          rw [upd_ne (show a ≠ D from fun z => hD (by rw [← z]; exact ha)), upd_ne (ne_of_none g2 nr1), upd_ne (ne_of_none g2 nz)]
          exact g2
        · rw [List.mem_singleton.mp ha]
          refine ⟨Kp.none (W := fun _ => False) (Kp.of sm2) id nr1, ?_⟩
          rw [upd_ne nDr.symm, upd_same, rep_row (f := fun _ => 0) fun _ _ => rfl]
    · rintro H2 acc sm2 eD ⟨rs, rfl, hl, hnd, hD, hrs⟩
      have e2 := sm2 _ _ eG
      have ea2 := sm2 _ _ ea
      have npD : p ≠ D := ne_of_none eG nD
      walk_at "st"
      have sh0 : ShAt K T.c_Sharing T.c_NodeRow (upd H2 p (.ins T.c_Sharing dx (putF "trees" (.ref D) (putF "other" (.ref ob) (putF "one" (.ref oa) []))))) p rs A B (fun _ _ => 0) := by
        have kp3 : Kp (· = p) H2 (upd H2 p (.ins T.c_Sharing dx (putF "trees" (.ref D) (putF "other" (.ref ob) (putF "one" (.ref oa) []))))) := Kp.mut (W := (· = p)) Kp.refl rfl
        have ts3 : TSt H2 (upd H2 p (.ins T.c_Sharing dx (putF "trees" (.ref D) (putF "other" (.ref ob) (putF "one" (.ref oa) []))))) := TSt.refl.mut e2 trivial
        refine ⟨dx, oa, ob, D, upd_same, (nA.same sm2).keep kp3 ts3 npa, (nB.same sm2).keep kp3 ts3 npb, kp3 _ _ eD npD.symm, hD, hl, hnd, fun x r hx => ?_⟩
        exact kp3 r _ (hrs r (List.mem_of_getElem? hx)).2 fun z => by rw [z] at hx; have h1 := (hrs p (List.mem_of_getElem? hx)).1; rw [eG] at h1; cases h1
      have kpG : Kp (· = p) H (upd H2 p (.ins T.c_Sharing dx (putF "trees" (.ref D) (putF "other" (.ref ob) (putF "one" (.ref oa) []))))) := Kp.mut (W := (· = p)) (kp.trans (Kp.of sm2)) rfl
      have tsG : TSt G (upd H2 p (.ins T.c_Sharing dx (putF "trees" (.ref D) (putF "other" (.ref ob) (putF "one" (.ref oa) []))))) := (Same.ts sm2).mut e2 trivial
      have kpg : Kp (· = p) G (upd H2 p (.ins T.c_Sharing dx (putF "trees" (.ref D) (putF "other" (.ref ob) (putF "one" (.ref oa) []))))) := Kp.mut (W := (· = p)) (Kp.of sm2) rfl
      have nrs : ∀ r ∈ rs, H r = none := fun r hr' => by
        refine Kp.none (W := (· = p)) kp ?_ (hrs r hr').1
        rintro rfl
        rw [(hrs _ hr').1] at eG; cases eG
      generalize upd H2 p (.ins T.c_Sharing dx (putF "trees" (.ref D) (putF "other" (.ref ob) (putF "one" (.ref oa) [])))) = G3 at sh0 kpG tsG kpg
      have noa : oa ∉ rs := fun hm => by
        have := (hrs oa hm).1
        rw [ea] at this; cases this
      have nob : ob ∉ rs := fun hm => by
        have := (hrs ob hm).1
        rw [eb] at this; cases this
      walk_at "st"
      have eb3 := kpg _ _ eb npb
      have qa3' := tsG.sq qa4
      have qb3' := tsG.sq qb4
      have hA : ∀ {X : Nat}, X ∈ hsa → X < A.n := fun {X} h => ((hdA.iff X).mp h).1
      have hB : ∀ {X : Nat}, X ∈ hsb → X < B.n := fun {X} h => ((hdB.iff X).mp h).1
      refine f_tup (xs := hsa.map iV) (fun i σ H' => ∃ (v3 v4 v5 : Option V) (tv : Nat → Nat → Nat), σ = [some (.ref p), some (.ref oa), some (.ref ob), v3, v4, v5] ∧ ShAt K T.c_Sharing T.c_NodeRow H' p rs A B tv ∧ Kp (fun c => c ∈ rs) G3 H' ∧ TSt G3 H' ∧ ∀ x y, x < A.n → y < B.n → (∃ h ∈ hsa.take i, A.first h = A.first x) → Right A B tv x y)
        ⟨none, none, none, _, rfl, sh0, Kp.refl, TSt.refl, fun _ _ _ _ h => (by obtain ⟨_, h, _⟩ := h; rw [List.take_zero] at h; cases h)⟩ (fun i σ H' _ h => by obtain ⟨_, _, _, _, _, _, _, ts', _⟩ := h; exact ts'.sq qa3') ?_ ?_
      · rintro i xv σ H' hj ⟨v3, v4, v5, tv, rfl, sh, kp', ts', r'⟩
        rw [List.getElem?_map] at hj
        obtain ⟨X, hX, rfl⟩ : ∃ y, hsa[i]? = some y ∧ iV y = xv := by
          cases hq : hsa[i]? with
          | none => rw [hq] at hj; cases hj
          | some y => rw [hq] at hj; exact ⟨y, rfl, Option.some.inj hj⟩
        have hXn := hA (List.mem_of_getElem? hX)
        have eb4 := kp' _ _ eb3 nob
        have qb5 := ts'.sq qb3'
        walk_at "st"
        refine f_tup (xs := hsb.map iV) (fun j σ H' => ∃ (v4 v5 : Option V) (tv : Nat → Nat → Nat), σ = [some (.ref p), some (.ref oa), some (.ref ob), some (iV X), v4, v5] ∧ ShAt K T.c_Sharing T.c_NodeRow H' p rs A B tv ∧ Kp (fun c => c ∈ rs) G3 H' ∧ TSt G3 H' ∧ ∀ x y, x < A.n → y < B.n → ((∃ h ∈ hsa.take i, A.first h = A.first x) → Right A B tv x y) ∧ (A.first x = A.first X → (∃ g ∈ hsb.take j, B.first g = B.first y) → Right A B tv x y))
          ⟨_, _, tv, rfl, sh, kp', ts', fun x y hx hy => ⟨r' x y hx hy, fun _ h => (by obtain ⟨_, h, _⟩ := h; rw [List.take_zero] at h; cases h)⟩⟩ (fun i σ H' _ h => by obtain ⟨_, _, _, _, _, _, ts'', _⟩ := h; exact ts''.sq qb3') ?_ ?_
        · rintro j yv σ H5 hj ⟨v4, v5, tv5, rfl, sh5, kp5, ts5, r5⟩
          rw [List.getElem?_map] at hj
          obtain ⟨Y, hY, rfl⟩ : ∃ y, hsb[j]? = some y ∧ iV y = yv := by
            cases hq : hsb[j]? with
            | none => rw [hq] at hj; cases hj
            | some y => rw [hq] at hj; exact ⟨y, rfl, Option.some.inj hj⟩
          have hYn := hB (List.mem_of_getElem? hY)
          obtain ⟨dx5, oa5, ob5, tr5, e5, _⟩ := sh5.ex
          walk_at "st"
          have ok5 : TvOk A B tv5 X Y := fun x y h1 h2 h3 h4 hn => by
            have hx : x < A.n := by omega
            have hy : y < B.n := by omega
            by_cases ex : A.first x = A.first X
            · have ey : B.first y ≠ B.first Y := fun z => hn ⟨ex, z⟩
              obtain ⟨g, hg, eg, lg⟩ := head_of hdB _ y hy rfl
              have := head_in oB hYn h3 h4 (hB hg) eg ey lg
              exact (r5 x y hx hy).2 ex ⟨g, heads_step hdB hY hg this, eg⟩
            · obtain ⟨g, hg, eg, lg⟩ := head_of hdA _ x hx rfl
              have := head_in oA hXn h1 h2 (hA hg) eg ex lg
              exact (r5 x y hx hy).1 ⟨g, heads_step hdA hX hg this, eg⟩
          refine ⟨p, rs, A, B, tv5, X, Y, rfl, sh5, hXn, hYn, ok5, fun tv6 H6 sh6 r6 kp6 ts6 => ?_⟩
          walk_at "st"
          refine ⟨_, _, tv6, rfl, sh6, kp5.trans kp6, ts5.trans ts6, fun x y hx hy => ⟨fun h => (r6 x y).2 ((r5 x y hx hy).1 h), fun ex h => ?_⟩⟩
          obtain ⟨g, hg, eg⟩ := h
          rw [List.take_add_one, hY] at hg
          rcases List.mem_append.mp hg with hg | hg
          · exact (r6 x y).2 ((r5 x y hx hy).2 ex ⟨g, hg, eg⟩)
          · have eg' : g = Y := by simpa using hg
            subst eg'
            refine (r6 x y).1 ⟨?_, ?_, ex, ?_, ?_, eg.symm⟩
            · rw [← ex]; exact oA.le x hx
            · rcases Nat.lt_or_ge X x with q | q
              · exact absurd ex (((hdA.iff X).mp (List.mem_of_getElem? hX)).2 x q hx)
              · exact q
            · rw [eg]; exact oB.le y hy
            · rcases Nat.lt_or_ge g y with q | q
              · exact absurd eg.symm (((hdB.iff g).mp (List.mem_of_getElem? hY)).2 y q hy)
              · exact q
        · rintro σ H5 ⟨v4, v5, tv5, rfl, sh5, kp5, ts5, r5⟩
          walk_at "st"
          refine ⟨_, _, _, tv5, rfl, sh5, kp5, ts5, fun x y hx hy h => ?_⟩
          obtain ⟨g, hg, eg⟩ := h
          rw [List.take_add_one, hX] at hg
          rcases List.mem_append.mp hg with hg | hg
          · exact (r5 x y hx hy).1 ⟨g, hg, eg⟩
          · have eg' : g = X := by simpa using hg
            subst eg'
            refine (r5 x y hx hy).2 eg.symm ?_
            rw [List.length_map, List.take_length]
            obtain ⟨h, hh, eh, _⟩ := head_of hdB _ y hy rfl
            exact ⟨h, hh, eh⟩
      · rintro σ H5 ⟨v3, v4, v5, tv5, rfl, sh5, kp5, ts5, r5⟩
        walk_at "st"
        refine k rs tv5 H5 sh5 (fun x y hx hy => r5 x y hx hy ?_) ?_ ((ts.trans tsG).trans ts5)
        · rw [List.length_map, List.take_length]
          obtain ⟨h, hh, eh, _⟩ := head_of hdA _ x hx rfl
          exact ⟨h, hh, eh⟩
        · exact fun c o hc nc => kp5 c o (kpG c o hc nc) fun hm => by rw [nrs c hm] at hc; cases hc

/-! ### most -/
theorem at_last {α : Type} {xs : List α} {v : α} {k : Nat} (hl : xs.length = k + 1) (h : xs[k]? = some v) : atI xs (-1) = some v := by
  have e : ixN xs.length (-1) = some k := by unfold ixN; rw [if_neg (by omega), if_pos (by omega)]; congr 1; omega
  unfold atI
  rw [e]; exact h
def sp_Sharing_most (T : Ev K mg) : Sp := fun vs H Q _ => ∃ (p : Addr) (rs : List Addr) (A B : NR) (tv : Nat → Nat → Nat) (X Y : Nat), vs = [.ref p] ∧ ShAt K T.c_Sharing T.c_NodeRow H p rs A B tv ∧ A.n = X + 1 ∧ B.n = Y + 1 ∧ Q (iV (tv X Y)) H
theorem ok_Sharing_most (T : Ev K mg) : FnOk P w K mg base CX0 1 T.a_Sharing_most T.d_Sharing_most ["self"] (sp_Sharing_most T) := by
  refine T.F_Sharing_most.ok sc_Sharing_most (fun vs H Q E h => ?_) (fun cdv A outer s H vs Q E hr h => ?_)
  · obtain ⟨_, _, _, _, _, _, _, rfl, _⟩ := h; rfl
  · obtain ⟨p, rs, A, B, tv, X, Y, rfl, sh, hX, hY, k⟩ := h
    obtain ⟨dx, oa, ob, tr, e, n1, n2, et, nt, l, nd, er⟩ := sh.ex
    obtain ⟨r, hr⟩ : ∃ r, rs[X]? = some r := ⟨_, List.getElem?_eq_getElem (by omega)⟩
    have er' := er _ _ hr
    have p1 : atI (rs.map V.ref) (-1) = some (.ref r) := at_last (k := X) (by rw [List.length_map]; omega) (by rw [List.getElem?_map, hr]; rfl)
    have p2 : atI (rowV B.n (tv X)) (-1) = some (iV (tv X Y)) := at_last (k := Y) (by rw [row_len]; omega) (row_get (by omega))
    refine ⟨_, (pss_one (ps_ret (pe_ix ix_list (pe_ix ix_list (pe_fld (pv 0) rfl) (pe_un un_neg pe_int) (fun _ _ => rfl)) (pe_un un_neg pe_int) (fun _ _ => rfl)))), ?_⟩
    walk_at "st"
    exact k
/-! ### read_off -/
def sp_Sharing_read_off (T : Ev K mg) : Sp := fun vs H Q _ => ∃ (p lf lw : Addr) (rs : List Addr) (A B : NR) (tv : Nat → Nat → Nat) (X Y : Nat) (fv wv : List V) (f ws : List Pr), vs = [.ref p, .int X, .int Y, .ref lf, .ref lw] ∧ ShAt K T.c_Sharing T.c_NodeRow H p rs A B tv ∧ X < A.n ∧ Y < B.n ∧ TvOk A B tv X Y ∧
  lf ≠ lw ∧ H lf = some (.lst fv) ∧ PairsV K H fv f ∧ H lw = some (.lst wv) ∧ PairsV K H wv ws ∧ f.length ≤ 2000 ∧ ws.length ≤ 2000 ∧
  ∀ (f' ws' : List Pr) (x y : Nat) (fv' wv' : List V) (H' : Hp), RO A B X Y x y f' ws' → (x = A.first X ∨ y = B.first Y) → H' lf = some (.lst fv') → PairsV K H' fv' (f ++ f') → H' lw = some (.lst wv') → PairsV K H' wv' (ws ++ ws') → Kp (fun c => c = lf ∨ c = lw) H H' → TSt H H' → Q .non H'
set_option maxHeartbeats 16000000 in
theorem ok_Sharing_read_off (T : Ev K mg) : FnOk P w K mg base CX0 4 T.a_Sharing_read_off T.d_Sharing_read_off ["self", "last_x", "last_y", "found", "waiting"] (sp_Sharing_read_off T) := by
  refine T.F_Sharing_read_off.ok sc_Sharing_read_off (fun vs H Q E h => ?_) (fun cdv A outer s H vs Q E hr h => ?_)
  · obtain ⟨_, _, _, _, _, _, _, _, _, _, _, _, _, rfl, _⟩ := h; rfl
  · obtain ⟨p, lf, lw, rs, A, B, tv, X, Y, fv, wv, f, ws, rfl, sh, hX, hY, ok, nfw, ef, pf, ew, pw, zf, zw, k⟩ := h
    obtain ⟨dx, oa, ob, tr, e, n1, n2, et, nt, l, nd, er⟩ := sh.ex
    obtain ⟨⟨dxa, ra, fa, sa, ha, hsa, ea, qa1, qa2, qa3, qa4, oa'⟩, oA⟩ := id n1
    obtain ⟨⟨dxb, rb, fb, sb, hb, hsb, eb, qb1, qb2, qb3, qb4, ob'⟩, oB⟩ := id n2
    have lX := oA.le X hX
    have lY := oB.le Y hY
    have sA : A.n ≤ 1000 := oA.small
    have sB : B.n ≤ 1000 := oB.small
    have p1 : atI (A.firsts.map iV) (X : Int) = some (iV (A.first X)) := atI_map iV (NR.first_get oA hX)
    have p2 : atI (B.firsts.map iV) (Y : Int) = some (iV (B.first Y)) := atI_map iV (NR.first_get oB hY)
    refine ⟨_, (pss_cons (ps_set (i := 5) sc_Sharing_read_off.nd rfl (Or.inl rfl) (pe_ix ix_tup (pe_fld (pe_fld (pv 0) rfl) rfl) (pv 1) (fun _ _ => rfl)))
      (pss_cons (ps_set (i := 6) sc_Sharing_read_off.nd rfl (Or.inl rfl) (pe_ix ix_tup (pe_fld (pe_fld (pv 0) rfl) rfl) (pv 2) (fun _ _ => rfl)))
      (pss_cons (ps_set (i := 7) sc_Sharing_read_off.nd rfl (Or.inl rfl) (pe_meth (pv 0) T.cl_Sharing T.mt_Sharing_forests (ok_Sharing_forests T) hr T.b_Sharing_forests .nil pass0 (pa_cons (pv 1) (pa_cons (pv 2) pa_nil))))
      (pss_cons (ps_par (i := 8) (j := 9) (by rfl) sc_Sharing_read_off.nd rfl rfl (by decide) rfl rfl (pa_cons (pv 1) (pa_cons (pv 2) pa_nil)) (by rfl))
      (pss_one (ps_while PassesOwn.never (pw_and (pt_cmpR op_ge (pv 8) (pv 5) (nomark _)) (pw_and1 (pt_cmpR op_ge (pv 9) (pv 6) (nomark _)))).pt (pss_cons (ps_set (i := 10) sc_Sharing_read_off.nd rfl (Or.inl rfl) (pe_ix ix_list (pe_ix ix_list (pv 7) (pe_op op_add (pe_op op_sub (pv 8) (pv 5)) pe_int) (fun _ _ => rfl)) (pe_op op_add (pe_op op_sub (pv 9) (pv 6)) pe_int) (fun _ _ => rfl)))
      (pss_one (ps_if (pt_cmpR op_eq (pv 10) (pe_ix ix_list (pe_ix ix_list (pv 7) (pe_op op_sub (pv 8) (pv 5)) (fun _ _ => rfl)) (pe_op op_add (pe_op op_sub (pv 9) (pv 6)) pe_int) (fun _ _ => rfl)) (nomark _)) (pss_one (ps_aug (i := 8) sc_Sharing_read_off.nd rfl (Or.inl rfl) pe_int ip_sub)) (pss_one (ps_if (pt_cmpR op_eq (pv 10) (pe_ix ix_list (pe_ix ix_list (pv 7) (pe_op op_add (pe_op op_sub (pv 8) (pv 5)) pe_int) (fun _ _ => rfl)) (pe_op op_sub (pv 9) (pv 6)) (fun _ _ => rfl)) (nomark _)) (pss_one (ps_aug (i := 9) sc_Sharing_read_off.nd rfl (Or.inl rfl) pe_int ip_sub)) (pss_one (ps_if (pw_and (pt_cmpR op_eq (pe_ix ix_tup (pe_fld (pe_fld (pv 0) rfl) rfl) (pv 8) (fun _ _ => rfl)) (pv 5) (nomark _)) (pw_and1 (pt_cmpR op_eq (pe_ix ix_tup (pe_fld (pe_fld (pv 0) rfl) rfl) (pv 9) (fun _ _ => rfl)) (pv 6) (nomark _)))).pt (pss_cons (ps_expr (pe_bm PySem.F.plainAttrs_list PySem.F.slot_list_append PySem.F.type_list_append mt_append (pv 3) (pa_cons (pe_tup (pa_cons (pv 8) (pa_cons (pv 9) pa_nil))) pa_nil)))
      (pss_cons (ps_aug (i := 8) sc_Sharing_read_off.nd rfl (Or.inl rfl) pe_int ip_sub)
      (pss_one (ps_aug (i := 9) sc_Sharing_read_off.nd rfl (Or.inl rfl) pe_int ip_sub)))) (pss_cons (ps_expr (pe_bm PySem.F.plainAttrs_list PySem.F.slot_list_append PySem.F.type_list_append mt_append (pv 4) (pa_cons (pe_tup (pa_cons (pv 8) (pa_cons (pv 9) pa_nil))) pa_nil)))
      (pss_cons (ps_set (i := 8) sc_Sharing_read_off.nd rfl (Or.inl rfl) (pe_op op_sub (pe_ix ix_tup (pe_fld (pe_fld (pv 0) rfl) rfl) (pv 8) (fun _ _ => rfl)) pe_int))
      (pss_one (ps_set (i := 9) sc_Sharing_read_off.nd rfl (Or.inl rfl) (pe_op op_sub (pe_ix ix_tup (pe_fld (pe_fld (pv 0) rfl) rfl) (pv 9) (fun _ _ => rfl)) pe_int)))))))))))))))))), ?_⟩
    walk_at "st"
    refine ⟨p, rs, A, B, tv, X, Y, rfl, sh, hX, hY, ok, fun t H1 tbl sm1 => ?_⟩
    walk_at "st"
    have npf : ¬ (p = lf ∨ p = lw) := fun z => z.elim (ne_of e ef (by intro z; cases z)) (ne_of e ew (by intro z; cases z))
    have naf : ¬ (oa = lf ∨ oa = lw) := fun z => z.elim (n1.notIn ef) (n1.notIn ew)
    have nbf : ¬ (ob = lf ∨ ob = lw) := fun z => z.elim (n2.notIn ef) (n2.notIn ew)
    refine s_while (fun m σ H' => ∃ (x y : Nat) (z8 z9 : Int) (v10 : Option V) (f' ws' : List Pr) (fv' wv' : List V), σ = [some (.ref p), some (.int X), some (.int Y), some (.ref lf), some (.ref lw), some (iV (A.first X)), some (iV (B.first Y)), some (.ref t), some (.int z8), some (.int z9), v10] ∧ z8 + 1 = x ∧ z9 + 1 = y ∧ m = x + y ∧ RO A B X Y x y f' ws' ∧ H' lf = some (.lst fv') ∧ PairsV K H' fv' (f ++ f') ∧ H' lw = some (.lst wv') ∧ PairsV K H' wv' (ws ++ ws') ∧ Kp (fun c => c = lf ∨ c = lw) H1 H' ∧ TSt H1 H') (X + 1 + (Y + 1))
      ⟨X + 1, Y + 1, X, Y, none, [], [], fv, wv, rfl, by omega, by omega, rfl, RO.start oA oB hX hY, sm1 _ _ ef, (by rw [List.append_nil]; exact pf.ts (Same.ts sm1)), sm1 _ _ ew, (by rw [List.append_nil]; exact pw.ts (Same.ts sm1)), Kp.refl, TSt.refl⟩ ?_
    rintro m σ H' ⟨x, y, z8, z9, v10, f', ws', fv', wv', rfl, e8, e9, rfl, ro, ef', pf', ew', pw', kp', ts'⟩
    have out : (x = A.first X ∨ y = B.first Y) → Q .non H' := fun z => k f' ws' x y fv' wv' H' ro z ef' pf' ew' pw' ((Kp.of sm1).trans kp') ((Same.ts sm1).trans ts')
    have gx := ro.ax
    have gy := ro.bY
    have lx := ro.xX
    have ly := ro.yY
    walk_at "st"
    refine s_if (fun h1 => ?_) fun h1 => ?_
    rotate_left
    · refine s_wF ?_
      walk_at "st"
      exact out (.inl (by omega))
    walk_at "st"
    refine s_wd (fun h2 => ?_) fun h2 => ?_
    rotate_left
    · walk_at "st"
      exact out (.inr (by omega))
    obtain ⟨x', rfl⟩ : ∃ x', x = x' + 1 := ⟨x - 1, by omega⟩
    obtain ⟨y', rfl⟩ : ∃ y', y = y' + 1 := ⟨y - 1, by omega⟩
    obtain rfl : z8 = (x' : Int) := by omega
    obtain rfl : z9 = (y' : Int) := by omega
    have hx : A.first X ≤ x' := by omega
    have hy : B.first Y ≤ y' := by omega
    have hxn : x' < A.n := by omega
    have hyn : y' < B.n := by omega
    have axx := oA.le x' hxn
    have byy := oB.le y' hyn
    have ex := kp' _ _ (sm1 _ _ e) npf
    have eax := kp' _ _ (sm1 _ _ ea) naf
    have ebx := kp' _ _ (sm1 _ _ eb) nbf
    have qax := ts'.sq (sT sm1 qa2)
    have qbx := ts'.sq (sT sm1 qb2)
    have hw : ∀ a, (a = lf ∨ a = lw) → ∃ o, H a = some o := fun a z => by
      rcases z with z | z
      · subst z; exact ⟨_, ef⟩
      · subst z; exact ⟨_, ew⟩
    obtain ⟨us, eu, lu, _, ur⟩ := tbl.keep kp' hw
    obtain ⟨u0, hu0⟩ : ∃ u, us[x' - A.first X]? = some u := ⟨_, List.getElem?_eq_getElem (by omega)⟩
    obtain ⟨u1, hu1⟩ : ∃ u, us[x' - A.first X + 1]? = some u := ⟨_, List.getElem?_eq_getElem (by omega)⟩
    have eu0 : H' u0 = some (.lst (rowV (Y - B.first Y + 2) (tb A B (A.first X) (B.first Y) (x' - A.first X)))) := (ur _ _ hu0).2
    have eu1 : H' u1 = some (.lst (rowV (Y - B.first Y + 2) (tb A B (A.first X) (B.first Y) (x' - A.first X + 1)))) := (ur _ _ hu1).2
    have t1 : A.first X + (x' - A.first X) = x' := by omega
    have t2 : A.first X + (x' - A.first X + 1) = x' + 1 := by omega
    have t3 : B.first Y + (y' - B.first Y) = y' := by omega
    have t4 : B.first Y + (y' - B.first Y + 1) = y' + 1 := by omega
    have c0 : atI (us.map V.ref) ((x' : Int) - (A.first X : Int)) = some (.ref u0) := ref_at (by omega) hu0
    have c1 : atI (us.map V.ref) ((x' : Int) - (A.first X : Int) + 1) = some (.ref u1) := ref_at (by omega) hu1
    have c2 : atI (rowV (Y - B.first Y + 2) (tb A B (A.first X) (B.first Y) (x' - A.first X + 1))) ((y' : Int) - (B.first Y : Int) + 1) = some (iV (M A.nd B.nd (A.first X) (x' + 1) (B.first Y) (y' + 1))) := by
      rw [row_at (k := y' - B.first Y + 1) (by omega) (by omega)]; unfold tb; rw [t2, t4]
    have c3 : atI (rowV (Y - B.first Y + 2) (tb A B (A.first X) (B.first Y) (x' - A.first X))) ((y' : Int) - (B.first Y : Int) + 1) = some (iV (M A.nd B.nd (A.first X) x' (B.first Y) (y' + 1))) := by
      rw [row_at (k := y' - B.first Y + 1) (by omega) (by omega)]; unfold tb; rw [t1, t4]
    have c4 : atI (rowV (Y - B.first Y + 2) (tb A B (A.first X) (B.first Y) (x' - A.first X + 1))) ((y' : Int) - (B.first Y : Int)) = some (iV (M A.nd B.nd (A.first X) (x' + 1) (B.first Y) y')) := by
      rw [row_at (k := y' - B.first Y) (by omega) (by omega)]; unfold tb; rw [t2, t3]
    have c5 : atI (A.firsts.map iV) (x' : Int) = some (iV (A.first x')) := atI_map iV (NR.first_get oA hxn)
    have c6 : atI (B.firsts.map iV) (y' : Int) = some (iV (B.first y')) := atI_map iV (NR.first_get oB hyn)
    have lcnt : f'.length ≤ 1000 := by
      have h1 := ro.cnt
      have h2 : TM A B X Y ≤ X + 1 - A.first X := M_le_width
      omega
    have lws : ws'.length ≤ 2000 := by
      have h1 := ro.le
      have h2 := wts_ge (B := B) oA ws' fun w hw => (ro.val w hw).1
      unfold wt at h1
      dsimp only at h1
      omega
    walk_at "st"
    refine s_if (fun h3 => ?_) fun h3 => ?_
    · walk_at "st"
      exact ⟨_, by omega, x', y' + 1, (x' : Int) - 1, y', _, f', ws', fv', wv', rfl, by omega, by omega, rfl, ro.left hx (by omega), ef', pf', ew', pw', kp', ts'⟩
    walk_at "st"
    refine s_if (fun h4 => ?_) fun h4 => ?_
    · walk_at "st"
      exact ⟨_, by omega, x' + 1, y', x', (y' : Int) - 1, _, f', ws', fv', wv', rfl, by omega, by omega, rfl, ro.up hy (by omega), ef', pf', ew', pw', kp', ts'⟩
    have n3 : M A.nd B.nd (A.first X) (x' + 1) (B.first Y) (y' + 1) ≠ M A.nd B.nd (A.first X) x' (B.first Y) (y' + 1) := fun z => h3 (by rw [z])
    have n4 : M A.nd B.nd (A.first X) (x' + 1) (B.first Y) (y' + 1) ≠ M A.nd B.nd (A.first X) (x' + 1) (B.first Y) y' := fun z => h4 (by rw [z])
    have wait : ¬ (A.first x' = A.first X ∧ B.first y' = B.first Y) → RO A B X Y (A.first x') (B.first y') f' (ws' ++ [(x', y')]) := fun hn => ro.wait oA oB hX hY hx hy hn n3 n4
    have gw : ∀ (c : Addr) (v : Option V), H' c = none → ¬ (A.first x' = A.first X ∧ B.first y' = B.first Y) → ∃ m', m' < x' + 1 + (y' + 1) ∧ ∃ (x y : Nat) (z8 z9 : Int) (v10 : Option V) (f'' ws'' : List Pr) (fv'' wv'' : List V), [some (.ref p), some (.int X), some (.int Y), some (.ref lf), some (.ref lw), some (iV (A.first X)), some (iV (B.first Y)), some (.ref t), some (.int ((A.first x' : Int) - 1)), some (.int ((B.first y' : Int) - 1)), v] = [some (.ref p), some (.int X), some (.int Y), some (.ref lf), some (.ref lw), some (iV (A.first X)), some (iV (B.first Y)), some (.ref t), some (.int z8), some (.int z9), v10] ∧ z8 + 1 = x ∧ z9 + 1 = y ∧ m' = x + y ∧ RO A B X Y x y f'' ws'' ∧ (upd (upd H' c (.tup [iV x', iV y'])) lw (.lst (wv' ++ [.ref c]))) lf = some (.lst fv'') ∧ PairsV K (upd (upd H' c (.tup [iV x', iV y'])) lw (.lst (wv' ++ [.ref c]))) fv'' (f ++ f'') ∧ (upd (upd H' c (.tup [iV x', iV y'])) lw (.lst (wv' ++ [.ref c]))) lw = some (.lst wv'') ∧ PairsV K (upd (upd H' c (.tup [iV x', iV y'])) lw (.lst (wv' ++ [.ref c]))) wv'' (ws ++ ws'') ∧ Kp (fun c => c = lf ∨ c = lw) H1 (upd (upd H' c (.tup [iV x', iV y'])) lw (.lst (wv' ++ [.ref c]))) ∧ TSt H1 (upd (upd H' c (.tup [iV x', iV y'])) lw (.lst (wv' ++ [.ref c]))) := fun c v nc hn => by
      have ncw : lw ≠ c := ne_of_none ew' nc
      have ncf : lf ≠ c := ne_of_none ef' nc
      have ts2 : TSt H' (upd (upd H' c (.tup [iV x', iV y'])) lw (.lst (wv' ++ [.ref c]))) := (TSt.refl.upd' nc).mut (o' := .lst wv') (by rw [upd_ne ncw]; exact ew') trivial
      refine ⟨A.first x' + B.first y', by omega, A.first x', B.first y', _, _, _, f', ws' ++ [(x', y')], fv', wv' ++ [.ref c], rfl, by omega, by omega, rfl, wait hn, by rw [upd_ne nfw, upd_ne ncf]; exact ef', pf'.ts ts2, upd_same, ?_, Kp.mut (W := fun c => c = lf ∨ c = lw) (kp'.upd' nc) (.inr rfl), ts'.trans ts2⟩
      rw [← List.append_assoc]
      exact pd_app (pw'.ts ts2) (.cons ⟨c, rfl, (by rw [upd_ne ncw.symm]; exact upd_same)⟩ .nil)
    have zw' : wv'.length < sizeLine := by
      rw [pw'.len, List.length_append]
      exact Nat.lt_of_le_of_lt (m := 4000) (by omega) (by decide)
    walk_at "st"
    refine s_if (fun h5 => ?_) fun h5 => ?_
    · walk_at "st"
      refine s_if (fun h6 => ?_) fun h6 => ?_
      · walk_at "st"
        refine s_newT (by show 2 ≤ sizeLine; decide) fun c nc => ?_
        have ncw : lw ≠ c := ne_of_none ew' nc
        have ncf : lf ≠ c := ne_of_none ef' nc
        walk_at "st"
        refine s_append (by walk_at "hp") (by rw [pf'.len, List.length_append]; exact Nat.lt_of_le_of_lt (m := 4000) (by omega) (by decide)) ?_
        walk_at "st"
        have ts2 : TSt H' (upd (upd H' c (.tup [iV x', iV y'])) lf (.lst (fv' ++ [.ref c]))) := (TSt.refl.upd' nc).mut (o' := .lst fv') (by rw [upd_ne ncf]; exact ef') trivial
        refine ⟨x' + y', by omega, x', y', (x' : Int) - 1, (y' : Int) - 1, _, f' ++ [(x', y')], ws', fv' ++ [.ref c], wv', rfl, by omega, by omega, rfl, ro.both axx byy (by omega) (by omega) n3 n4, upd_same, ?_, by rw [upd_ne nfw.symm, upd_ne ncw]; exact ew', pw'.ts ts2, Kp.mut (W := fun c => c = lf ∨ c = lw) (kp'.upd' nc) (.inl rfl), ts'.trans ts2⟩
        rw [← List.append_assoc]
        exact pd_app (pf'.ts ts2) (.cons ⟨c, rfl, (by rw [upd_ne ncf.symm]; exact upd_same)⟩ .nil)
      · walk_at "st"
        refine s_newT (by show 2 ≤ sizeLine; decide) fun c nc => ?_
        have ncw : lw ≠ c := ne_of_none ew' nc
        have npc : p ≠ c := ne_of_none ex nc
        have npw : p ≠ lw := fun z => npf (.inr z)
        have nac : oa ≠ c := ne_of_none eax nc
        have naw : oa ≠ lw := fun z => naf (.inr z)
        have nbc : ob ≠ c := ne_of_none ebx nc
        have nbw : ob ≠ lw := fun z => nbf (.inr z)
        walk_at "st"
        refine s_append (by walk_at "hp") zw' ?_
        walk_at "st"
        exact gw c _ nc (by omega)
    · walk_at "st"
      refine s_newT (by show 2 ≤ sizeLine; decide) fun c nc => ?_
      have ncw : lw ≠ c := ne_of_none ew' nc
      have npc : p ≠ c := ne_of_none ex nc
      have npw : p ≠ lw := fun z => npf (.inr z)
      have nac : oa ≠ c := ne_of_none eax nc
      have naw : oa ≠ lw := fun z => naf (.inr z)
      have nbc : ob ≠ c := ne_of_none ebx nc
      have nbw : ob ≠ lw := fun z => nbf (.inr z)
      walk_at "st"
      refine s_append (by walk_at "hp") zw' ?_
      walk_at "st"
      exact gw c _ nc (by omega)

/-! ### pairs -/
theorem pd_snoc {α β : Type} {F : α → β → Prop} {u : β} : ∀ {us : List β} {xs : List α}, Paired F xs (us ++ [u]) → ∃ xs0 x, xs = xs0 ++ [x] ∧ Paired F xs0 us ∧ F x u
  | [], _, .cons r .nil => ⟨[], _, rfl, .nil, r⟩
  | _ :: us, _, .cons r t => by
    obtain ⟨xs0, x, rfl, h1, h2⟩ := pd_snoc (us := us) t
    exact ⟨_ :: xs0, x, rfl, .cons r h1, h2⟩
theorem same_kp {H H1 H2 : Hp} {W : Addr → Prop} (s : Same H H1) (k : Kp W H1 H2) (n : ∀ a, W a → H a = none) : Same H H2 := fun a o h => k a o (s a o h) fun w => by
  have := n a w
  rw [h] at this; cases this
def sp_Sharing_pairs (T : Ev K mg) : Sp := fun vs H Q _ => ∃ (p : Addr) (rs : List Addr) (A B : NR) (tv : Nat → Nat → Nat) (X Y : Nat), vs = [.ref p] ∧ ShAt K T.c_Sharing T.c_NodeRow H p rs A B tv ∧ A.n = X + 1 ∧ B.n = Y + 1 ∧ A.first X = 0 ∧ B.first Y = 0 ∧ (∀ x y, x < A.n → y < B.n → Right A B tv x y) ∧
  ∀ (q : Addr) (fv : List V) (f : List Pr) (H' : Hp), Lay A.nd B.nd 0 A.n 0 B.n f → f.length = M A.nd B.nd 0 A.n 0 B.n → H q = none → H' q = some (.lst fv) → PairsV K H' fv f → Same H H' → Q (.ref q) H'
theorem ok_Sharing_pairs (T : Ev K mg) : FnOk P w K mg base CX0 5 T.a_Sharing_pairs T.d_Sharing_pairs ["self"] (sp_Sharing_pairs T) := by
  refine T.F_Sharing_pairs.ok sc_Sharing_pairs (fun vs H Q E h => ?_) (fun cdv A outer s H vs Q E hr h => ?_)
  · obtain ⟨_, _, _, _, _, _, _, rfl, _⟩ := h; rfl
  · obtain ⟨p, rs, A, B, tv, X, Y, rfl, sh, hX, hY, fX, fY, ok, k⟩ := h
    obtain ⟨dx, oa, ob, tr, e, n1, n2, et, nt, l, nd, er⟩ := sh.ex
    obtain ⟨⟨dxa, ra, fa, sa, ha, hsa, ea, qa1, qa2, qa3, qa4, oa'⟩, oA⟩ := id n1
    obtain ⟨⟨dxb, rb, fb, sb, hb, hsb, eb, qb1, qb2, qb3, qb4, ob'⟩, oB⟩ := id n2
    have sA : A.n ≤ 1000 := oA.small
    have sB : B.n ≤ 1000 := oB.small
    refine ⟨_, (pss_cons (ps_set (i := 1) sc_Sharing_pairs.nd rfl (Or.inl rfl) (pe_lst pa_nil))
      (pss_cons (ps_set (i := 2) sc_Sharing_pairs.nd rfl (Or.inl rfl) (pe_lst (pa_cons (pe_tup (pa_cons (pe_op op_sub (pe_meth0 (pe_fld (pv 0) rfl) T.cl_NodeRow T.mt_NodeRow_many (ok_NodeRow_many T) (hr.mono (by decide)) T.b_NodeRow_many .nil pass0) pe_int) (pa_cons (pe_op op_sub (pe_meth0 (pe_fld (pv 0) rfl) T.cl_NodeRow T.mt_NodeRow_many (ok_NodeRow_many T) (hr.mono (by decide)) T.b_NodeRow_many .nil pass0) pe_int) pa_nil))) pa_nil)))
      (pss_cons (ps_while PassesOwn.never (pt_cmpR op_gt (pe_callB call_lenS (by rfl) T.g_len (by decide +kernel) (pa_cons (pv 2) pa_nil)) pe_int (nomark _)) (pss_cons (ps_asg (pe_bm0 PySem.F.plainAttrs_list PySem.F.slot_list_pop PySem.F.type_list_pop mt_pop (pv 2)) (pg_tup (by rfl) (pgs_cons (pg_name (i := 3) sc_Sharing_pairs.nd rfl (Or.inl rfl)) (pgs_cons (pg_name (i := 4) sc_Sharing_pairs.nd rfl (Or.inl rfl)) pgs_nil))))
      (pss_one (ps_expr (pe_meth (pv 0) T.cl_Sharing T.mt_Sharing_read_off (ok_Sharing_read_off T) hr T.b_Sharing_read_off .nil pass0 (pa_cons (pv 3) (pa_cons (pv 4) (pa_cons (pv 1) (pa_cons (pv 2) pa_nil)))))))))
      (pss_one (ps_ret (pv 1)))))), ?_⟩
    walk_at "st"
    refine s_newL (by show 0 ≤ sizeLine; decide) fun lf nlf => ?_
    have sm0 : Same H (upd H lf (.lst [])) := sU (Same.refl H) nlf
    have npf : p ≠ lf := ne_of_none e nlf
    have naf : oa ≠ lf := ne_of_none ea nlf
    have nbf : ob ≠ lf := ne_of_none eb nlf
    walk_at "st"
    refine ⟨oa, A, rfl, n1.same sm0, ?_⟩
    walk_at "st"
    refine ⟨ob, B, rfl, n2.same sm0, ?_⟩
    walk_at "st"
    refine s_newT (by show 2 ≤ sizeLine; decide) fun c nc => ?_
    obtain ⟨d1, nc1⟩ := un nc
    walk_at "st"
    refine s_newL (by show 1 ≤ sizeLine; decide) fun lw nlw => ?_
    obtain ⟨d2, nlw1⟩ := un nlw
    obtain ⟨d3, nlw2⟩ := un nlw1
    have sm1 : Same H (upd (upd (upd H lf (.lst [])) c (.tup [.int ((A.n : Int) - 1), .int ((B.n : Int) - 1)])) lw (.lst [.ref c])) := sU (sU sm0 nc) nlw
    walk_at "st"
    refine s_while (fun m σ H' => ∃ (v3 v4 : Option V) (f ws : List Pr) (fv wv : List V), σ = [some (.ref p), some (.ref lf), some (.ref lw), v3, v4] ∧ PO A B f ws ∧ m = wts A B ws ∧ H' lf = some (.lst fv) ∧ PairsV K H' fv f ∧ H' lw = some (.lst wv) ∧ PairsV K H' wv ws ∧ wts A B ws ≤ 2000 ∧ Same H H') (wts A B [(X, Y)]) ⟨none, none, [], [(X, Y)], [], [.ref c], rfl, PO.start hX hY fX fY, rfl, by rw [upd_ne d3.symm, upd_ne d1.symm]; exact upd_same, .nil, upd_same, .cons ⟨c, rfl, ?_⟩ .nil, by rw [wts_one]; unfold wt; dsimp only; omega, sm1⟩ ?_
    · rw [upd_ne d2.symm, upd_same, show (A.n : Int) - 1 = ((X : Nat) : Int) by omega, show (B.n : Int) - 1 = ((Y : Nat) : Int) by omega]
    · rintro m σ H' ⟨v3, v4, f, ws, fv, wv, rfl, po, rfl, ef, pf, ew, pw, small, sm⟩
      have e' := sm _ _ e
      walk_at "st"
      have lw' := pw.len
      refine s_wd (fun h1 => ?_) fun h1 => ?_
      · obtain ⟨ws0, w, rfl⟩ : ∃ ws0 w, ws = ws0 ++ [w] := ⟨ws.dropLast, ws.getLast (by rintro rfl; simp at lw'; rw [lw'] at h1; simp at h1), (List.dropLast_concat_getLast _).symm⟩
        obtain ⟨wv0, v, rfl, pw0, ⟨cw, rfl, ecw⟩⟩ := pd_snoc pw
        obtain ⟨wx, wy⟩ := w
        have nfw : lf ≠ lw := d3.symm
        have qcw : SqT K (upd H' lw (.lst wv0)) cw [iV wx, iV wy] := SqT.of (by rw [upd_ne (ne_of ecw ew (by intro z; cases z))]; exact ecw)
        have npw : p ≠ lw := ne_of_none e nlw2
        walk_at "st"
        obtain ⟨hx, hy⟩ := po.val (wx, wy) (by simp)
        have sm2 : Same H (upd H' lw (.lst wv0)) := sM sm nlw2
        have ts2 : TSt H' (upd H' lw (.lst wv0)) := TSt.refl.mut ew trivial
        have lf2 : f.length ≤ 2000 := by
          have h1 := po.cnt
          have h2 : M A.nd B.nd 0 A.n 0 B.n ≤ A.n - 0 := M_le_width
          omega
        have lw2 := wts_ge (B := B) oA (ws0 ++ [(wx, wy)]) fun w hw => (po.val w hw).1
        rw [List.length_append] at lw2
        refine ⟨p, lf, lw, rs, A, B, tv, wx, wy, fv, wv0, f, ws0, rfl, sh.same sm2, hx, hy, fun x y _ h1 _ h2 _ => ok x y (by dsimp only at hx; omega) (by dsimp only at hy; omega), nfw, by rw [upd_ne nfw]; exact ef, pf.ts ts2, upd_same, PairsV.ts ts2 pw0, lf2, by omega, fun f' ws' x y fv' wv' H3 ro hd ef3 pf3 ew3 pw3 kp3 ts3 => ?_⟩
        walk_at "st"
        obtain ⟨po', lt⟩ := po.step oA oB ro hd
        refine ⟨_, lt, _, _, _, _, _, _, rfl, po', rfl, ef3, pf3, ew3, pw3, by omega, same_kp sm2 kp3 fun a z => ?_⟩
        rcases z with rfl | rfl
        · exact nlf
        · exact nlw2
      · walk_at "st"
        have : ws = [] := by
          cases ws with
          | nil => rfl
          | cons a r => rw [lw'] at h1; simp at h1
        subst this
        obtain ⟨g1, g2⟩ := po.done
        exact k lf fv f H' g1 g2 nlf ef pf sm
/-! ### shared -/
abbrev Pos (f : Fo) : Prop := f.Within fun r => 0 ≤ r
theorem pos_rules : ∀ {f : Fo}, Pos f → ∀ r ∈ f.rules, 0 ≤ r
  | .nil, _, _, h => nomatch h
  | .leaf _ s, p, r, h => pos_rules (f := s) p r h
  | .node q k s, p, r, h => by
    obtain ⟨p1, p2, p3⟩ := p
    simp only [Fo.rules, List.mem_append, List.mem_cons] at h
    rcases h with h | h | h
    · exact pos_rules p2 r h
    · rw [h]; exact p1
    · exact pos_rules p3 r h
theorem pos_rule {f : Fo} (p : Pos f) : ∀ k, k < f.nr.n → 0 ≤ f.nr.rule k := fun k hk => pos_rules p _ (List.mem_of_getElem? (NR.rule_get hk))

/-- what both defs do first -/
theorem under_top0 {A : NR} {lo hi : Nat} {mark : Int} (o : A.Ok) (h : lo ≤ hi) (hn : hi ≤ A.n) : (A.under lo hi mark).first (hi - lo) = 0 := NR.under_ftop o h hn
def sp_shared (T : Ev K mg) : Sp := fun vs H Q _ => ∃ (v1 v2 : V) (f1 f2 : Fo), vs = [v1, v2] ∧ TreeV K H v1 f1 ∧ TreeV K H v2 f2 ∧ f1.cnt < 1000 ∧ f2.cnt < 1000 ∧ Pos f1 ∧ Pos f2 ∧ ∀ H', Same H H' → Q (iV (M f1.nr.nd f2.nr.nd 0 f1.cnt 0 f2.cnt)) H'
theorem ok_shared (T : Ev K mg) : FnOk P w K mg base CX0 7 T.a_shared T.d_shared ["one", "other"] (sp_shared T) := by
  refine T.F_shared.ok sc_shared (fun vs H Q E h => ?_) (fun cdv A outer s H vs Q E hr h => ?_)
  · obtain ⟨_, _, _, _, rfl, _⟩ := h; rfl
  · obtain ⟨v1, v2, f1, f2, rfl, tv1, tv2, z1, z2, po1, po2, k⟩ := h
    refine ⟨_, (pss_cons (ps_set (i := 2) sc_shared.nd rfl (Or.inl rfl) (pe_make T.mk_Peeling (ok_Peeling_init T) (hr.mono (by decide)) (by rfl) T.m_Peeling T.b_Peeling_init .nil pass0 (pa_cons (pe_call (ok_noderow_of T) (hr.mono (by decide)) (by rfl) T.m_noderow_of T.F_noderow_of.kp T.b_noderow_of .nil pass0 (pa_cons (pv 0) pa_nil)) (pa_cons (pe_call (ok_noderow_of T) (hr.mono (by decide)) (by rfl) T.m_noderow_of T.F_noderow_of.kp T.b_noderow_of .nil pass0 (pa_cons (pv 1) pa_nil)) pa_nil))))
      (pss_cons (ps_asg (pe_meth0 (pv 2) T.cl_Peeling T.mt_Peeling_rests (ok_Peeling_rests T) (hr.mono (by decide)) T.b_Peeling_rests .nil pass0) (pg_tup (by rfl) (pgs_cons (pg_name (i := 3) sc_shared.nd rfl (Or.inl rfl)) (pgs_cons (pg_name (i := 4) sc_shared.nd rfl (Or.inl rfl)) pgs_nil))))
      (pss_one (ps_ret (pe_op op_add (pe_callB call_lenS (by rfl) T.g_len (by decide +kernel) (pa_cons (pe_fld (pv 2) rfl) pa_nil)) (pe_meth0 (pe_make T.mk_Sharing (ok_Sharing_init T) hr (by rfl) T.m_Sharing T.b_Sharing_init .nil pass0 (pa_cons (pv 3) (pa_cons (pv 4) pa_nil))) T.cl_Sharing T.mt_Sharing_most (ok_Sharing_most T) (hr.mono (by decide)) T.b_Sharing_most .nil pass0)))))), ?_⟩
    walk_at "st"
    refine ⟨v1, f1, rfl, tv1, Nat.le_of_lt z1, fun oa H1 noa na sm1 => ?_⟩
    walk_at "st"
    refine ⟨v2, f2, rfl, tv2.ts (Same.ts sm1), Nat.le_of_lt z2, fun ob H2 nob nb sm2 => ?_⟩
    walk_at "st"
    intro p dx np ndx ne
    have smI : Same H2 (upd (upd H2 dx (.own p)) p (.ins T.c_Peeling dx [])) := Same.ins np ndx
    refine ⟨p, dx, oa, ob, f1.nr, f2.nr, rfl, upd_same, (na.same sm2).same smI, nb.same smI, fun H3 l t a x b y pl I kp3 ts3 => ⟨rfl, ?_⟩⟩
    have sm3 : Same H2 H3 := same_kp smI kp3 fun c z => by rw [z]; exact np
    have n1 : f1.nr.n = f1.cnt := Fo.nr_n f1
    have n2 : f2.nr.n = f2.cnt := Fo.nr_n f2
    obtain ⟨dxp, o1, o2, q1, q2, tl, e, m1, m2, _, _, el, pvs, _, _⟩ := pl.ex
    have oA := m1.ok
    have oB := m2.ok
    walk_at "st"
    refine ⟨p, l, f1.nr, f2.nr, t, a, x, b, y, rfl, pl, I, by omega, by omega, fun H4 q c1 c2 sq u1 u2 sm4 => ?_⟩
    walk_at "st"
    have e4 := sm4 _ _ e
    have el4 := sm4 _ _ el
    walk_at "st"
    intro s' ds ns nds ned
    have smS : Same H4 (upd (upd H4 ds (.own s')) s' (.ins T.c_Sharing ds [])) := Same.ins ns nds
    refine ⟨s', ds, c1, c2, _, _, rfl, upd_same, u1.same smS, u2.same smS, fun rs tv H5 sh ok kp5 ts5 => ⟨rfl, ?_⟩⟩
    obtain ⟨dx5, oa5, ob5, tr5, e5, _⟩ := sh.ex
    have sm5 : Same H4 H5 := same_kp smS kp5 fun c z => by rw [z]; exact ns
    have ax := I.ax
    have bY := I.by_
    have xn := I.xn
    have ym := I.ym
    have N1 : (f1.nr.under a x (-1)).n = x - a + 1 := NR.under_n oA ax xn
    have N2 : (f2.nr.under b y (-2)).n = y - b + 1 := NR.under_n oB bY ym
    walk_at "st"
    refine ⟨s', rs, _, _, tv, x - a, y - b, rfl, sh, N1, N2, ?_⟩
    walk_at "st"
    have smF : Same H H5 := ((((sm1.trans sm2).trans sm3).trans sm4).trans sm5)
    have := k H5 smF
    have val : M f1.nr.nd f2.nr.nd 0 f1.cnt 0 f2.cnt = t.length + tv (x - a) (y - b) := by
      have h1 := ok (x - a) (y - b) (by omega) (by omega)
      have h2 : tv (x - a) (y - b) = M (f1.nr.under a x (-1)).nd (f2.nr.under b y (-2)).nd ((f1.nr.under a x (-1)).first (x - a)) (x - a + 1) ((f2.nr.under b y (-2)).first (y - b)) (y - b + 1) := h1
      rw [NR.under_ftop oA ax xn, NR.under_ftop oB bY ym, under_M oA oB ax xn bY ym I.c1 I.c2 (pos_rule po1) (pos_rule po2)] at h2
      have h3 := I.cnt
      rw [n1, n2] at h3
      rw [h2, h3]
    rw [val] at this
    have ln := pvs.len
    rw [show iV (t.length + tv (x - a) (y - b)) = V.int ((tl.length : Int) + (tv (x - a) (y - b) : Int)) by rw [ln]; rfl] at this
    exact this
theorem pd_get {α β : Type} {F : α → β → Prop} {x : α} {xs : List α} {us : List β} (h : Paired F xs us) : ∀ {i : Nat}, xs[i]? = some x → ∃ u, us[i]? = some u ∧ F x u := by
  induction h with
  | nil => intro i h; cases i <;> cases h
  | cons r _ ih =>
    intro i h
    cases i with
    | zero => exact ⟨_, rfl, by rw [← Option.some.inj h]; exact r⟩
    | succ i => exact ih h
theorem pd_perm {α β : Type} {F : α → β → Prop} {ys xs : List α} (h : ys.Perm xs) : ∀ {us : List β}, Paired F xs us → ∃ vs, Paired F ys vs ∧ vs.Perm us := by
  induction h with
  | nil => intro us q; cases q; exact ⟨[], .nil, .nil⟩
  | cons x _ ih =>
    intro us q
    cases q with
    | cons r t =>
      obtain ⟨vs, h1, h2⟩ := ih t
      exact ⟨_ :: vs, .cons r h1, h2.cons _⟩
  | swap x y l =>
    intro us q
    cases q with
    | cons r t => cases t with
      | cons r2 t2 => exact ⟨_ :: _ :: _, .cons r2 (.cons r t2), .swap ..⟩
  | trans _ _ ih1 ih2 =>
    intro us q
    obtain ⟨vs, h1, h2⟩ := ih2 q
    obtain ⟨ws, h3, h4⟩ := ih1 h1
    exact ⟨ws, h3, h4.trans h2⟩
def keyOf (H : Hp) : V → Int × Int
  | .ref c => match H c with
    | some (.tup [.int i, .int j]) => (i, j)
    | _ => (0, 0)
  | _ => (0, 0)
theorem pairs_key {H : Hp} {xs : List V} {ps : List Pr} (h : PairsV K H xs ps) : ∀ x ∈ xs, ∃ t, x = V.ref t ∧ H t = some (.tup [.int (keyOf H x).1, .int (keyOf H x).2]) := fun x hx => by
  obtain ⟨i, hi⟩ := List.getElem?_of_mem hx
  obtain ⟨u, _, c, rfl, e⟩ := pd_get h hi
  refine ⟨c, rfl, ?_⟩
  have : keyOf H (.ref c) = ((u.1 : Int), (u.2 : Int)) := by unfold keyOf; dsimp only; rw [e]
  rw [this]; exact e
def sp_shared_pairs (T : Ev K mg) : Sp := fun vs H Q _ => ∃ (v1 v2 : V) (f1 f2 : Fo), vs = [v1, v2] ∧ TreeV K H v1 f1 ∧ TreeV K H v2 f2 ∧ f1.cnt < 1000 ∧ f2.cnt < 1000 ∧ Pos f1 ∧ Pos f2 ∧ ∀ (q : Addr) (vs : List V) (ps : List Pr) (H' : Hp), H' q = some (.tup vs) → PairsV K H' vs ps → Lay f1.nr.nd f2.nr.nd 0 f1.cnt 0 f2.cnt ps → ps.length = M f1.nr.nd f2.nr.nd 0 f1.cnt 0 f2.cnt → Same H H' → Q (.ref q) H'
theorem ok_shared_pairs (T : Ev K mg) : FnOk P w K mg base CX0 7 T.a_shared_pairs T.d_shared_pairs ["one", "other"] (sp_shared_pairs T) := by
  refine T.F_shared_pairs.ok sc_shared_pairs (fun vs H Q E h => ?_) (fun cdv A outer s H vs Q E hr h => ?_)
  · obtain ⟨_, _, _, _, rfl, _⟩ := h; rfl
  · obtain ⟨v1, v2, f1, f2, rfl, tv1, tv2, z1, z2, po1, po2, k⟩ := h
    refine ⟨_, (pss_cons (ps_set (i := 2) sc_shared_pairs.nd rfl (Or.inl rfl) (pe_make T.mk_Peeling (ok_Peeling_init T) (hr.mono (by decide)) (by rfl) T.m_Peeling T.b_Peeling_init .nil pass0 (pa_cons (pe_call (ok_noderow_of T) (hr.mono (by decide)) (by rfl) T.m_noderow_of T.F_noderow_of.kp T.b_noderow_of .nil pass0 (pa_cons (pv 0) pa_nil)) (pa_cons (pe_call (ok_noderow_of T) (hr.mono (by decide)) (by rfl) T.m_noderow_of T.F_noderow_of.kp T.b_noderow_of .nil pass0 (pa_cons (pv 1) pa_nil)) pa_nil))))
      (pss_cons (ps_asg (pe_meth0 (pv 2) T.cl_Peeling T.mt_Peeling_rests (ok_Peeling_rests T) (hr.mono (by decide)) T.b_Peeling_rests .nil pass0) (pg_tup (by rfl) (pgs_cons (pg_name (i := 3) sc_shared_pairs.nd rfl (Or.inl rfl)) (pgs_cons (pg_name (i := 4) sc_shared_pairs.nd rfl (Or.inl rfl)) pgs_nil))))
      (pss_cons (ps_set (i := 5) sc_shared_pairs.nd rfl (Or.inl rfl) (pe_callTy call_lstOf (by rfl) T.g_list (by decide +kernel) (pa_cons (pe_fld (pv 2) rfl) pa_nil)))
      (pss_cons (ps_for PassesOwn.never rfl (pi_list (pe_meth0 (pe_make T.mk_Sharing (ok_Sharing_init T) hr (by rfl) T.m_Sharing T.b_Sharing_init .nil pass0 (pa_cons (pv 3) (pa_cons (pv 4) pa_nil))) T.cl_Sharing T.mt_Sharing_pairs (ok_Sharing_pairs T) (hr.mono (by decide)) T.b_Sharing_pairs .nil pass0)) (pg_tup (by rfl) (pgs_cons (pg_name (i := 6) sc_shared_pairs.nd rfl (Or.inl rfl)) (pgs_cons (pg_name (i := 7) sc_shared_pairs.nd rfl (Or.inl rfl)) pgs_nil)))
      (pss_one (ps_expr (pe_bm PySem.F.plainAttrs_list PySem.F.slot_list_append PySem.F.type_list_append mt_append (pv 5) (pa_cons (pe_meth (pv 2) T.cl_Peeling T.mt_Peeling_moved (ok_Peeling_moved T) (hr.mono (by decide)) T.b_Peeling_moved .nil pass0 (pa_cons (pv 6) (pa_cons (pv 7) pa_nil))) pa_nil)))))
      (pss_one (ps_ret (pe_callTy call_tupOf (by rfl) T.g_tuple (by decide +kernel) (pa_cons (pe_callB cr_sortedPO (by rfl) T.g_sorted (by decide +kernel) (pa_cons (pv 5) pa_nil)) pa_nil)))))))), ?_⟩
    walk_at "st"
    refine ⟨v1, f1, rfl, tv1, Nat.le_of_lt z1, fun oa H1 noa na sm1 => ?_⟩
    walk_at "st"
    refine ⟨v2, f2, rfl, tv2.ts (Same.ts sm1), Nat.le_of_lt z2, fun ob H2 nob nb sm2 => ?_⟩
    walk_at "st"
    intro p dx np ndx ne
    have smI : Same H2 (upd (upd H2 dx (.own p)) p (.ins T.c_Peeling dx [])) := Same.ins np ndx
    refine ⟨p, dx, oa, ob, f1.nr, f2.nr, rfl, upd_same, (na.same sm2).same smI, nb.same smI, fun H3 l t a x b y pl I kp3 ts3 => ⟨rfl, ?_⟩⟩
    have sm3 : Same H2 H3 := same_kp smI kp3 fun c z => by rw [z]; exact np
    have n1 : f1.nr.n = f1.cnt := Fo.nr_n f1
    have n2 : f2.nr.n = f2.cnt := Fo.nr_n f2
    obtain ⟨dxp, o1, o2, q1, q2, tl, e, m1, m2, _, _, el, pvs, _, _⟩ := pl.ex
    have oA := m1.ok
    have oB := m2.ok
    walk_at "st"
    refine ⟨p, l, f1.nr, f2.nr, t, a, x, b, y, rfl, pl, I, by omega, by omega, fun H4 q c1 c2 sq u1 u2 sm4 => ?_⟩
    have e4 := sm4 _ _ e
    have el4 := sm4 _ _ el
    have pv4 := pvs.ts (Same.ts sm4)
    walk_at "st"
    refine s_lstOfL (SqL.of el4) fun lf nlf => ?_
    walk_at "st"
    intro s' ds ns nds ned
    have sm4b : Same H4 (upd H4 lf (.lst tl)) := sU (Same.refl H4) nlf
    have smS : Same (upd H4 lf (.lst tl)) (upd (upd (upd H4 lf (.lst tl)) ds (.own s')) s' (.ins T.c_Sharing ds [])) := Same.ins ns nds
    refine ⟨s', ds, c1, c2, _, _, rfl, upd_same, (u1.same sm4b).same smS, (u2.same sm4b).same smS, fun rs tv H5 sh ok kp5 ts5 => ⟨rfl, ?_⟩⟩
    obtain ⟨dx5, oa5, ob5, tr5, e5, _⟩ := sh.ex
    have sm5 : Same (upd H4 lf (.lst tl)) H5 := same_kp smS kp5 fun c z => by rw [z]; exact ns
    have ax := I.ax
    have bY := I.by_
    have xn := I.xn
    have ym := I.ym
    have N1 : (f1.nr.under a x (-1)).n = x - a + 1 := NR.under_n oA ax xn
    have N2 : (f2.nr.under b y (-2)).n = y - b + 1 := NR.under_n oB bY ym
    walk_at "st"
    refine ⟨s', rs, _, _, tv, x - a, y - b, rfl, sh, N1, N2, NR.under_ftop oA ax xn, NR.under_ftop oB bY ym, ok, fun g fv f H6 hl hlen ng eg pg sm6 => ?_⟩
    have efl : H6 lf = some (.lst tl) := sm6 _ _ (sm5 _ _ upd_same)
    have tlen := I.tlen oA
    have sA : f1.nr.n ≤ 1000 := oA.small
    have flen : f.length ≤ x - a := by
      rw [N1, N2, under_M oA oB ax xn bY ym I.c1 I.c2 (pos_rule po1) (pos_rule po2)] at hlen
      rw [hlen]; exact M_le_width
    have hl' : Lay f1.nr.nd f2.nr.nd a x b y (f.map (shift a b)) := by
      rw [N1, N2] at hl
      exact under_lay oA oB ax xn bY ym I.c1 I.c2 (pos_rule po1) (pos_rule po2) hl
    have sm46 : Same H4 H6 := (sm4b.trans sm5).trans sm6
    have e6 := sm46 _ _ e4
    walk_at "st"
    refine f_list (xs := fv) (fun i σ H' => ∃ (v6 v7 : Option V) (fl : List V), σ = [some v1, some v2, some (.ref p), some (.ref c1), some (.ref c2), some (.ref lf), v6, v7] ∧ H' lf = some (.lst fl) ∧ PairsV K H' fl (t ++ (f.take i).map (shift a b)) ∧ Kp (fun c => c = lf) H6 H' ∧ TSt H6 H') ⟨none, none, tl, rfl, efl, (by rw [List.take_zero, List.map_nil, List.append_nil]; exact (pv4.ts (Same.ts sm46))), Kp.refl, TSt.refl⟩ ?_ ?_ ?_
    · rintro i σ H' _ ⟨v6, v7, fl, rfl, efl', pfl, kp', ts'⟩
      exact SqL.of (kp' _ _ eg (fun z => by rw [z] at ng; rw [sm5 _ _ upd_same] at ng; cases ng))
    · rintro i xv σ H' hi ⟨v6, v7, fl, rfl, efl', pfl, kp', ts'⟩
      obtain ⟨⟨w1, w2⟩, hw, c, rfl, ec⟩ := pd_get pg hi
      have npl : ∀ {o : HO} {a : Addr}, H4 a = some o → a ≠ lf := fun {o a} h => ne_of_none h nlf
      have plH : PlAt K T.c_Peeling T.c_NodeRow H' p l f1.nr f2.nr t a x b y := (pl.same (sm4.trans sm46)).keep (W := fun c => c = lf) kp' ts' (npl e4) (npl el4) fun c C dx fs hc z => by
        rw [z, efl] at hc; cases hc
      have ec' := ts'.2 _ _ ec
      have e7 := kp' _ _ e6 (npl e4)
      refine s_gTup (SqT.of ec') rfl ?_
      walk_at "st"
      refine ⟨p, l, f1.nr, f2.nr, t, a, x, b, y, w1, w2, rfl, plH, fun z nz => ?_⟩
      have nfz : lf ≠ z := ne_of_none efl' nz
      have hlt : i < f.length := (List.getElem?_eq_some_iff.mp hw).1
      walk_at "st"
      refine s_append (by walk_at "hp") ?_ ?_
      · rw [pfl.len, List.length_append, List.length_map, List.length_take]
        exact Nat.lt_of_le_of_lt (m := 3000) (by omega) (by decide)
      walk_at "st"
      have ts2 : TSt H' (upd (upd H' z (.tup [iV (w1 + a), iV (w2 + b)])) lf (.lst (fl ++ [.ref z]))) := (TSt.refl.upd' nz).mut (o' := .lst fl) (by rw [upd_ne nfz]; exact efl') trivial
      refine ⟨_, _, _, rfl, upd_same, ?_, Kp.mut (W := fun c => c = lf) (kp'.upd' nz) rfl, ts'.trans ts2⟩
      rw [List.take_add_one, hw, List.map_append, ← List.append_assoc]
      exact pd_app (pfl.ts ts2) (.cons ⟨z, rfl, by rw [upd_ne nfz.symm]; exact upd_same⟩ .nil)
    · rintro σ H' ⟨v6, v7, fl, rfl, efl', pfl, kp', ts'⟩
      rw [pg.len, List.take_length] at pfl
      walk_at "st"
      refine ⟨lf, fl, keyOf H', rfl, SqL.of efl', pairs_key pfl, fun ys z _ stb nz => ?_⟩
      walk_at "st"
      refine s_tupOf (SqL.of upd_same) fun r nr => ?_
      obtain ⟨d1, nr1⟩ := un nr
      obtain ⟨qs, pq, perm⟩ := pd_perm stb.perm pfl
      have smA : Same H H4 := ((sm1.trans sm2).trans sm3).trans sm4
      have smB : Same H H' := same_kp (smA.trans sm46) kp' fun c z => by
        rw [z]
        exact Kp.none (W := fun _ => False) (Kp.of smA) id nlf
      have tsz : TSt H' (upd (upd H' z (.lst ys)) r (.tup ys)) := (TSt.refl.upd' nz).upd' nr
      walk_at "st"
      refine k r ys qs _ upd_same (PairsV.ts tsz pq) ?_ ?_ ?_
      · have h1 := I.glue _ hl'
        rw [n1, n2] at h1
        exact h1.perm perm.symm
      · have h1 := I.cnt
        rw [n1, n2] at h1
        rw [perm.length_eq, List.length_append, List.length_map, hlen, h1, N1, N2, under_M oA oB ax xn bY ym I.c1 I.c2 (pos_rule po1) (pos_rule po2)]
      · exact sU (sU smB nz) nr

theorem log_small {i : Int} {m : Nat} (h : m ≤ 3000) (h0 : 0 < m) : CDivW i (m : Int) := by
  refine ⟨by omega, ?_⟩
  rw [Int.natAbs_natCast]
  have : m.log2 ≤ m := Nat.log2_le_self m
  omega
local macro_rules | `(tactic| walk_at "sx") => `(tactic| repeat' (first
  | walk_at "st1"
  | walk_at "st2"
  | ((with_reducible refine' s_rI ?xc ?_); (case xc => first | assumption | decide | exact Or.inr ⟨by decide, by decide⟩ | exact Or.inl ⟨by omega, by omega⟩ | exact log_small (by assumption) (by assumption) | exact ⟨by decide, by decide, by decide⟩ | exact ⟨by decide, by decide⟩ | omega))
  | ((with_reducible refine' s_ixL ?xq ?xe ?_); (case xq => walk_at "sq"); (case xe => exact rfl))
  | ((with_reducible refine' s_ixT ?xq ?xe ?_); (case xq => walk_at "sq"); (case xe => exact rfl))
  | (with_reducible refine' Or.inl ⟨_, rfl, ?_⟩)))

/-! ### the source of draws -/
structure SrcAt (H : Hp) (s c : Addr) (cs : List Int) : Prop where
  top : ∃ v1 v2 v3 : Int, H s = some (.lst [.ref c, .int v1, .int v2, .int v3])
  cells : H c = some (.lst (cs.map V.int))
  ne : cs ≠ []
  nc : c ≠ s
theorem SrcAt.same {H H' : Hp} {s c : Addr} {cs : List Int} (h : SrcAt H s c cs) (sm : Same H H') : SrcAt H' s c cs := by
  obtain ⟨⟨v1, v2, v3, e⟩, ec, n, nc⟩ := h
  exact ⟨⟨v1, v2, v3, sm _ _ e⟩, sm _ _ ec, n, nc⟩
theorem SrcAt.keep {H H' : Hp} {s c : Addr} {cs : List Int} {W : Addr → Prop} (h : SrcAt H s c cs) (k : Kp W H H') (ns : ¬ W s) (nc' : ¬ W c) : SrcAt H' s c cs := by
  obtain ⟨⟨v1, v2, v3, e⟩, ec, n, nc⟩ := h
  exact ⟨⟨v1, v2, v3, k _ _ e ns⟩, k _ _ ec nc', n, nc⟩
theorem cut_ints {ns : List Int} {lo hi : Option Int} : ∃ ms : List Int, cutV (ns.map V.int) lo hi = ms.map V.int := by
  unfold cutV
  rw [← List.map_drop, ← List.map_take]
  exact ⟨_, rfl⟩
def sp_law_source (T : Ev K mg) : Sp := fun vs H Q _ => ∃ (a : Addr) (ns : List Int), vs = [.ref a] ∧ SqL K H a (ns.map V.int) ∧ ∀ s c cs H', SrcAt H' s c cs → Same H H' → Q (.ref s) H'
theorem ok_law_source (T : Ev K mg) : FnOk P w K mg base CX0 1 T.a_law_source T.d_law_source ["script"] (sp_law_source T) := by
  refine T.F_law_source.ok sc_law_source (fun vs H Q E h => ?_) (fun cdv A outer s H vs Q E hr h => ?_)
  · obtain ⟨_, _, rfl, _⟩ := h; rfl
  · obtain ⟨a, ns, rfl, ea, k⟩ := h
    refine ⟨_, (pss_cons (ps_set (i := 1) sc_law_source.nd rfl (Or.inl rfl) (pe_callTy call_lstOf (by rfl) T.g_list (by decide +kernel) (pa_cons (pe_slice sl_list (pv 0) po_none (po_some pe_int)) pa_nil)))
      (pss_cons (ps_if (pt_not (pt_tru (pv 1))) (pss_one (ps_set (i := 1) sc_law_source.nd rfl (Or.inl rfl) (pe_lst (pa_cons pe_int pa_nil)))) pss_nil)
      (pss_one (ps_ret (pe_lst (pa_cons (pv 1) (pa_cons pe_int (pa_cons pe_int (pa_cons pe_int pa_nil))))))))), ?_⟩
    walk_at "st"
    refine s_slL ea fun p np => ?_
    obtain ⟨ms, hms⟩ := cut_ints (ns := ns) (lo := none) (hi := some 63)
    rw [hms]
    walk_at "st"
    refine s_lstOfL (SqL.of upd_same) fun c nc => ?_
    obtain ⟨_, nc1⟩ := un nc
    have sm1 : Same H (upd (upd H p (.lst (ms.map V.int))) c (.lst (ms.map V.int))) := sU (sU (Same.refl H) np) nc
    walk_at "st"
    refine ⟨_, .inl ⟨_, SqL.of upd_same, rfl⟩, ?_⟩
    have fin : ∀ (G : Hp) (d : Addr) (cs : List Int), Same H G → G d = some (.lst (cs.map V.int)) → cs ≠ [] → newLst Q [.ref d, .int 0, .int 0, .int 0] G := fun G d cs sg ed hcs =>
      s_newL (by show 4 ≤ sizeLine; decide) fun s ns => k s d cs _ ⟨⟨0, 0, 0, upd_same⟩, by rw [upd_ne (ne_of_none ed ns)]; exact ed, hcs, ne_of_none ed ns⟩ (sU sg ns)
    cases ms with
    | nil =>
      refine s_T rfl ?_
      walk_at "st"
      refine s_newL (by show 1 ≤ sizeLine; decide) fun d nd => ?_
      walk_at "st"
      exact fin _ d [0] (sU sm1 nd) upd_same (by simp)
    | cons m ms =>
      refine s_F rfl ?_
      walk_at "st"
      exact fin _ c (m :: ms) sm1 upd_same (by simp)
def sp_law_draw (T : Ev K mg) : Sp := fun vs H Q _ => ∃ (s c : Addr) (cs : List Int) (m : Nat), vs = [.ref s, .int m] ∧ SrcAt H s c cs ∧ 0 < m ∧ m ≤ 3000 ∧ ∀ (d : Nat) H', d < m → SrcAt H' s c cs → Kp (· = s) H H' → TSt H H' → Q (.int d) H'
theorem mod_lt {i : Int} {m : Nat} (h : 0 < m) : ∃ d : Nat, d < m ∧ i % (m : Int) = d := by
  have h1 : 0 ≤ i % (m : Int) := Int.emod_nonneg i (by omega)
  have h2 : i % (m : Int) < m := Int.emod_lt_of_pos i (by omega)
  exact ⟨(i % (m : Int)).toNat, by omega, by omega⟩
theorem ok_law_draw (T : Ev K mg) : FnOk P w K mg base CX0 1 T.a_law_draw T.d_law_draw ["source", "many"] (sp_law_draw T) := by
  refine T.F_law_draw.ok sc_law_draw (fun vs H Q E h => ?_) (fun cdv A outer s H vs Q E hr h => ?_)
  · obtain ⟨_, _, _, _, rfl, _⟩ := h; rfl
  · obtain ⟨s, c, cs, m, rfl, ⟨⟨v1, v2, v3, e⟩, ec, cne, nc⟩, hm, hm2, k⟩ := h
    have hm3 : 0 < (m : Int) := by omega
    have cd : ∀ i : Int, CDivW i (m : Int) := fun i => log_small hm2 hm
    have cl : 0 < ((cs.map V.int).length : Int) := by
      rw [List.length_map]; have := List.length_pos_iff.mpr cne; omega
    obtain ⟨w, hw⟩ : ∃ w : Int, atI (cs.map V.int) (v1 % ((cs.map V.int).length : Int)) = some (.int w) := by
      have hl := List.length_pos_iff.mpr cne
      obtain ⟨d, hd, ed⟩ := mod_lt (i := v1) hl
      refine ⟨cs[d], ?_⟩
      rw [List.length_map, ed]
      exact atI_map V.int (List.getElem?_eq_getElem hd)
    have fin : ∀ (a b d : Int) (z : Int) (G : Hp), G s = some (.lst [.ref c, .int a, .int b, .int d]) → Kp (· = s) H G → TSt H G → Q (.int (z % (m : Int))) G := fun a b d z G eg kp ts => by
      obtain ⟨n, hn, en⟩ := mod_lt (i := z) hm
      rw [en]
      exact k n G hn ⟨⟨a, b, d, eg⟩, kp _ _ ec nc, cne, nc⟩ kp ts
    have kp1 : ∀ {G : Hp} {o : HO}, Kp (· = s) H G → Kp (· = s) H (upd G s o) := fun h => Kp.mut (W := (· = s)) h rfl
    have ts1 : ∀ {G : Hp} {o : HO} {xs : List V}, TSt H G → G s = some (.lst xs) → TSt H (upd G s o) := fun h e => h.mut e trivial
    refine ⟨_, (pss_cons (ps_if (pt_cmpR op_eq (pe_ix ix_list (pv 0) pe_int (fun _ _ => rfl)) pe_int (nomark _)) (pss_cons (ps_set (i := 2) sc_law_draw.nd rfl (Or.inl rfl) (pe_ix ix_list (pv 0) pe_int (fun _ _ => rfl)))
      (pss_cons (ps_set (i := 3) sc_law_draw.nd rfl (Or.inl rfl) (pe_callTy call_int1 (by rfl) T.g_int (by decide +kernel) (pa_cons (pe_ix ix_list (pe_ix ix_list (pv 0) pe_int (fun _ _ => rfl)) (pe_op op_mod (pv 2) (pe_callB call_lenS (by rfl) T.g_len (by decide +kernel) (pa_cons (pe_ix ix_list (pv 0) pe_int (fun _ _ => rfl)) pa_nil))) (fun _ _ => rfl)) pa_nil)))
      (pss_cons (ps_asg (pe_op op_add (pv 2) pe_int) (pg_sub (pv 0) pe_int set_list))
      (pss_cons (ps_if (pw_or (pt_cmpR op_lt (pv 3) (pe_op op_pow pe_int pe_int) (nomark _)) (pw_or1 (pt_cmpR op_ge (pv 2) (pe_callB call_lenS (by rfl) T.g_len (by decide +kernel) (pa_cons (pe_ix ix_list (pv 0) pe_int (fun _ _ => rfl)) pa_nil)) (nomark _)))).pt (pss_cons (ps_set (i := 4) sc_law_draw.nd rfl (Or.inl rfl) (pe_op op_mod (pe_callTy call_int1 (by rfl) T.g_int (by decide +kernel) (pa_cons (pe_op op_add (pe_op op_add (pe_op op_mul (pv 3) pe_int) (pe_op op_mul (pe_op op_add (pv 2) pe_int) pe_int)) pe_int) pa_nil)) pe_int))
      (pss_cons (ps_set (i := 4) sc_law_draw.nd rfl (Or.inl rfl) (pe_op op_mod (pe_callTy call_int1 (by rfl) T.g_int (by decide +kernel) (pa_cons (pe_op op_add (pe_op op_add (pe_op op_mul (pe_op op_mul (pv 4) (pv 4)) pe_int) (pe_op op_mul (pv 2) pe_int)) pe_int) pa_nil)) pe_int))
      (pss_one (ps_ret (pe_op op_mod (pe_callTy call_int1 (by rfl) T.g_int (by decide +kernel) (pa_cons (pe_op op_fdivW (pv 4) pe_int) pa_nil)) (pv 1)))))) pss_nil)
      (pss_cons (ps_asg (pv 3) (pg_sub (pv 0) pe_int set_list))
      (pss_one (ps_asg pe_int (pg_sub (pv 0) pe_int set_list)))))))) pss_nil)
      (pss_cons (ps_set (i := 5) sc_law_draw.nd rfl (Or.inl rfl) (pe_op op_mod (pe_callTy call_int1 (by rfl) T.g_int (by decide +kernel) (pa_cons (pe_ix ix_list (pv 0) pe_int (fun _ _ => rfl)) pa_nil)) (pv 1)))
      (pss_cons (ps_asg (pe_op op_fdivW (pe_ix ix_list (pv 0) pe_int (fun _ _ => rfl)) (pv 1)) (pg_sub (pv 0) pe_int set_list))
      (pss_cons (ps_asg (pe_op op_sub (pe_ix ix_list (pv 0) pe_int (fun _ _ => rfl)) pe_int) (pg_sub (pv 0) pe_int set_list))
      (pss_cons (ps_if (pt_cmpR op_eq (pe_ix ix_list (pv 0) pe_int (fun _ _ => rfl)) pe_int (nomark _)) (pss_one (ps_asg pe_int (pg_sub (pv 0) pe_int set_list))) pss_nil)
      (pss_one (ps_ret (pv 5)))))))), ?_⟩
    walk_at "sx"
    refine s_if (fun h1 => ?_) fun h1 => ?_
    · walk_at "sx"
      have e1 : ∀ {o : HO}, H c = some o → c ≠ s := fun _ => nc
      have ec1 : (upd H s (.lst [.ref c, .int (v1 + 1), .int v2, .int v3])) c = some (.lst (cs.map V.int)) := by rw [upd_ne nc]; exact ec
      have ts0 : TSt H (upd H s (.lst [.ref c, .int (v1 + 1), .int v2, .int v3])) := ts1 TSt.refl e
      have kp0 : Kp (· = s) H (upd H s (.lst [.ref c, .int (v1 + 1), .int v2, .int v3])) := kp1 Kp.refl
      refine s_if (fun h2 => ?_) fun h2 => ?_
      · walk_at "sx"
        exact fin (v1 + 1) v2 v3 _ _ upd_same kp0 ts0
      · walk_at "sx"
        refine s_if (fun h3 => ?_) fun h3 => ?_
        · walk_at "sx"
          exact fin (v1 + 1) v2 v3 _ _ upd_same kp0 ts0
        · walk_at "sx"
          have ts2 : ∀ {G : Hp} {o : HO} {xs : List V}, TSt H (upd G s (.lst xs)) → TSt H (upd (upd G s (.lst xs)) s o) := fun h => h.mut upd_same trivial
          refine s_if (fun h4 => ?_) fun h4 => ?_
          · walk_at "sx"
            exact fin _ _ _ _ _ upd_same (kp1 (kp1 (kp1 (kp1 (kp1 (kp1 Kp.refl)))))) (ts2 (ts2 (ts2 (ts2 (ts2 ts0)))))
          · walk_at "sx"
            exact fin _ _ _ _ _ upd_same (kp1 (kp1 (kp1 (kp1 (kp1 Kp.refl))))) (ts2 (ts2 (ts2 (ts2 ts0))))
    · walk_at "sx"
      have ts2 : ∀ {G : Hp} {o : HO} {xs : List V}, TSt H (upd G s (.lst xs)) → TSt H (upd (upd G s (.lst xs)) s o) := fun h => h.mut upd_same trivial
      refine s_if (fun h4 => ?_) fun h4 => ?_
      · walk_at "sx"
        exact fin _ _ _ _ _ upd_same (kp1 (kp1 (kp1 Kp.refl))) (ts2 (ts2 (ts1 TSt.refl e)))
      · walk_at "sx"
        exact fin _ _ _ _ _ upd_same (kp1 (kp1 Kp.refl)) (ts2 (ts1 TSt.refl e))


/-! ### parts -/
def TrsV (K : PySem.W.Frag) (H : Hp) (vs : List V) (fs : List Fo) : Prop := Paired (fun v f => TreeV K H v f) vs fs
theorem TrsV.ts {H H' : Hp} (t : TSt H H') {vs : List V} {fs : List Fo} (h : TrsV K H vs fs) : TrsV K H' vs fs := Paired.mapP h fun _ _ q => ForV.ts t q
theorem ForV.split {H : Hp} : ∀ {f : Fo} {vs : List V}, ForV K H vs f → TrsV K H vs f.split
  | .nil, _, h => by rw [show _ = [] from h]; exact .nil
  | .leaf t s, _, ⟨p, r, e, q, h⟩ => by rw [e]; exact .cons ⟨p, [], rfl, q, rfl⟩ (ForV.split h)
  | .node n k s, _, ⟨p, q, ks, r, e, q1, q2, h1, h2⟩ => by rw [e]; exact .cons ⟨p, q, ks, [], rfl, q1, q2, h1, rfl⟩ (ForV.split h2)
def sumP (fs : List Fo) : Nat := (fs.map Fo.parts).sum
theorem sumP_app (a b : List Fo) : sumP (a ++ b) = sumP a + sumP b := by unfold sumP; rw [List.map_append, List.sum_append]
theorem sumP_split : ∀ k : Fo, sumP k.split = k.parts
  | .nil => rfl
  | .leaf t s => by
    have := sumP_split s
    simp only [sumP, Fo.split, List.map_cons, List.sum_cons, Fo.parts] at this ⊢; omega
  | .node r k s => by
    have := sumP_split s
    simp only [sumP, Fo.split, List.map_cons, List.sum_cons, Fo.parts] at this ⊢; omega
theorem tree_pos {H : Hp} {v : V} {f : Fo} (h : TreeV K H v f) : 1 ≤ f.parts := by
  cases f with
  | nil => cases h
  | leaf => simp only [Fo.parts]; omega
  | node => simp only [Fo.parts]; omega
theorem trs_len {H : Hp} {vs : List V} {fs : List Fo} (h : TrsV K H vs fs) : vs.length ≤ sumP fs := by
  induction h with
  | nil => exact Nat.le_refl _
  | @cons v f vs fs r _ ih =>
    have := tree_pos r
    have e : sumP (f :: fs) = f.parts + sumP fs := by simp [sumP]
    rw [e, List.length_cons]; omega
theorem take_snoc' {α : Type} {l : List α} {i : Nat} {a : α} (h : l[i]? = some a) : l.take i ++ [a] = l.take (i + 1) := by rw [List.take_add_one, h]; rfl
def sp_law_parts (T : Ev K mg) : Sp := fun vs H Q _ => ∃ (v : V) (f : Fo), vs = [v] ∧ TreeV K H v f ∧ f.parts ≤ 9000 ∧ ∀ q out H', H' q = some (.lst out) → TrsV K H' out f.postF → Same H H' → Q (.ref q) H'
theorem ok_law_parts (T : Ev K mg) : FnOk P w K mg base CX0 1 T.a_law_parts T.d_law_parts ["tree"] (sp_law_parts T) := by
  refine T.F_law_parts.ok sc_law_parts (fun vs H Q E h => ?_) (fun cdv A outer s H vs Q E hr h => ?_)
  · obtain ⟨_, _, rfl, _⟩ := h; rfl
  · obtain ⟨v, f, rfl, tv, small, k⟩ := h
    refine ⟨_, (pss_cons (ps_set (i := 1) sc_law_parts.nd rfl (Or.inl rfl) (pe_lst pa_nil))
      (pss_cons (ps_set (i := 2) sc_law_parts.nd rfl (Or.inl rfl) (pe_lst (pa_cons (pv 0) pa_nil)))
      (pss_cons (ps_for PassesOwn.never rfl (pi_range1 rfl T.g_range (pa_cons pe_int pa_nil)) (pg_name (i := 3) sc_law_parts.nd rfl (Or.inl rfl))
      (pss_cons (ps_if (pt_not (pt_tru (pv 2))) (pss_one ps_break) pss_nil)
      (pss_cons (ps_set (i := 4) sc_law_parts.nd rfl (Or.inl rfl) (pe_bm0 PySem.F.plainAttrs_list PySem.F.slot_list_pop PySem.F.type_list_pop mt_pop (pv 2)))
      (pss_cons (ps_expr (pe_bm PySem.F.plainAttrs_list PySem.F.slot_list_insert PySem.F.type_list_insert mt_insert (pv 1) (pa_cons pe_int (pa_cons (pv 4) pa_nil))))
      (pss_one (ps_if (pt_cmpR op_eq (pe_ix ix_tup (pv 4) pe_int (fun _ _ => rfl)) pe_str (nomark _)) (pss_one (ps_for PassesOwn.never rfl (pi_tup (pe_ix ix_tup (pv 4) (pe_un un_neg pe_int) (fun _ _ => rfl))) (pg_name (i := 5) sc_law_parts.nd rfl (Or.inl rfl))
      (pss_one (ps_expr (pe_bm PySem.F.plainAttrs_list PySem.F.slot_list_append PySem.F.type_list_append mt_append (pv 2) (pa_cons (pv 5) pa_nil)))))) pss_nil))))))
      (pss_one (ps_ret (pv 1)))))), ?_⟩
    walk_at "sx"
    refine s_newL (by show 0 ≤ sizeLine; decide) fun lo nlo => ?_
    walk_at "sx"
    refine s_newL (by show 1 ≤ sizeLine; decide) fun ll nll => ?_
    obtain ⟨dl, nll0⟩ := un nll
    walk_at "sx"
    have sm0 : Same H (upd (upd H lo (.lst [])) ll (.lst [v])) := sU (sU (Same.refl H) nlo) nll
    refine f_range (n := 9999) (fun i σ H' => ∃ (v3 v4 v5 : Option V) (lot out : List V) (fs gs : List Fo), σ = [some v, some (.ref lo), some (.ref ll), v3, v4, v5] ∧ H' lo = some (.lst out) ∧ H' ll = some (.lst lot) ∧ TrsV K H' lot fs ∧ TrsV K H' out gs ∧ fs.flatMap Fo.postF ++ gs = f.postF ∧ out.length = i ∧ out.length + sumP fs = f.parts ∧ Same H H') ⟨none, none, none, [v], [], [f], [], rfl, by rw [upd_ne dl.symm]; exact upd_same, upd_same, .cons (ForV.ts (Same.ts sm0) tv) .nil, .nil, by simp, rfl, by simp [sumP], sm0⟩ ?_ ?_
    · rintro i σ H' hi ⟨v3, v4, v5, lot, out, fs, gs, rfl, elo, ell, tl, to, epost, eout, esum, sm⟩
      walk_at "sx"
      refine ⟨_, .inl ⟨_, SqL.of ell, rfl⟩, ?_⟩
      have len := trs_len tl
      have len2 := Paired.length tl
      by_cases hemp : lot = []
      · subst hemp
        refine s_T rfl ?_
        walk_at "sx"
        cases tl
        rw [List.flatMap_nil, List.nil_append] at epost
        subst epost
        exact k lo out H' elo to sm
      refine s_F (by cases lot with | nil => exact absurd rfl hemp | cons => rfl) ?_
      obtain ⟨fs0, g, rfl⟩ : ∃ fs0 g, fs = fs0 ++ [g] := ⟨fs.dropLast, fs.getLast (by rintro rfl; cases tl; exact hemp rfl), (List.dropLast_concat_getLast _).symm⟩
      obtain ⟨lot0, x, rfl, tl0, tx⟩ := pd_snoc tl
      have nlo_ll : lo ≠ ll := dl.symm
      walk_at "sx"
      have ts1 : TSt H' (upd H' ll (.lst lot0)) := TSt.refl.mut ell trivial
      have ts2 : TSt H' (upd (upd H' ll (.lst lot0)) lo (.lst (x :: out))) := ts1.mut (o' := .lst out) (by walk_at "hp") trivial
      refine ⟨lo, out, 0, x, rfl, rfl, by walk_at "hp", Nat.lt_of_le_of_lt (m := 9999) (by omega) (by decide), by omega, by omega, ?_⟩
      rw [show out.take (0 : Int).toNat ++ [x] ++ out.drop (0 : Int).toNat = x :: out by simp]
      have sm2 : Same H (upd (upd H' ll (.lst lot0)) lo (.lst (x :: out))) := sM (sM sm nll0) nlo
      generalize hG : upd (upd H' ll (.lst lot0)) lo (.lst (x :: out)) = G at ts2 sm2
      have glo : G lo = some (.lst (x :: out)) := by rw [← hG]; exact upd_same
      have gll : G ll = some (.lst lot0) := by rw [← hG, upd_ne dl]; exact upd_same
      clear hG
      have tx' := ForV.ts ts2 tx
      have tl0' := TrsV.ts ts2 tl0
      have to' := TrsV.ts ts2 to
      rw [List.flatMap_append, sumP_app] at *
      cases g with
      | nil => cases tx
      | leaf t s =>
        obtain ⟨p, r, ep, qp, fv⟩ := tx'
        obtain ⟨rfl, rfl⟩ := List.cons.inj ep
        obtain rfl := fv.nil_of
        have p5 : atI [V.str "leaf", V.int t] 0 = some (.str "leaf") := rfl
        walk_at "sx"
        refine s_F (decide_eq_false leaf_ne) ?_
        walk_at "sx"
        refine ⟨_, _, _, lot0, _, fs0, .leaf t .nil :: gs, rfl, glo, gll, tl0', .cons ⟨p, [], rfl, qp, rfl⟩ to', ?_, by rw [List.length_cons, eout], ?_, sm2⟩
        · rw [← epost]; simp [Fo.postF]
        · rw [List.length_cons]
          have : sumP [Fo.leaf t .nil] = 1 := rfl
          omega
      | node n kf s =>
        obtain ⟨p, q, ks, r, ep, qp, qq, fk, fv⟩ := tx'
        obtain ⟨rfl, rfl⟩ := List.cons.inj ep
        obtain rfl := fv.nil_of
        have p5 : atI [V.str "node", V.int n, V.ref q] 0 = some (.str "node") := rfl
        have p6 : atI [V.str "node", V.int n, V.ref q] (-1) = some (.ref q) := rfl
        walk_at "sx"
        refine s_T (decide_eq_true rfl) ?_
        walk_at "sx"
        have ek : sumP [Fo.node n kf .nil] = kf.parts + 1 := by simp [sumP, Fo.parts]
        have klen := fk.len
        have kspl := trs_len fk.split
        rw [sumP_split] at kspl
        refine f_tup (xs := ks) (fun j σ H' => ∃ v5 : Option V, σ = [some v, some (.ref lo), some (.ref ll), some (.int (0 + (i : Int))), some (.ref p), v5] ∧ H' ll = some (.lst (lot0 ++ ks.take j)) ∧ Kp (fun c => c = ll) G H' ∧ TSt G H') ⟨_, rfl, by rw [List.take_zero, List.append_nil]; exact gll, Kp.refl, TSt.refl⟩ (fun j σ H' _ h => by obtain ⟨_, _, _, _, ts⟩ := h; exact ts.sq qq) ?_ ?_
        · rintro j y σ H3 hj ⟨v5, rfl, e3, kp3, ts3⟩
          walk_at "sx"
          refine s_append (by walk_at "hp") ?_ ?_
          · rw [List.length_append, List.length_take]
            have l0 := trs_len tl0
            exact Nat.lt_of_le_of_lt (m := 20000) (by omega) (by decide)
          walk_at "sx"
          exact ⟨_, rfl, by rw [upd_same, List.append_assoc, take_snoc' hj], Kp.mut (W := fun c => c = ll) kp3 rfl, ts3.mut e3 trivial⟩
        · rintro σ H3 ⟨v5, rfl, e3, kp3, ts3⟩
          rw [List.take_length] at e3
          walk_at "sx"
          refine ⟨_, _, _, _, _, fs0 ++ kf.split, .node n kf .nil :: gs, rfl, kp3 _ _ glo nlo_ll, e3, pd_app (TrsV.ts ts3 tl0') (TrsV.ts ts3 fk.split), TrsV.ts ts3 (.cons ⟨p, q, ks, [], rfl, qp, qq, fk, rfl⟩ to'), ?_, by rw [List.length_cons, eout], ?_, same_kp sm2 kp3 fun c z => by rw [z]; exact nll0⟩
          · rw [← epost, List.flatMap_append, Fo.post_split]; simp [Fo.postF]
          · rw [List.length_cons, sumP_app, sumP_split]; omega
    · rintro σ H' ⟨v3, v4, v5, lot, out, fs, gs, rfl, elo, ell, tl, to, epost, eout, esum, sm⟩
      omega


/-! ### pure values -/
inductive PureV (K : PySem.W.Frag) (H : Hp) : List V → Nat → Prop
  | nil : PureV K H [] 0
  | int {i : Int} {r : List V} {n : Nat} : PureV K H r n → PureV K H (.int i :: r) (n + 1)
  | tup {p : Addr} {xs r : List V} {n m : Nat} : SqT K H p xs → PureV K H xs n → PureV K H r m → PureV K H (.ref p :: r) (n + m + 1)
theorem PureV.ts {H H' : Hp} (t : TSt H H') {vs : List V} {n : Nat} (h : PureV K H vs n) : PureV K H' vs n := by
  induction h with
  | nil => exact .nil
  | int _ ih => exact .int ih
  | tup q _ _ ih1 ih2 => exact .tup (t.sq q) ih1 ih2
theorem PureV.app {H : Hp} {xs ys : List V} {n m : Nat} (h : PureV K H xs n) (h2 : PureV K H ys m) : PureV K H (xs ++ ys) (n + m) := by
  induction h with
  | nil => rw [List.nil_append, Nat.zero_add]; exact h2
  | int _ ih => rw [List.cons_append, Nat.add_right_comm]; exact .int ih
  | @tup p xs r n k q a _ _ ih2 => rw [List.cons_append, show n + k + 1 + m = n + (k + m) + 1 by omega]; exact .tup q a ih2
theorem PureV.snoc {H : Hp} {v : V} : ∀ {xs : List V} {n : Nat}, PureV K H (xs ++ [v]) n → ∃ a b, PureV K H xs a ∧ PureV K H [v] b ∧ n = a + b
  | [], n, h => ⟨0, n, .nil, h, (Nat.zero_add n).symm⟩
  | x :: xs, n, h => by
    cases h with
    | int h =>
      obtain ⟨a, b, h1, h2, e⟩ := PureV.snoc h
      exact ⟨a + 1, b, .int h1, h2, by omega⟩
    | @tup p ys _ n m q hx h =>
      obtain ⟨a, b, h1, h2, e⟩ := PureV.snoc h
      exact ⟨n + a + 1, b, .tup q hx h1, h2, by omega⟩
theorem PureV.len {H : Hp} {vs : List V} {n : Nat} (h : PureV K H vs n) : vs.length ≤ n := by
  induction h with
  | nil => exact Nat.le_refl _
  | int _ ih => rw [List.length_cons]; omega
  | tup _ _ _ _ ih => rw [List.length_cons]; omega
theorem sqT_ty {H : Hp} {p : Addr} {xs : List V} (q : SqT K H p xs) : TyX K H (.ref p) (.type "tuple") := by
  rcases q with (e | ⟨o, e⟩) | ⟨o, _, _, e, c, _⟩
  · exact .base (.tup e)
  · exact .fTuple e
  · exact .kTuple e c
theorem s_isiT {H : Hp} {Q : VK} {p : Addr} {xs : List V} (q : SqT K H p xs) (h : Q (.bl true) H) : rIsi K [.ref p, .ty "tuple"] H Q := ⟨_, _, _, _, true, rfl, .ty _, sqT_ty q, kit_ty (by decide +kernel), h⟩
theorem s_isiI {H : Hp} {Q : VK} {i : Int} (h : Q (.bl false) H) : rIsi K [.int i, .ty "tuple"] H Q := ⟨_, _, _, _, false, rfl, .ty _, .base (.int i), kit_ty (by decide +kernel), h⟩
theorem s_isiB {H : Hp} {Q : VK} {i : Int} (h : Q (.bl false) H) : rIsi K [.int i, .ty "bool"] H Q := ⟨_, _, _, _, false, rfl, .ty _, .base (.int i), kit_ty (by decide +kernel), h⟩
theorem s_isiN {H : Hp} {Q : VK} {i : Int} (h : Q (.bl true) H) : rIsi K [.int i, .ty "int"] H Q := ⟨_, _, _, _, true, rfl, .ty _, .base (.int i), kit_ty (by decide +kernel), h⟩
theorem s_isi2 {H : Hp} {Q : VK} {i : Int} {tp : Addr} (e : H tp = some (.tup [.ty "int", .ty "str"])) (h : Q (.bl true) H) : rIsiT K [.int i, .ref tp] H Q :=
  ⟨_, tp, _, _, [.type "int", .type "str"], true, rfl, e, .cons (.ty _) (.cons (.ty _) .nil), .base (.int i), kitAny_cons (b := true) (kit_ty (by decide +kernel)) (fun z => nomatch z) fun _ => rfl, h⟩
def sp_law_pure (T : Ev K mg) : Sp := fun vs H Q _ => ∃ (v : V) (n : Nat), vs = [v] ∧ PureV K H [v] n ∧ n ≤ 9999 ∧ ∀ H', Same H H' → Q (.bl true) H'
theorem ok_law_pure (T : Ev K mg) : FnOk P w K mg base CX0 1 T.a_law_pure T.d_law_pure ["told"] (sp_law_pure T) := by
  refine T.F_law_pure.ok sc_law_pure (fun vs H Q E h => ?_) (fun cdv A outer s H vs Q E hr h => ?_)
  · obtain ⟨_, _, rfl, _⟩ := h; rfl
  · obtain ⟨v, n, rfl, hv, small, k⟩ := h
    refine ⟨_, (pss_cons (ps_set (i := 1) sc_law_pure.nd rfl (Or.inl rfl) (pe_lst (pa_cons (pv 0) pa_nil)))
      (pss_cons (ps_for PassesOwn.never rfl (pi_range1 rfl T.g_range (pa_cons pe_int pa_nil)) (pg_name (i := 2) sc_law_pure.nd rfl (Or.inl rfl))
      (pss_cons (ps_if (pt_not (pt_tru (pv 1))) (pss_one (ps_ret pe_bl)) pss_nil)
      (pss_cons (ps_set (i := 3) sc_law_pure.nd rfl (Or.inl rfl) (pe_bm0 PySem.F.plainAttrs_list PySem.F.slot_list_pop PySem.F.type_list_pop mt_pop (pv 1)))
      (pss_one (ps_if (pt_val (pe_callB call_isi (by rfl) T.g_isinstance (by decide +kernel) (pa_cons (pv 3) (pa_cons (pe_bltn (v := .ty "tuple") (by rfl) T.g_tuple (by decide +kernel) rfl) pa_nil)))) (pss_one (ps_for PassesOwn.never rfl (pi_tup (pv 3)) (pg_name (i := 4) sc_law_pure.nd rfl (Or.inl rfl))
      (pss_one (ps_expr (pe_bm PySem.F.plainAttrs_list PySem.F.slot_list_append PySem.F.type_list_append mt_append (pv 1) (pa_cons (pv 4) pa_nil)))))) (pss_one (ps_if (pw_or (pt_val (pe_callB call_isi (by rfl) T.g_isinstance (by decide +kernel) (pa_cons (pv 3) (pa_cons (pe_bltn (v := .ty "bool") (by rfl) T.g_bool (by decide +kernel) rfl) pa_nil)))) (pw_or1 (pt_not (pw_or (pt_cmpR op_isN (pv 3) pe_non (nomark _)) (pw_or1 (pt_val (pe_callB call_isiT (by rfl) T.g_isinstance (by decide +kernel) (pa_cons (pv 3) (pa_cons (pe_tup (pa_cons (pe_bltn (v := .ty "int") (by rfl) T.g_int (by decide +kernel) rfl) (pa_cons (pe_bltn (v := .ty "str") (by rfl) T.g_str (by decide +kernel) rfl) pa_nil))) pa_nil)))))).pt))).pt (pss_one (ps_ret pe_bl)) pss_nil)))))))
      (pss_one (ps_ret pe_bl)))), ?_⟩
    walk_at "sx"
    refine s_newL (by show 1 ≤ sizeLine; decide) fun ll nll => ?_
    walk_at "sx"
    refine f_range (n := 99999) (fun i σ H' => ∃ (v2 v3 v4 : Option V) (lot : List V) (m : Nat), σ = [some v, some (.ref ll), v2, v3, v4] ∧ H' ll = some (.lst lot) ∧ PureV K H' lot m ∧ m + i = n ∧ Same H H') ⟨none, none, none, [v], n, rfl, upd_same, hv.ts (TSt.refl.upd' nll), rfl, sU (Same.refl H) nll⟩ ?_ ?_
    · rintro i σ H' hi ⟨v2, v3, v4, lot, m, rfl, ell, pl, em, sm⟩
      have len := pl.len
      walk_at "sx"
      refine ⟨_, .inl ⟨_, SqL.of ell, rfl⟩, ?_⟩
      by_cases hemp : lot = []
      · subst hemp
        refine s_T rfl ?_
        walk_at "sx"
        exact k H' sm
      refine s_F (by cases lot with | nil => exact absurd rfl hemp | cons => rfl) ?_
      obtain ⟨lot0, x, rfl⟩ : ∃ l x, lot = l ++ [x] := ⟨lot.dropLast, lot.getLast hemp, (List.dropLast_concat_getLast _).symm⟩
      obtain ⟨a, b, p0, px, rfl⟩ := pl.snoc
      walk_at "sx"
      have ts1 : TSt H' (upd H' ll (.lst lot0)) := TSt.refl.mut ell trivial
      have sm1 : Same H (upd H' ll (.lst lot0)) := sM sm nll
      have p0' := p0.ts ts1
      have px' := px.ts ts1
      have l0 := p0.len
      cases px' with
      | @int i _ n h =>
        cases h
        refine s_isiI ?_
        walk_at "sx"
        refine s_isiB ?_
        walk_at "sx"
        refine ⟨rfl, ?_⟩
        walk_at "sx"
        refine s_F (decide_eq_false fun z => nomatch z) ?_
        walk_at "sx"
        refine s_newT (by show 2 ≤ sizeLine; decide) fun tp ntp => ?_
        have nlt : ll ≠ tp := ne_of_none (o := .lst lot0) upd_same ntp
        walk_at "sx"
        refine s_isi2 upd_same ?_
        walk_at "sx"
        refine s_F rfl ?_
        walk_at "sx"
        exact ⟨_, _, _, lot0, a, rfl, by rw [upd_ne nlt]; exact upd_same, p0'.ts (TSt.refl.upd' ntp), by omega, sU sm1 ntp⟩
      | @tup p xs _ n m q hx h =>
        cases h
        refine s_isiT q ?_
        walk_at "sx"
        refine f_tup (xs := xs) (fun j σ H3 => ∃ v4 : Option V, σ = [some v, some (.ref ll), some (.int (0 + (i : Int))), some (.ref p), v4] ∧ H3 ll = some (.lst (lot0 ++ xs.take j)) ∧ Kp (fun c => c = ll) (upd H' ll (.lst lot0)) H3 ∧ TSt (upd H' ll (.lst lot0)) H3) ⟨_, rfl, by rw [List.take_zero, List.append_nil]; exact upd_same, Kp.refl, TSt.refl⟩ (fun j σ H' _ h => by obtain ⟨_, _, _, _, ts⟩ := h; exact ts.sq q) ?_ ?_
        · rintro j y σ H3 hj ⟨v4, rfl, e3, kp3, ts3⟩
          have lx := hx.len
          walk_at "sx"
          refine s_append (by walk_at "hp") ?_ ?_
          · rw [List.length_append, List.length_take]
            exact Nat.lt_of_le_of_lt (m := 20000) (by omega) (by decide)
          walk_at "sx"
          exact ⟨_, rfl, by rw [upd_same, List.append_assoc, take_snoc' hj], Kp.mut (W := fun c => c = ll) kp3 rfl, ts3.mut e3 trivial⟩
        · rintro σ H3 ⟨v4, rfl, e3, kp3, ts3⟩
          rw [List.take_length] at e3
          walk_at "sx"
          exact ⟨_, _, _, _, _, rfl, e3, (p0'.ts ts3).app (hx.ts ts3), by omega, same_kp sm1 kp3 fun c z => by rw [z]; exact nll⟩
    · rintro σ H' ⟨v2, v3, v4, lot, m, rfl, ell, pl, em, sm⟩
      omega
/-! ### sizes -/
theorem trs_at {H : Hp} {v : V} {f : Fo} (h : TreeV K H v f) : ∃ (p : Addr), v = .ref p ∧ ((∃ t, f = .leaf t .nil ∧ SqT K H p [.str "leaf", .int t]) ∨ ∃ r k q ks, f = .node r k .nil ∧ SqT K H p [.str "node", .int r, .ref q] ∧ SqT K H q ks ∧ ForV K H ks k) := by
  cases f with
  | nil => cases h
  | leaf t s =>
    obtain ⟨p, r, ep, qp, fv⟩ := h
    obtain ⟨rfl, rfl⟩ := List.cons.inj ep
    obtain rfl := fv.nil_of
    exact ⟨p, rfl, .inl ⟨t, rfl, qp⟩⟩
  | node n k s =>
    obtain ⟨p, q, ks, r, ep, q1, q2, f1, f2⟩ := h
    obtain ⟨rfl, rfl⟩ := List.cons.inj ep
    obtain rfl := f2.nil_of
    exact ⟨p, rfl, .inr ⟨n, k, q, ks, rfl, q1, q2, f1⟩⟩
def sp_law_sizes (T : Ev K mg) : Sp := fun vs H Q _ => ∃ (v : V) (f : Fo), vs = [v] ∧ TreeV K H v f ∧ f.parts ≤ 9000 ∧ ∀ q H', H' q = some (.lst (f.szs.map V.int)) → Same H H' → Q (.ref q) H'
theorem filt_take {α : Type} {l : List α} {i : Nat} {a : α} (g : α → Bool) (h : l[i]? = some a) : (l.take (i + 1)).filter g = (l.take i).filter g ++ (if g a = true then [a] else []) := by
  rw [List.take_add_one, h, List.filter_append]
  congr 1
  show List.filter g [a] = _
  cases e : g a with
  | true => rw [List.filter_cons_of_pos e, if_pos rfl]; rfl
  | false => rw [List.filter_cons_of_neg (by rw [e]; exact Bool.noConfusion), if_neg Bool.noConfusion]; rfl
theorem post_single : ∀ (f g : Fo), g ∈ f.postF → (∃ t, g = .leaf t .nil) ∨ ∃ r k, g = .node r k .nil
  | .nil, _, h => nomatch h
  | .leaf t s, g, h => by
    simp only [Fo.postF, List.mem_cons] at h
    rcases h with rfl | h
    · exact .inl ⟨t, rfl⟩
    · exact post_single s g h
  | .node r k s, g, h => by
    simp only [Fo.postF, List.mem_append, List.mem_cons] at h
    rcases h with h | rfl | h
    · exact post_single k g h
    · exact .inr ⟨r, k, rfl⟩
    · exact post_single s g h
theorem ok_law_sizes (T : Ev K mg) : FnOk P w K mg base CX0 2 T.a_law_sizes T.d_law_sizes ["tree"] (sp_law_sizes T) := by
  refine T.F_law_sizes.ok sc_law_sizes (fun vs H Q E h => ?_) (fun cdv A outer s H vs Q E hr h => ?_)
  · obtain ⟨_, _, rfl, _⟩ := h; rfl
  · obtain ⟨v, f, rfl, tv, small, k⟩ := h
    refine ⟨_, (pss_one (ps_ret (pe_lc (own := [("one", 1)]) (g := (gName 1)) (tt := (tTest (tOp _ (tOp (rIxT K) (tVar 1) _) _))) (te := (tCB (rLenS K) (tCons (tLc (iList K (tCall _ _ _ (tCons (tVar 1) tNil))) (gName 2) (tTest (tOp _ (tOp (rIxT K) (tVar 2) _) _)) (tVar 2) [2]) tNil))) rfl sc_law_sizes.nd (pi_list (pe_call (ok_law_parts T) hr (by rfl) T.m_law_parts T.F_law_parts.kp T.b_law_parts .nil pass0 (pa_cons (pv 0) pa_nil))) (blkOk_by (N := N_law_sizes) (sc := defScope s_law_sizes) (by decide +kernel)) (fun _ _ _ _ _ => (pg_name (i := 1) sc_law_sizes.nd rfl (Or.inl rfl))) (fun _ _ _ _ _ => pts_one (pt_cmpR op_eq (pe_ix ix_tup (pv 1) pe_int (fun _ _ => rfl)) pe_str (nomark _))) (fun _ _ _ _ _ => (pe_callB call_lenS (by rfl) T.g_len (by decide +kernel) (pa_cons (pe_lc (own := [("part", 2)]) (g := (gName 2)) (tt := (tTest (tOp _ (tOp (rIxT K) (tVar 2) _) _))) (te := (tVar 2)) (by rfl) sc_law_sizes.nd (pi_list (pe_call (ok_law_parts T) hr (by rfl) T.m_law_parts T.F_law_parts.kp T.b_law_parts .nil pass0 (pa_cons (pv 1) pa_nil))) (by exact blkOk_by (by kernel_rfl)) (fun _ _ _ _ _ => (pg_name (i := 2) sc_law_sizes.nd rfl (Or.inl rfl))) (fun _ _ _ _ _ => pts_one (pt_cmpR op_eq (pe_ix ix_tup (pv 2) pe_int (fun _ _ => rfl)) pe_str (nomark _))) (fun _ _ _ _ _ => (pv 2))) pa_nil)))))), ?_⟩
    walk_at "sx"
    refine ⟨v, f, rfl, tv, small, fun lp out H1 elp tout sm1 => ?_⟩
    walk_at "sx"
    intro D nD
    have lenO : out.length ≤ 9000 := by rw [Paired.length tout, Fo.post_len]; exact small
    refine c_list (SqL.of elp) nD (fun i acc H' => acc = (((f.postF.take i).filter Fo.isNode).map fun g => (g.nodes.length : Int)).map V.int) rfl ?_ ?_
    · rintro i x H2 acc hx sm2 eD rfl
      obtain ⟨g, hg, tg⟩ := pd_get tout hx
      have tg2 := ForV.ts (Same.ts sm2) tg
      have hlen : (((((f.postF.take i).filter Fo.isNode).map fun g => (g.nodes.length : Int)).map V.int)).length < sizeLine := by
        rw [List.length_map, List.length_map]
        refine Nat.lt_of_le_of_lt (List.length_filter_le ..) ?_
        rw [List.length_take]
        have := (List.getElem?_eq_some_iff.mp hg).1
        rw [Fo.post_len] at this ⊢
        exact Nat.lt_of_le_of_lt (m := 9000) (by omega) (by decide)
      have gp := Fo.post_parts f g (List.mem_of_getElem? hg)
      obtain ⟨p, rfl, ⟨t, rfl, qp⟩ | ⟨r, kf, q, ks, rfl, qp, qq, fk⟩⟩ := trs_at tg2
      · have p5 : atI [V.str "leaf", V.int t] 0 = some (.str "leaf") := rfl
        walk_at "sx"
        refine s_F (decide_eq_false leaf_ne) ⟨sm2, _, eD, ?_⟩
        rw [filt_take _ hg, if_neg (fun z => Bool.noConfusion z), List.append_nil]
      · have p5 : atI [V.str "node", V.int r, V.ref q] 0 = some (.str "node") := rfl
        walk_at "sx"
        refine s_T (decide_eq_true rfl) ?_
        walk_at "sx"
        refine ⟨.ref p, .node r kf .nil, rfl, tg2, by omega, fun l2 out2 H3 el2 tout2 sm3 => ?_⟩
        walk_at "sx"
        intro D2 nD2
        have eD3 := sm3 _ _ eD
        have nDD : D ≠ D2 := ne_of_none eD3 nD2
        refine c_list (SqL.of el2) nD2 (fun j acc H' => acc.length = (((Fo.node r kf .nil).postF.take j).filter Fo.isNode).length) rfl ?_ ?_
        · rintro j y H4 acc2 hy sm4 eD2 hacc
          obtain ⟨g2, hg2, tg3⟩ := pd_get tout2 hy
          have tg4 := ForV.ts (Same.ts sm4) tg3
          obtain ⟨p2, rfl, ⟨t2, rfl, qp2⟩ | ⟨r2, kf2, q2, ks2, rfl, qp2, qq2, fk2⟩⟩ := trs_at tg4
          · have p6 : atI [V.str "leaf", V.int t2] 0 = some (.str "leaf") := rfl
            walk_at "sx"
            refine s_F (decide_eq_false leaf_ne) ⟨sm4, _, eD2, ?_⟩
            rw [filt_take _ hg2, if_neg (fun z => Bool.noConfusion z), List.append_nil, hacc]
          · have p6 : atI [V.str "node", V.int r2, V.ref q2] 0 = some (.str "node") := rfl
            walk_at "sx"
            refine s_T (decide_eq_true rfl) ?_
            walk_at "sx"
            refine s_acc eD2 ?_ ⟨sM sm4 nD2, _, upd_same, ?_⟩
            · rw [hacc]
              refine Nat.lt_of_le_of_lt (List.length_filter_le ..) ?_
              rw [List.length_take, Fo.post_len]
              exact Nat.lt_of_le_of_lt (m := 9000) (by omega) (by decide)
            · rw [filt_take _ hg2, if_pos (show (Fo.node r2 kf2 .nil).isNode = true from rfl), List.length_append, List.length_append, hacc]; rfl
        · rintro H4 acc2 sm4 eD2 hacc
          rw [Paired.length tout2, List.take_length] at hacc
          walk_at "sx"
          refine s_acc (sm4 _ _ eD3) hlen ⟨sM (sm2.trans (sm3.trans sm4)) nD, _, upd_same, ?_⟩
          rw [filt_take _ hg, if_pos (show (Fo.node r kf .nil).isNode = true from rfl), List.map_append, List.map_append, hacc]
          rfl
    · rintro H2 acc sm2 eD rfl
      rw [Paired.length tout, List.take_length] at eD
      have : f.postF.filter Fo.isNode = f.nodes := rfl
      rw [this, Fo.nodes_szs] at eD
      walk_at "sx"
      exact k D H2 eD (sm1.trans sm2)
/-! ### shape -/
def sp_law_shape_of (T : Ev K mg) : Sp := fun vs H Q _ => ∃ (v : V) (f : Fo), vs = [v] ∧ TreeV K H v f ∧ f.parts ≤ 9000 ∧ ∀ q l1 l2 H', H' q = some (.tup [.ref l1, .ref l2]) → H' l1 = some (.lst (f.rules.map V.int)) → H' l2 = some (.lst (f.szs.map V.int)) → Same H H' → Q (.ref q) H'
theorem ok_law_shape_of (T : Ev K mg) : FnOk P w K mg base CX0 3 T.a_law_shape_of T.d_law_shape_of ["tree"] (sp_law_shape_of T) := by
  refine T.F_law_shape_of.ok sc_law_shape_of (fun vs H Q E h => ?_) (fun cdv A outer s H vs Q E hr h => ?_)
  · obtain ⟨_, _, rfl, _⟩ := h; rfl
  · obtain ⟨v, f, rfl, tv, small, k⟩ := h
    refine ⟨_, (pss_cons (ps_setLc (i := 1) (own := [("part", 2)]) (g := (gName 2)) (tt := (tTest (tOp _ (tOp (rIxT K) (tVar 2) _) _))) (te := (tVar 2)) rfl sc_law_shape_of.nd rfl rfl (sw_true rfl rfl rfl (by decide +kernel)) (pi_list (pe_call (ok_law_parts T) (hr.mono (by decide)) (by rfl) T.m_law_parts T.F_law_parts.kp T.b_law_parts .nil pass0 (pa_cons (pv 0) pa_nil))) (blkOk_by (N := N_law_shape_of) (sc := defScope s_law_shape_of) (by decide +kernel)) (fun _ _ _ _ _ => (pg_name (i := 2) sc_law_shape_of.nd rfl (Or.inl rfl))) (fun _ _ _ _ _ => pts_one (pt_cmpR op_eq (pe_ix ix_tup (pv 2) pe_int (fun _ _ => rfl)) pe_str (nomark _))) (fun _ _ _ _ _ => (pv 2)))
      (pss_one (ps_ret (pe_tup (pa_cons (pe_lc (own := [("node", 3)]) (g := (gName 3)) (tt := tYes) (te := (tOp (rIxT K) (tVar 3) _)) rfl sc_law_shape_of.nd (pi_list (pv 1)) (blkOk_by (N := N_law_shape_of) (sc := defScope s_law_shape_of) (by decide +kernel)) (fun _ _ _ _ _ => (pg_name (i := 3) sc_law_shape_of.nd rfl (Or.inl rfl))) (fun _ _ _ _ _ => pts_nil) (fun _ _ _ _ _ => (pe_ix ix_tup (pv 3) pe_int (fun _ _ => rfl)))) (pa_cons (pe_call (ok_law_sizes T) hr (by rfl) T.m_law_sizes T.F_law_sizes.kp T.b_law_sizes .nil pass0 (pa_cons (pv 0) pa_nil)) pa_nil)))))), ?_⟩
    walk_at "sx"
    refine ⟨v, f, rfl, tv, small, fun lp out H1 elp tout sm1 => ?_⟩
    walk_at "sx"
    intro D nD
    refine c_list (SqL.of elp) nD (fun i acc H' => TrsV K H' acc ((f.postF.take i).filter Fo.isNode)) .nil ?_ ?_
    · rintro i x H2 acc hx sm2 eD ta
      obtain ⟨g, hg, tg⟩ := pd_get tout hx
      have tg2 := ForV.ts (Same.ts sm2) tg
      obtain ⟨p, rfl, ⟨t, rfl, qp⟩ | ⟨r, kf, q, ks, rfl, qp, qq, fk⟩⟩ := trs_at tg2
      · have p5 : atI [V.str "leaf", V.int t] 0 = some (.str "leaf") := rfl
        walk_at "sx"
        refine s_F (decide_eq_false leaf_ne) ⟨sm2, _, eD, ?_⟩
        rw [filt_take _ hg, if_neg (fun z => Bool.noConfusion z), List.append_nil]
        exact ta
      · have p5 : atI [V.str "node", V.int r, V.ref q] 0 = some (.str "node") := rfl
        walk_at "sx"
        refine s_T (decide_eq_true rfl) ?_
        walk_at "sx"
        refine s_acc eD ?_ ⟨sM sm2 nD, _, upd_same, ?_⟩
        · rw [Paired.length ta]
          refine Nat.lt_of_le_of_lt (List.length_filter_le ..) ?_
          rw [List.length_take, Fo.post_len]
          exact Nat.lt_of_le_of_lt (m := 9000) (by omega) (by decide)
        · rw [filt_take _ hg, if_pos (show (Fo.node r kf .nil).isNode = true from rfl)]
          have ts2 : TSt H2 (upd H2 D (.lst (acc ++ [.ref p]))) := TSt.refl.mut eD trivial
          exact pd_app (ta.ts ts2) (.cons (ForV.ts ts2 tg2) .nil)
    · rintro H2 acc sm2 eD ta
      rw [Paired.length tout, List.take_length] at ta
      have ta : TrsV K H2 acc f.nodes := ta
      walk_at "sx"
      intro D2 nD2
      have lenA : acc.length ≤ 9000 := by
        rw [Paired.length ta]
        refine Nat.le_trans (List.length_filter_le ..) ?_
        rw [Fo.post_len]; exact small
      refine c_list (SqL.of eD) nD2 (fun i acc2 H' => acc2 = ((f.nodes.take i).map Fo.ruleOf).map V.int) rfl ?_ ?_
      · rintro i x H3 acc2 hx sm3 eD2 rfl
        obtain ⟨g, hg, tg⟩ := pd_get ta hx
        have tg3 := ForV.ts (Same.ts sm3) tg
        have gn : g.isNode = true := (List.mem_filter.mp (List.mem_of_getElem? hg)).2
        obtain ⟨p, rfl, ⟨t, rfl, qp⟩ | ⟨r, kf, q, ks, rfl, qp, qq, fk⟩⟩ := trs_at tg3
        · exact Bool.noConfusion gn
        · have p6 : atI [V.str "node", V.int r, V.ref q] 1 = some (.int r) := rfl
          walk_at "sx"
          refine s_acc eD2 ?_ ⟨sM sm3 nD2, _, upd_same, ?_⟩
          · rw [List.length_map, List.length_map, List.length_take]
            exact Nat.lt_of_le_of_lt (m := 9000) (by have := Paired.length ta; omega) (by decide)
          · rw [List.take_add_one, hg]; simp [Fo.ruleOf]
      · rintro H3 acc2 sm3 eD2 rfl
        rw [Paired.length ta, List.take_length, Fo.nodes_rules] at eD2
        walk_at "sx"
        refine ⟨v, f, rfl, ForV.ts (Same.ts (sm1.trans (sm2.trans sm3))) tv, small, fun lz H4 elz sm4 => ?_⟩
        walk_at "sx"
        refine s_newT (by show 2 ≤ sizeLine; decide) fun q nq => ?_
        have e2 := sm4 _ _ eD2
        walk_at "sx"
        exact k q D2 lz _ upd_same (by rw [upd_ne (ne_of_none e2 nq)]; exact e2) (by rw [upd_ne (ne_of_none elz nq)]; exact elz) (sU (sm1.trans (sm2.trans (sm3.trans sm4))) nq)


/-! ### the law's own count -/
def LysV (K : PySem.W.Frag) (H : Hp) (vs : List V) (L : List (List Pr)) : Prop := Paired (fun v l => ∃ c xs, v = .ref c ∧ SqT K H c xs ∧ PairsV K H xs l) vs L
theorem LysV.ts {H H' : Hp} (t : TSt H H') {vs : List V} {L : List (List Pr)} (h : LysV K H vs L) : LysV K H' vs L := Paired.mapP h fun _ _ ⟨c, xs, e, q, p⟩ => ⟨c, xs, e, t.sq q, p.ts t⟩
theorem rule_at {f : Fo} {k : Nat} (h : k < f.cnt) : atI (f.rules.map V.int) (k : Int) = some (.int (f.nr.rule k)) := atI_map V.int (NR.rule_get (A := f.nr) (by rw [Fo.nr_n]; exact h))
theorem size_at {f : Fo} (o : f.cnt ≤ 1000) {k : Nat} (h : k < f.cnt) : atI (f.szs.map V.int) (k : Int) = some (.int ((k : Int) - (f.nr.first k : Int) + 1)) := by
  have := Fo.szs_get f 0 k (f.nr.first k) (NR.first_get (Fo.nr_ok f o) (by rw [Fo.nr_n]; exact h))
  rw [Nat.zero_add] at this
  exact atI_map V.int this
theorem ite_val {b : Bool} {ta tb : TE} {σ : L2.St} {H : Hp} {Q : VK} {v : V} (h1 : b = true → ∀ Q' : VK, Q' v H → ta σ H Q') (h2 : b = false → ∀ Q' : VK, Q' v H → tb σ H Q') (h : Q v H) : if b = true then ta σ H Q else tb σ H Q := by
  cases b with
  | true => exact iteT (h1 rfl Q h)
  | false => exact iteF (h2 rfl Q h)


/-! ### the law's look at a laying -/
theorem pairs_pure {H : Hp} {xs : List V} {ps : List Pr} (h : PairsV K H xs ps) : PureV K H xs (3 * ps.length) := by
  induction h with
  | nil => exact .nil
  | @cons v p vs ps r _ ih =>
    obtain ⟨c, rfl, e⟩ := r
    rw [List.length_cons, show 3 * (ps.length + 1) = 2 + 3 * ps.length + 1 by omega]
    exact .tup (SqT.of e) (.int (.int .nil)) ih
def sp_law_is_laying (T : Ev K mg) : Sp := fun vs H Q _ => ∃ (v1 v2 : V) (f1 f2 : Fo) (t : Addr) (tv : List V) (ps : List Pr), vs = [v1, v2, .ref t, iV ps.length] ∧ TreeV K H v1 f1 ∧ TreeV K H v2 f2 ∧ f1.parts ≤ 1000 ∧ f2.parts ≤ 1000 ∧ H t = some (.tup tv) ∧ PairsV K H tv ps ∧ Lay f1.nr.nd f2.nr.nd 0 f1.cnt 0 f2.cnt ps ∧ ∀ H', Same H H' → Q (.bl true) H'
theorem ok_law_is_laying (T : Ev K mg) : FnOk P w K mg base CX0 4 T.a_law_is_laying T.d_law_is_laying ["one", "other", "told", "many"] (sp_law_is_laying T) := by
  refine T.F_law_is_laying.ok sc_law_is_laying (fun vs H Q E h => ?_) (fun cdv A outer s H vs Q E hr h => ?_)
  · obtain ⟨_, _, _, _, _, _, _, rfl, _⟩ := h; rfl
  · obtain ⟨v1, v2, f1, f2, t, tv, ps, rfl, tv1, tv2, z1, z2, et, pt, lay, k⟩ := h
    have c1 := Fo.cnt_le_parts f1
    have c2 := Fo.cnt_le_parts f2
    have lps := lay.le
    refine ⟨_, (pss_cons (ps_asg (pe_call (ok_law_shape_of T) hr (by rfl) T.m_law_shape_of T.F_law_shape_of.kp T.b_law_shape_of .nil pass0 (pa_cons (pv 0) pa_nil)) (pg_tup (by rfl) (pgs_cons (pg_name (i := 4) sc_law_is_laying.nd rfl (Or.inl rfl)) (pgs_cons (pg_name (i := 5) sc_law_is_laying.nd rfl (Or.inl rfl)) pgs_nil))))
      (pss_cons (ps_asg (pe_call (ok_law_shape_of T) hr (by rfl) T.m_law_shape_of T.F_law_shape_of.kp T.b_law_shape_of .nil pass0 (pa_cons (pv 1) pa_nil)) (pg_tup (by rfl) (pgs_cons (pg_name (i := 6) sc_law_is_laying.nd rfl (Or.inl rfl)) (pgs_cons (pg_name (i := 7) sc_law_is_laying.nd rfl (Or.inl rfl)) pgs_nil))))
      (pss_cons (ps_if (pw_or (pt_not (pt_val (pe_callB call_isi (by rfl) T.g_isinstance (by decide +kernel) (pa_cons (pv 2) (pa_cons (pe_bltn (v := .ty "tuple") (by rfl) T.g_tuple (by decide +kernel) rfl) pa_nil))))) (pw_or (pt_not (pt_val (pe_call (ok_law_pure T) (hr.mono (by decide)) (by rfl) T.m_law_pure T.F_law_pure.kp T.b_law_pure .nil pass0 (pa_cons (pv 2) pa_nil)))) (pw_or1 (pt_cmpR op_ne (pe_callB call_lenS (by rfl) T.g_len (by decide +kernel) (pa_cons (pv 2) pa_nil)) (pv 3) (nomark _))))).pt (pss_one (ps_ret pe_bl)) pss_nil)
      (pss_cons (ps_for PassesOwn.never rfl (pi_tup (pv 2)) (pg_name (i := 8) sc_law_is_laying.nd rfl (Or.inl rfl))
      (pss_cons (ps_if (pw_or (pt_not (pt_val (pe_callB call_isi (by rfl) T.g_isinstance (by decide +kernel) (pa_cons (pv 8) (pa_cons (pe_bltn (v := .ty "tuple") (by rfl) T.g_tuple (by decide +kernel) rfl) pa_nil))))) (pw_or (pt_cmpR op_ne (pe_callB call_lenS (by rfl) T.g_len (by decide +kernel) (pa_cons (pv 8) pa_nil)) pe_int (nomark _)) (pw_or1 (pt_not (pt_val (pe_callB (cr_all rfl) (by rfl) T.g_all (by decide +kernel) (pa_cons (pe_lc (own := [("part", 15)]) (g := (gName 15)) (tt := tYes) (te := (tCB (rIsi K) (tCons (tVar 15) (tCons _ tNil)))) rfl sc_law_is_laying.nd (pi_tup (pv 8)) (blkOk_by (N := N_law_is_laying) (sc := defScope s_law_is_laying) (by decide +kernel)) (fun _ _ _ _ _ => (pg_name (i := 15) sc_law_is_laying.nd rfl (Or.inl rfl))) (fun _ _ _ _ _ => pts_nil) (fun _ _ _ _ _ => (pe_callB call_isi (by rfl) T.g_isinstance (by decide +kernel) (pa_cons (pv 15) (pa_cons (pe_bltn (v := .ty "int") (by rfl) T.g_int (by decide +kernel) rfl) pa_nil))))) pa_nil))))))).pt (pss_one (ps_ret pe_bl)) pss_nil)
      (pss_one (ps_if (pw_or (pt_not (pt_chain op_le op_lt pe_int (pe_ix ix_tup (pv 8) pe_int (fun _ _ => rfl)) (pe_callB call_lenS (by rfl) T.g_len (by decide +kernel) (pa_cons (pv 4) pa_nil)))) (pw_or (pt_not (pt_chain op_le op_lt pe_int (pe_ix ix_tup (pv 8) pe_int (fun _ _ => rfl)) (pe_callB call_lenS (by rfl) T.g_len (by decide +kernel) (pa_cons (pv 6) pa_nil)))) (pw_or1 (pt_cmpR op_ne (pe_ix ix_list (pv 4) (pe_ix ix_tup (pv 8) pe_int (fun _ _ => rfl)) (fun _ _ => rfl)) (pe_ix ix_list (pv 6) (pe_ix ix_tup (pv 8) pe_int (fun _ _ => rfl)) (fun _ _ => rfl)) (nomark _))))).pt (pss_one (ps_ret pe_bl)) pss_nil))))
      (pss_cons (ps_set (i := 9) sc_law_is_laying.nd rfl (Or.inl rfl) (pe_callB cr_sortedTP (by rfl) T.g_sorted (by decide +kernel) (pa_cons (pv 2) pa_nil)))
      (pss_cons (ps_for PassesOwn.never rfl (pi_range1 rfl T.g_range (pa_cons (pe_callB call_lenS (by rfl) T.g_len (by decide +kernel) (pa_cons (pv 9) pa_nil)) pa_nil)) (pg_name (i := 10) sc_law_is_laying.nd rfl (Or.inl rfl))
      (pss_one (ps_for PassesOwn.never rfl (pi_list (pe_slice sl_list (pv 9) po_none (po_some (pv 10)))) (pg_tup (by rfl) (pgs_cons (pg_name (i := 11) sc_law_is_laying.nd rfl (Or.inl rfl)) (pgs_cons (pg_name (i := 12) sc_law_is_laying.nd rfl (Or.inl rfl)) pgs_nil)))
      (pss_cons (ps_asg (pe_ix ix_list (pv 9) (pv 10) (fun _ _ => rfl)) (pg_tup (by rfl) (pgs_cons (pg_name (i := 13) sc_law_is_laying.nd rfl (Or.inl rfl)) (pgs_cons (pg_name (i := 14) sc_law_is_laying.nd rfl (Or.inl rfl)) pgs_nil))))
      (pss_one (ps_if (pw_or (pt_cmpR op_eq (pv 11) (pv 13) (nomark _)) (pw_or (pt_cmpR op_ge (pv 12) (pv 14) (nomark _)) (pw_or1 (pt_cmpR op_ne (pe_cmpR op_gt (pv 11) (pe_op op_sub (pv 13) (pe_ix ix_list (pv 5) (pv 13) (fun _ _ => rfl))) (nomark _)) (pe_cmpR op_gt (pv 12) (pe_op op_sub (pv 14) (pe_ix ix_list (pv 7) (pv 14) (fun _ _ => rfl))) (nomark _)) (nomark _))))).pt (pss_one (ps_ret pe_bl)) pss_nil))))))
      (pss_one (ps_ret pe_bl)))))))), ?_⟩
    walk_at "sx"
    refine ⟨v1, f1, rfl, tv1, by omega, fun q1 m1 s1 H1 e1 em1 es1 sm1 => ?_⟩
    refine s_gTup (SqT.of e1) rfl ?_
    walk_at "sx"
    refine ⟨v2, f2, rfl, ForV.ts (Same.ts sm1) tv2, by omega, fun q2 m2 s2 H2 e2 em2 es2 sm2 => ?_⟩
    refine s_gTup (SqT.of e2) rfl ?_
    have sm02 := sm1.trans sm2
    have et2 := sm02 _ _ et
    have pt2 := pt.ts (Same.ts sm02)
    have em12 := sm2 _ _ em1
    have es12 := sm2 _ _ es1
    walk_at "sx"
    refine s_isiT (SqT.of et2) ?_
    walk_at "sx"
    refine s_F rfl ?_
    walk_at "sx"
    refine ⟨.ref t, 0 + 3 * ps.length + 1, rfl, ?_, by omega, fun H3 sm3 => ?_⟩
    · rw [Nat.zero_add]; exact .tup (SqT.of et2) (pairs_pure pt2) .nil
    walk_at "sx"
    refine s_F rfl ?_
    have et3 := sm3 _ _ et2
    have pt3 := pt2.ts (Same.ts sm3)
    have em13 := sm3 _ _ em12
    have es13 := sm3 _ _ es12
    have em23 := sm3 _ _ em2
    have es23 := sm3 _ _ es2
    walk_at "sx"
    rw [pt3.len]
    refine s_F (by simp) ?_
    walk_at "sx"
    have lr1 : f1.rules.length = f1.cnt := Fo.rules_len f1
    have lr2 : f2.rules.length = f2.cnt := Fo.rules_len f2
    have lm1 : (f1.rules.map V.int).length = f1.cnt := by rw [List.length_map]; exact lr1
    have lm2 : (f2.rules.map V.int).length = f2.cnt := by rw [List.length_map]; exact lr2
    refine f_tup (xs := tv) (fun i σ H' => ∃ (w8 w9 w10 w11 w12 w13 w14 w15 : Option V), σ = [some v1, some v2, some (.ref t), some (iV ps.length), some (.ref m1), some (.ref s1), some (.ref m2), some (.ref s2), w8, w9, w10, w11, w12, w13, w14, w15] ∧ Same H3 H') ⟨none, none, none, none, none, none, none, none, rfl, Same.refl H3⟩ (fun i σ H' _ h => by obtain ⟨_, _, _, _, _, _, _, _, _, s⟩ := h; exact SqT.of (s _ _ et3)) ?_ ?_
    · rintro i xv σ H4 hi ⟨w8, w9, w10, w11, w12, w13, w14, w15, rfl, sm4⟩
      obtain ⟨⟨a, b⟩, hp, c, rfl, ec⟩ := pd_get pt3 hi
      obtain ⟨_, b1, _, b2, br⟩ := lay.mem _ (List.mem_of_getElem? hp)
      dsimp only at b1 b2 br ec
      have ec4 := sm4 _ _ ec
      have qc4 : SqT K H4 c [iV a, iV b] := SqT.of ec4
      have em14 := sm4 _ _ em13
      have em24 := sm4 _ _ em23
      have p0 : atI [iV a, iV b] 0 = some (iV a) := rfl
      have p1 : atI [iV a, iV b] 1 = some (iV b) := rfl
      have r1 := rule_at (f := f1) b1
      have r2 := rule_at (f := f2) b2
      walk_at "sx"
      refine s_isiT qc4 ?_
      walk_at "sx"
      refine s_F rfl ?_
      walk_at "sx"
      refine s_F (by simp) ?_
      walk_at "sx"
      intro D nD
      refine c_tup qc4 nD (fun i acc _ => acc = (List.replicate i true).map V.bl) rfl ?_ ?_
      · rintro j x H5 acc hj sm5 eD rfl
        obtain ⟨z, rfl⟩ : ∃ z : Int, x = .int z := by
          rcases j with _ | _ | j
          · exact ⟨_, (Option.some.inj hj).symm⟩
          · exact ⟨_, (Option.some.inj hj).symm⟩
          · cases hj
        have hj2 := (List.getElem?_eq_some_iff.mp hj).1
        walk_at "sx"
        refine s_isiN ?_
        refine s_acc eD ?_ ⟨sM sm5 nD, _, upd_same, ?_⟩
        · rw [List.length_map, List.length_replicate]; exact small1000 (by simp at hj2; omega)
        · rw [List.replicate_succ', List.map_append]; rfl
      · rintro H5 acc sm5 eD rfl
        have em15 := sm5 _ _ em14
        have em25 := sm5 _ _ em24
        have qc5 := sT sm5 qc4
        walk_at "sx"
        refine ⟨D, _, rfl, SqL.of eD, ?_⟩
        walk_at "sx"
        refine s_F rfl ?_
        walk_at "sx"
        refine s_T (decide_eq_true (by omega)) ?_
        walk_at "sx"
        refine s_F (by rw [decide_eq_true (by omega)]; rfl) ?_
        walk_at "sx"
        refine s_T (decide_eq_true (by omega)) ?_
        walk_at "sx"
        refine s_F (by rw [decide_eq_true (by omega)]; rfl) ?_
        walk_at "sx"
        refine s_F (by rw [decide_eq_true (show f1.nr.rule a = f2.nr.rule b from br)]; rfl) ?_
        walk_at "sx"
        exact ⟨_, _, _, _, _, _, _, _, rfl, sm4.trans sm5⟩
    · rintro σ H4 ⟨w8, w9, w10, w11, w12, w13, w14, w15, rfl, sm4⟩
      have et4 := sm4 _ _ et3
      have pt4 := pt3.ts (Same.ts sm4)
      walk_at "sx"
      refine ⟨t, tv, keyOf H4, rfl, SqT.of et4, pairs_key pt4, fun ys p srt stb np => ?_⟩
      obtain ⟨qs, pq, perm⟩ := pd_perm stb.perm pt4
      have sm5 : Same H4 (upd H4 p (.lst ys)) := sU (Same.refl H4) np
      have es15 := sm5 _ _ (sm4 _ _ es13)
      have es25 := sm5 _ _ (sm4 _ _ es23)
      have pq5 : PairsV K (upd H4 p (.lst ys)) ys qs := PairsV.ts (Same.ts sm5) pq
      have layq := lay.perm perm.symm
      have lenq : ys.length = ps.length := by rw [Paired.length pq, perm.length_eq]
      walk_at "sx"
      rw [show ((ys.length : Int)).toNat = ys.length by omega]
      refine f_range (fun i σ H' => ∃ (w8 w10 w11 w12 w13 w14 w15 : Option V), σ = [some v1, some v2, some (.ref t), some (iV ps.length), some (.ref m1), some (.ref s1), some (.ref m2), some (.ref s2), w8, some (.ref p), w10, w11, w12, w13, w14, w15] ∧ Same (upd H4 p (.lst ys)) H') ⟨_, _, _, _, _, _, _, rfl, Same.refl _⟩ ?_ ?_
      · rintro kk σ H5 hk ⟨x8, x10, x11, x12, x13, x14, x15, rfl, sm6⟩
        have ep6 := sm6 _ _ upd_same
        walk_at "sx"
        refine s_slL (SqL.of ep6) fun sl nsl => ?_
        have ecut : cutV ys none (some (0 + (kk : Int))) = ys.take kk := by
          unfold cutV
          rw [show HT.sIx ys.length 0 none = 0 from rfl, Int.zero_add, HT.sIx_nat, Nat.min_eq_left (by omega), Nat.sub_zero, List.drop_zero]
        rw [ecut]
        have sm7 : Same H5 (upd H5 sl (.lst (ys.take kk))) := sU (Same.refl H5) nsl
        walk_at "sx"
        refine f_list (xs := ys.take kk) (fun i σ H' => ∃ (w8 w11 w12 w13 w14 w15 : Option V), σ = [some v1, some v2, some (.ref t), some (iV ps.length), some (.ref m1), some (.ref s1), some (.ref m2), some (.ref s2), w8, some (.ref p), some (.int (0 + (kk : Int))), w11, w12, w13, w14, w15] ∧ Same (upd H5 sl (.lst (ys.take kk))) H') ⟨_, _, _, _, _, _, rfl, Same.refl _⟩ (fun i σ H' _ h => by obtain ⟨_, _, _, _, _, _, _, s⟩ := h; exact SqL.of (s _ _ upd_same)) ?_ ?_
        · rintro i xv σ H6 hi ⟨y8, y11, y12, y13, y14, y15, rfl, sm8⟩
          have hik : i < kk := by
            have := (List.getElem?_eq_some_iff.mp hi).1
            rw [List.length_take] at this; omega
          rw [List.getElem?_take_of_lt hik] at hi
          have hky : ys[kk]? = some ys[kk] := List.getElem?_eq_getElem hk
          obtain ⟨⟨a, b⟩, hp, c, rfl, ec⟩ := pd_get pq5 hi
          obtain ⟨⟨a', b'⟩, hp', c', ec', ecc⟩ := pd_get pq5 hky
          dsimp only at ec ecc
          have s56 := (sm6.trans sm7).trans sm8
          have ec6 := s56 _ _ ec
          have ecc6 := s56 _ _ ecc
          have qcc6 : SqT K H6 c' [iV a', iV b'] := SqT.of ecc6
          have ep8 := (sm7.trans sm8) _ _ ep6
          have es16 := s56 _ _ es15
          have es26 := s56 _ _ es25
          have g1 : atI ys (0 + (kk : Int)) = some (.ref c') := by rw [Int.zero_add]; exact atI_nat (by rw [hky, ec'])
          obtain ⟨_, b1', _, b2', _⟩ := layq.mem _ (List.mem_of_getElem? hp')
          dsimp only at b1' b2'
          have g2 := size_at (f := f1) (by omega) b1'
          have g3 := size_at (f := f2) (by omega) b2'
          have rel : Rel1 f1.nr.nd f2.nr.nd (a, b) (a', b') := by
            have h1 := List.pairwise_iff_getElem.mp srt i kk (by have := (List.getElem?_eq_some_iff.mp hi).1; exact this) hk hik
            have h2 := List.pairwise_iff_getElem.mp layq.pw i kk (List.getElem?_eq_some_iff.mp hp).1 (List.getElem?_eq_some_iff.mp hp').1 hik
            rw [(List.getElem?_eq_some_iff.mp hp).2, (List.getElem?_eq_some_iff.mp hp').2] at h2
            rcases h2 with h2 | h2
            · exact h2
            · exfalso
              rw [(List.getElem?_eq_some_iff.mp hi).2, ec'] at h1
              have k1 : keyOf H4 (.ref c) = ((a : Int), (b : Int)) := by
                obtain ⟨⟨u1, u2⟩, hu, d, ed, e4⟩ := pd_get pq hi
                cases ed
                have := hu.symm.trans hp
                cases this
                unfold keyOf; dsimp only; rw [e4]
              have k2 : keyOf H4 (.ref c') = ((a' : Int), (b' : Int)) := by
                obtain ⟨⟨u1, u2⟩, hu, d, ed, e4⟩ := pd_get pq hky
                rw [ec'] at ed
                cases ed
                have := hu.symm.trans hp'
                cases this
                unfold keyOf; dsimp only; rw [e4]
              have h3 := SrtO.lexB_no.mp h1
              rw [k1, k2] at h3
              have h4 : a' < a := h2.1
              exact h3 (.inl (by show (a' : Int) < (a : Int); omega))
          obtain ⟨l1, l2, l3⟩ := rel
          dsimp only at l1 l2 l3
          refine s_gTup (SqT.of ec6) rfl ?_
          walk_at "sx"
          refine s_F (decide_eq_false (by omega)) ?_
          walk_at "sx"
          refine s_F (decide_eq_false (by omega)) ?_
          walk_at "sx"
          refine s_F ?_ ?_
          · rw [show decide ((a' : Int) - ((a' : Int) - (f1.nr.first a' : Int) + 1) < (a : Int)) = decide ((b' : Int) - ((b' : Int) - (f2.nr.first b' : Int) + 1) < (b : Int)) from decide_eq_decide.mpr (by
              have : f1.nr.first a' ≤ a ↔ f2.nr.first b' ≤ b := l3
              omega)]
            simp
          walk_at "sx"
          exact ⟨_, _, _, _, _, _, rfl, sm8⟩
        · rintro σ H6 ⟨y8, y11, y12, y13, y14, y15, rfl, sm8⟩
          walk_at "sx"
          exact ⟨_, _, _, _, _, _, _, rfl, (sm6.trans sm7).trans sm8⟩
      · rintro σ H5 ⟨x8, x10, x11, x12, x13, x14, x15, rfl, sm6⟩
        walk_at "sx"
        exact k H5 ((((sm02.trans sm3).trans sm4).trans sm5).trans sm6)


/-! ### a free tree -/
abbrev Bnd (f : Fo) : Prop := f.Within fun r => 0 ≤ r ∧ r < 100
theorem within_mono {P Q : Int → Prop} (h : ∀ r, P r → Q r) : ∀ {f : Fo}, f.Within P → f.Within Q
  | .nil, _ => trivial
  | .leaf _ s, w => within_mono h (f := s) w
  | .node _ k s, ⟨w1, w2, w3⟩ => ⟨h _ w1, within_mono h w2, within_mono h w3⟩
theorem Bnd.pos {f : Fo} (h : Bnd f) : Pos f := within_mono (fun _ h => h.1) h
theorem bnd_rules : ∀ {f : Fo}, Bnd f → ∀ r ∈ f.rules, 0 ≤ r ∧ r < 100
  | .nil, _, _, h => nomatch h
  | .leaf _ s, p, r, h => bnd_rules (f := s) p r h
  | .node q k s, p, r, h => by
    obtain ⟨p1, p2, p3⟩ := p
    simp only [Fo.rules, List.mem_append, List.mem_cons] at h
    rcases h with h | h | h
    · exact bnd_rules p2 r h
    · rw [h]; exact p1
    · exact bnd_rules p3 r h
theorem kpNew {W : Addr → Prop} {H H1 : Hp} {p : Addr} {o : HO} (a : Kp W H H1) (h : H p = none) : Kp W H (upd H1 p o) := fun b u e n => by
  rw [upd_ne (ne_of_none e h)]; exact a b u e n
theorem joinF_ok {H : Hp} {vs : List V} {fs : List Fo} (h : TrsV K H vs fs) : ForV K H vs (Fo.joinF fs) := by
  induction h with
  | nil => rfl
  | @cons v f vs fs r _ ih =>
    obtain ⟨p, rfl, ⟨t, rfl, qp⟩ | ⟨r, kf, q, ks, rfl, qp, qq, fk⟩⟩ := trs_at r
    · exact ⟨p, vs, rfl, qp, ih⟩
    · exact ⟨p, q, ks, vs, rfl, qp, qq, fk, ih⟩
theorem joinF_parts {H : Hp} {vs : List V} {fs : List Fo} (h : TrsV K H vs fs) : (Fo.joinF fs).parts = sumP fs := by
  induction h with
  | nil => rfl
  | @cons v f vs fs r _ ih =>
    have e : sumP (f :: fs) = f.parts + sumP fs := by simp [sumP]
    rw [e]
    obtain ⟨p, rfl, ⟨t, rfl, qp⟩ | ⟨r, kf, q, ks, rfl, qp, qq, fk⟩⟩ := trs_at r
    · simp only [Fo.joinF, Fo.app1, Fo.parts, ih]; try omega
    · simp only [Fo.joinF, Fo.app1, Fo.parts, ih]; try omega
theorem joinF_pos {H : Hp} {vs : List V} {fs : List Fo} (h : TrsV K H vs fs) (hp : ∀ f ∈ fs, Bnd f) : Bnd (Fo.joinF fs) := by
  induction h with
  | nil => trivial
  | @cons v f vs fs r _ ih =>
    have i := ih fun f hf => hp f (List.mem_cons_of_mem _ hf)
    have hf := hp f List.mem_cons_self
    obtain ⟨p, rfl, ⟨t, rfl, qp⟩ | ⟨r, kf, q, ks, rfl, qp, qq, fk⟩⟩ := trs_at r
    · exact i
    · exact ⟨hf.1, hf.2.1, i⟩
theorem s_revR {te : TE} {σ : L2.St} {H : Hp} {R : It → Hp → Prop} (h : te σ H fun x H1 => ∃ n : Int, x = .int n ∧ (-(2 ^ 62) ≤ (0 : Int) ∧ (0 : Int) < 2 ^ 62 ∧ -(2 ^ 62) ≤ n ∧ n < 2 ^ 62 ∧ R (Itc (0 + (((n - 0).toNat : Nat) : Int) - 1) (-1) (n - 0).toNat) H1)) : iRevR (tRg1 te) σ H R := h
structure KpAt (H : Hp) (acc : List V) (i : Nat) (rv : Nat → Int) (ra rl : Nat → Addr) (kd : Nat → List Nat) : Prop where
  len : acc.length = i
  row : ∀ k, k < i → acc[k]? = some (.ref (ra k)) ∧ H (ra k) = some (.lst [.int (rv k), .ref (rl k)]) ∧ H (rl k) = some (.lst ((kd k).map iV))
  inj : ∀ k k', k < i → k' < i → rl k = rl k' → k = k'
  pos : ∀ k, k < i → 0 ≤ rv k ∧ rv k < 100
section
variable {H H' : Hp} {acc : List V} {i : Nat} {rv : Nat → Int} {ra rl : Nat → Addr} {kd : Nat → List Nat} {s c : Addr} {cs : List Int}
theorem KpAt.rs (h : KpAt H acc i rv ra rl kd) (z : SrcAt H s c cs) {k : Nat} (hk : k < i) : ra k ≠ s ∧ rl k ≠ s := by
  obtain ⟨v1, v2, v3, e⟩ := z.top
  obtain ⟨_, e1, e2⟩ := h.row k hk
  refine ⟨ne_of e1 e (by intro w; cases w), ne_of e2 e ?_⟩
  intro w
  have := HO.lst.inj w
  cases q : kd k <;> simp [q] at this
theorem KpAt.keep {W : Addr → Prop} (h : KpAt H acc i rv ra rl kd) (k : Kp W H H') (hw : ∀ j, j < i → ¬ W (ra j) ∧ ¬ W (rl j)) : KpAt H' acc i rv ra rl kd :=
  ⟨h.len, fun j hj => ⟨(h.row j hj).1, k _ _ (h.row j hj).2.1 (hw j hj).1, k _ _ (h.row j hj).2.2 (hw j hj).2⟩, h.inj, h.pos⟩
theorem KpAt.draw (h : KpAt H acc i rv ra rl kd) (z : SrcAt H s c cs) (k : Kp (· = s) H H') : KpAt H' acc i rv ra rl kd := h.keep k fun _ hj => h.rs z hj
theorem KpAt.same (h : KpAt H acc i rv ra rl kd) (k : Same H H') : KpAt H' acc i rv ra rl kd := h.keep (W := fun _ => False) (Kp.of k) fun _ _ => ⟨id, id⟩
end
theorem if_node {c : TT} {t u : TS} {D : Ends} {σ : L2.St} {H : Hp} (N : Hp → Prop) (hu : ∀ H', N H' → u D σ H') (h : (∀ H', N H' → u D σ H') → c σ H fun b H1 => if b = true then t D σ H1 else u D σ H1) : tIfS c t u D σ H := h hu
def sp_law_free_tree (T : Ev K mg) : Sp := fun vs H Q _ => ∃ (s c : Addr) (cs : List Int) (m R : Nat), vs = [.ref s, .int m, .int R] ∧ SrcAt H s c cs ∧ 0 < m ∧ m ≤ 100 ∧ 0 < R ∧ R ≤ 100 ∧ ∀ v f H', TreeV K H' v f → f.parts ≤ m + 1 → Bnd f → SrcAt H' s c cs → Kp (· = s) H H' → TSt H H' → Q v H'
set_option maxHeartbeats 16000000 in
theorem ok_law_free_tree (T : Ev K mg) : FnOk P w K mg base CX0 2 T.a_law_free_tree T.d_law_free_tree ["source", "most", "rules"] (sp_law_free_tree T) := by
  refine T.F_law_free_tree.ok sc_law_free_tree (fun vs H Q E h => ?_) (fun cdv A outer s0 H vs Q E hr h => ?_)
  · obtain ⟨_, _, _, _, _, rfl, _⟩ := h; rfl
  · obtain ⟨s, c, cs, m, R, rfl, src, hm, hm2, hR, hR2, k⟩ := h
    refine ⟨_, (pss_cons (ps_set (i := 3) sc_law_free_tree.nd rfl (Or.inl rfl) (pe_lst (pa_cons (pe_un un_neg pe_int) pa_nil)))
      (pss_cons (ps_for PassesOwn.never rfl (pi_range1 rfl T.g_range (pa_cons (pe_op op_add pe_int (pe_call (ok_law_draw T) hr (by rfl) T.m_law_draw T.F_law_draw.kp T.b_law_draw .nil pass0 (pa_cons (pv 0) (pa_cons (pv 1) pa_nil)))) pa_nil)) (pg_name (i := 4) sc_law_free_tree.nd rfl (Or.inl rfl))
      (pss_one (ps_expr (pe_bm PySem.F.plainAttrs_list PySem.F.slot_list_append PySem.F.type_list_append mt_append (pv 3) (pa_cons (pe_call (ok_law_draw T) hr (by rfl) T.m_law_draw T.F_law_draw.kp T.b_law_draw .nil pass0 (pa_cons (pv 0) (pa_cons (pe_callB call_lenS (by rfl) T.g_len (by decide +kernel) (pa_cons (pv 3) pa_nil)) pa_nil))) pa_nil)))))
      (pss_cons (ps_setLc (i := 5) (own := [("k", 4)]) (g := (gName 4)) (tt := tYes) (te := (tLst (tCons (tCall _ _ _ (tCons (tVar 0) (tCons (tVar 2) tNil))) (tCons (tLst tNil) tNil)))) rfl sc_law_free_tree.nd rfl rfl (sw_true rfl rfl rfl (by decide +kernel)) (pi_list (pv 3)) (blkOk_by (N := N_law_free_tree) (sc := defScope s_law_free_tree) (by decide +kernel)) (fun _ _ _ _ _ => (pg_name (i := 4) sc_law_free_tree.nd rfl (Or.inl rfl))) (fun _ _ _ _ _ => pts_nil) (fun _ _ _ _ _ => (pe_lst (pa_cons (pe_call (ok_law_draw T) hr (by rfl) T.m_law_draw T.F_law_draw.kp T.b_law_draw .nil pass0 (pa_cons (pv 0) (pa_cons (pv 2) pa_nil))) (pa_cons (pe_lst pa_nil) pa_nil)))))
      (pss_cons (ps_for PassesOwn.never rfl (pi_range2 rfl T.g_range (pa_cons pe_int (pa_cons (pe_callB call_lenS (by rfl) T.g_len (by decide +kernel) (pa_cons (pv 3) pa_nil)) pa_nil))) (pg_name (i := 4) sc_law_free_tree.nd rfl (Or.inl rfl))
      (pss_cons (ps_set (i := 6) sc_law_free_tree.nd rfl (Or.inl rfl) (pe_ix ix_list (pv 5) (pe_ix ix_list (pv 3) (pv 4) (fun _ _ => rfl)) (fun _ _ => rfl)))
      (pss_one (ps_expr (pe_bm PySem.F.plainAttrs_list PySem.F.slot_list_insert PySem.F.type_list_insert mt_insert (pe_ix ix_list (pv 6) pe_int (fun _ _ => rfl)) (pa_cons (pe_call (ok_law_draw T) hr (by rfl) T.m_law_draw T.F_law_draw.kp T.b_law_draw .nil pass0 (pa_cons (pv 0) (pa_cons (pe_op op_add (pe_callB call_lenS (by rfl) T.g_len (by decide +kernel) (pa_cons (pe_ix ix_list (pv 6) pe_int (fun _ _ => rfl)) pa_nil)) pe_int) pa_nil))) (pa_cons (pv 4) pa_nil)))))))
      (pss_cons (ps_set (i := 7) sc_law_free_tree.nd rfl (Or.inr rfl) (pe_op op_rep (pe_lst (pa_cons pe_non pa_nil)) (pe_callB call_lenS (by rfl) T.g_len (by decide +kernel) (pa_cons (pv 5) pa_nil))))
      (pss_cons (ps_for PassesOwn.never rfl (pi_revR (by rfl) T.g_reversed (prg_1 (by rfl) T.g_range (pe_callB call_lenS (by rfl) T.g_len (by decide +kernel) (pa_cons (pv 5) pa_nil)))) (pg_name (i := 4) sc_law_free_tree.nd rfl (Or.inl rfl))
      (pss_one (ps_if (pw_and (pt_not (pt_tru (pe_ix ix_list (pe_ix ix_list (pv 5) (pv 4) (fun _ _ => rfl)) pe_int (fun _ _ => rfl)))) (pw_and1 (pt_cmpR op_gt (pe_call (ok_law_draw T) hr (by rfl) T.m_law_draw T.F_law_draw.kp T.b_law_draw .nil pass0 (pa_cons (pv 0) (pa_cons pe_int pa_nil))) pe_int (nomark _)))).pt (pss_one (ps_asg (pe_tup (pa_cons pe_str (pa_cons (pe_call (ok_law_draw T) hr (by rfl) T.m_law_draw T.F_law_draw.kp T.b_law_draw .nil pass0 (pa_cons (pv 0) (pa_cons pe_int pa_nil))) pa_nil))) (pg_sub (pv 7) (pv 4) set_list))) (pss_one (ps_asg (pe_tup (pa_cons pe_str (pa_cons (pe_ix ix_list (pe_ix ix_list (pv 5) (pv 4) (fun _ _ => rfl)) pe_int (fun _ _ => rfl)) (pa_cons (pe_callTy call_tupOf (by rfl) T.g_tuple (by decide +kernel) (pa_cons (pe_lc (own := [("j", 8)]) (g := (gName 8)) (tt := tYes) (te := (tOp (rIxL K) (tVar 7) (tVar 8))) rfl sc_law_free_tree.nd (pi_list (pe_ix ix_list (pe_ix ix_list (pv 5) (pv 4) (fun _ _ => rfl)) pe_int (fun _ _ => rfl))) (blkOk_by (N := N_law_free_tree) (sc := defScope s_law_free_tree) (by decide +kernel)) (fun _ _ _ _ _ => (pg_name (i := 8) sc_law_free_tree.nd rfl (Or.inl rfl))) (fun _ _ _ _ _ => pts_nil) (fun _ _ _ _ _ => (pe_ix ix_list (pv 7) (pv 8) (fun _ _ => rfl)))) pa_nil)) pa_nil)))) (pg_sub (pv 7) (pv 4) set_list))))))
      (pss_one (ps_ret (pe_ix ix_list (pv 7) pe_int (fun _ _ => rfl)))))))))), ?_⟩
    obtain ⟨y1, y2, y3, es0⟩ := src.top
    walk_at "sx"
    refine s_newL (by show 1 ≤ sizeLine; decide) fun la nla => ?_
    have nsla : s ≠ la := ne_of_none es0 nla
    walk_at "sx"
    refine ⟨s, c, cs, m, rfl, src.same (sU (Same.refl H) nla), hm, by omega, fun d H1 hd src1 kp1 ts1 => ?_⟩
    have kpH1 : Kp (· = s) H H1 := (Kp.of (sU (Same.refl H) nla)).trans kp1
    have tsH1 : TSt H H1 := (TSt.refl.upd' nla).trans ts1
    have ela1 : H1 la = some (.lst [.int (-1)]) := kp1 _ _ upd_same nsla.symm
    walk_at "sx"
    rw [show (1 + (d : Int)).toNat = 1 + d by omega]
    refine f_range (fun i σ H' => ∃ (v4 : Option V) (al : List Int), σ = [some (.ref s), some (.int m), some (.int R), some (.ref la), v4, none, none, none, none] ∧ H' la = some (.lst (al.map V.int)) ∧ al.length = i + 1 ∧ al[0]? = some (-1) ∧ (∀ (k : Nat) (a : Int), 0 < k → al[k]? = some a → 0 ≤ a ∧ a < (k : Int)) ∧ SrcAt H' s c cs ∧ Kp (· = s) H H' ∧ TSt H H') ⟨none, [-1], rfl, ela1, rfl, rfl, fun k a hk h => (by cases k with | zero => exact absurd hk (Nat.lt_irrefl 0) | succ k => cases h), src1, kpH1, tsH1⟩ ?_ ?_
    · rintro i σ H2 hi ⟨v4, al, rfl, ela, llen, l0, lp, src2, kp2, ts2⟩
      walk_at "sx"
      have llm : (al.map V.int).length = i + 1 := by rw [List.length_map]; exact llen
      refine ⟨s, c, cs, (al.map V.int).length, rfl, src2, by omega, by omega, fun d2 H3 hd2 src3 kp3 ts3 => ?_⟩
      have ela3 := kp3 _ _ ela nsla.symm
      walk_at "sx"
      refine s_append (by walk_at "hp") (by rw [llm]; exact small1000 (by omega)) ?_
      walk_at "sx"
      refine ⟨_, al ++ [(d2 : Int)], rfl, by rw [upd_same, List.map_append]; rfl, by rw [List.length_append, llen]; rfl, ?_, ?_, src3.keep (W := (· = la)) (Kp.mut (W := (· = la)) Kp.refl rfl) nsla (fun z => ?_), kpNew (kp2.trans kp3) nla, (ts2.trans ts3).mut ela3 trivial⟩
      · rw [List.getElem?_append_left (by omega)]; exact l0
      · intro k a hk h
        rcases Nat.lt_or_ge k al.length with q | q
        · rw [List.getElem?_append_left q] at h; exact lp k a hk h
        · rw [List.getElem?_append_right q] at h
          have : k = al.length := by
            have := (List.getElem?_eq_some_iff.mp h).1
            simp at this; omega
          subst this
          rw [Nat.sub_self] at h
          have : (d2 : Int) = a := Option.some.inj h
          omega
      · rw [z] at src; have := src.cells; rw [nla] at this; cases this
    · rintro σ H2 ⟨v4, al, rfl, ela, llen, l0, lp, src2, kp2, ts2⟩
      walk_at "sx"
      intro D nD
      have nDH : H D = none := Kp.none (W := (· = s)) kp2 (by rintro rfl; obtain ⟨_, _, _, e⟩ := src2.top; rw [e] at nD; cases nD) nD
      have nlaD : la ≠ D := ne_of_none ela nD
      have nsD : s ≠ D := ne_of_none es0 nDH
      have ncD : c ≠ D := ne_of_none src2.cells nD
      have llm : (al.map V.int).length = 1 + d + 1 := by rw [List.length_map]; exact llen
      refine c_it walk_list (fun i H' => ∃ (acc : List V) (rv : Nat → Int) (ra rl : Nat → Addr), H' D = some (.lst acc) ∧ KpAt H' acc i rv ra rl (fun _ => []) ∧ (∀ k, k < i → ra k ≠ D ∧ rl k ≠ D ∧ rl k ≠ la ∧ H (rl k) = none) ∧ SrcAt H' s c cs ∧ H' la = some (.lst (al.map V.int)) ∧ Kp (· = s) H H' ∧ TSt H H') ⟨[], fun _ => 0, fun _ => 0, fun _ => 0, upd_same, ⟨rfl, fun _ h => (nomatch h), fun _ _ h => (nomatch h), fun _ h => (nomatch h)⟩, fun _ h => (nomatch h), src2.same (sU (Same.refl H2) nD), by rw [upd_ne nlaD]; exact ela, kpNew kp2 nDH, ts2.upd' nD⟩ (fun i H' _ h => by obtain ⟨_, _, _, _, _, _, _, _, e, _⟩ := h; exact SqL.of e) ?_ ?_
      · rintro i x H3 _ hi ⟨acc, rv, ra, rl, eD, ka, fr, src3, ela3, kp3, ts3⟩ ⟨rfl, _⟩
        walk_at "sx"
        refine ⟨s, c, cs, R, rfl, src3, hR, by omega, fun d2 H4 hd2 src4 kp4 ts4 => ?_⟩
        walk_at "sx"
        have ka4 := ka.draw src3 kp4
        have eD4 := kp4 _ _ eD nsD.symm
        have ela4 := kp4 _ _ ela3 nsla.symm
        refine s_newL (by show 0 ≤ sizeLine; decide) fun q nq => ?_
        walk_at "sx"
        refine s_newL (by show 2 ≤ sizeLine; decide) fun r nr => ?_
        obtain ⟨drq, nr0⟩ := un nr
        have sm5 : Same H4 (upd (upd H4 q (.lst [])) r (.lst [.int d2, .ref q])) := sU (sU (Same.refl H4) nq) nr
        have nDq : D ≠ q := ne_of_none eD4 nq
        have nDr : D ≠ r := ne_of_none eD4 nr0
        walk_at "sx"
        refine s_acc (sm5 _ _ eD4) (by rw [ka.len]; exact small1000 (by rw [llm] at hi; omega)) ?_
        have kp6 : Kp (· = D) (upd (upd H4 q (.lst [])) r (.lst [.int d2, .ref q])) (upd (upd (upd H4 q (.lst [])) r (.lst [.int d2, .ref q])) D (.lst (acc ++ [.ref r]))) := Kp.mut (W := (· = D)) Kp.refl rfl
        have nqH : H q = none := Kp.none (W := (· = s)) (kp3.trans kp4) (by rintro rfl; obtain ⟨_, _, _, e⟩ := src4.top; rw [e] at nq; cases nq) nq
        refine ⟨acc ++ [.ref r], fun k => if k = i then (d2 : Int) else rv k, fun k => if k = i then r else ra k, fun k => if k = i then q else rl k, upd_same, ?_, ?_, (src4.same sm5).keep kp6 nsD ncD, kp6 _ _ (sm5 _ _ ela4) nlaD, (kpNew ((kp3.trans kp4).trans (Kp.of sm5)) nDH), ((ts3.trans ts4).trans (Same.ts sm5)).mut (sm5 _ _ eD4) trivial⟩
        · refine ⟨by rw [List.length_append, ka.len]; rfl, fun k hk => ?_, fun k k' hk hk' e => ?_, fun k hk => ?_⟩
          · try dsimp only
            by_cases ek : k = i
            · subst ek
              rw [if_pos rfl, if_pos rfl, if_pos rfl]
              refine ⟨by rw [List.getElem?_append_right (by rw [ka.len]; exact Nat.le_refl _), ka.len, Nat.sub_self]; rfl, by rw [upd_ne nDr.symm]; exact upd_same, by rw [upd_ne nDq.symm, upd_ne drq.symm]; exact upd_same⟩
            · rw [if_neg ek, if_neg ek, if_neg ek]
              have hk' : k < i := by omega
              obtain ⟨g1, g2, g3⟩ := ka4.row k hk'
              obtain ⟨f1, f2, _⟩ := fr k hk'
              exact ⟨by rw [List.getElem?_append_left (by rw [ka.len]; exact hk')]; exact g1, kp6 _ _ (sm5 _ _ g2) f1, kp6 _ _ (sm5 _ _ g3) f2⟩
          · try dsimp only at e
            by_cases ek : k = i
            · by_cases ek' : k' = i
              · omega
              · rw [if_pos ek, if_neg ek'] at e
                have := (ka4.row k' (by omega)).2.2
                rw [← e, nq] at this; cases this
            · by_cases ek' : k' = i
              · rw [if_neg ek, if_pos ek'] at e
                have := (ka4.row k (by omega)).2.2
                rw [e, nq] at this; cases this
              · rw [if_neg ek, if_neg ek'] at e
                exact ka.inj k k' (by omega) (by omega) e
          · try dsimp only
            by_cases ek : k = i
            · rw [if_pos ek]; omega
            · rw [if_neg ek]; exact ka.pos k (by omega)
        · intro k hk
          try dsimp only
          by_cases ek : k = i
          · rw [if_pos ek, if_pos ek]
            exact ⟨nDr.symm, nDq.symm, (ne_of_none ela4 nq).symm, nqH⟩
          · rw [if_neg ek, if_neg ek]; exact fr k (by omega)
      · rintro H3 ⟨acc, rv, ra, rl, eD, ka, fr, src3, ela3, kp3, ts3⟩
        rw [llm] at ka fr
        walk_at "sx"
        rw [show (((al.map V.int).length : Int) - 1).toNat = 1 + d by omega]
        refine f_range (fun i σ H' => ∃ (v4 v6 : Option V) (kd : Nat → List Nat), σ = [some (.ref s), some (.int m), some (.int R), some (.ref la), v4, some (.ref D), v6, none, none] ∧ H' D = some (.lst acc) ∧ KpAt H' acc (1 + d + 1) rv ra rl kd ∧ (∀ x j, j ∈ kd x → x < j ∧ j < 1 + i ∧ al[j]? = some (x : Int)) ∧ (∀ x, (kd x).Nodup) ∧ H' la = some (.lst (al.map V.int)) ∧ SrcAt H' s c cs ∧ Kp (· = s) H H' ∧ TSt H H') ⟨_, _, fun _ => [], rfl, eD, ka, fun _ _ h => (nomatch h), fun _ => .nil, ela3, src3, kp3, ts3⟩ ?_ ?_
        · rintro i σ H4 hi ⟨v4, v6, kd, rfl, eD4, ka4, kp', knd, ela4, src4, kp4, ts4⟩
          obtain ⟨a, ha⟩ : ∃ a, al[1 + i]? = some a := ⟨_, List.getElem?_eq_getElem (by omega)⟩
          obtain ⟨a0, a1⟩ := lp (1 + i) a (by omega) ha
          obtain ⟨x, rfl⟩ : ∃ x : Nat, a = (x : Int) := ⟨a.toNat, by omega⟩
          have hx : x < 1 + d + 1 := by omega
          have b1 : atI (al.map V.int) (1 + (i : Int)) = some (.int (x : Int)) := by
            rw [show 1 + (i : Int) = ((1 + i : Nat) : Int) by omega]; exact atI_map V.int ha
          obtain ⟨g1, g2, g3⟩ := ka4.row x hx
          have b2 : atI acc (x : Int) = some (.ref (ra x)) := atI_nat g1
          have b3 : atI [V.int (rv x), V.ref (rl x)] 1 = some (.ref (rl x)) := rfl
          walk_at "sx"
          have klen : (kd x).length ≤ 1 + i := by
            exact nodup_le (1 + i) (kd x) (knd x) fun j hj => (kp' x j hj).2.1
          refine ⟨s, c, cs, (kd x).length + 1, by rw [List.length_map]; rfl, src4, by omega, by omega, fun d2 H5 hd2 src5 kp5 ts5 => ?_⟩
          have ka5 := ka4.draw src4 kp5
          obtain ⟨g4, g5, g6⟩ := ka5.row x hx
          have nrs := (ka5.rs src5 hx).2
          have eD5 := kp5 _ _ eD4 nsD.symm
          have ela5 := kp5 _ _ ela4 nsla.symm
          obtain ⟨f1, f2, f3, f4⟩ := fr x hx
          walk_at "sx"
          refine ⟨rl x, (kd x).map iV, (d2 : Int), _, rfl, rfl, g6, by rw [List.length_map]; exact small1000 (by omega), by omega, by omega, ?_⟩
          rw [show (d2 : Int).toNat = d2 by omega, ← List.map_take, ← List.map_drop]
          have ei : [V.int (1 + (i : Int))] = [1 + i].map iV := by
            show [V.int (1 + (i : Int))] = [V.int ((1 + i : Nat) : Int)]
            rw [show ((1 + i : Nat) : Int) = 1 + (i : Int) by omega]
          rw [ei, ← List.map_append, ← List.map_append]
          walk_at "sx"
          have kp6 : Kp (· = rl x) H5 (upd H5 (rl x) (.lst (((kd x).take d2 ++ [1 + i] ++ (kd x).drop d2).map iV))) := Kp.mut (W := (· = rl x)) Kp.refl rfl
          have mem' : ∀ j, j ∈ (kd x).take d2 ++ [1 + i] ++ (kd x).drop d2 ↔ j ∈ kd x ∨ j = 1 + i := fun j => by
            rw [List.mem_append, List.mem_append, List.mem_singleton]
            have := List.mem_append (a := j) (s := (kd x).take d2) (t := (kd x).drop d2)
            rw [List.take_append_drop] at this
            rw [this]
            constructor
            · rintro ((h | h) | h)
              · exact .inl (.inl h)
              · exact .inr h
              · exact .inl (.inr h)
            · rintro ((h | h) | h)
              · exact .inl (.inl h)
              · exact .inr h
              · exact .inl (.inr h)
          refine ⟨_, _, fun z => if z = x then (kd x).take d2 ++ [1 + i] ++ (kd x).drop d2 else kd z, rfl, kp6 _ _ eD5 f2.symm, ?_, ?_, ?_, kp6 _ _ ela5 f3.symm, src5.keep kp6 nrs.symm (fun z => ?_), (kpNew (kp4.trans kp5) f4), (ts4.trans ts5).mut g6 trivial⟩
          · refine ⟨ka5.len, fun z hz => ?_, ka5.inj, ka5.pos⟩
            obtain ⟨r1, r2, r3⟩ := ka5.row z hz
            have nra : ra z ≠ rl x := ne_of r2 g6 (by
              intro w
              have := HO.lst.inj w
              cases q : kd x with
              | nil => rw [q] at this; cases this
              | cons u r =>
                rw [q] at this
                injection this with w1 w2
                cases r with
                | nil => cases w2
                | cons u2 r2 => injection w2 with w3 w4; cases w3)
            refine ⟨r1, kp6 _ _ r2 nra, ?_⟩
            try dsimp only
            by_cases ez : z = x
            · subst ez
              rw [if_pos rfl]; exact upd_same
            · rw [if_neg ez]
              exact kp6 _ _ r3 fun w => ez (ka5.inj z x hz hx w)
          · intro z j hj
            try dsimp only at hj
            by_cases ez : z = x
            · subst ez
              rw [if_pos rfl] at hj
              rcases (mem' j).mp hj with hj | hj
              · obtain ⟨u1, u2, u3⟩ := kp' z j hj
                exact ⟨u1, by omega, u3⟩
              · rw [hj]; exact ⟨by omega, by omega, ha⟩
            · rw [if_neg ez] at hj
              obtain ⟨u1, u2, u3⟩ := kp' z j hj
              exact ⟨u1, by omega, u3⟩
          · intro z
            try dsimp only
            by_cases ez : z = x
            · subst ez
              rw [if_pos rfl]
              have hp : ((kd z).take d2 ++ [1 + i] ++ (kd z).drop d2).Perm ((1 + i) :: kd z) := by
                have h1 : ((kd z).take d2 ++ [1 + i] ++ (kd z).drop d2).Perm ((1 + i) :: (kd z).take d2 ++ (kd z).drop d2) := List.Perm.append_right _ List.perm_append_comm
                rw [List.cons_append, List.take_append_drop] at h1
                exact h1
              exact hp.nodup_iff.mpr (List.nodup_cons.mpr ⟨fun hm => by have := (kp' z _ hm).2.1; omega, knd z⟩)
            · rw [if_neg ez]; exact knd z
          · have e1 := src5.cells
            rw [z] at e1
            have := src.cells
            rw [z, f4] at this; cases this
        · rintro σ H4 ⟨v4, v6, kd, rfl, eD4, ka4, kp', knd, ela4, src4, kp4, ts4⟩
          walk_at "sx"
          refine s_newL (by show 1 ≤ sizeLine; decide) fun q0 nq0 => ?_
          have nDq0 : D ≠ q0 := ne_of_none eD4 nq0
          walk_at "sx"
          rw [ka4.len]
          refine s_rep1 upd_same (by omega) fun lt nlt => ?_
          obtain ⟨dq0, nlt0⟩ := un nlt
          have sm5 : Same H4 (upd (upd H4 q0 (.lst [.non])) lt (.lst (List.replicate (1 + d + 1) .non))) := sU (sU (Same.refl H4) nq0) nlt
          have eD5 := sm5 _ _ eD4
          have ka5 := ka4.same sm5
          have src5 := src4.same sm5
          have nltH : H lt = none := Kp.none (W := (· = s)) kp4 (by rintro rfl; obtain ⟨_, _, _, e⟩ := src4.top; rw [e] at nlt0; cases nlt0) nlt0
          have nslt : s ≠ lt := ne_of_none es0 nltH
          have nclt : c ≠ lt := ne_of_none src.cells nltH
          have nDlt : D ≠ lt := ne_of_none eD4 nlt0
          have nra : ∀ j, j < 1 + d + 1 → ra j ≠ lt ∧ rl j ≠ lt := fun j hj => ⟨ne_of_none (ka4.row j hj).2.1 nlt0, ne_of_none (ka4.row j hj).2.2 nlt0⟩
          have elt : (upd (upd H4 q0 (.lst [.non])) lt (.lst (List.replicate (1 + d + 1) V.non))) lt = some (.lst (List.replicate (1 + d + 1) V.non)) := upd_same
          have kp5 : Kp (· = s) H (upd (upd H4 q0 (.lst [.non])) lt (.lst (List.replicate (1 + d + 1) V.non))) := kp4.trans (Kp.of sm5)
          have ts5 := ts4.trans (Same.ts sm5)
          generalize upd (upd H4 q0 (.lst [.non])) lt (.lst (List.replicate (1 + d + 1) V.non)) = H5 at sm5 eD5 ka5 src5 elt kp5 ts5
          walk_at "sx"
          refine s_revR ?_
          walk_at "sx"
          rw [ka5.len]
          refine ⟨_, rfl, by omega, by omega, by omega, by omega, ?_⟩
          rw [show (((1 + d + 1 : Nat) : Int) - 0).toNat = 1 + d + 1 by omega]
          have nn : Nat := 1 + d + 1
          clear nn
          refine f_it walk_rangeC (fun i σ H' => ∃ (v4 v6 v8 : Option V) (tvs : List V) (tr : Nat → Fo), σ = [some (.ref s), some (.int m), some (.int R), some (.ref la), v4, some (.ref D), v6, some (.ref lt), v8] ∧ H' lt = some (.lst tvs) ∧ tvs.length = 1 + d + 1 ∧ (∀ j, 1 + d + 1 - i ≤ j → j < 1 + d + 1 → ∃ v, tvs[j]? = some v ∧ TreeV K H' v (tr j) ∧ Bnd (tr j)) ∧ rsum (fun j => al.getD j 0) (1 + d + 1) (1 + d + 1 - i) (fun j => (tr j).parts) ≤ i ∧ H' D = some (.lst acc) ∧ KpAt H' acc (1 + d + 1) rv ra rl kd ∧ SrcAt H' s c cs ∧ Kp (· = s) H H' ∧ TSt H H') ⟨_, _, _, _, fun _ => .nil, rfl, elt, by rw [List.length_replicate], fun j h1 h2 => by omega, by rw [Nat.sub_zero, rsum_top]; exact Nat.le_refl _, eD5, ka5, src5, kp5, ts5⟩ (fun _ _ _ _ _ => trivial) ?_ ?_
          · rintro i x σ Hx H6 hi ⟨v4, v6, v8, tvs, tr, rfl, elt6, tlen, htr, hsum, eD6, ka6, src6, kp6, ts6⟩ ⟨rfl, rfl⟩
            dsimp only
            obtain ⟨kk, hkk⟩ : ∃ kk, kk = d + 1 - i := ⟨_, rfl⟩
            have hk1 : kk < 1 + d + 1 := by omega
            have ek : (0 : Int) + ((1 + d + 1 : Nat) : Int) - 1 + ((i : Nat) : Int) * (-1) = (kk : Int) := by omega
            rw [ek]
            have e10 : 1 + d + 1 - (i + 1) = kk := by omega
            have e11 : 1 + d + 1 - i = kk + 1 := by omega
            rw [e11] at htr hsum
            rw [e10]
            refine s_gName ?_
            -- what a new tree at kk gives
            have fin : ∀ (H7 : Hp) (v : V) (f : Fo), KpAt H7 acc (1 + d + 1) rv ra rl kd → SrcAt H7 s c cs → H7 D = some (.lst acc) → H7 lt = some (.lst tvs) → TSt H6 H7 → Kp (· = s) H H7 → TreeV K H7 v f → Bnd f → f.parts ≤ 1 + ((kd kk).map fun j => (tr j).parts).sum → ∃ (tvs' : List V) (tr' : Nat → Fo), (upd H7 lt (.lst (tvs.set kk v))) lt = some (.lst tvs') ∧ tvs'.length = 1 + d + 1 ∧ (∀ j, kk ≤ j → j < 1 + d + 1 → ∃ w, tvs'[j]? = some w ∧ TreeV K (upd H7 lt (.lst (tvs.set kk v))) w (tr' j) ∧ Bnd (tr' j)) ∧ rsum (fun j => al.getD j 0) (1 + d + 1) kk (fun j => (tr' j).parts) ≤ i + 1 ∧ (upd H7 lt (.lst (tvs.set kk v))) D = some (.lst acc) ∧ KpAt (upd H7 lt (.lst (tvs.set kk v))) acc (1 + d + 1) rv ra rl kd ∧ SrcAt (upd H7 lt (.lst (tvs.set kk v))) s c cs ∧ Kp (· = s) H (upd H7 lt (.lst (tvs.set kk v))) ∧ TSt H (upd H7 lt (.lst (tvs.set kk v))) := fun H7 v f ka7 src7 eD7 elt7 ts67 kp7 tv7 pf hp => by
              have kpl : Kp (· = lt) H7 (upd H7 lt (.lst (tvs.set kk v))) := Kp.mut (W := (· = lt)) Kp.refl rfl
              have tsl : TSt H7 (upd H7 lt (.lst (tvs.set kk v))) := TSt.refl.mut elt7 trivial
              refine ⟨_, fun j => if j = kk then f else tr j, upd_same, by rw [List.length_set]; exact tlen, fun j h1 h2 => ?_, ?_, kpl _ _ eD7 nDlt, ka7.keep kpl fun j hj => nra j hj, src7.keep kpl nslt nclt, kpNew kp7 nltH, (ts6.trans ts67).trans tsl⟩
              · by_cases ej : j = kk
                · subst ej
                  try dsimp only
                  rw [if_pos rfl]
                  exact ⟨v, by rw [List.getElem?_set, if_pos rfl, if_pos (by omega)], ForV.ts tsl tv7, pf⟩
                · try dsimp only
                  rw [if_neg ej]
                  obtain ⟨w, w1, w2, w3⟩ := htr j (by omega) h2
                  exact ⟨w, by rw [List.getElem?_set, if_neg (fun z => ej z.symm)]; exact w1, ForV.ts (ts67.trans tsl) w2, w3⟩
              · have := rsum_step (ab := fun j => al.getD j 0) (n := 1 + d + 1) (k := kk) (g := fun j => (tr j).parts) (g' := fun j => (if j = kk then f else tr j).parts) (ks := kd kk) (knd kk) (fun j hj => by
                  obtain ⟨u1, u2, u3⟩ := kp' kk j hj
                  refine ⟨u1, by omega, ?_⟩
                  try dsimp only
                  rw [List.getD_eq_getElem?_getD, u3]; rfl) (by rw [if_pos rfl]; exact hp) (fun j hj => by rw [if_neg (by omega)])
                exact Nat.le_trans this (by omega)
            try dsimp only
            refine if_node (fun H7 => KpAt H7 acc (1 + d + 1) rv ra rl kd ∧ SrcAt H7 s c cs ∧ H7 D = some (.lst acc) ∧ H7 lt = some (.lst tvs) ∧ TSt H6 H7 ∧ Kp (· = s) H H7) ?_ ?_
            · rintro H7 ⟨ka7, src7, eD7, elt7, ts67, kp7⟩
              obtain ⟨g1, g2, g3⟩ := ka7.row kk hk1
              have b1 : atI acc (kk : Int) = some (.ref (ra kk)) := atI_nat g1
              have b2 : atI [V.int (rv kk), V.ref (rl kk)] 0 = some (.int (rv kk)) := rfl
              have b3 : atI [V.int (rv kk), V.ref (rl kk)] 1 = some (.ref (rl kk)) := rfl
              walk_at "sx"
              intro C nC
              have kdl : (kd kk).length ≤ 1 + d + 1 := nodup_le _ (kd kk) (knd kk) fun j hj => by have := (kp' kk j hj).2.1; omega
              refine c_list (SqL.of g3) nC (fun j acc H' => TrsV K H' acc (((kd kk).take j).map tr)) .nil ?_ ?_
              · rintro j x H8 acc2 hx sm8 eC ta
                rw [List.getElem?_map] at hx
                obtain ⟨y, hy, rfl⟩ : ∃ y, (kd kk)[j]? = some y ∧ iV y = x := by
                  cases hq : (kd kk)[j]? with
                  | none => rw [hq] at hx; cases hx
                  | some y => rw [hq] at hx; exact ⟨y, rfl, Option.some.inj hx⟩
                obtain ⟨u1, u2, _⟩ := kp' kk y (List.mem_of_getElem? hy)
                obtain ⟨w, w1, w2, w3⟩ := htr y (by omega) (by omega)
                have elt8 := sm8 _ _ elt7
                have b4 : atI tvs (y : Int) = some w := atI_nat w1
                walk_at "sx"
                have ts8 : TSt H8 (upd H8 C (.lst (acc2 ++ [w]))) := TSt.refl.mut eC trivial
                refine s_acc eC ?_ ⟨sM sm8 nC, _, upd_same, ?_⟩
                · rw [Paired.length ta, List.length_map, List.length_take]; exact small1000 (by omega)
                · rw [List.take_add_one, hy, List.map_append]
                  exact pd_app (ta.ts ts8) (.cons (ForV.ts ((ts67.trans (Same.ts sm8)).trans ts8) w2) .nil)
              · rintro H8 acc2 sm8 eC ta
                rw [List.length_map, List.take_length] at ta
                walk_at "sx"
                refine s_tupOf (SqL.of eC) fun tp ntp => ?_
                walk_at "sx"
                refine s_newT (by show 3 ≤ sizeLine; decide) fun nt nnt => ?_
                obtain ⟨d9, nnt0⟩ := un nnt
                have sm9 : Same H8 (upd (upd H8 tp (.tup acc2)) nt (.tup [.str "node", .int (rv kk), .ref tp])) := sU (sU (Same.refl H8) ntp) nnt
                have sm79 : Same H7 (upd (upd H8 tp (.tup acc2)) nt (.tup [.str "node", .int (rv kk), .ref tp])) := sm8.trans sm9
                have elt9 := sm79 _ _ elt7
                have b5 : ixN tvs.length (kk : Int) = some kk := ixN_of (by omega) (by omega)
                have ntree : TreeV K (upd (upd H8 tp (.tup acc2)) nt (.tup [.str "node", .int (rv kk), .ref tp])) (.ref nt) (.node (rv kk) (Fo.joinF ((kd kk).map tr)) .nil) :=
                  ⟨nt, tp, acc2, [], rfl, SqT.of upd_same, SqT.of (by rw [upd_ne d9.symm]; exact upd_same), joinF_ok (ta.ts (Same.ts sm9)), rfl⟩
                have npos : Bnd (.node (rv kk) (Fo.joinF ((kd kk).map tr)) .nil) := ⟨ka7.pos kk hk1, joinF_pos ta fun f hf => by
                  obtain ⟨y, hy, rfl⟩ := List.mem_map.mp hf
                  obtain ⟨u1, u2, _⟩ := kp' kk y hy
                  obtain ⟨w, w1, w2, w3⟩ := htr y (by omega) (by omega)
                  exact w3, trivial⟩
                walk_at "sx"
                obtain ⟨tvs', tr', h1, h2, h3, h4, h5, h6, h7, h8, h9⟩ := fin _ (.ref nt) _ (ka7.same sm79) (src7.same sm79) (sm79 _ _ eD7) elt9 (ts67.trans (Same.ts sm79)) (kp7.trans (Kp.of sm79)) ntree npos (by
                  simp only [Fo.parts]
                  rw [joinF_parts ta]
                  unfold sumP
                  rw [List.map_map]
                  show (List.map (fun j => (tr j).parts) (kd kk)).sum + 1 + 0 ≤ _
                  omega)
                exact ⟨_, _, _, tvs', tr', rfl, h1, h2, h3, h4, h5, h6, h7, h8, h9⟩
            · intro node
              obtain ⟨g1, g2, g3⟩ := ka6.row kk hk1
              have b1 : atI acc (kk : Int) = some (.ref (ra kk)) := atI_nat g1
              have b3 : atI [V.int (rv kk), V.ref (rl kk)] 1 = some (.ref (rl kk)) := rfl
              walk_at "sx"
              refine ⟨_, .inl ⟨_, SqL.of g3, rfl⟩, ?_⟩
              refine s_ifB (fun h1 => ?_) fun h1 => ?_
              · walk_at "sx"
                refine ⟨s, c, cs, 3, rfl, src6, by omega, by omega, fun d2 H7 hd2 src7 kp7 ts7 => ?_⟩
                have ka7 := ka6.draw src6 kp7
                have eD7 := kp7 _ _ eD6 nsD.symm
                have elt7 := kp7 _ _ elt6 nslt.symm
                walk_at "sx"
                refine s_if (fun h2 => ?_) fun h2 => ?_
                · walk_at "sx"
                  refine ⟨s, c, cs, 3, rfl, src7, by omega, by omega, fun d3 H8 hd3 src8 kp8 ts8 => ?_⟩
                  have ka8 := ka7.draw src7 kp8
                  have eD8 := kp8 _ _ eD7 nsD.symm
                  have elt8 := kp8 _ _ elt7 nslt.symm
                  walk_at "sx"
                  refine s_newT (by show 2 ≤ sizeLine; decide) fun nt nnt => ?_
                  have sm9 : Same H8 (upd H8 nt (.tup [.str "leaf", .int d3])) := sU (Same.refl H8) nnt
                  have elt9 := sm9 _ _ elt8
                  have b5 : ixN tvs.length (kk : Int) = some kk := ixN_of (by omega) (by omega)
                  walk_at "sx"
                  obtain ⟨tvs', tr', h1, h2, h3, h4, h5, h6, h7, h8, h9⟩ := fin _ (.ref nt) (.leaf d3 .nil) (ka8.same sm9) (src8.same sm9) (sm9 _ _ eD8) elt9 ((ts7.trans ts8).trans (Same.ts sm9)) (((kp6.trans kp7).trans kp8).trans (Kp.of sm9)) ⟨nt, [], rfl, SqT.of upd_same, rfl⟩ trivial (by simp only [Fo.parts]; omega)
                  exact ⟨_, _, _, tvs', tr', rfl, h1, h2, h3, h4, h5, h6, h7, h8, h9⟩
                · exact node H7 ⟨ka7, src7, eD7, elt7, ts7, kp6.trans kp7⟩
              · refine s_F rfl ?_
                exact node H6 ⟨ka6, src6, eD6, elt6, TSt.refl, kp6⟩
          · rintro σ H6 ⟨v4, v6, v8, tvs, tr, rfl, elt6, tlen, htr, hsum, eD6, ka6, src6, kp6, ts6⟩
            rw [Nat.sub_self] at htr hsum
            obtain ⟨v, w1, w2, w3⟩ := htr 0 (Nat.le_refl _) (by omega)
            have b0 : atI tvs 0 = some v := atI_nat (j := 0) w1
            walk_at "sx"
            refine k v (tr 0) H6 w2 ?_ w3 src6 kp6 ts6
            have := rsum_zero (ab := fun j => al.getD j 0) (n := 1 + d + 1) (g := fun j => (tr j).parts) (by rw [List.getD_eq_getElem?_getD, l0]; decide) (by omega)
            try dsimp only at this
            omega


/-! ### a tree built anew -/
def LotV (K : PySem.W.Frag) (H : Hp) (lo : Addr) (vs : List V) (es : List Fo) : Prop := Paired (fun v e => ∃ a xs, v = V.ref a ∧ a ≠ lo ∧ H a = some (.lst xs) ∧ ForV K H xs e) vs es
theorem LotV.same {H H' : Hp} (s : Same H H') {lo : Addr} {vs : List V} {es : List Fo} (h : LotV K H lo vs es) : LotV K H' lo vs es := Paired.mapP h fun _ _ ⟨a, xs, e, n, q, f⟩ => ⟨a, xs, e, n, s _ _ q, ForV.ts (Same.ts s) f⟩
theorem LotV.mut {H : Hp} {lo : Addr} {vs ys zs : List V} {es : List Fo} (h : LotV K H lo vs es) (e0 : H lo = some (.lst ys)) : LotV K (upd H lo (.lst zs)) lo vs es := Paired.mapP h fun _ _ ⟨a, xs, e, n, q, f⟩ => ⟨a, xs, e, n, by rw [upd_ne n]; exact q, ForV.ts (TSt.refl.mut e0 trivial) f⟩
theorem LotV.move {H : Hp} {lo p : Addr} {vs zs : List V} {es : List Fo} (h : LotV K H lo vs es) (np : H p = none) : LotV K (upd H p (.lst zs)) p vs es := Paired.mapP h fun _ _ ⟨a, xs, e, n, q, f⟩ => ⟨a, xs, e, ne_of_none q np, by rw [upd_ne (ne_of_none q np)]; exact q, ForV.ts (TSt.refl.upd' np) f⟩
theorem pd_take {α β : Type} {F : α → β → Prop} {xs : List α} {us : List β} (h : Paired F xs us) : ∀ n, Paired F (xs.take n) (us.take n) := by
  induction h with
  | nil => intro n; rw [List.take_nil, List.take_nil]; exact .nil
  | cons r _ ih =>
    intro n
    cases n with
    | zero => exact .nil
    | succ n => exact .cons r (ih n)
theorem pd_drop {α β : Type} {F : α → β → Prop} {xs : List α} {us : List β} (h : Paired F xs us) : ∀ n, Paired F (xs.drop n) (us.drop n) := by
  induction h with
  | nil => intro n; rw [List.drop_nil, List.drop_nil]; exact .nil
  | cons r t ih =>
    intro n
    cases n with
    | zero => exact .cons r t
    | succ n => exact ih n
theorem ForV.app {H : Hp} : ∀ {f g : Fo} {xs ys : List V}, ForV K H xs f → ForV K H ys g → ForV K H (xs ++ ys) (f.app g)
  | .nil, _, _, _, h, h2 => by rw [show _ = [] from h]; exact h2
  | .leaf t s, _, _, _, ⟨p, r, e, q, h⟩, h2 => ⟨p, _, by rw [e]; rfl, q, ForV.app h h2⟩
  | .node n k s, _, _, _, ⟨p, q, ks, r, e, q1, q2, h1, h3⟩, h2 => ⟨p, q, ks, _, by rw [e]; rfl, q1, q2, h1, ForV.app h3 h2⟩
def goneOf (gl : List Int) (k : Nat) : Bool := decide ((k : Int) ∈ gl)
def rulOf (rl : List Int) (k : Nat) : Int := rl.getD k 0
theorem in_ints {k : Nat} {gl : List Int} : inV (.int (k : Int)) (gl.map V.int) = goneOf gl k := by
  unfold goneOf inV
  rw [List.any_map]
  induction gl with
  | nil => rfl
  | cons a r ih =>
    rw [List.any_cons, ih]
    show (eqV (.int a) (.int (k : Int)) || _) = _
    have e : eqV (.int a) (.int (k : Int)) = decide ((k : Int) = a) := by
      show (a == (k : Int)) = _
      by_cases h : (k : Int) = a
      · subst h; simp
      · have h2 : ¬ a = (k : Int) := fun z => h z.symm
        simp [h, h2]
    rw [e]
    by_cases h : (k : Int) = a
    · simp [h]
    · simp [h]
theorem trees_le : ∀ f : Fo, f.trees ≤ f.parts
  | .nil => Nat.le_refl _
  | .leaf t s => by have := trees_le s; simp only [Fo.trees, Fo.parts]; omega
  | .node r k s => by have := trees_le s; simp only [Fo.trees, Fo.parts]; omega
theorem appAll_parts : ∀ es : List Fo, (Fo.appAll es).parts = sumP es
  | [] => rfl
  | e :: r => by rw [Fo.appAll, Fo.app_parts, appAll_parts r]; simp [sumP]
theorem step_parts {g : Nat → Bool} {r : Nat → Int} (st : List Fo × Nat) (p : Fo) : sumP (Fo.stepR g r st p).1 ≤ sumP st.1 + 1 := by
  cases p with
  | nil => exact Nat.le_succ _
  | leaf t s => simp only [Fo.stepR]; rw [sumP_app]; simp [sumP, Fo.parts]
  | node q k s =>
    simp only [Fo.stepR]
    rw [sumP_app]
    have e := List.take_append_drop (st.1.length - k.trees) st.1
    have e2 : sumP st.1 = sumP (st.1.take (st.1.length - k.trees)) + sumP (st.1.drop (st.1.length - k.trees)) := by rw [← sumP_app, e]
    have e3 : ∀ z : Fo, sumP [z] = z.parts := fun z => by simp [sumP]
    rw [e3, e2]
    by_cases h : g st.2 = true
    · rw [if_pos h, appAll_parts]; omega
    · rw [if_neg h]; simp only [Fo.parts]; rw [appAll_parts]; omega
theorem step_num {g : Nat → Bool} {r : Nat → Int} (st : List Fo × Nat) (p : Fo) : (Fo.stepR g r st p).2 = st.2 + if p.isNode = true then 1 else 0 := by
  cases p <;> rfl
theorem step_len {g : Nat → Bool} {r : Nat → Int} (st : List Fo × Nat) (p : Fo) : (Fo.stepR g r st p).1.length ≤ st.1.length + 1 := by
  cases p with
  | nil => exact Nat.le_succ _
  | leaf t s => simp [Fo.stepR]
  | node q k s => simp [Fo.stepR]
theorem cut_drop {xs : List V} {m : Nat} (h : m ≤ xs.length) : cutV xs (some (m : Int)) none = xs.drop m := by
  unfold cutV
  rw [show HT.sIx xs.length xs.length none = xs.length from rfl, HT.sIx_nat, Nat.min_eq_left h, List.take_of_length_le (by rw [List.length_drop]; exact Nat.le_refl _)]
theorem cut_take {xs : List V} {m : Nat} (h : m ≤ xs.length) : cutV xs none (some (m : Int)) = xs.take m := by
  unfold cutV
  rw [show HT.sIx xs.length 0 none = 0 from rfl, HT.sIx_nat, Nat.min_eq_left h, Nat.sub_zero, List.drop_zero]
theorem sumP_take (l : List Fo) (j : Nat) : sumP (l.take j) ≤ sumP l := by
  have e := List.take_append_drop j l
  have : sumP l = sumP (l.take j) + sumP (l.drop j) := by rw [← sumP_app, e]
  omega
theorem sumP_drop (l : List Fo) (j : Nat) : sumP (l.drop j) ≤ sumP l := by
  have e := List.take_append_drop j l
  have : sumP l = sumP (l.take j) + sumP (l.drop j) := by rw [← sumP_app, e]
  omega
theorem flat_ints (gl : List Int) : (gl.map V.int).all flatV = true := by
  induction gl with
  | nil => rfl
  | cons a r ih => rw [List.map_cons, List.all_cons, ih]; rfl
def sp_law_rebuilt (T : Ev K mg) : Sp := fun vs H Q _ => ∃ (v : V) (lg lr : Addr) (f : Fo) (gl rl : List Int), vs = [v, .ref lg, .ref lr] ∧ TreeV K H v f ∧ f.parts ≤ 1000 ∧ H lg = some (.lst (gl.map V.int)) ∧ H lr = some (.lst (rl.map V.int)) ∧ rl.length = f.cnt ∧ (0 < f.cnt → goneOf gl (f.cnt - 1) = false) ∧
  ∀ v' H', TreeV K H' v' (f.reb (goneOf gl) (rulOf rl) 0) → Same H H' → Q v' H'
theorem ok_law_rebuilt (T : Ev K mg) : FnOk P w K mg base CX0 2 T.a_law_rebuilt T.d_law_rebuilt ["tree", "gone", "rules"] (sp_law_rebuilt T) := by
  refine T.F_law_rebuilt.ok sc_law_rebuilt (fun vs H Q E h => ?_) (fun cdv A outer s0 H vs Q E hr h => ?_)
  · obtain ⟨_, _, _, _, _, _, rfl, _⟩ := h; rfl
  · obtain ⟨v, lg, lr, f, gl, rl, rfl, tv, small, eg, er, rlen, top, k⟩ := h
    refine ⟨_, (pss_cons (ps_set (i := 3) sc_law_rebuilt.nd rfl (Or.inl rfl) (pe_lst pa_nil))
      (pss_cons (ps_set (i := 4) sc_law_rebuilt.nd rfl (Or.inl rfl) pe_int)
      (pss_cons (ps_for PassesOwn.never rfl (pi_list (pe_call (ok_law_parts T) hr (by rfl) T.m_law_parts T.F_law_parts.kp T.b_law_parts .nil pass0 (pa_cons (pv 0) pa_nil))) (pg_name (i := 5) sc_law_rebuilt.nd rfl (Or.inl rfl))
      (pss_one (ps_if (pt_cmpR op_eq (pe_ix ix_tup (pv 5) pe_int (fun _ _ => rfl)) pe_str (nomark _)) (pss_one (ps_expr (pe_bm PySem.F.plainAttrs_list PySem.F.slot_list_append PySem.F.type_list_append mt_append (pv 3) (pa_cons (pe_lst (pa_cons (pv 5) pa_nil)) pa_nil)))) (pss_cons (ps_set (i := 6) sc_law_rebuilt.nd rfl (Or.inl rfl) (pe_lst pa_nil))
      (pss_cons (ps_for PassesOwn.never rfl (pi_list (pe_slice sl_list (pv 3) (po_some (pe_op op_sub (pe_callB call_lenS (by rfl) T.g_len (by decide +kernel) (pa_cons (pv 3) pa_nil)) (pe_callB call_lenS (by rfl) T.g_len (by decide +kernel) (pa_cons (pe_ix ix_tup (pv 5) pe_int (fun _ _ => rfl)) pa_nil)))) po_none)) (pg_name (i := 7) sc_law_rebuilt.nd rfl (Or.inl rfl))
      (pss_one (ps_set (i := 6) sc_law_rebuilt.nd rfl (Or.inl rfl) (pe_op op_cat (pv 6) (pv 7)))))
      (pss_cons (ps_set (i := 3) sc_law_rebuilt.nd rfl (Or.inl rfl) (pe_slice sl_list (pv 3) po_none (po_some (pe_op op_sub (pe_callB call_lenS (by rfl) T.g_len (by decide +kernel) (pa_cons (pv 3) pa_nil)) (pe_callB call_lenS (by rfl) T.g_len (by decide +kernel) (pa_cons (pe_ix ix_tup (pv 5) pe_int (fun _ _ => rfl)) pa_nil))))))
      (pss_cons (ps_if (pt_cmpR op_in_seq (pv 4) (pv 1) (by rfl)) (pss_one (ps_expr (pe_bm PySem.F.plainAttrs_list PySem.F.slot_list_append PySem.F.type_list_append mt_append (pv 3) (pa_cons (pv 6) pa_nil)))) (pss_one (ps_expr (pe_bm PySem.F.plainAttrs_list PySem.F.slot_list_append PySem.F.type_list_append mt_append (pv 3) (pa_cons (pe_lst (pa_cons (pe_tup (pa_cons pe_str (pa_cons (pe_ix ix_list (pv 2) (pv 4) (fun _ _ => rfl)) (pa_cons (pe_callTy call_tupOf (by rfl) T.g_tuple (by decide +kernel) (pa_cons (pv 6) pa_nil)) pa_nil)))) pa_nil)) pa_nil)))))
      (pss_one (ps_set (i := 4) sc_law_rebuilt.nd rfl (Or.inl rfl) (pe_op op_add (pv 4) pe_int))))))))))
      (pss_one (ps_ret (pe_ix ix_list (pe_ix ix_list (pv 3) pe_int (fun _ _ => rfl)) pe_int (fun _ _ => rfl))))))), ?_⟩
    walk_at "sx"
    refine s_newL (by show 0 ≤ sizeLine; decide) fun lo0 nlo0 => ?_
    have sm0 : Same H (upd H lo0 (.lst [])) := sU (Same.refl H) nlo0
    walk_at "sx"
    refine ⟨v, f, rfl, ForV.ts (Same.ts sm0) tv, by omega, fun lp out H1 elp tout sm1 => ?_⟩
    have nlp0 : lp ≠ lo0 := fun z => by
      have e := sm1 _ _ (show (upd H lo0 (.lst [])) lo0 = some (.lst []) from upd_same)
      rw [← z, elp] at e
      have e := HO.lst.inj (Option.some.inj e)
      subst e
      have h1 := Paired.length tout
      have h2 := tree_pos tv
      rw [Fo.post_len] at h1
      simp at h1; omega
    have sm01 := sm0.trans sm1
    have lenO : out.length = f.parts := by rw [Paired.length tout, Fo.post_len]
    obtain ⟨run, okr⟩ := Fo.run_post (goneOf gl) (rulOf rl) f [] 0
    rw [List.nil_append, Nat.zero_add] at run
    walk_at "sx"
    refine f_list (xs := out) (fun i σ H' => ∃ (lo : Addr) (ls : List V) (w5 w6 w7 : Option V) (st : List Fo × Nat), σ = [some v, some (.ref lg), some (.ref lr), some (.ref lo), some (.int (st.2 : Int)), w5, w6, w7] ∧ st = (f.postF.take i).foldl (Fo.stepR (goneOf gl) (rulOf rl)) ([], 0) ∧ H lo = none ∧ H' lo = some (.lst ls) ∧ LotV K H' lo ls st.1 ∧ sumP st.1 ≤ i ∧ st.1.length ≤ i ∧ st.2 = ((f.postF.take i).filter Fo.isNode).length ∧ H' lp = some (.lst out) ∧ TSt H1 H' ∧ Same H H' ∧ lp ≠ lo) ⟨lo0, [], none, none, none, ([], 0), rfl, rfl, nlo0, sm1 _ _ upd_same, .nil, Nat.le_refl _, Nat.le_refl _, rfl, elp, TSt.refl, sm01, nlp0⟩ (fun i σ H' _ h => by obtain ⟨_, _, _, _, _, _, _, _, _, _, _, _, _, _, e, _⟩ := h; exact SqL.of e) ?_ ?_
    · rintro i x σ H2 hi ⟨lo, ls, w5, w6, w7, st, rfl, est, nlo, elo, lv, sP, sL, sN, elp2, ts2, sm, nlp⟩
      obtain ⟨g, hg, tg⟩ := pd_get tout hi
      have tg2 := ForV.ts ts2 tg
      have hil := (List.getElem?_eq_some_iff.mp hi).1
      have etk : f.postF.take (i + 1) = f.postF.take i ++ [g] := by rw [List.take_add_one, hg]; rfl
      have est' : Fo.stepR (goneOf gl) (rulOf rl) st g = (f.postF.take (i + 1)).foldl (Fo.stepR (goneOf gl) (rulOf rl)) ([], 0) := by rw [etk, List.foldl_append, ← est]; rfl
      have sN' : (Fo.stepR (goneOf gl) (rulOf rl) st g).2 = ((f.postF.take (i + 1)).filter Fo.isNode).length := by
        rw [step_num, etk, List.filter_append, List.length_append, sN]
        cases hgn : g.isNode with
        | true => rw [List.filter_cons_of_pos hgn]; rfl
        | false => rw [List.filter_cons_of_neg (by rw [hgn]; exact Bool.noConfusion)]; rfl
      have sP' := Nat.le_trans (step_parts (g := goneOf gl) (r := rulOf rl) st g) (Nat.succ_le_succ sP)
      have sL' := Nat.le_trans (step_len (g := goneOf gl) (r := rulOf rl) st g) (Nat.succ_le_succ sL)
      have okg : ∀ q k s, g = .node q k s → k.trees ≤ st.1.length := by
        have e := List.take_append_drop i f.postF
        rw [← e, Fo.okR_app, ← est] at okr
        have e3 : f.postF.drop i = g :: f.postF.drop (i + 1) := by
          obtain ⟨h1, h2⟩ := List.getElem?_eq_some_iff.mp hg
          rw [List.drop_eq_getElem_cons h1, h2]
        have h4 := okr.2
        rw [e3] at h4
        exact h4.1
      have llen := Paired.length lv
      obtain ⟨p, rfl, ⟨t, rfl, qp⟩ | ⟨r, kf, q, ks, rfl, qp, qq, fk⟩⟩ := trs_at tg2
      · have p5 : atI [V.str "leaf", V.int t] 0 = some (.str "leaf") := rfl
        walk_at "sx"
        refine s_T (decide_eq_true rfl) ?_
        walk_at "sx"
        refine s_newL (by show 1 ≤ sizeLine; decide) fun ne nne => ?_
        have nlone : lo ≠ ne := ne_of_none elo nne
        have nlpne : lp ≠ ne := ne_of_none elp2 nne
        have lv2 := LotV.same (sU (o := .lst [V.ref p]) (Same.refl H2) nne) lv
        walk_at "sx"
        refine s_append (by walk_at "hp") (small1000 (by omega)) ?_
        walk_at "sx"
        have elo2 : (upd H2 ne (.lst [.ref p])) lo = some (.lst ls) := by rw [upd_ne nlone]; exact elo
        have ts3 : TSt H2 (upd (upd H2 ne (.lst [.ref p])) lo (.lst (ls ++ [.ref ne]))) := (TSt.refl.upd' nne).mut elo2 trivial
        exact ⟨lo, ls ++ [.ref ne], _, _, _, Fo.stepR (goneOf gl) (rulOf rl) st (.leaf t .nil), rfl, est', nlo, upd_same, pd_app (LotV.mut lv2 elo2) (.cons ⟨ne, [.ref p], rfl, nlone.symm, by rw [upd_ne nlone.symm]; exact upd_same, ForV.ts ts3 (show ForV K H2 [.ref p] (.leaf t .nil) from ⟨p, [], rfl, qp, rfl⟩)⟩ .nil), sP', sL', sN', by rw [upd_ne nlp, upd_ne nlpne]; exact elp2, ts2.trans ts3, sM (sU sm nne) nlo, nlp⟩
      · have hk := okg r kf .nil rfl
        have p5 : atI [V.str "node", V.int r, V.ref q] 0 = some (.str "node") := rfl
        have p6 : atI [V.str "node", V.int r, V.ref q] 2 = some (.ref q) := rfl
        have ksl := fk.len
        walk_at "sx"
        refine s_F (decide_eq_false (fun z => leaf_ne z.symm)) ?_
        walk_at "sx"
        refine s_newL (by show 0 ≤ sizeLine; decide) fun k0 nk0 => ?_
        walk_at "sx"
        have hm : ks.length ≤ ls.length := by rw [ksl, llen]; exact hk
        obtain ⟨m, em⟩ : ∃ m, m = st.1.length - kf.trees := ⟨_, rfl⟩
        have em2 : ls.length - ks.length = m := by rw [ksl, llen, em]
        have ei : (ls.length : Int) - (ks.length : Int) = (m : Int) := by omega
        rw [ei]
        have nlok0 : lo ≠ k0 := ne_of_none elo nk0
        have sk0 : Same H2 (upd H2 k0 (.lst [])) := sU (Same.refl H2) nk0
        refine s_slL (SqL.of (sk0 _ _ elo)) fun p1 np1 => ?_
        rw [cut_drop (by omega)]
        have sp1 : Same H2 (upd (upd H2 k0 (.lst [])) p1 (.lst (ls.drop m))) := sU sk0 np1
        have ek0 : (upd (upd H2 k0 (.lst [])) p1 (.lst (ls.drop m))) k0 = some (.lst []) := by rw [upd_ne (ne_of_none (o := .lst []) upd_same np1)]; exact upd_same
        have ep1 : (upd (upd H2 k0 (.lst [])) p1 (.lst (ls.drop m))) p1 = some (.lst (ls.drop m)) := upd_same
        generalize upd (upd H2 k0 (.lst [])) p1 (.lst (ls.drop m)) = H3 at sp1 ek0 ep1
        walk_at "sx"
        have lvd := pd_drop (LotV.same sp1 lv) m
        refine f_list (xs := ls.drop m) (fun j σ H' => ∃ (kl : Addr) (kv : List V) (w7 : Option V), σ = [some v, some (.ref lg), some (.ref lr), some (.ref lo), some (.int (st.2 : Int)), some (.ref p), some (.ref kl), w7] ∧ H' kl = some (.lst kv) ∧ ForV K H' kv (Fo.appAll ((st.1.drop m).take j)) ∧ Same H3 H') ⟨k0, [], _, rfl, ek0, rfl, Same.refl H3⟩ (fun j σ H' _ h => by obtain ⟨_, _, _, _, _, _, s⟩ := h; exact SqL.of (s _ _ ep1)) ?_ ?_
        · rintro j x σ H4 hj ⟨kl, kv, w7, rfl, ekl, fkv, sm4⟩
          obtain ⟨e, he, a, xs, rfl, na, ea, fa⟩ := pd_get lvd hj
          have ea4 := sm4 _ _ ea
          have fa4 := ForV.ts (Same.ts sm4) fa
          have hjl := (List.getElem?_eq_some_iff.mp he).1
          have b1 : kv.length ≤ 1000 := by
            rw [fkv.len]
            refine Nat.le_trans (trees_le _) ?_
            rw [appAll_parts]
            have h1 := sumP_take (st.1.drop m) j
            have h2 := sumP_drop st.1 m
            omega
          have b2 : xs.length ≤ 1000 := by
            rw [fa.len]
            refine Nat.le_trans (trees_le _) ?_
            have h1 := sumP_drop st.1 m
            have h2 : e.parts ≤ sumP (st.1.drop m) := by
              have h3 := sumP_take (st.1.drop m) (j + 1)
              rw [List.take_add_one, he, sumP_app] at h3
              have h4 : sumP (some e).toList = e.parts := by simp [sumP]
              omega
            omega
          walk_at "sx"
          refine ⟨kl, a, kv, xs, rfl, rfl, ekl, ea4, Nat.le_of_lt (Nat.lt_of_le_of_lt (m := 2000) (by omega) (by decide)), fun p2 np2 => ?_⟩
          walk_at "sx"
          have ts5 : TSt H4 (upd H4 p2 (.lst (kv ++ xs))) := TSt.refl.upd' np2
          refine ⟨p2, kv ++ xs, _, rfl, upd_same, ?_, sU sm4 np2⟩
          have e5 : Fo.appAll ((st.1.drop m).take (j + 1)) = (Fo.appAll ((st.1.drop m).take j)).app e := by
            rw [List.take_add_one, he, Fo.appAll_app]
            show _ = _
            congr 1
            exact Fo.app_nil e
          rw [e5]
          exact ForV.app (ForV.ts ts5 fkv) (ForV.ts ts5 fa4)
        · rintro σ H4 ⟨kl, kv, w7, rfl, ekl, fkv, sm4⟩
          rw [Paired.length lvd, List.take_length] at fkv
          have s24 := sp1.trans sm4
          have elo4 := s24 _ _ elo
          have qp4 := sT s24 qp
          have qq4 := sT s24 qq
          walk_at "sx"
          rw [ei]
          refine s_slL (SqL.of elo4) fun l2 nl2 => ?_
          rw [cut_take (by omega)]
          have lv5 : LotV K (upd H4 l2 (.lst (ls.take m))) l2 (ls.take m) (st.1.take m) := pd_take (LotV.move (LotV.same s24 lv) nl2) m
          have s25 : Same H2 (upd H4 l2 (.lst (ls.take m))) := sU s24 nl2
          have el2 : (upd H4 l2 (.lst (ls.take m))) l2 = some (.lst (ls.take m)) := upd_same
          have nkl : kl ≠ l2 := ne_of_none ekl nl2
          have ekl5 : (upd H4 l2 (.lst (ls.take m))) kl = some (.lst kv) := by rw [upd_ne nkl]; exact ekl
          have fkv5 : ForV K (upd H4 l2 (.lst (ls.take m))) kv (Fo.appAll (st.1.drop m)) := ForV.ts (TSt.refl.upd' nl2) fkv
          have nl2H : H l2 = none := Kp.none (W := fun _ => False) (Kp.of (sm.trans s24)) id nl2
          have nlp2 : lp ≠ l2 := ne_of_none (s24 _ _ elp2) nl2
          generalize upd H4 l2 (.lst (ls.take m)) = H5 at lv5 s25 el2 ekl5 fkv5
          have eg5 := s25 _ _ (sm _ _ eg)
          have er5 := s25 _ _ (sm _ _ er)
          have elp5 := s25 _ _ elp2
          have lt5 : (ls.take m).length ≤ 1000 := by rw [List.length_take]; omega
          have num : st.2 < f.cnt := by
            have h1 := List.length_filter_le Fo.isNode (f.postF.take (i + 1))
            have h2 : ((f.postF.take (i + 1)).filter Fo.isNode).length ≤ (f.postF.filter Fo.isNode).length := ((List.take_sublist (i + 1) f.postF).filter _).length_le
            have h3 : (f.postF.filter Fo.isNode).length = f.cnt := Fo.nodes_len f
            have h4 : (Fo.stepR (goneOf gl) (rulOf rl) st (.node r kf .nil)).2 = st.2 + 1 := rfl
            omega
          have b9 : atI (rl.map V.int) (st.2 : Int) = some (.int (rulOf rl st.2)) := atI_map V.int (by
            unfold rulOf
            rw [List.getD_eq_getElem?_getD, List.getElem?_eq_getElem (by omega)]; rfl)
          have eS : Fo.stepR (goneOf gl) (rulOf rl) st (.node r kf .nil) = (st.1.take m ++ [if goneOf gl st.2 = true then Fo.appAll (st.1.drop m) else .node (rulOf rl st.2) (Fo.appAll (st.1.drop m)) .nil], st.2 + 1) := by
            rw [em]; rfl
          have fin : ∀ (H6 : Hp) (ea : Addr) (xs : List V), Same H5 H6 → ea ≠ l2 → H6 ea = some (.lst xs) → ForV K H6 xs (if goneOf gl st.2 = true then Fo.appAll (st.1.drop m) else .node (rulOf rl st.2) (Fo.appAll (st.1.drop m)) .nil) → H6 l2 = some (.lst (ls.take m)) → ∀ w5 w6 w7 : Option V, ∃ (lo : Addr) (ls' : List V) (x5 x6 x7 : Option V) (st' : List Fo × Nat), [some v, some (.ref lg), some (.ref lr), some (.ref l2), some (.int ((st.2 : Int) + 1)), w5, w6, w7] = [some v, some (.ref lg), some (.ref lr), some (.ref lo), some (.int (st'.2 : Int)), x5, x6, x7] ∧ st' = (f.postF.take (i + 1)).foldl (Fo.stepR (goneOf gl) (rulOf rl)) ([], 0) ∧ H lo = none ∧ (upd H6 l2 (.lst (ls.take m ++ [.ref ea]))) lo = some (.lst ls') ∧ LotV K (upd H6 l2 (.lst (ls.take m ++ [.ref ea]))) lo ls' st'.1 ∧ sumP st'.1 ≤ i + 1 ∧ st'.1.length ≤ i + 1 ∧ st'.2 = ((f.postF.take (i + 1)).filter Fo.isNode).length ∧ (upd H6 l2 (.lst (ls.take m ++ [.ref ea]))) lp = some (.lst out) ∧ TSt H1 (upd H6 l2 (.lst (ls.take m ++ [.ref ea]))) ∧ Same H (upd H6 l2 (.lst (ls.take m ++ [.ref ea]))) ∧ lp ≠ lo := fun H6 ea xs s56 nea eea fea el6 w5 w6 w7 => by
            have ts6 : TSt H6 (upd H6 l2 (.lst (ls.take m ++ [.ref ea]))) := TSt.refl.mut el6 trivial
            refine ⟨l2, ls.take m ++ [.ref ea], w5, w6, w7, Fo.stepR (goneOf gl) (rulOf rl) st (.node r kf .nil), ?_, est', nl2H, upd_same, ?_, sP', sL', sN', ?_, ?_, sM ((sm.trans s25).trans s56) nl2H, nlp2⟩
            · rw [eS]; rfl
            · rw [eS]
              exact pd_app (LotV.mut (LotV.same s56 lv5) el6) (.cons ⟨ea, xs, rfl, nea, by rw [upd_ne nea]; exact eea, ForV.ts ts6 fea⟩ .nil)
            · rw [upd_ne nlp2]; exact s56 _ _ elp5
            · exact (ts2.trans (Same.ts (s25.trans s56))).trans ts6
          walk_at "sx"
          refine ⟨lg, _, rfl, .inl (SqL.of eg5), rfl, flat_ints gl, ?_⟩
          rw [in_ints]
          walk_at "sx"
          refine s_ifB (fun hb => ?_) fun hb => ?_
          · walk_at "sx"
            refine s_append (by walk_at "hp") (small1000 lt5) ?_
            walk_at "sx"
            exact fin H5 kl kv (Same.refl H5) nkl ekl5 (by rw [if_pos (show goneOf gl st.2 = true from hb)]; exact fkv5) el2 _ _ _
          · walk_at "sx"
            refine s_tupOf (SqL.of ekl5) fun tp ntp => ?_
            walk_at "sx"
            refine s_newT (by show 3 ≤ sizeLine; decide) fun nt nnt => ?_
            obtain ⟨d9, nnt0⟩ := un nnt
            walk_at "sx"
            refine s_newL (by show 1 ≤ sizeLine; decide) fun ne nne => ?_
            have s56 : Same H5 (upd (upd (upd H5 tp (.tup kv)) nt (.tup [.str "node", .int (rulOf rl st.2), .ref tp])) ne (.lst [.ref nt])) := sU (sU (sU (Same.refl H5) ntp) nnt) nne
            have el6 := s56 _ _ el2
            have nne2 : ne ≠ l2 := by
              obtain ⟨_, z⟩ := un nne
              obtain ⟨_, z⟩ := un z
              exact (ne_of_none el2 z).symm
            have tnt : ForV K (upd (upd (upd H5 tp (.tup kv)) nt (.tup [.str "node", .int (rulOf rl st.2), .ref tp])) ne (.lst [.ref nt])) [.ref nt] (.node (rulOf rl st.2) (Fo.appAll (st.1.drop m)) .nil) := by
              obtain ⟨e1, z⟩ := un nne
              obtain ⟨e2, _⟩ := un z
              exact ⟨nt, tp, kv, [], rfl, SqT.of (by rw [upd_ne e1.symm]; exact upd_same), SqT.of (by rw [upd_ne e2.symm, upd_ne d9.symm]; exact upd_same), ForV.ts (Same.ts s56) fkv5, rfl⟩
            have fin2 := fin _ ne [.ref nt] s56 nne2 upd_same (by rw [if_neg (show ¬ goneOf gl st.2 = true by rw [show goneOf gl st.2 = false from hb]; exact Bool.noConfusion)]; exact tnt) el6
            generalize upd (upd (upd H5 tp (.tup kv)) nt (.tup [.str "node", .int (rulOf rl st.2), .ref tp])) ne (.lst [.ref nt]) = H6 at fin2 el6
            walk_at "sx"
            refine s_append el6 (small1000 lt5) ?_
            walk_at "sx"
            exact fin2 _ _ _
    · rintro σ H2 ⟨lo, ls, w5, w6, w7, st, rfl, est, nlo, elo, lv, sP, sL, sN, elp2, ts2, sm, nlp⟩
      rw [Paired.length tout, List.take_length, run] at est
      subst est
      have lv : LotV K H2 lo ls (f.rebs (goneOf gl) (rulOf rl) 0) := lv
      have tv2 := ForV.ts (Same.ts sm) tv
      obtain ⟨p, rfl, ⟨t, rfl, qp⟩ | ⟨r, kf, q, ks, rfl, qp, qq, fk⟩⟩ := trs_at tv2
      · obtain ⟨a, xs, rfl, na, ea, fa⟩ : ∃ a xs, ls = [V.ref a] ∧ a ≠ lo ∧ H2 a = some (.lst xs) ∧ ForV K H2 xs (.leaf t .nil) := by
          cases lv with
          | cons r t => cases t; obtain ⟨a, xs, rfl, na, ea, fa⟩ := r; exact ⟨a, xs, rfl, na, ea, fa⟩
        obtain ⟨p', r', rfl, q', f'⟩ := fa
        obtain rfl := (show r' = [] from f')
        have b1 : atI [V.ref a] 0 = some (.ref a) := rfl
        have b2 : atI [V.ref p'] 0 = some (.ref p') := rfl
        walk_at "sx"
        exact k _ H2 ⟨p', [], rfl, q', rfl⟩ sm
      · have ht : goneOf gl kf.cnt = false := by have := top (by simp [Fo.cnt]); simpa [Fo.cnt] using this
        have e : Fo.rebs (goneOf gl) (rulOf rl) 0 (.node r kf .nil) = [.node (rulOf rl (0 + kf.cnt)) (Fo.reb (goneOf gl) (rulOf rl) 0 kf) .nil] := by simp [Fo.rebs, ht]
        have e' : Fo.reb (goneOf gl) (rulOf rl) 0 (.node r kf .nil) = .node (rulOf rl (0 + kf.cnt)) (Fo.reb (goneOf gl) (rulOf rl) 0 kf) .nil := by simp [Fo.reb, ht]
        rw [e] at lv
        rw [e'] at k
        obtain ⟨a, xs, rfl, na, ea, fa⟩ : ∃ a xs, ls = [V.ref a] ∧ a ≠ lo ∧ H2 a = some (.lst xs) ∧ ForV K H2 xs (.node (rulOf rl (0 + kf.cnt)) (Fo.reb (goneOf gl) (rulOf rl) 0 kf) .nil) := by
          cases lv with
          | cons r t => cases t; obtain ⟨a, xs, rfl, na, ea, fa⟩ := r; exact ⟨a, xs, rfl, na, ea, fa⟩
        obtain ⟨p', q', ks', r', rfl, q1, q2, f1, f2⟩ := fa
        obtain rfl := (show r' = [] from f2)
        have b1 : atI [V.ref a] 0 = some (.ref a) := rfl
        have b2 : atI [V.ref p'] 0 = some (.ref p') := rfl
        walk_at "sx"
        exact k _ H2 ⟨p', q', ks', [], rfl, q1, q2, f1, rfl⟩ sm


/-! ### asked both ways -/
def sp_law_asked (T : Ev K mg) : Sp := fun vs H Q _ => ∃ (v1 v2 : V) (f1 f2 : Fo) (z : Nat), vs = [v1, v2, iV z] ∧ TreeV K H v1 f1 ∧ TreeV K H v2 f2 ∧ f1.parts ≤ 900 ∧ f2.parts ≤ 900 ∧ Pos f1 ∧ Pos f2 ∧ M f1.nr.nd f2.nr.nd 0 f1.cnt 0 f2.cnt = z ∧ ∀ H', Same H H' → Q (.bl true) H'
theorem ok_law_asked (T : Ev K mg) : FnOk P w K mg base CX0 8 T.a_law_asked T.d_law_asked ["one", "other", "due"] (sp_law_asked T) := by
  refine T.F_law_asked.ok sc_law_asked (fun vs H Q E h => ?_) (fun cdv A outer s0 H vs Q E hr h => ?_)
  · obtain ⟨_, _, _, _, _, rfl, _⟩ := h; rfl
  · obtain ⟨v1, v2, f1, f2, z, rfl, tv1, tv2, z1, z2, po1, po2, hz, k⟩ := h
    have c1 := Fo.cnt_le_parts f1
    have c2 := Fo.cnt_le_parts f2
    have hdue : M f2.nr.nd f1.nr.nd 0 f2.cnt 0 f1.cnt = z := by rw [M_swap, hz]
    refine ⟨_, (pss_cons (ps_set (i := 3) sc_law_asked.nd rfl (Or.inl rfl) (pe_tup (pa_cons (pe_call (ok_shared T) hr (by rfl) T.m_shared T.F_shared.kp T.b_shared .nil pass0 (pa_cons (pv 0) (pa_cons (pv 1) pa_nil))) (pa_cons (pe_call (ok_shared T) hr (by rfl) T.m_shared T.F_shared.kp T.b_shared .nil pass0 (pa_cons (pv 1) (pa_cons (pv 0) pa_nil))) pa_nil))))
      (pss_cons (ps_if (pw_or (pt_not (pt_val (pe_call (ok_law_pure T) (hr.mono (by decide)) (by rfl) T.m_law_pure T.F_law_pure.kp T.b_law_pure .nil pass0 (pa_cons (pv 3) pa_nil)))) (pw_or1 (pt_cmpR (op_neD hr.units) (pv 3) (pe_tup (pa_cons (pv 2) (pa_cons (pv 2) pa_nil))) (nomark _)))).pt (pss_one (ps_ret pe_bl)) pss_nil)
      (pss_one (ps_ret (pe_call (ok_law_is_laying T) (hr.mono (by decide)) (by rfl) T.m_law_is_laying T.F_law_is_laying.kp T.b_law_is_laying .nil pass0 (pa_cons (pv 0) (pa_cons (pv 1) (pa_cons (pe_call (ok_shared_pairs T) hr (by rfl) T.m_shared_pairs T.F_shared_pairs.kp T.b_shared_pairs .nil pass0 (pa_cons (pv 0) (pa_cons (pv 1) pa_nil))) (pa_cons (pv 2) pa_nil))))))))), ?_⟩
    walk_at "sx"
    refine ⟨v1, v2, f1, f2, rfl, tv1, tv2, by omega, by omega, po1, po2, fun H1 sm1 => ?_⟩
    walk_at "sx"
    refine ⟨v2, v1, f2, f1, rfl, ForV.ts (Same.ts sm1) tv2, ForV.ts (Same.ts sm1) tv1, by omega, by omega, po2, po1, fun H2 sm2 => ?_⟩
    have s2 := sm1.trans sm2
    walk_at "sx"
    refine s_newT (by show 2 ≤ sizeLine; decide) fun td ntd => ?_
    rw [hz, hdue]
    have s3 : Same H (upd H2 td (.tup [iV z, iV z])) := sU s2 ntd
    have etd : (upd H2 td (.tup [iV z, iV z])) td = some (.tup [iV z, iV z]) := upd_same
    generalize upd H2 td (.tup [iV z, iV z]) = H3 at s3 etd
    walk_at "sx"
    refine ⟨.ref td, 2 + 0 + 1, rfl, .tup (SqT.of etd) (.int (.int .nil)) .nil, by omega, fun H4 sm4 => ?_⟩
    have s4 := s3.trans sm4
    have etd4 := sm4 _ _ etd
    walk_at "sx"
    refine s_F rfl ?_
    walk_at "sx"
    refine s_newT (by show 2 ≤ sizeLine; decide) fun te nte => ?_
    have s5 : Same H (upd H4 te (.tup [iV z, iV z])) := sU s4 nte
    refine s_neT (ns := [(z : Int), z]) (ms := [(z : Int), z]) (SqT.of (by rw [upd_ne (ne_of_none etd4 nte)]; exact etd4)) (SqT.of upd_same) ?_
    walk_at "sx"
    refine s_F (by simp) ?_
    generalize upd H4 te (.tup [iV z, iV z]) = H5 at s5
    walk_at "sx"
    refine ⟨v1, v2, f1, f2, rfl, ForV.ts (Same.ts s5) tv1, ForV.ts (Same.ts s5) tv2, by omega, by omega, po1, po2, fun t1 tv ps H6 et1 pt1 lay1 len1 sm6 => ?_⟩
    have s6 := s5.trans sm6
    walk_at "sx"
    refine ⟨v1, v2, f1, f2, t1, tv, ps, by rw [len1, hz]; rfl, ForV.ts (Same.ts s6) tv1, ForV.ts (Same.ts s6) tv2, by omega, by omega, et1, pt1, lay1, fun H7 sm7 => ?_⟩
    exact k H7 (s6.trans sm7)


/-! ### the law -/
theorem goneOf_nat {ks : List Nat} {k : Nat} : goneOf (ks.map fun (k : Nat) => (k : Int)) k = decide (k ∈ ks) := by
  unfold goneOf
  apply decide_eq_decide.mpr
  rw [List.mem_map]
  constructor
  · rintro ⟨j, hj, e⟩
    have : j = k := by omega
    rw [← this]; exact hj
  · intro h; exact ⟨k, h, rfl⟩
theorem ite_nx {b : Bool} {t u : TS} {D : Ends} {σ : L2.St} {H : Hp} (N : L2.St → Hp → Prop) (key : ∀ σ' H', N σ' H' → D.nx σ' H') (h : (∀ σ' H', N σ' H' → D.nx σ' H') → if b = true then t D σ H else u D σ H) : if b = true then t D σ H else u D σ H := h key
def sp_law (T : Ev K mg) : Sp := fun vs H Q _ => ∃ (a : Addr) (ns : List Int), vs = [.ref a] ∧ SqL K H a (ns.map V.int) ∧ ∀ H', Q (.bl true) H'
set_option maxHeartbeats 16000000 in
theorem ok_law (T : Ev K mg) : FnOk P w K mg base CX0 9 T.a_law T.d_law ["script"] (sp_law T) := by
  refine T.F_law.ok sc_law (fun vs H Q E h => ?_) (fun cdv A outer s0 H vs Q E hr h => ?_)
  · obtain ⟨_, _, rfl, _⟩ := h; rfl
  · obtain ⟨a, ns, rfl, ea, k⟩ := h
    refine ⟨_, (pss_cons (ps_set (i := 1) sc_law.nd rfl (Or.inr rfl) (pe_call (ok_law_source T) (hr.mono (by decide)) (by rfl) T.m_law_source T.F_law_source.kp T.b_law_source .nil pass0 (pa_cons (pv 0) pa_nil)))
      (pss_cons (ps_set (i := 2) sc_law.nd rfl (Or.inl rfl) (pe_call (ok_law_free_tree T) (hr.mono (by decide)) (by rfl) T.m_law_free_tree T.F_law_free_tree.kp T.b_law_free_tree .nil pass0 (pa_cons (pv 1) (pa_cons (pe_op op_add pe_int (pe_call (ok_law_draw T) (hr.mono (by decide)) (by rfl) T.m_law_draw T.F_law_draw.kp T.b_law_draw .nil pass0 (pa_cons (pv 1) (pa_cons pe_int pa_nil)))) (pa_cons (pe_op op_add pe_int (pe_call (ok_law_draw T) (hr.mono (by decide)) (by rfl) T.m_law_draw T.F_law_draw.kp T.b_law_draw .nil pass0 (pa_cons (pv 1) (pa_cons pe_int pa_nil)))) pa_nil)))))
      (pss_cons (ps_set (i := 3) sc_law.nd rfl (Or.inr rfl) (pe_ix ix_tup (pe_call (ok_law_shape_of T) (hr.mono (by decide)) (by rfl) T.m_law_shape_of T.F_law_shape_of.kp T.b_law_shape_of .nil pass0 (pa_cons (pv 2) pa_nil)) pe_int (fun _ _ => rfl)))
      (pss_cons (ps_set (i := 4) sc_law.nd rfl (Or.inl rfl) (pe_callB call_lenS (by rfl) T.g_len (by decide +kernel) (pa_cons (pv 3) pa_nil)))
      (pss_cons (ps_set (i := 5) sc_law.nd rfl (Or.inl rfl) (pe_cmpR op_eq (pe_call (ok_law_draw T) (hr.mono (by decide)) (by rfl) T.m_law_draw T.F_law_draw.kp T.b_law_draw .nil pass0 (pa_cons (pv 1) (pa_cons pe_int pa_nil))) pe_int (nomark _)))
      (pss_cons (ps_if (pt_val (pv 5)) (pss_one (ps_set (i := 3) sc_law.nd rfl (Or.inr rfl) (pe_lc (own := [("k", 13)]) (g := (gName 13)) (tt := tYes) (te := (tVar 13)) rfl sc_law.nd (pi_range1 rfl T.g_range (pa_cons (pv 4) pa_nil)) (blkOk_by (N := N_law) (sc := defScope s_law) (by decide +kernel)) (fun _ _ _ _ _ => (pg_name (i := 13) sc_law.nd rfl (Or.inl rfl))) (fun _ _ _ _ _ => pts_nil) (fun _ _ _ _ _ => (pv 13))))) pss_nil)
      (pss_cons (ps_set (i := 6) sc_law.nd rfl (Or.inl rfl) (pe_call (ok_law_rebuilt T) (hr.mono (by decide)) (by rfl) T.m_law_rebuilt T.F_law_rebuilt.kp T.b_law_rebuilt .nil pass0 (pa_cons (pv 2) (pa_cons (pe_lst pa_nil) (pa_cons (pv 3) pa_nil)))))
      (pss_cons (ps_set (i := 7) sc_law.nd rfl (Or.inr rfl) (pe_lc (own := [("k", 13)]) (g := (gName 13)) (tt := (tTest (tOp _ (tCall _ _ _ (tCons (tVar 1) (tCons _ tNil))) _))) (te := (tVar 13)) rfl sc_law.nd (pi_range1 rfl T.g_range (pa_cons (pe_op op_sub (pv 4) pe_int) pa_nil)) (blkOk_by (N := N_law) (sc := defScope s_law) (by decide +kernel)) (fun _ _ _ _ _ => (pg_name (i := 13) sc_law.nd rfl (Or.inl rfl))) (fun _ _ _ _ _ => pts_one (pt_cmpR op_eq (pe_call (ok_law_draw T) (hr.mono (by decide)) (by rfl) T.m_law_draw T.F_law_draw.kp T.b_law_draw .nil pass0 (pa_cons (pv 1) (pa_cons pe_int pa_nil))) pe_int (nomark _))) (fun _ _ _ _ _ => (pv 13))))
      (pss_cons (ps_set (i := 8) sc_law.nd rfl (Or.inr rfl) (pe_lc (own := [("k", 13)]) (g := (gName 13)) (tt := (tTest (tOp _ (tCall _ _ _ (tCons (tVar 1) (tCons _ tNil))) _))) (te := (tVar 13)) rfl sc_law.nd (pi_range1 rfl T.g_range (pa_cons (pv 4) pa_nil)) (blkOk_by (N := N_law) (sc := defScope s_law) (by decide +kernel)) (fun _ _ _ _ _ => (pg_name (i := 13) sc_law.nd rfl (Or.inl rfl))) (fun _ _ _ _ _ => pts_one (pt_cmpR op_eq (pe_call (ok_law_draw T) (hr.mono (by decide)) (by rfl) T.m_law_draw T.F_law_draw.kp T.b_law_draw .nil pass0 (pa_cons (pv 1) (pa_cons pe_int pa_nil))) pe_int (nomark _))) (fun _ _ _ _ _ => (pv 13))))
      (pss_cons (ps_set (i := 9) sc_law.nd rfl (Or.inl rfl) (pe_call (ok_law_rebuilt T) (hr.mono (by decide)) (by rfl) T.m_law_rebuilt T.F_law_rebuilt.kp T.b_law_rebuilt .nil pass0 (pa_cons (pv 6) (pa_cons (pv 7) (pa_cons (pv 3) pa_nil)))))
      (pss_cons (ps_setLc (i := 10) (own := [("k", 13)]) (g := (gName 13)) (tt := tYes) (te := (tOp _ (tOp (rIxL K) (tVar 3) (tVar 13)) (tOp _ _ (tCB _ (tCons (tOp (rIn K false) (tVar 13) (tVar 8)) tNil))))) rfl sc_law.nd rfl rfl (sw_true rfl rfl rfl (by decide +kernel)) (pi_range1 rfl T.g_range (pa_cons (pv 4) pa_nil)) (blkOk_by (N := N_law) (sc := defScope s_law) (by decide +kernel)) (fun _ _ _ _ _ => (pg_name (i := 13) sc_law.nd rfl (Or.inl rfl))) (fun _ _ _ _ _ => pts_nil) (fun _ _ _ _ _ => (pe_op op_add (pe_ix ix_list (pv 3) (pv 13) (fun _ _ => rfl)) (pe_op op_mul pe_int (pe_callTy call_int1 (by rfl) T.g_int (by decide +kernel) (pa_cons (pe_cmpR op_in_seq (pv 13) (pv 8) (by rfl)) pa_nil))))))
      (pss_cons (ps_set (i := 11) sc_law.nd rfl (Or.inl rfl) (pe_call (ok_law_rebuilt T) (hr.mono (by decide)) (by rfl) T.m_law_rebuilt T.F_law_rebuilt.kp T.b_law_rebuilt .nil pass0 (pa_cons (pv 6) (pa_cons (pe_lst pa_nil) (pa_cons (pv 10) pa_nil)))))
      (pss_cons (ps_if (pw_or (pt_not (pt_val (pe_call (ok_law_asked T) hr (by rfl) T.m_law_asked T.F_law_asked.kp T.b_law_asked .nil pass0 (pa_cons (pv 6) (pa_cons (pv 9) (pa_cons (pe_op op_sub (pv 4) (pe_callB call_lenS (by rfl) T.g_len (by decide +kernel) (pa_cons (pv 7) pa_nil))) pa_nil)))))) (pw_or1 (pt_not (pt_val (pe_call (ok_law_asked T) hr (by rfl) T.m_law_asked T.F_law_asked.kp T.b_law_asked .nil pass0 (pa_cons (pv 6) (pa_cons (pv 11) (pa_cons (pe_op op_sub (pv 4) (pe_callB call_lenS (by rfl) T.g_len (by decide +kernel) (pa_cons (pv 8) pa_nil))) pa_nil)))))))).pt (pss_one (ps_ret pe_bl)) pss_nil)
      (pss_cons (ps_if (pt_not (pt_val (pe_call (ok_law_asked T) hr (by rfl) T.m_law_asked T.F_law_asked.kp T.b_law_asked .nil pass0 (pa_cons (pv 9) (pa_cons (pv 9) (pa_cons (pe_op op_sub (pv 4) (pe_callB call_lenS (by rfl) T.g_len (by decide +kernel) (pa_cons (pv 7) pa_nil))) pa_nil)))))) (pss_one (ps_ret pe_bl)) pss_nil)
      (pss_cons (ps_setLc (i := 12) (own := [("k", 13)]) (g := (gName 13)) (tt := (tAnd (tTest (tOp (rIn K true) (tVar 13) (tVar 7))) (tTest (tOp (rIn K true) (tVar 13) (tVar 8))))) (te := (tVar 13)) rfl sc_law.nd rfl rfl (sw_true rfl rfl rfl (by decide +kernel)) (pi_range1 rfl T.g_range (pa_cons (pv 4) pa_nil)) (blkOk_by (N := N_law) (sc := defScope s_law) (by decide +kernel)) (fun _ _ _ _ _ => (pg_name (i := 13) sc_law.nd rfl (Or.inl rfl))) (fun _ _ _ _ _ => pts_one (pw_and (pt_cmpR op_notIn_seq (pv 13) (pv 7) (by rfl)) (pw_and1 (pt_cmpR op_notIn_seq (pv 13) (pv 8) (by rfl)))).pt) (fun _ _ _ _ _ => (pv 13)))
      (pss_one (ps_ret (pe_or (pe_not (pv 5)) (pe_one (pe_call (ok_law_asked T) hr (by rfl) T.m_law_asked T.F_law_asked.kp T.b_law_asked .nil pass0 (pa_cons (pv 9) (pa_cons (pv 11) (pa_cons (pe_callB call_lenS (by rfl) T.g_len (by decide +kernel) (pa_cons (pv 12) pa_nil)) pa_nil))))))))))))))))))))))), ?_⟩
    walk_at "sx"
    refine ⟨a, ns, rfl, ea, fun s c cs H1 src1 sm1 => ?_⟩
    walk_at "sx"
    refine ⟨s, c, cs, 24, rfl, src1, by omega, by omega, fun d1 H2 hd1 src2 kp2 ts2 => ?_⟩
    walk_at "sx"
    refine ⟨s, c, cs, 4, rfl, src2, by omega, by omega, fun d2 H3 hd2 src3 kp3 ts3 => ?_⟩
    walk_at "sx"
    rw [show (6 + (d1 : Int)) = ((6 + d1 : Nat) : Int) by omega, show (1 + (d2 : Int)) = ((1 + d2 : Nat) : Int) by omega]
    refine ⟨s, c, cs, 6 + d1, 1 + d2, rfl, src3, by omega, by omega, by omega, by omega, fun v0 f0 H4 tv0 pf0 bd0 src4 kp4 ts4 => ?_⟩
    walk_at "sx"
    refine ⟨v0, f0, rfl, tv0, by omega, fun q l1 l2 H5 eq el1 el2 sm5 => ?_⟩
    have src5 := src4.same sm5
    have tv05 := ForV.ts (Same.ts sm5) tv0
    have b0 : atI [V.ref l1, V.ref l2] 0 = some (.ref l1) := rfl
    have qq : SqT K H5 q [.ref l1, .ref l2] := SqT.of eq
    have lr : (f0.rules.map V.int).length = f0.cnt := by rw [List.length_map, Fo.rules_len]
    have c0 := Fo.cnt_le_parts f0
    walk_at "sx"
    refine ⟨s, c, cs, 2, rfl, src5, by omega, by omega, fun un H6 hun src6 kp6 ts6 => ?_⟩
    have ns1 : l1 ≠ s := by
      obtain ⟨_, _, _, e⟩ := src5.top
      refine ne_of el1 e ?_
      intro w
      have := HO.lst.inj w
      cases q : f0.rules <;> simp [q] at this
    have el16 := kp6 _ _ el1 ns1
    have tv06 := ForV.ts ts6 tv05
    walk_at "sx"
    rw [lr]
    refine ite_nx (fun σ' H7 => ∃ (l3 : Addr) (rl : List Int) (w13 : Option V), σ' = [some (.ref a), some (.ref s), some v0, some (.ref l3), some (iV f0.cnt), some (.bl (decide ((un : Int) = 0))), none, none, none, none, none, none, none, w13] ∧ H7 l3 = some (.lst (rl.map V.int)) ∧ rl.length = f0.cnt ∧ (∀ k, k < f0.cnt → 0 ≤ rulOf rl k ∧ rulOf rl k < 100) ∧ ((un : Int) = 0 → ∀ k, k < f0.cnt → rulOf rl k = k) ∧ SrcAt H7 s c cs ∧ TreeV K H7 v0 f0 ∧ l3 ≠ s) ?_ fun rest => ?_
    · rintro σ' H7 ⟨l3, rl, w13, rfl, el3, rlen, rb, ru, src7, tv7, n3s⟩
      walk_at "sx"
      refine s_newL (by show 0 ≤ sizeLine; decide) fun e0 ne0 => ?_
      have sme : Same H7 (upd H7 e0 (.lst [])) := sU (Same.refl H7) ne0
      walk_at "sx"
      refine ⟨v0, e0, l3, f0, [], rl, rfl, ForV.ts (Same.ts sme) tv7, by omega, upd_same, sme _ _ el3, rlen, fun _ => rfl, fun v1 H8 tv1 sm8 => ?_⟩
      have src8 := (src7.same sme).same sm8
      have el8 := sm8 _ _ (sme _ _ el3)
      have none0 : ∀ k, goneOf [] k = false := fun _ => rfl
      obtain ⟨f1, ef1⟩ : ∃ f1, f1 = f0.reb (goneOf []) (rulOf rl) 0 := ⟨_, rfl⟩
      rw [← ef1] at tv1
      have n1 : f1.cnt = f0.cnt := by rw [ef1]; exact Fo.reb_cnt0 _ _ 0 f0 none0
      have pf1 : f1.parts ≤ f0.parts := by rw [ef1]; exact Fo.reb_parts _ _ 0 f0
      walk_at "sx"
      intro D nD
      rw [show ((f0.cnt : Int) - 1).toNat = f0.cnt - 1 by omega]
      have nsD : s ≠ D := by
        obtain ⟨_, _, _, e⟩ := src8.top
        exact ne_of_none e nD
      refine c_it walk_range (fun i H' => ∃ ks : List Nat, H' D = some (.lst (ks.map iV)) ∧ ks.Pairwise (· < ·) ∧ (∀ k ∈ ks, k < i) ∧ ks.length ≤ i ∧ SrcAt H' s c cs ∧ Kp (fun b => b = s) H8 H' ∧ TSt H8 H') ⟨[], upd_same, .nil, fun _ h => (nomatch h), Nat.le_refl _, src8.same (sU (Same.refl H8) nD), kpNew Kp.refl nD, TSt.refl.upd' nD⟩ (fun _ _ _ _ => trivial) ?_ ?_
      · rintro i x H9 H10 hi ⟨ks, eD, kpw, kb, kl, src9, kp9, ts9⟩ ⟨rfl, rfl⟩
        walk_at "sx"
        refine ⟨s, c, cs, 3, rfl, src9, by omega, by omega, fun d3 H11 hd3 src11 kp11 ts11 => ?_⟩
        have eD11 := kp11 _ _ eD nsD.symm
        walk_at "sx"
        refine s_if (fun h1 => ?_) fun h1 => ?_
        · walk_at "sx"
          refine s_acc eD11 (by rw [List.length_map]; exact small1000 (by omega)) ⟨ks ++ [i], ?_, List.pairwise_append.mpr ⟨kpw, List.pairwise_singleton .., fun a ha b hb => by rw [List.mem_singleton.mp hb]; exact kb a ha⟩, fun k hk => ?_, by rw [List.length_append]; exact Nat.succ_le_succ kl, ?_, kpNew (kp9.trans kp11) nD, (ts9.trans ts11).mut eD11 trivial⟩
          · rw [upd_same, List.map_append]
            dsimp only
            rw [Int.zero_add]; rfl
          · rcases List.mem_append.mp hk with hk | hk
            · have := kb k hk; omega
            · rw [List.mem_singleton.mp hk]; omega
          · refine src11.keep (W := (· = D)) (Kp.mut (W := (· = D)) Kp.refl rfl) nsD (fun z => ?_)
            have e1 := src8.cells
            rw [z, nD] at e1; cases e1
        · exact ⟨ks, eD11, kpw, fun k hk => Nat.lt_succ_of_lt (kb k hk), Nat.le_succ_of_le kl, src11, kp9.trans kp11, ts9.trans ts11⟩
      · rintro H9 ⟨gs, eG, gpw, gb, gll, src9, kp9, ts9⟩
        have el9 := kp9 _ _ el8 n3s
        have tv9 := ForV.ts ts9 tv1
        walk_at "sx"
        intro D2 nD2
        rw [show ((f0.cnt : Int)).toNat = f0.cnt by omega]
        have nsD2 : s ≠ D2 := by
          obtain ⟨_, _, _, e⟩ := src9.top
          exact ne_of_none e nD2
        refine c_it walk_range (fun i H' => ∃ ks : List Nat, H' D2 = some (.lst (ks.map iV)) ∧ ks.Pairwise (· < ·) ∧ (∀ k ∈ ks, k < i) ∧ ks.length ≤ i ∧ SrcAt H' s c cs ∧ Kp (fun b => b = s) H9 H' ∧ TSt H9 H') ⟨[], upd_same, .nil, fun _ h => (nomatch h), Nat.le_refl _, src9.same (sU (Same.refl H9) nD2), kpNew Kp.refl nD2, TSt.refl.upd' nD2⟩ (fun _ _ _ _ => trivial) ?_ ?_
        · rintro i x H10 H11 hi ⟨ks, eD, kpw, kb, kl, src10, kp10, ts10⟩ ⟨rfl, rfl⟩
          walk_at "sx"
          refine ⟨s, c, cs, 4, rfl, src10, by omega, by omega, fun d3 H12 hd3 src11 kp11 ts11 => ?_⟩
          have eD11 := kp11 _ _ eD nsD2.symm
          walk_at "sx"
          refine s_if (fun h1 => ?_) fun h1 => ?_
          · walk_at "sx"
            refine s_acc eD11 (by rw [List.length_map]; exact small1000 (by omega)) ⟨ks ++ [i], ?_, List.pairwise_append.mpr ⟨kpw, List.pairwise_singleton .., fun a ha b hb => by rw [List.mem_singleton.mp hb]; exact kb a ha⟩, fun k hk => ?_, by rw [List.length_append]; exact Nat.succ_le_succ kl, ?_, kpNew (kp10.trans kp11) nD2, (ts10.trans ts11).mut eD11 trivial⟩
            · rw [upd_same, List.map_append]
              dsimp only
              rw [Int.zero_add]; rfl
            · rcases List.mem_append.mp hk with hk | hk
              · have := kb k hk; omega
              · rw [List.mem_singleton.mp hk]; omega
            · refine src11.keep (W := (· = D2)) (Kp.mut (W := (· = D2)) Kp.refl rfl) nsD2 (fun z => ?_)
              have e1 := src9.cells
              rw [z, nD2] at e1; cases e1
          · exact ⟨ks, eD11, kpw, fun k hk => Nat.lt_succ_of_lt (kb k hk), Nat.le_succ_of_le kl, src11, kp10.trans kp11, ts10.trans ts11⟩
        · rintro H10 ⟨us, eU, upw, ub, ull, src10, kp10, ts10⟩
          have eG10 := kp10 _ _ eG nsD.symm
          have el10 := kp10 _ _ el9 n3s
          have tv10 := ForV.ts ts10 tv9
          walk_at "sx"
          have eGI : H10 D = some (.lst ((gs.map fun (k : Nat) => (k : Int)).map V.int)) := by rw [List.map_map]; exact eG10
          refine ⟨v1, D, l3, f1, gs.map (fun (k : Nat) => (k : Int)), rl, rfl, tv10, by omega, eGI, el10, by rw [n1]; exact rlen, fun h => ?_, fun v2 H11 tv2 sm11 => ?_⟩
          · rw [goneOf_nat]
            exact decide_eq_false fun hm => by have := gb _ hm; omega
          have el11 := sm11 _ _ el10
          have eU11 := sm11 _ _ eU
          have tv111 := ForV.ts (Same.ts sm11) tv10
          walk_at "sx"
          intro D3 nD3
          rw [show ((f0.cnt : Int)).toNat = f0.cnt by omega]
          have eUI : H11 D2 = some (.lst ((us.map fun (k : Nat) => (k : Int)).map V.int)) := by rw [List.map_map]; exact eU11
          refine c_range nD3 (fun i acc _ => acc = ((List.range i).map fun k => rulOf rl k + 100 * (if goneOf (us.map fun (k : Nat) => (k : Int)) k = true then 1 else 0)).map V.int) rfl ?_ ?_
          · rintro i H12 acc hi sm12 eD rfl
            have el12 := sm12 _ _ el11
            have eU12 := sm12 _ _ eUI
            have b9 : atI (rl.map V.int) (0 + (i : Int)) = some (.int (rulOf rl i)) := by
              rw [Int.zero_add]
              refine atI_map V.int ?_
              unfold rulOf
              rw [List.getD_eq_getElem?_getD, List.getElem?_eq_getElem (by omega)]; rfl
            walk_at "sx"
            refine ⟨D2, _, rfl, .inl (SqL.of eU12), rfl, flat_ints _, ?_⟩
            rw [Int.zero_add, in_ints]
            walk_at "sx"
            refine Or.inr ⟨_, rfl, ?_⟩
            walk_at "sx"
            refine s_acc eD (by rw [List.length_map, List.length_map, List.length_range]; exact small1000 (by omega)) ⟨sM sm12 nD3, _, upd_same, ?_⟩
            rw [List.range_succ, List.map_append, List.map_append]; rfl
          · rintro H12 acc sm12 eD rfl
            walk_at "sx"
            refine s_newL (by show 0 ≤ sizeLine; decide) fun e1 ne1 => ?_
            have sm13 : Same H12 (upd H12 e1 (.lst [])) := sU (Same.refl H12) ne1
            walk_at "sx"
            refine ⟨v1, e1, D3, f1, [], _, rfl, ForV.ts (Same.ts (sm12.trans sm13)) tv111, by omega, upd_same, sm13 _ _ eD, by rw [List.length_map, List.length_range, n1], fun _ => rfl, fun v3 H14 tv3 sm14 => ?_⟩
            have s1114 := (sm12.trans sm13).trans sm14
            have tv114 := ForV.ts (Same.ts s1114) tv111
            have tv214 := ForV.ts (Same.ts s1114) tv2
            have s1014 := sm11.trans s1114
            have eG14 := s1014 _ _ eG10
            have eU14 := s1014 _ _ eU
            have gof : ∀ k, goneOf (gs.map fun (k : Nat) => (k : Int)) k = decide (k ∈ gs) := fun k => goneOf_nat
            have rlb : ∀ k, k < f1.cnt → 0 ≤ rulOf rl k ∧ rulOf rl k < 100 := fun k hk => rb k (by omega)
            obtain ⟨news, enews⟩ : ∃ news, news = (List.range f0.cnt).map fun k => rulOf rl k + 100 * (if goneOf (us.map fun (k : Nat) => (k : Int)) k = true then 1 else 0) := ⟨_, rfl⟩
            rw [← enews] at tv3
            have hnew : ∀ k, k < f1.cnt → rulOf news k = rulOf rl k + 100 * (if k ∈ us then 1 else 0) := fun k hk => by
              rw [enews]
              unfold rulOf
              rw [List.getD_eq_getElem?_getD, List.getElem?_map, List.getElem?_range (by omega)]
              show _ + 100 * (if goneOf _ k = true then (1 : Int) else 0) = _
              rw [goneOf_nat]
              by_cases h : k ∈ us
              · rw [if_pos h, if_pos (decide_eq_true h)]
              · rw [if_neg h, if_neg (by rw [decide_eq_false h]; exact Bool.noConfusion)]
            have hself : f1.reb (goneOf []) (rulOf rl) 0 = f1 := by rw [ef1]; exact reb_own none0
            have gb1 : ∀ k ∈ gs, k < f1.cnt := fun k hk => by have := gb k hk; omega
            have ub1 : ∀ k ∈ us, k < f1.cnt := fun k hk => by have := ub k hk; omega
            have hA := cnt_gone (f := f1) (r := rulOf rl) none0 gof gpw gb1 hself
            have hB := cnt_turned (f := f1) none0 hnew rlb upw ub1 hself
            have hC := cnt_self (f := f1) (r := rulOf rl) gof gpw gb1
            have p2 : (f1.reb (goneOf (gs.map fun (k : Nat) => (k : Int))) (rulOf rl) 0).parts ≤ f1.parts := Fo.reb_parts _ _ 0 f1
            have p3 : (f1.reb (goneOf []) (rulOf news) 0).parts ≤ f1.parts := Fo.reb_parts _ _ 0 f1
            have po1 : Pos f1 := by rw [ef1]; exact Fo.reb_within _ _ 0 f0 fun k _ hk => (rb k (by omega)).1
            have po2 : Pos (f1.reb (goneOf (gs.map fun (k : Nat) => (k : Int))) (rulOf rl) 0) := Fo.reb_within _ _ 0 f1 fun k _ hk => (rlb k (by omega)).1
            have po3 : Pos (f1.reb (goneOf []) (rulOf news) 0) := Fo.reb_within _ _ 0 f1 fun k _ hk => by
              rw [hnew k (by omega)]
              have := rlb k (by omega)
              split <;> omega
            obtain ⟨less, eless⟩ : ∃ z, z = f1.reb (goneOf (gs.map fun (k : Nat) => (k : Int))) (rulOf rl) 0 := ⟨_, rfl⟩
            obtain ⟨other, eother⟩ : ∃ z, z = f1.reb (goneOf []) (rulOf news) 0 := ⟨_, rfl⟩
            rw [← eless] at hA hC p2 po2 tv214
            rw [← eother] at hB p3 po3 tv3
            walk_at "sx"
            have cg : ∀ ks : List Nat, ks.length ≤ f0.cnt → V.int ((f0.cnt : Int) - ((ks.map iV).length : Int)) = iV (f1.cnt - ks.length) := fun ks h => by
              show V.int _ = V.int _
              rw [List.length_map, n1]; congr 1; omega
            have gl2 : gs.length ≤ f0.cnt := by omega
            have ul2 : us.length ≤ f0.cnt := ull
            rw [cg gs gl2]
            have pr1 : f1.parts ≤ 900 := by omega
            have pr2 : less.parts ≤ 900 := by omega
            have pr3 : other.parts ≤ 900 := by omega
            refine ⟨v1, v2, f1, less, f1.cnt - gs.length, rfl, tv114, tv214, pr1, pr2, po1, po2, hA, fun H15 sm15 => ?_⟩
            have tv115 := ForV.ts (Same.ts sm15) tv114
            have tv315 := ForV.ts (Same.ts sm15) tv3
            have tv215 := ForV.ts (Same.ts sm15) tv214
            have eG15 := sm15 _ _ eG14
            have eU15 := sm15 _ _ eU14
            walk_at "sx"
            refine s_F rfl ?_
            walk_at "sx"
            rw [cg us ul2]
            refine ⟨v1, v3, f1, other, f1.cnt - us.length, rfl, tv115, tv315, pr1, pr3, po1, po3, hB, fun H16 sm16 => ?_⟩
            have tv116 := ForV.ts (Same.ts sm16) tv115
            have tv316 := ForV.ts (Same.ts sm16) tv315
            have tv216 := ForV.ts (Same.ts sm16) tv215
            have eG16 := sm16 _ _ eG15
            have eU16 := sm16 _ _ eU15
            walk_at "sx"
            refine s_F rfl ?_
            walk_at "sx"
            rw [cg gs gl2]
            have cl := Fo.cnt_le_parts less
            have hC2 : M less.nr.nd less.nr.nd 0 less.cnt 0 less.cnt = f1.cnt - gs.length := by
              have := M_self (A := less.nr) (Fo.nr_ok less (by omega))
              rw [Fo.nr_n] at this
              rw [this, hC]
            refine ⟨v2, v2, less, less, f1.cnt - gs.length, rfl, tv216, tv216, pr2, pr2, po2, po2, hC2, fun H17 sm17 => ?_⟩
            have tv317 := ForV.ts (Same.ts sm17) tv316
            have tv217 := ForV.ts (Same.ts sm17) tv216
            have eG17 := sm17 _ _ eG16
            have eU17 := sm17 _ _ eU16
            walk_at "sx"
            refine s_F rfl ?_
            walk_at "sx"
            intro D4 nD4
            rw [show ((f0.cnt : Int)).toNat = f0.cnt by omega]
            have eGI7 : H17 D = some (.lst ((gs.map fun (k : Nat) => (k : Int)).map V.int)) := by rw [List.map_map]; exact eG17
            have eUI7 : H17 D2 = some (.lst ((us.map fun (k : Nat) => (k : Int)).map V.int)) := by rw [List.map_map]; exact eU17
            refine c_range nD4 (fun i acc _ => acc = ((List.range i).filter fun k => !decide (k ∈ gs) && !decide (k ∈ us)).map iV) rfl ?_ ?_
            · rintro i H18 acc hi sm18 eD rfl
              have eG18 := sm18 _ _ eGI7
              have eU18 := sm18 _ _ eUI7
              have flen : (((List.range i).filter fun k => !decide (k ∈ gs) && !decide (k ∈ us)).map iV).length ≤ i := by
                rw [List.length_map]
                exact Nat.le_trans (List.length_filter_le _ _) (by rw [List.length_range]; exact Nat.le_refl _)
              have rs : (List.range (i + 1)).filter (fun k => !decide (k ∈ gs) && !decide (k ∈ us)) = (List.range i).filter (fun k => !decide (k ∈ gs) && !decide (k ∈ us)) ++ if (!decide (i ∈ gs) && !decide (i ∈ us)) = true then [i] else [] := by
                rw [List.range_succ, List.filter_append]
                congr 1
                cases h : (!decide (i ∈ gs) && !decide (i ∈ us)) <;> simp [List.filter, h]
              walk_at "sx"
              refine ⟨D, _, rfl, .inl (SqL.of eG18), rfl, flat_ints _, ?_⟩
              rw [Int.zero_add, in_ints, goneOf_nat]
              walk_at "sx"
              refine s_ifB (fun hb => ?_) fun hb => ?_
              · walk_at "sx"
                refine ⟨D2, _, rfl, .inl (SqL.of eU18), rfl, flat_ints _, ?_⟩
                rw [in_ints, goneOf_nat]
                walk_at "sx"
                refine s_ifB (fun hb2 => ?_) fun hb2 => ?_
                · walk_at "sx"
                  refine s_acc eD (small1000 (by omega)) ⟨sM sm18 nD4, _, upd_same, ?_⟩
                  rw [rs, if_pos (by have e1 : (!decide (i ∈ gs)) = true := hb; have e2 : (!decide (i ∈ us)) = true := hb2; rw [e1, e2]; rfl), List.map_append]
                  rfl
                · refine ⟨sm18, _, eD, ?_⟩
                  rw [rs, if_neg (by have e2 : (!decide (i ∈ us)) = false := hb2; rw [e2, Bool.and_false]; exact Bool.noConfusion), List.append_nil]
              · refine iteF ⟨sm18, _, eD, ?_⟩
                rw [rs, if_neg (by have e2 : (!decide (i ∈ gs)) = false := hb; rw [e2]; exact Bool.noConfusion), List.append_nil]
            · rintro H18 acc sm18 eD rfl
              walk_at "sx"
              refine s_ifN (fun h1 => k H18) fun h1 => ?_
              walk_at "sx"
              have hD := cnt_both (f := f1) (us := us) none0 gof (fun k hk => ru h1 k (by omega)) hnew (by omega)
              rw [← eless, ← eother, n1] at hD
              have tv318 := ForV.ts (Same.ts sm18) tv317
              have tv218 := ForV.ts (Same.ts sm18) tv217
              refine ⟨v2, v3, less, other, _, by rw [List.length_map]; rfl, tv218, tv318, pr2, pr3, po2, po3, hD, fun H19 sm19 => k H19⟩
    · refine s_if (fun h1 => ?_) fun h1 => ?_
      · walk_at "sx"
        intro D nD
        rw [show ((f0.cnt : Int)).toNat = f0.cnt by omega]
        refine c_range nD (fun i acc _ => acc = ((List.range i).map fun (k : Nat) => (k : Int)).map V.int) rfl ?_ ?_
        · rintro i H7 acc hi sm7 eD rfl
          walk_at "sx"
          refine s_acc eD (by rw [List.length_map, List.length_map, List.length_range]; exact small1000 (by omega)) ⟨sM sm7 nD, _, upd_same, ?_⟩
          rw [List.range_succ, List.map_append, List.map_append, Int.zero_add]; rfl
        · rintro H7 acc sm7 eD rfl
          refine s_gName ?_
          have rg : ∀ k, k < f0.cnt → rulOf ((List.range f0.cnt).map fun (k : Nat) => (k : Int)) k = k := fun k hk => by
            unfold rulOf
            rw [List.getD_eq_getElem?_getD, List.getElem?_map, List.getElem?_range hk]; rfl
          have h1' : decide ((un : Int) = 0) = true := decide_eq_true h1
          refine rest _ _ ⟨D, _, none, rfl, eD, by rw [List.length_map, List.length_range], fun k hk => by rw [rg k hk]; omega, fun _ => rg, src6.same sm7, ForV.ts (Same.ts sm7) tv06, ?_⟩
          obtain ⟨_, _, _, e⟩ := src6.top
          exact (ne_of_none e nD).symm
      · refine s_nx (rest _ _ ⟨l1, f0.rules, none, rfl, el16, Fo.rules_len f0, fun k hk => ?_, fun z => absurd z h1, src6, tv06, ns1⟩)
        have hk2 : k < f0.rules.length := by rw [Fo.rules_len]; exact hk
        unfold rulOf
        rw [List.getD_eq_getElem?_getD, List.getElem?_eq_getElem hk2]
        exact bnd_rules bd0 _ (List.getElem_mem hk2)

end
end Sh
namespace Sh
open PySem L2 Ow
/-! ### what the top has written, the head -/
def spLawK (K : PySem.W.Frag) : Sp := fun vs H Q _ => ∃ (a : Addr) (ns : List Int), vs = [.ref a] ∧ SqL K H a (ns.map V.int) ∧ ∀ H', Q (.bl true) H'
theorem all_mk {l : PySem.W.OpenLaw} {w : World} {K : PySem.W.Frag} {h : Heap} {mg : Str → Option Value} {fa : Addr} (X : K.In h) (G : h.Ns mainGlobals mg) (hfa : mg "law" = some (.ref fa))
    {c_NodeRow : Addr}
    {c_Peeling : Addr}
    {c_Sharing : Addr}
    {a_NodeRow_init : Addr} {od_NodeRow_init an_NodeRow_init : Option Addr} {os_NodeRow_init : Array (Option Value)} {oc_NodeRow_init kV_NodeRow_init dc_NodeRow_init pm_NodeRow_init cd_NodeRow_init ct_NodeRow_init : Value}
    {a_NodeRow_many : Addr} {od_NodeRow_many an_NodeRow_many : Option Addr} {os_NodeRow_many : Array (Option Value)} {oc_NodeRow_many kV_NodeRow_many dc_NodeRow_many pm_NodeRow_many cd_NodeRow_many ct_NodeRow_many : Value}
    {a_NodeRow_first_root : Addr} {od_NodeRow_first_root an_NodeRow_first_root : Option Addr} {os_NodeRow_first_root : Array (Option Value)} {oc_NodeRow_first_root kV_NodeRow_first_root dc_NodeRow_first_root pm_NodeRow_first_root cd_NodeRow_first_root ct_NodeRow_first_root : Value}
    {a_NodeRow_under_mark : Addr} {od_NodeRow_under_mark an_NodeRow_under_mark : Option Addr} {os_NodeRow_under_mark : Array (Option Value)} {oc_NodeRow_under_mark kV_NodeRow_under_mark dc_NodeRow_under_mark pm_NodeRow_under_mark cd_NodeRow_under_mark ct_NodeRow_under_mark : Value}
    {a_noderow_of : Addr} {od_noderow_of an_noderow_of : Option Addr} {os_noderow_of : Array (Option Value)} {oc_noderow_of kV_noderow_of dc_noderow_of pm_noderow_of cd_noderow_of ct_noderow_of : Value}
    {a_Peeling_init : Addr} {od_Peeling_init an_Peeling_init : Option Addr} {os_Peeling_init : Array (Option Value)} {oc_Peeling_init kV_Peeling_init dc_Peeling_init pm_Peeling_init cd_Peeling_init ct_Peeling_init : Value}
    {a_Peeling_peels : Addr} {od_Peeling_peels an_Peeling_peels : Option Addr} {os_Peeling_peels : Array (Option Value)} {oc_Peeling_peels kV_Peeling_peels dc_Peeling_peels pm_Peeling_peels cd_Peeling_peels ct_Peeling_peels : Value}
    {a_Peeling_takes_last : Addr} {od_Peeling_takes_last an_Peeling_takes_last : Option Addr} {os_Peeling_takes_last : Array (Option Value)} {oc_Peeling_takes_last kV_Peeling_takes_last dc_Peeling_takes_last pm_Peeling_takes_last cd_Peeling_takes_last ct_Peeling_takes_last : Value}
    {a_Peeling_takes_first : Addr} {od_Peeling_takes_first an_Peeling_takes_first : Option Addr} {os_Peeling_takes_first : Array (Option Value)} {oc_Peeling_takes_first kV_Peeling_takes_first dc_Peeling_takes_first pm_Peeling_takes_first cd_Peeling_takes_first ct_Peeling_takes_first : Value}
    {a_Peeling_takes_root : Addr} {od_Peeling_takes_root an_Peeling_takes_root : Option Addr} {os_Peeling_takes_root : Array (Option Value)} {oc_Peeling_takes_root kV_Peeling_takes_root dc_Peeling_takes_root pm_Peeling_takes_root cd_Peeling_takes_root ct_Peeling_takes_root : Value}
    {a_Peeling_same_trees : Addr} {od_Peeling_same_trees an_Peeling_same_trees : Option Addr} {os_Peeling_same_trees : Array (Option Value)} {oc_Peeling_same_trees kV_Peeling_same_trees dc_Peeling_same_trees pm_Peeling_same_trees cd_Peeling_same_trees ct_Peeling_same_trees : Value}
    {a_Peeling_take_all : Addr} {od_Peeling_take_all an_Peeling_take_all : Option Addr} {os_Peeling_take_all : Array (Option Value)} {oc_Peeling_take_all kV_Peeling_take_all dc_Peeling_take_all pm_Peeling_take_all cd_Peeling_take_all ct_Peeling_take_all : Value}
    {a_Peeling_rests : Addr} {od_Peeling_rests an_Peeling_rests : Option Addr} {os_Peeling_rests : Array (Option Value)} {oc_Peeling_rests kV_Peeling_rests dc_Peeling_rests pm_Peeling_rests cd_Peeling_rests ct_Peeling_rests : Value}
    {a_Peeling_moved : Addr} {od_Peeling_moved an_Peeling_moved : Option Addr} {os_Peeling_moved : Array (Option Value)} {oc_Peeling_moved kV_Peeling_moved dc_Peeling_moved pm_Peeling_moved cd_Peeling_moved ct_Peeling_moved : Value}
    {a_Sharing_init : Addr} {od_Sharing_init an_Sharing_init : Option Addr} {os_Sharing_init : Array (Option Value)} {oc_Sharing_init kV_Sharing_init dc_Sharing_init pm_Sharing_init cd_Sharing_init ct_Sharing_init : Value}
    {a_Sharing_same_rule : Addr} {od_Sharing_same_rule an_Sharing_same_rule : Option Addr} {os_Sharing_same_rule : Array (Option Value)} {oc_Sharing_same_rule kV_Sharing_same_rule dc_Sharing_same_rule pm_Sharing_same_rule cd_Sharing_same_rule ct_Sharing_same_rule : Value}
    {a_Sharing_forests : Addr} {od_Sharing_forests an_Sharing_forests : Option Addr} {os_Sharing_forests : Array (Option Value)} {oc_Sharing_forests kV_Sharing_forests dc_Sharing_forests pm_Sharing_forests cd_Sharing_forests ct_Sharing_forests : Value}
    {a_Sharing_forest_row : Addr} {od_Sharing_forest_row an_Sharing_forest_row : Option Addr} {os_Sharing_forest_row : Array (Option Value)} {oc_Sharing_forest_row kV_Sharing_forest_row dc_Sharing_forest_row pm_Sharing_forest_row cd_Sharing_forest_row ct_Sharing_forest_row : Value}
    {a_Sharing_keep : Addr} {od_Sharing_keep an_Sharing_keep : Option Addr} {os_Sharing_keep : Array (Option Value)} {oc_Sharing_keep kV_Sharing_keep dc_Sharing_keep pm_Sharing_keep cd_Sharing_keep ct_Sharing_keep : Value}
    {a_Sharing_most : Addr} {od_Sharing_most an_Sharing_most : Option Addr} {os_Sharing_most : Array (Option Value)} {oc_Sharing_most kV_Sharing_most dc_Sharing_most pm_Sharing_most cd_Sharing_most ct_Sharing_most : Value}
    {a_Sharing_pairs : Addr} {od_Sharing_pairs an_Sharing_pairs : Option Addr} {os_Sharing_pairs : Array (Option Value)} {oc_Sharing_pairs kV_Sharing_pairs dc_Sharing_pairs pm_Sharing_pairs cd_Sharing_pairs ct_Sharing_pairs : Value}
    {a_Sharing_read_off : Addr} {od_Sharing_read_off an_Sharing_read_off : Option Addr} {os_Sharing_read_off : Array (Option Value)} {oc_Sharing_read_off kV_Sharing_read_off dc_Sharing_read_off pm_Sharing_read_off cd_Sharing_read_off ct_Sharing_read_off : Value}
    {a_shared : Addr} {od_shared an_shared : Option Addr} {os_shared : Array (Option Value)} {oc_shared kV_shared dc_shared pm_shared cd_shared ct_shared : Value}
    {a_shared_pairs : Addr} {od_shared_pairs an_shared_pairs : Option Addr} {os_shared_pairs : Array (Option Value)} {oc_shared_pairs kV_shared_pairs dc_shared_pairs pm_shared_pairs cd_shared_pairs ct_shared_pairs : Value}
    {a_law_source : Addr} {od_law_source an_law_source : Option Addr} {os_law_source : Array (Option Value)} {oc_law_source kV_law_source dc_law_source pm_law_source cd_law_source ct_law_source : Value}
    {a_law_draw : Addr} {od_law_draw an_law_draw : Option Addr} {os_law_draw : Array (Option Value)} {oc_law_draw kV_law_draw dc_law_draw pm_law_draw cd_law_draw ct_law_draw : Value}
    {a_law_parts : Addr} {od_law_parts an_law_parts : Option Addr} {os_law_parts : Array (Option Value)} {oc_law_parts kV_law_parts dc_law_parts pm_law_parts cd_law_parts ct_law_parts : Value}
    {a_law_pure : Addr} {od_law_pure an_law_pure : Option Addr} {os_law_pure : Array (Option Value)} {oc_law_pure kV_law_pure dc_law_pure pm_law_pure cd_law_pure ct_law_pure : Value}
    {a_law_sizes : Addr} {od_law_sizes an_law_sizes : Option Addr} {os_law_sizes : Array (Option Value)} {oc_law_sizes kV_law_sizes dc_law_sizes pm_law_sizes cd_law_sizes ct_law_sizes : Value}
    {a_law_shape_of : Addr} {od_law_shape_of an_law_shape_of : Option Addr} {os_law_shape_of : Array (Option Value)} {oc_law_shape_of kV_law_shape_of dc_law_shape_of pm_law_shape_of cd_law_shape_of ct_law_shape_of : Value}
    {a_law_is_laying : Addr} {od_law_is_laying an_law_is_laying : Option Addr} {os_law_is_laying : Array (Option Value)} {oc_law_is_laying kV_law_is_laying dc_law_is_laying pm_law_is_laying cd_law_is_laying ct_law_is_laying : Value}
    {a_law_free_tree : Addr} {od_law_free_tree an_law_free_tree : Option Addr} {os_law_free_tree : Array (Option Value)} {oc_law_free_tree kV_law_free_tree dc_law_free_tree pm_law_free_tree cd_law_free_tree ct_law_free_tree : Value}
    {a_law_rebuilt : Addr} {od_law_rebuilt an_law_rebuilt : Option Addr} {os_law_rebuilt : Array (Option Value)} {oc_law_rebuilt kV_law_rebuilt dc_law_rebuilt pm_law_rebuilt cd_law_rebuilt ct_law_rebuilt : Value}
    {a_law_asked : Addr} {od_law_asked an_law_asked : Option Addr} {os_law_asked : Array (Option Value)} {oc_law_asked kV_law_asked dc_law_asked pm_law_asked cd_law_asked ct_law_asked : Value}
    {a_law : Addr} {od_law an_law : Option Addr} {os_law : Array (Option Value)} {oc_law kV_law dc_law pm_law cd_law ct_law : Value}
    {t_MARK_HERE : Tok}
    {t_MARK_THERE : Tok}
    (zC_NodeRow : PySem.W.nsIn K mainGlobals "NodeRow" = some (some (.ref c_NodeRow)))
    (pg_NodeRow : PySem.W.plainGet K c_NodeRow Str.empty = true)
    (hd_NodeRow : PySem.W.hasDictIn K c_NodeRow = true)
    (po_NodeRow : PySem.W.plainOver K c_NodeRow = true)
    (sa_NodeRow : PySem.W.findIn K (.ref c_NodeRow) "__setattr__" = some (some (.builtin "object.__setattr__")))
    (mk_NodeRow : PySem.W.makesIn K c_NodeRow = true)
    (kc_NodeRow : PySem.W.keepIn K (.ref c_NodeRow) = true)
    (n_NodeRow_firsts : PySem.W.findIn K (.ref c_NodeRow) "firsts" = some none)
    (n_NodeRow_heads : PySem.W.findIn K (.ref c_NodeRow) "heads" = some none)
    (n_NodeRow_rules : PySem.W.findIn K (.ref c_NodeRow) "rules" = some none)
    (n_NodeRow_sizes : PySem.W.findIn K (.ref c_NodeRow) "sizes" = some none)
    (zC_Peeling : PySem.W.nsIn K mainGlobals "Peeling" = some (some (.ref c_Peeling)))
    (pg_Peeling : PySem.W.plainGet K c_Peeling Str.empty = true)
    (hd_Peeling : PySem.W.hasDictIn K c_Peeling = true)
    (po_Peeling : PySem.W.plainOver K c_Peeling = true)
    (sa_Peeling : PySem.W.findIn K (.ref c_Peeling) "__setattr__" = some (some (.builtin "object.__setattr__")))
    (mk_Peeling : PySem.W.makesIn K c_Peeling = true)
    (kc_Peeling : PySem.W.keepIn K (.ref c_Peeling) = true)
    (n_Peeling_high : PySem.W.findIn K (.ref c_Peeling) "high" = some none)
    (n_Peeling_low : PySem.W.findIn K (.ref c_Peeling) "low" = some none)
    (n_Peeling_one : PySem.W.findIn K (.ref c_Peeling) "one" = some none)
    (n_Peeling_other : PySem.W.findIn K (.ref c_Peeling) "other" = some none)
    (n_Peeling_taken : PySem.W.findIn K (.ref c_Peeling) "taken" = some none)
    (zC_Sharing : PySem.W.nsIn K mainGlobals "Sharing" = some (some (.ref c_Sharing)))
    (pg_Sharing : PySem.W.plainGet K c_Sharing Str.empty = true)
    (hd_Sharing : PySem.W.hasDictIn K c_Sharing = true)
    (po_Sharing : PySem.W.plainOver K c_Sharing = true)
    (sa_Sharing : PySem.W.findIn K (.ref c_Sharing) "__setattr__" = some (some (.builtin "object.__setattr__")))
    (mk_Sharing : PySem.W.makesIn K c_Sharing = true)
    (kc_Sharing : PySem.W.keepIn K (.ref c_Sharing) = true)
    (n_Sharing_one : PySem.W.findIn K (.ref c_Sharing) "one" = some none)
    (n_Sharing_other : PySem.W.findIn K (.ref c_Sharing) "other" = some none)
    (n_Sharing_trees : PySem.W.findIn K (.ref c_Sharing) "trees" = some none)
    (z_NodeRow_init : PySem.W.findIn K (.ref c_NodeRow) "__init__" = some (some (.ref a_NodeRow_init)))
    (i_NodeRow_init : PySem.W.isFn K (.ref a_NodeRow_init) = true)
    (l_NodeRow_init : K.lookup a_NodeRow_init = some ⟨oc_NodeRow_init, od_NodeRow_init, .func (PySem.W.fnOf "__init__" "NodeRow.__init__" (defArgs s_NodeRow_init) (defBody s_NodeRow_init) (defScope s_NodeRow_init) .none kV_NodeRow_init dc_NodeRow_init pm_NodeRow_init an_NodeRow_init cd_NodeRow_init ct_NodeRow_init), os_NodeRow_init⟩)
    (co_NodeRow_init : PySem.W.codeIn K cd_NodeRow_init "NodeRow.__init__" = true)
    (kp_NodeRow_init : PySem.W.keepIn K (.ref a_NodeRow_init) = true)
    (z_NodeRow_many : PySem.W.findIn K (.ref c_NodeRow) "many" = some (some (.ref a_NodeRow_many)))
    (i_NodeRow_many : PySem.W.isFn K (.ref a_NodeRow_many) = true)
    (l_NodeRow_many : K.lookup a_NodeRow_many = some ⟨oc_NodeRow_many, od_NodeRow_many, .func (PySem.W.fnOf "many" "NodeRow.many" (defArgs s_NodeRow_many) (defBody s_NodeRow_many) (defScope s_NodeRow_many) .none kV_NodeRow_many dc_NodeRow_many pm_NodeRow_many an_NodeRow_many cd_NodeRow_many ct_NodeRow_many), os_NodeRow_many⟩)
    (co_NodeRow_many : PySem.W.codeIn K cd_NodeRow_many "NodeRow.many" = true)
    (kp_NodeRow_many : PySem.W.keepIn K (.ref a_NodeRow_many) = true)
    (z_NodeRow_first_root : PySem.W.findIn K (.ref c_NodeRow) "first_root" = some (some (.ref a_NodeRow_first_root)))
    (i_NodeRow_first_root : PySem.W.isFn K (.ref a_NodeRow_first_root) = true)
    (l_NodeRow_first_root : K.lookup a_NodeRow_first_root = some ⟨oc_NodeRow_first_root, od_NodeRow_first_root, .func (PySem.W.fnOf "first_root" "NodeRow.first_root" (defArgs s_NodeRow_first_root) (defBody s_NodeRow_first_root) (defScope s_NodeRow_first_root) .none kV_NodeRow_first_root dc_NodeRow_first_root pm_NodeRow_first_root an_NodeRow_first_root cd_NodeRow_first_root ct_NodeRow_first_root), os_NodeRow_first_root⟩)
    (co_NodeRow_first_root : PySem.W.codeIn K cd_NodeRow_first_root "NodeRow.first_root" = true)
    (kp_NodeRow_first_root : PySem.W.keepIn K (.ref a_NodeRow_first_root) = true)
    (z_NodeRow_under_mark : PySem.W.findIn K (.ref c_NodeRow) "under_mark" = some (some (.ref a_NodeRow_under_mark)))
    (i_NodeRow_under_mark : PySem.W.isFn K (.ref a_NodeRow_under_mark) = true)
    (l_NodeRow_under_mark : K.lookup a_NodeRow_under_mark = some ⟨oc_NodeRow_under_mark, od_NodeRow_under_mark, .func (PySem.W.fnOf "under_mark" "NodeRow.under_mark" (defArgs s_NodeRow_under_mark) (defBody s_NodeRow_under_mark) (defScope s_NodeRow_under_mark) .none kV_NodeRow_under_mark dc_NodeRow_under_mark pm_NodeRow_under_mark an_NodeRow_under_mark cd_NodeRow_under_mark ct_NodeRow_under_mark), os_NodeRow_under_mark⟩)
    (co_NodeRow_under_mark : PySem.W.codeIn K cd_NodeRow_under_mark "NodeRow.under_mark" = true)
    (kp_NodeRow_under_mark : PySem.W.keepIn K (.ref a_NodeRow_under_mark) = true)
    (z_noderow_of : PySem.W.nsIn K mainGlobals "noderow_of" = some (some (.ref a_noderow_of)))
    (l_noderow_of : K.lookup a_noderow_of = some ⟨oc_noderow_of, od_noderow_of, .func (PySem.W.fnOf "noderow_of" "noderow_of" (defArgs s_noderow_of) (defBody s_noderow_of) (defScope s_noderow_of) .none kV_noderow_of dc_noderow_of pm_noderow_of an_noderow_of cd_noderow_of ct_noderow_of), os_noderow_of⟩)
    (co_noderow_of : PySem.W.codeIn K cd_noderow_of "noderow_of" = true)
    (kp_noderow_of : PySem.W.keepIn K (.ref a_noderow_of) = true)
    (z_Peeling_init : PySem.W.findIn K (.ref c_Peeling) "__init__" = some (some (.ref a_Peeling_init)))
    (i_Peeling_init : PySem.W.isFn K (.ref a_Peeling_init) = true)
    (l_Peeling_init : K.lookup a_Peeling_init = some ⟨oc_Peeling_init, od_Peeling_init, .func (PySem.W.fnOf "__init__" "Peeling.__init__" (defArgs s_Peeling_init) (defBody s_Peeling_init) (defScope s_Peeling_init) .none kV_Peeling_init dc_Peeling_init pm_Peeling_init an_Peeling_init cd_Peeling_init ct_Peeling_init), os_Peeling_init⟩)
    (co_Peeling_init : PySem.W.codeIn K cd_Peeling_init "Peeling.__init__" = true)
    (kp_Peeling_init : PySem.W.keepIn K (.ref a_Peeling_init) = true)
    (z_Peeling_peels : PySem.W.findIn K (.ref c_Peeling) "peels" = some (some (.ref a_Peeling_peels)))
    (i_Peeling_peels : PySem.W.isFn K (.ref a_Peeling_peels) = true)
    (l_Peeling_peels : K.lookup a_Peeling_peels = some ⟨oc_Peeling_peels, od_Peeling_peels, .func (PySem.W.fnOf "peels" "Peeling.peels" (defArgs s_Peeling_peels) (defBody s_Peeling_peels) (defScope s_Peeling_peels) .none kV_Peeling_peels dc_Peeling_peels pm_Peeling_peels an_Peeling_peels cd_Peeling_peels ct_Peeling_peels), os_Peeling_peels⟩)
    (co_Peeling_peels : PySem.W.codeIn K cd_Peeling_peels "Peeling.peels" = true)
    (kp_Peeling_peels : PySem.W.keepIn K (.ref a_Peeling_peels) = true)
    (z_Peeling_takes_last : PySem.W.findIn K (.ref c_Peeling) "takes_last" = some (some (.ref a_Peeling_takes_last)))
    (i_Peeling_takes_last : PySem.W.isFn K (.ref a_Peeling_takes_last) = true)
    (l_Peeling_takes_last : K.lookup a_Peeling_takes_last = some ⟨oc_Peeling_takes_last, od_Peeling_takes_last, .func (PySem.W.fnOf "takes_last" "Peeling.takes_last" (defArgs s_Peeling_takes_last) (defBody s_Peeling_takes_last) (defScope s_Peeling_takes_last) .none kV_Peeling_takes_last dc_Peeling_takes_last pm_Peeling_takes_last an_Peeling_takes_last cd_Peeling_takes_last ct_Peeling_takes_last), os_Peeling_takes_last⟩)
    (co_Peeling_takes_last : PySem.W.codeIn K cd_Peeling_takes_last "Peeling.takes_last" = true)
    (kp_Peeling_takes_last : PySem.W.keepIn K (.ref a_Peeling_takes_last) = true)
    (z_Peeling_takes_first : PySem.W.findIn K (.ref c_Peeling) "takes_first" = some (some (.ref a_Peeling_takes_first)))
    (i_Peeling_takes_first : PySem.W.isFn K (.ref a_Peeling_takes_first) = true)
    (l_Peeling_takes_first : K.lookup a_Peeling_takes_first = some ⟨oc_Peeling_takes_first, od_Peeling_takes_first, .func (PySem.W.fnOf "takes_first" "Peeling.takes_first" (defArgs s_Peeling_takes_first) (defBody s_Peeling_takes_first) (defScope s_Peeling_takes_first) .none kV_Peeling_takes_first dc_Peeling_takes_first pm_Peeling_takes_first an_Peeling_takes_first cd_Peeling_takes_first ct_Peeling_takes_first), os_Peeling_takes_first⟩)
    (co_Peeling_takes_first : PySem.W.codeIn K cd_Peeling_takes_first "Peeling.takes_first" = true)
    (kp_Peeling_takes_first : PySem.W.keepIn K (.ref a_Peeling_takes_first) = true)
    (z_Peeling_takes_root : PySem.W.findIn K (.ref c_Peeling) "takes_root" = some (some (.ref a_Peeling_takes_root)))
    (i_Peeling_takes_root : PySem.W.isFn K (.ref a_Peeling_takes_root) = true)
    (l_Peeling_takes_root : K.lookup a_Peeling_takes_root = some ⟨oc_Peeling_takes_root, od_Peeling_takes_root, .func (PySem.W.fnOf "takes_root" "Peeling.takes_root" (defArgs s_Peeling_takes_root) (defBody s_Peeling_takes_root) (defScope s_Peeling_takes_root) .none kV_Peeling_takes_root dc_Peeling_takes_root pm_Peeling_takes_root an_Peeling_takes_root cd_Peeling_takes_root ct_Peeling_takes_root), os_Peeling_takes_root⟩)
    (co_Peeling_takes_root : PySem.W.codeIn K cd_Peeling_takes_root "Peeling.takes_root" = true)
    (kp_Peeling_takes_root : PySem.W.keepIn K (.ref a_Peeling_takes_root) = true)
    (z_Peeling_same_trees : PySem.W.findIn K (.ref c_Peeling) "same_trees" = some (some (.ref a_Peeling_same_trees)))
    (i_Peeling_same_trees : PySem.W.isFn K (.ref a_Peeling_same_trees) = true)
    (l_Peeling_same_trees : K.lookup a_Peeling_same_trees = some ⟨oc_Peeling_same_trees, od_Peeling_same_trees, .func (PySem.W.fnOf "same_trees" "Peeling.same_trees" (defArgs s_Peeling_same_trees) (defBody s_Peeling_same_trees) (defScope s_Peeling_same_trees) .none kV_Peeling_same_trees dc_Peeling_same_trees pm_Peeling_same_trees an_Peeling_same_trees cd_Peeling_same_trees ct_Peeling_same_trees), os_Peeling_same_trees⟩)
    (co_Peeling_same_trees : PySem.W.codeIn K cd_Peeling_same_trees "Peeling.same_trees" = true)
    (kp_Peeling_same_trees : PySem.W.keepIn K (.ref a_Peeling_same_trees) = true)
    (z_Peeling_take_all : PySem.W.findIn K (.ref c_Peeling) "take_all" = some (some (.ref a_Peeling_take_all)))
    (i_Peeling_take_all : PySem.W.isFn K (.ref a_Peeling_take_all) = true)
    (l_Peeling_take_all : K.lookup a_Peeling_take_all = some ⟨oc_Peeling_take_all, od_Peeling_take_all, .func (PySem.W.fnOf "take_all" "Peeling.take_all" (defArgs s_Peeling_take_all) (defBody s_Peeling_take_all) (defScope s_Peeling_take_all) .none kV_Peeling_take_all dc_Peeling_take_all pm_Peeling_take_all an_Peeling_take_all cd_Peeling_take_all ct_Peeling_take_all), os_Peeling_take_all⟩)
    (co_Peeling_take_all : PySem.W.codeIn K cd_Peeling_take_all "Peeling.take_all" = true)
    (kp_Peeling_take_all : PySem.W.keepIn K (.ref a_Peeling_take_all) = true)
    (z_Peeling_rests : PySem.W.findIn K (.ref c_Peeling) "rests" = some (some (.ref a_Peeling_rests)))
    (i_Peeling_rests : PySem.W.isFn K (.ref a_Peeling_rests) = true)
    (l_Peeling_rests : K.lookup a_Peeling_rests = some ⟨oc_Peeling_rests, od_Peeling_rests, .func (PySem.W.fnOf "rests" "Peeling.rests" (defArgs s_Peeling_rests) (defBody s_Peeling_rests) (defScope s_Peeling_rests) .none kV_Peeling_rests dc_Peeling_rests pm_Peeling_rests an_Peeling_rests cd_Peeling_rests ct_Peeling_rests), os_Peeling_rests⟩)
    (co_Peeling_rests : PySem.W.codeIn K cd_Peeling_rests "Peeling.rests" = true)
    (kp_Peeling_rests : PySem.W.keepIn K (.ref a_Peeling_rests) = true)
    (z_Peeling_moved : PySem.W.findIn K (.ref c_Peeling) "moved" = some (some (.ref a_Peeling_moved)))
    (i_Peeling_moved : PySem.W.isFn K (.ref a_Peeling_moved) = true)
    (l_Peeling_moved : K.lookup a_Peeling_moved = some ⟨oc_Peeling_moved, od_Peeling_moved, .func (PySem.W.fnOf "moved" "Peeling.moved" (defArgs s_Peeling_moved) (defBody s_Peeling_moved) (defScope s_Peeling_moved) .none kV_Peeling_moved dc_Peeling_moved pm_Peeling_moved an_Peeling_moved cd_Peeling_moved ct_Peeling_moved), os_Peeling_moved⟩)
    (co_Peeling_moved : PySem.W.codeIn K cd_Peeling_moved "Peeling.moved" = true)
    (kp_Peeling_moved : PySem.W.keepIn K (.ref a_Peeling_moved) = true)
    (z_Sharing_init : PySem.W.findIn K (.ref c_Sharing) "__init__" = some (some (.ref a_Sharing_init)))
    (i_Sharing_init : PySem.W.isFn K (.ref a_Sharing_init) = true)
    (l_Sharing_init : K.lookup a_Sharing_init = some ⟨oc_Sharing_init, od_Sharing_init, .func (PySem.W.fnOf "__init__" "Sharing.__init__" (defArgs s_Sharing_init) (defBody s_Sharing_init) (defScope s_Sharing_init) .none kV_Sharing_init dc_Sharing_init pm_Sharing_init an_Sharing_init cd_Sharing_init ct_Sharing_init), os_Sharing_init⟩)
    (co_Sharing_init : PySem.W.codeIn K cd_Sharing_init "Sharing.__init__" = true)
    (kp_Sharing_init : PySem.W.keepIn K (.ref a_Sharing_init) = true)
    (z_Sharing_same_rule : PySem.W.findIn K (.ref c_Sharing) "same_rule" = some (some (.ref a_Sharing_same_rule)))
    (i_Sharing_same_rule : PySem.W.isFn K (.ref a_Sharing_same_rule) = true)
    (l_Sharing_same_rule : K.lookup a_Sharing_same_rule = some ⟨oc_Sharing_same_rule, od_Sharing_same_rule, .func (PySem.W.fnOf "same_rule" "Sharing.same_rule" (defArgs s_Sharing_same_rule) (defBody s_Sharing_same_rule) (defScope s_Sharing_same_rule) .none kV_Sharing_same_rule dc_Sharing_same_rule pm_Sharing_same_rule an_Sharing_same_rule cd_Sharing_same_rule ct_Sharing_same_rule), os_Sharing_same_rule⟩)
    (co_Sharing_same_rule : PySem.W.codeIn K cd_Sharing_same_rule "Sharing.same_rule" = true)
    (kp_Sharing_same_rule : PySem.W.keepIn K (.ref a_Sharing_same_rule) = true)
    (z_Sharing_forests : PySem.W.findIn K (.ref c_Sharing) "forests" = some (some (.ref a_Sharing_forests)))
    (i_Sharing_forests : PySem.W.isFn K (.ref a_Sharing_forests) = true)
    (l_Sharing_forests : K.lookup a_Sharing_forests = some ⟨oc_Sharing_forests, od_Sharing_forests, .func (PySem.W.fnOf "forests" "Sharing.forests" (defArgs s_Sharing_forests) (defBody s_Sharing_forests) (defScope s_Sharing_forests) .none kV_Sharing_forests dc_Sharing_forests pm_Sharing_forests an_Sharing_forests cd_Sharing_forests ct_Sharing_forests), os_Sharing_forests⟩)
    (co_Sharing_forests : PySem.W.codeIn K cd_Sharing_forests "Sharing.forests" = true)
    (kp_Sharing_forests : PySem.W.keepIn K (.ref a_Sharing_forests) = true)
    (z_Sharing_forest_row : PySem.W.findIn K (.ref c_Sharing) "forest_row" = some (some (.ref a_Sharing_forest_row)))
    (i_Sharing_forest_row : PySem.W.isFn K (.ref a_Sharing_forest_row) = true)
    (l_Sharing_forest_row : K.lookup a_Sharing_forest_row = some ⟨oc_Sharing_forest_row, od_Sharing_forest_row, .func (PySem.W.fnOf "forest_row" "Sharing.forest_row" (defArgs s_Sharing_forest_row) (defBody s_Sharing_forest_row) (defScope s_Sharing_forest_row) .none kV_Sharing_forest_row dc_Sharing_forest_row pm_Sharing_forest_row an_Sharing_forest_row cd_Sharing_forest_row ct_Sharing_forest_row), os_Sharing_forest_row⟩)
    (co_Sharing_forest_row : PySem.W.codeIn K cd_Sharing_forest_row "Sharing.forest_row" = true)
    (kp_Sharing_forest_row : PySem.W.keepIn K (.ref a_Sharing_forest_row) = true)
    (z_Sharing_keep : PySem.W.findIn K (.ref c_Sharing) "keep" = some (some (.ref a_Sharing_keep)))
    (i_Sharing_keep : PySem.W.isFn K (.ref a_Sharing_keep) = true)
    (l_Sharing_keep : K.lookup a_Sharing_keep = some ⟨oc_Sharing_keep, od_Sharing_keep, .func (PySem.W.fnOf "keep" "Sharing.keep" (defArgs s_Sharing_keep) (defBody s_Sharing_keep) (defScope s_Sharing_keep) .none kV_Sharing_keep dc_Sharing_keep pm_Sharing_keep an_Sharing_keep cd_Sharing_keep ct_Sharing_keep), os_Sharing_keep⟩)
    (co_Sharing_keep : PySem.W.codeIn K cd_Sharing_keep "Sharing.keep" = true)
    (kp_Sharing_keep : PySem.W.keepIn K (.ref a_Sharing_keep) = true)
    (z_Sharing_most : PySem.W.findIn K (.ref c_Sharing) "most" = some (some (.ref a_Sharing_most)))
    (i_Sharing_most : PySem.W.isFn K (.ref a_Sharing_most) = true)
    (l_Sharing_most : K.lookup a_Sharing_most = some ⟨oc_Sharing_most, od_Sharing_most, .func (PySem.W.fnOf "most" "Sharing.most" (defArgs s_Sharing_most) (defBody s_Sharing_most) (defScope s_Sharing_most) .none kV_Sharing_most dc_Sharing_most pm_Sharing_most an_Sharing_most cd_Sharing_most ct_Sharing_most), os_Sharing_most⟩)
    (co_Sharing_most : PySem.W.codeIn K cd_Sharing_most "Sharing.most" = true)
    (kp_Sharing_most : PySem.W.keepIn K (.ref a_Sharing_most) = true)
    (z_Sharing_pairs : PySem.W.findIn K (.ref c_Sharing) "pairs" = some (some (.ref a_Sharing_pairs)))
    (i_Sharing_pairs : PySem.W.isFn K (.ref a_Sharing_pairs) = true)
    (l_Sharing_pairs : K.lookup a_Sharing_pairs = some ⟨oc_Sharing_pairs, od_Sharing_pairs, .func (PySem.W.fnOf "pairs" "Sharing.pairs" (defArgs s_Sharing_pairs) (defBody s_Sharing_pairs) (defScope s_Sharing_pairs) .none kV_Sharing_pairs dc_Sharing_pairs pm_Sharing_pairs an_Sharing_pairs cd_Sharing_pairs ct_Sharing_pairs), os_Sharing_pairs⟩)
    (co_Sharing_pairs : PySem.W.codeIn K cd_Sharing_pairs "Sharing.pairs" = true)
    (kp_Sharing_pairs : PySem.W.keepIn K (.ref a_Sharing_pairs) = true)
    (z_Sharing_read_off : PySem.W.findIn K (.ref c_Sharing) "read_off" = some (some (.ref a_Sharing_read_off)))
    (i_Sharing_read_off : PySem.W.isFn K (.ref a_Sharing_read_off) = true)
    (l_Sharing_read_off : K.lookup a_Sharing_read_off = some ⟨oc_Sharing_read_off, od_Sharing_read_off, .func (PySem.W.fnOf "read_off" "Sharing.read_off" (defArgs s_Sharing_read_off) (defBody s_Sharing_read_off) (defScope s_Sharing_read_off) .none kV_Sharing_read_off dc_Sharing_read_off pm_Sharing_read_off an_Sharing_read_off cd_Sharing_read_off ct_Sharing_read_off), os_Sharing_read_off⟩)
    (co_Sharing_read_off : PySem.W.codeIn K cd_Sharing_read_off "Sharing.read_off" = true)
    (kp_Sharing_read_off : PySem.W.keepIn K (.ref a_Sharing_read_off) = true)
    (z_shared : PySem.W.nsIn K mainGlobals "shared" = some (some (.ref a_shared)))
    (l_shared : K.lookup a_shared = some ⟨oc_shared, od_shared, .func (PySem.W.fnOf "shared" "shared" (defArgs s_shared) (defBody s_shared) (defScope s_shared) .none kV_shared dc_shared pm_shared an_shared cd_shared ct_shared), os_shared⟩)
    (co_shared : PySem.W.codeIn K cd_shared "shared" = true)
    (kp_shared : PySem.W.keepIn K (.ref a_shared) = true)
    (z_shared_pairs : PySem.W.nsIn K mainGlobals "shared_pairs" = some (some (.ref a_shared_pairs)))
    (l_shared_pairs : K.lookup a_shared_pairs = some ⟨oc_shared_pairs, od_shared_pairs, .func (PySem.W.fnOf "shared_pairs" "shared_pairs" (defArgs s_shared_pairs) (defBody s_shared_pairs) (defScope s_shared_pairs) .none kV_shared_pairs dc_shared_pairs pm_shared_pairs an_shared_pairs cd_shared_pairs ct_shared_pairs), os_shared_pairs⟩)
    (co_shared_pairs : PySem.W.codeIn K cd_shared_pairs "shared_pairs" = true)
    (kp_shared_pairs : PySem.W.keepIn K (.ref a_shared_pairs) = true)
    (z_law_source : PySem.W.nsIn K mainGlobals "_law_source" = some (some (.ref a_law_source)))
    (l_law_source : K.lookup a_law_source = some ⟨oc_law_source, od_law_source, .func (PySem.W.fnOf "_law_source" "_law_source" (defArgs s_law_source) (defBody s_law_source) (defScope s_law_source) .none kV_law_source dc_law_source pm_law_source an_law_source cd_law_source ct_law_source), os_law_source⟩)
    (co_law_source : PySem.W.codeIn K cd_law_source "_law_source" = true)
    (kp_law_source : PySem.W.keepIn K (.ref a_law_source) = true)
    (z_law_draw : PySem.W.nsIn K mainGlobals "_law_draw" = some (some (.ref a_law_draw)))
    (l_law_draw : K.lookup a_law_draw = some ⟨oc_law_draw, od_law_draw, .func (PySem.W.fnOf "_law_draw" "_law_draw" (defArgs s_law_draw) (defBody s_law_draw) (defScope s_law_draw) .none kV_law_draw dc_law_draw pm_law_draw an_law_draw cd_law_draw ct_law_draw), os_law_draw⟩)
    (co_law_draw : PySem.W.codeIn K cd_law_draw "_law_draw" = true)
    (kp_law_draw : PySem.W.keepIn K (.ref a_law_draw) = true)
    (z_law_parts : PySem.W.nsIn K mainGlobals "_law_parts" = some (some (.ref a_law_parts)))
    (l_law_parts : K.lookup a_law_parts = some ⟨oc_law_parts, od_law_parts, .func (PySem.W.fnOf "_law_parts" "_law_parts" (defArgs s_law_parts) (defBody s_law_parts) (defScope s_law_parts) .none kV_law_parts dc_law_parts pm_law_parts an_law_parts cd_law_parts ct_law_parts), os_law_parts⟩)
    (co_law_parts : PySem.W.codeIn K cd_law_parts "_law_parts" = true)
    (kp_law_parts : PySem.W.keepIn K (.ref a_law_parts) = true)
    (z_law_pure : PySem.W.nsIn K mainGlobals "_law_pure" = some (some (.ref a_law_pure)))
    (l_law_pure : K.lookup a_law_pure = some ⟨oc_law_pure, od_law_pure, .func (PySem.W.fnOf "_law_pure" "_law_pure" (defArgs s_law_pure) (defBody s_law_pure) (defScope s_law_pure) .none kV_law_pure dc_law_pure pm_law_pure an_law_pure cd_law_pure ct_law_pure), os_law_pure⟩)
    (co_law_pure : PySem.W.codeIn K cd_law_pure "_law_pure" = true)
    (kp_law_pure : PySem.W.keepIn K (.ref a_law_pure) = true)
    (z_law_sizes : PySem.W.nsIn K mainGlobals "_law_sizes" = some (some (.ref a_law_sizes)))
    (l_law_sizes : K.lookup a_law_sizes = some ⟨oc_law_sizes, od_law_sizes, .func (PySem.W.fnOf "_law_sizes" "_law_sizes" (defArgs s_law_sizes) (defBody s_law_sizes) (defScope s_law_sizes) .none kV_law_sizes dc_law_sizes pm_law_sizes an_law_sizes cd_law_sizes ct_law_sizes), os_law_sizes⟩)
    (co_law_sizes : PySem.W.codeIn K cd_law_sizes "_law_sizes" = true)
    (kp_law_sizes : PySem.W.keepIn K (.ref a_law_sizes) = true)
    (z_law_shape_of : PySem.W.nsIn K mainGlobals "_law_shape_of" = some (some (.ref a_law_shape_of)))
    (l_law_shape_of : K.lookup a_law_shape_of = some ⟨oc_law_shape_of, od_law_shape_of, .func (PySem.W.fnOf "_law_shape_of" "_law_shape_of" (defArgs s_law_shape_of) (defBody s_law_shape_of) (defScope s_law_shape_of) .none kV_law_shape_of dc_law_shape_of pm_law_shape_of an_law_shape_of cd_law_shape_of ct_law_shape_of), os_law_shape_of⟩)
    (co_law_shape_of : PySem.W.codeIn K cd_law_shape_of "_law_shape_of" = true)
    (kp_law_shape_of : PySem.W.keepIn K (.ref a_law_shape_of) = true)
    (z_law_is_laying : PySem.W.nsIn K mainGlobals "_law_is_laying" = some (some (.ref a_law_is_laying)))
    (l_law_is_laying : K.lookup a_law_is_laying = some ⟨oc_law_is_laying, od_law_is_laying, .func (PySem.W.fnOf "_law_is_laying" "_law_is_laying" (defArgs s_law_is_laying) (defBody s_law_is_laying) (defScope s_law_is_laying) .none kV_law_is_laying dc_law_is_laying pm_law_is_laying an_law_is_laying cd_law_is_laying ct_law_is_laying), os_law_is_laying⟩)
    (co_law_is_laying : PySem.W.codeIn K cd_law_is_laying "_law_is_laying" = true)
    (kp_law_is_laying : PySem.W.keepIn K (.ref a_law_is_laying) = true)
    (z_law_free_tree : PySem.W.nsIn K mainGlobals "_law_free_tree" = some (some (.ref a_law_free_tree)))
    (l_law_free_tree : K.lookup a_law_free_tree = some ⟨oc_law_free_tree, od_law_free_tree, .func (PySem.W.fnOf "_law_free_tree" "_law_free_tree" (defArgs s_law_free_tree) (defBody s_law_free_tree) (defScope s_law_free_tree) .none kV_law_free_tree dc_law_free_tree pm_law_free_tree an_law_free_tree cd_law_free_tree ct_law_free_tree), os_law_free_tree⟩)
    (co_law_free_tree : PySem.W.codeIn K cd_law_free_tree "_law_free_tree" = true)
    (kp_law_free_tree : PySem.W.keepIn K (.ref a_law_free_tree) = true)
    (z_law_rebuilt : PySem.W.nsIn K mainGlobals "_law_rebuilt" = some (some (.ref a_law_rebuilt)))
    (l_law_rebuilt : K.lookup a_law_rebuilt = some ⟨oc_law_rebuilt, od_law_rebuilt, .func (PySem.W.fnOf "_law_rebuilt" "_law_rebuilt" (defArgs s_law_rebuilt) (defBody s_law_rebuilt) (defScope s_law_rebuilt) .none kV_law_rebuilt dc_law_rebuilt pm_law_rebuilt an_law_rebuilt cd_law_rebuilt ct_law_rebuilt), os_law_rebuilt⟩)
    (co_law_rebuilt : PySem.W.codeIn K cd_law_rebuilt "_law_rebuilt" = true)
    (kp_law_rebuilt : PySem.W.keepIn K (.ref a_law_rebuilt) = true)
    (z_law_asked : PySem.W.nsIn K mainGlobals "_law_asked" = some (some (.ref a_law_asked)))
    (l_law_asked : K.lookup a_law_asked = some ⟨oc_law_asked, od_law_asked, .func (PySem.W.fnOf "_law_asked" "_law_asked" (defArgs s_law_asked) (defBody s_law_asked) (defScope s_law_asked) .none kV_law_asked dc_law_asked pm_law_asked an_law_asked cd_law_asked ct_law_asked), os_law_asked⟩)
    (co_law_asked : PySem.W.codeIn K cd_law_asked "_law_asked" = true)
    (kp_law_asked : PySem.W.keepIn K (.ref a_law_asked) = true)
    (z_law : PySem.W.nsIn K mainGlobals "law" = some (some (.ref a_law)))
    (l_law : K.lookup a_law = some ⟨oc_law, od_law, .func (PySem.W.fnOf "law" "law" (defArgs s_law) (defBody s_law) (defScope s_law) .none kV_law dc_law pm_law an_law cd_law ct_law), os_law⟩)
    (co_law : PySem.W.codeIn K cd_law "law" = true)
    (kp_law : PySem.W.keepIn K (.ref a_law) = true)
    (zg_all : PySem.W.nsIn K mainGlobals "all" = some none)
    (zg_bool : PySem.W.nsIn K mainGlobals "bool" = some none)
    (zg_enumerate : PySem.W.nsIn K mainGlobals "enumerate" = some none)
    (zg_int : PySem.W.nsIn K mainGlobals "int" = some none)
    (zg_isinstance : PySem.W.nsIn K mainGlobals "isinstance" = some none)
    (zg_len : PySem.W.nsIn K mainGlobals "len" = some none)
    (zg_list : PySem.W.nsIn K mainGlobals "list" = some none)
    (zg_max : PySem.W.nsIn K mainGlobals "max" = some none)
    (zg_range : PySem.W.nsIn K mainGlobals "range" = some none)
    (zg_reversed : PySem.W.nsIn K mainGlobals "reversed" = some none)
    (zg_sorted : PySem.W.nsIn K mainGlobals "sorted" = some none)
    (zg_str : PySem.W.nsIn K mainGlobals "str" = some none)
    (zg_tuple : PySem.W.nsIn K mainGlobals "tuple" = some none)
    (zk_MARK_HERE : PySem.W.nsIn K mainGlobals "MARK_HERE" = some (some (.int (-1) t_MARK_HERE)))
    (zk_MARK_THERE : PySem.W.nsIn K mainGlobals "MARK_THERE" = some (some (.int (-2) t_MARK_THERE)))
    : ∃ fd : FuncData, (∀ (s : Shared) (v : Value), BindsTo s fd ⟨[v], []⟩ [("script", v)]) ∧ ∀ base : Heap, K.In base → base.Ns mainGlobals mg → FnOk l.prog w K mg base CX0 9 fa fd ["script"] (spLawK K) := by
  have e := (PySem.W.mg_of X G z_law).symm.trans hfa
  have e0 : fa = a_law := by injection e with e; injection e with e; exact e.symm
  have F_NodeRow_init := fun_mk (st := s_NodeRow_init) l_NodeRow_init co_NodeRow_init kp_NodeRow_init
  have b_NodeRow_init := F_NodeRow_init.binds (ps := ["self", "rules", "firsts"]) fun _ _ _ _ _ _ us hl => match us, hl with | [_, _, _], _ => rfl
  have F_NodeRow_many := fun_mk (st := s_NodeRow_many) l_NodeRow_many co_NodeRow_many kp_NodeRow_many
  have b_NodeRow_many := F_NodeRow_many.binds (ps := ["self"]) fun _ _ _ _ _ _ us hl => match us, hl with | [_], _ => rfl
  have F_NodeRow_first_root := fun_mk (st := s_NodeRow_first_root) l_NodeRow_first_root co_NodeRow_first_root kp_NodeRow_first_root
  have b_NodeRow_first_root := F_NodeRow_first_root.binds (ps := ["self", "low", "high"]) fun _ _ _ _ _ _ us hl => match us, hl with | [_, _, _], _ => rfl
  have F_NodeRow_under_mark := fun_mk (st := s_NodeRow_under_mark) l_NodeRow_under_mark co_NodeRow_under_mark kp_NodeRow_under_mark
  have b_NodeRow_under_mark := F_NodeRow_under_mark.binds (ps := ["self", "low", "high", "mark"]) fun _ _ _ _ _ _ us hl => match us, hl with | [_, _, _, _], _ => rfl
  have F_noderow_of := fun_mk (st := s_noderow_of) l_noderow_of co_noderow_of kp_noderow_of
  have b_noderow_of := F_noderow_of.binds (ps := ["tree"]) fun _ _ _ _ _ _ us hl => match us, hl with | [_], _ => rfl
  have F_Peeling_init := fun_mk (st := s_Peeling_init) l_Peeling_init co_Peeling_init kp_Peeling_init
  have b_Peeling_init := F_Peeling_init.binds (ps := ["self", "one", "other"]) fun _ _ _ _ _ _ us hl => match us, hl with | [_, _, _], _ => rfl
  have F_Peeling_peels := fun_mk (st := s_Peeling_peels) l_Peeling_peels co_Peeling_peels kp_Peeling_peels
  have b_Peeling_peels := F_Peeling_peels.binds (ps := ["self"]) fun _ _ _ _ _ _ us hl => match us, hl with | [_], _ => rfl
  have F_Peeling_takes_last := fun_mk (st := s_Peeling_takes_last) l_Peeling_takes_last co_Peeling_takes_last kp_Peeling_takes_last
  have b_Peeling_takes_last := F_Peeling_takes_last.binds (ps := ["self"]) fun _ _ _ _ _ _ us hl => match us, hl with | [_], _ => rfl
  have F_Peeling_takes_first := fun_mk (st := s_Peeling_takes_first) l_Peeling_takes_first co_Peeling_takes_first kp_Peeling_takes_first
  have b_Peeling_takes_first := F_Peeling_takes_first.binds (ps := ["self"]) fun _ _ _ _ _ _ us hl => match us, hl with | [_], _ => rfl
  have F_Peeling_takes_root := fun_mk (st := s_Peeling_takes_root) l_Peeling_takes_root co_Peeling_takes_root kp_Peeling_takes_root
  have b_Peeling_takes_root := F_Peeling_takes_root.binds (ps := ["self"]) fun _ _ _ _ _ _ us hl => match us, hl with | [_], _ => rfl
  have F_Peeling_same_trees := fun_mk (st := s_Peeling_same_trees) l_Peeling_same_trees co_Peeling_same_trees kp_Peeling_same_trees
  have b_Peeling_same_trees := F_Peeling_same_trees.binds (ps := ["self", "x", "y"]) fun _ _ _ _ _ _ us hl => match us, hl with | [_, _, _], _ => rfl
  have F_Peeling_take_all := fun_mk (st := s_Peeling_take_all) l_Peeling_take_all co_Peeling_take_all kp_Peeling_take_all
  have b_Peeling_take_all := F_Peeling_take_all.binds (ps := ["self", "x", "y"]) fun _ _ _ _ _ _ us hl => match us, hl with | [_, _, _], _ => rfl
  have F_Peeling_rests := fun_mk (st := s_Peeling_rests) l_Peeling_rests co_Peeling_rests kp_Peeling_rests
  have b_Peeling_rests := F_Peeling_rests.binds (ps := ["self"]) fun _ _ _ _ _ _ us hl => match us, hl with | [_], _ => rfl
  have F_Peeling_moved := fun_mk (st := s_Peeling_moved) l_Peeling_moved co_Peeling_moved kp_Peeling_moved
  have b_Peeling_moved := F_Peeling_moved.binds (ps := ["self", "x", "y"]) fun _ _ _ _ _ _ us hl => match us, hl with | [_, _, _], _ => rfl
  have F_Sharing_init := fun_mk (st := s_Sharing_init) l_Sharing_init co_Sharing_init kp_Sharing_init
  have b_Sharing_init := F_Sharing_init.binds (ps := ["self", "one", "other"]) fun _ _ _ _ _ _ us hl => match us, hl with | [_, _, _], _ => rfl
  have F_Sharing_same_rule := fun_mk (st := s_Sharing_same_rule) l_Sharing_same_rule co_Sharing_same_rule kp_Sharing_same_rule
  have b_Sharing_same_rule := F_Sharing_same_rule.binds (ps := ["self", "x", "y"]) fun _ _ _ _ _ _ us hl => match us, hl with | [_, _, _], _ => rfl
  have F_Sharing_forests := fun_mk (st := s_Sharing_forests) l_Sharing_forests co_Sharing_forests kp_Sharing_forests
  have b_Sharing_forests := F_Sharing_forests.binds (ps := ["self", "last_x", "last_y"]) fun _ _ _ _ _ _ us hl => match us, hl with | [_, _, _], _ => rfl
  have F_Sharing_forest_row := fun_mk (st := s_Sharing_forest_row) l_Sharing_forest_row co_Sharing_forest_row kp_Sharing_forest_row
  have b_Sharing_forest_row := F_Sharing_forest_row.binds (ps := ["self", "table", "x", "start", "last_y"]) fun _ _ _ _ _ _ us hl => match us, hl with | [_, _, _, _, _], _ => rfl
  have F_Sharing_keep := fun_mk (st := s_Sharing_keep) l_Sharing_keep co_Sharing_keep kp_Sharing_keep
  have b_Sharing_keep := F_Sharing_keep.binds (ps := ["self", "last_x", "last_y"]) fun _ _ _ _ _ _ us hl => match us, hl with | [_, _, _], _ => rfl
  have F_Sharing_most := fun_mk (st := s_Sharing_most) l_Sharing_most co_Sharing_most kp_Sharing_most
  have b_Sharing_most := F_Sharing_most.binds (ps := ["self"]) fun _ _ _ _ _ _ us hl => match us, hl with | [_], _ => rfl
  have F_Sharing_pairs := fun_mk (st := s_Sharing_pairs) l_Sharing_pairs co_Sharing_pairs kp_Sharing_pairs
  have b_Sharing_pairs := F_Sharing_pairs.binds (ps := ["self"]) fun _ _ _ _ _ _ us hl => match us, hl with | [_], _ => rfl
  have F_Sharing_read_off := fun_mk (st := s_Sharing_read_off) l_Sharing_read_off co_Sharing_read_off kp_Sharing_read_off
  have b_Sharing_read_off := F_Sharing_read_off.binds (ps := ["self", "last_x", "last_y", "found", "waiting"]) fun _ _ _ _ _ _ us hl => match us, hl with | [_, _, _, _, _], _ => rfl
  have F_shared := fun_mk (st := s_shared) l_shared co_shared kp_shared
  have b_shared := F_shared.binds (ps := ["one", "other"]) fun _ _ _ _ _ _ us hl => match us, hl with | [_, _], _ => rfl
  have F_shared_pairs := fun_mk (st := s_shared_pairs) l_shared_pairs co_shared_pairs kp_shared_pairs
  have b_shared_pairs := F_shared_pairs.binds (ps := ["one", "other"]) fun _ _ _ _ _ _ us hl => match us, hl with | [_, _], _ => rfl
  have F_law_source := fun_mk (st := s_law_source) l_law_source co_law_source kp_law_source
  have b_law_source := F_law_source.binds (ps := ["script"]) fun _ _ _ _ _ _ us hl => match us, hl with | [_], _ => rfl
  have F_law_draw := fun_mk (st := s_law_draw) l_law_draw co_law_draw kp_law_draw
  have b_law_draw := F_law_draw.binds (ps := ["source", "many"]) fun _ _ _ _ _ _ us hl => match us, hl with | [_, _], _ => rfl
  have F_law_parts := fun_mk (st := s_law_parts) l_law_parts co_law_parts kp_law_parts
  have b_law_parts := F_law_parts.binds (ps := ["tree"]) fun _ _ _ _ _ _ us hl => match us, hl with | [_], _ => rfl
  have F_law_pure := fun_mk (st := s_law_pure) l_law_pure co_law_pure kp_law_pure
  have b_law_pure := F_law_pure.binds (ps := ["told"]) fun _ _ _ _ _ _ us hl => match us, hl with | [_], _ => rfl
  have F_law_sizes := fun_mk (st := s_law_sizes) l_law_sizes co_law_sizes kp_law_sizes
  have b_law_sizes := F_law_sizes.binds (ps := ["tree"]) fun _ _ _ _ _ _ us hl => match us, hl with | [_], _ => rfl
  have F_law_shape_of := fun_mk (st := s_law_shape_of) l_law_shape_of co_law_shape_of kp_law_shape_of
  have b_law_shape_of := F_law_shape_of.binds (ps := ["tree"]) fun _ _ _ _ _ _ us hl => match us, hl with | [_], _ => rfl
  have F_law_is_laying := fun_mk (st := s_law_is_laying) l_law_is_laying co_law_is_laying kp_law_is_laying
  have b_law_is_laying := F_law_is_laying.binds (ps := ["one", "other", "told", "many"]) fun _ _ _ _ _ _ us hl => match us, hl with | [_, _, _, _], _ => rfl
  have F_law_free_tree := fun_mk (st := s_law_free_tree) l_law_free_tree co_law_free_tree kp_law_free_tree
  have b_law_free_tree := F_law_free_tree.binds (ps := ["source", "most", "rules"]) fun _ _ _ _ _ _ us hl => match us, hl with | [_, _, _], _ => rfl
  have F_law_rebuilt := fun_mk (st := s_law_rebuilt) l_law_rebuilt co_law_rebuilt kp_law_rebuilt
  have b_law_rebuilt := F_law_rebuilt.binds (ps := ["tree", "gone", "rules"]) fun _ _ _ _ _ _ us hl => match us, hl with | [_, _, _], _ => rfl
  have F_law_asked := fun_mk (st := s_law_asked) l_law_asked co_law_asked kp_law_asked
  have b_law_asked := F_law_asked.binds (ps := ["one", "other", "due"]) fun _ _ _ _ _ _ us hl => match us, hl with | [_, _, _], _ => rfl
  have F_law := fun_mk (st := s_law) l_law co_law kp_law
  have b_law := F_law.binds (ps := ["script"]) fun _ _ _ _ _ _ us hl => match us, hl with | [_], _ => rfl
  have T : Nonempty { T : Ev K mg // T.a_law = a_law ∧ T.d_law = (PySem.W.fnOf "law" "law" (defArgs s_law) (defBody s_law) (defScope s_law) .none kV_law dc_law pm_law an_law cd_law ct_law) } := ⟨⟨{
    c_NodeRow := c_NodeRow,
    c_Peeling := c_Peeling,
    c_Sharing := c_Sharing,
    a_NodeRow_init := a_NodeRow_init,
    d_NodeRow_init := (PySem.W.fnOf "__init__" "NodeRow.__init__" (defArgs s_NodeRow_init) (defBody s_NodeRow_init) (defScope s_NodeRow_init) .none kV_NodeRow_init dc_NodeRow_init pm_NodeRow_init an_NodeRow_init cd_NodeRow_init ct_NodeRow_init),
    a_NodeRow_many := a_NodeRow_many,
    d_NodeRow_many := (PySem.W.fnOf "many" "NodeRow.many" (defArgs s_NodeRow_many) (defBody s_NodeRow_many) (defScope s_NodeRow_many) .none kV_NodeRow_many dc_NodeRow_many pm_NodeRow_many an_NodeRow_many cd_NodeRow_many ct_NodeRow_many),
    a_NodeRow_first_root := a_NodeRow_first_root,
    d_NodeRow_first_root := (PySem.W.fnOf "first_root" "NodeRow.first_root" (defArgs s_NodeRow_first_root) (defBody s_NodeRow_first_root) (defScope s_NodeRow_first_root) .none kV_NodeRow_first_root dc_NodeRow_first_root pm_NodeRow_first_root an_NodeRow_first_root cd_NodeRow_first_root ct_NodeRow_first_root),
    a_NodeRow_under_mark := a_NodeRow_under_mark,
    d_NodeRow_under_mark := (PySem.W.fnOf "under_mark" "NodeRow.under_mark" (defArgs s_NodeRow_under_mark) (defBody s_NodeRow_under_mark) (defScope s_NodeRow_under_mark) .none kV_NodeRow_under_mark dc_NodeRow_under_mark pm_NodeRow_under_mark an_NodeRow_under_mark cd_NodeRow_under_mark ct_NodeRow_under_mark),
    a_noderow_of := a_noderow_of,
    d_noderow_of := (PySem.W.fnOf "noderow_of" "noderow_of" (defArgs s_noderow_of) (defBody s_noderow_of) (defScope s_noderow_of) .none kV_noderow_of dc_noderow_of pm_noderow_of an_noderow_of cd_noderow_of ct_noderow_of),
    a_Peeling_init := a_Peeling_init,
    d_Peeling_init := (PySem.W.fnOf "__init__" "Peeling.__init__" (defArgs s_Peeling_init) (defBody s_Peeling_init) (defScope s_Peeling_init) .none kV_Peeling_init dc_Peeling_init pm_Peeling_init an_Peeling_init cd_Peeling_init ct_Peeling_init),
    a_Peeling_peels := a_Peeling_peels,
    d_Peeling_peels := (PySem.W.fnOf "peels" "Peeling.peels" (defArgs s_Peeling_peels) (defBody s_Peeling_peels) (defScope s_Peeling_peels) .none kV_Peeling_peels dc_Peeling_peels pm_Peeling_peels an_Peeling_peels cd_Peeling_peels ct_Peeling_peels),
    a_Peeling_takes_last := a_Peeling_takes_last,
    d_Peeling_takes_last := (PySem.W.fnOf "takes_last" "Peeling.takes_last" (defArgs s_Peeling_takes_last) (defBody s_Peeling_takes_last) (defScope s_Peeling_takes_last) .none kV_Peeling_takes_last dc_Peeling_takes_last pm_Peeling_takes_last an_Peeling_takes_last cd_Peeling_takes_last ct_Peeling_takes_last),
    a_Peeling_takes_first := a_Peeling_takes_first,
    d_Peeling_takes_first := (PySem.W.fnOf "takes_first" "Peeling.takes_first" (defArgs s_Peeling_takes_first) (defBody s_Peeling_takes_first) (defScope s_Peeling_takes_first) .none kV_Peeling_takes_first dc_Peeling_takes_first pm_Peeling_takes_first an_Peeling_takes_first cd_Peeling_takes_first ct_Peeling_takes_first),
    a_Peeling_takes_root := a_Peeling_takes_root,
    d_Peeling_takes_root := (PySem.W.fnOf "takes_root" "Peeling.takes_root" (defArgs s_Peeling_takes_root) (defBody s_Peeling_takes_root) (defScope s_Peeling_takes_root) .none kV_Peeling_takes_root dc_Peeling_takes_root pm_Peeling_takes_root an_Peeling_takes_root cd_Peeling_takes_root ct_Peeling_takes_root),
    a_Peeling_same_trees := a_Peeling_same_trees,
    d_Peeling_same_trees := (PySem.W.fnOf "same_trees" "Peeling.same_trees" (defArgs s_Peeling_same_trees) (defBody s_Peeling_same_trees) (defScope s_Peeling_same_trees) .none kV_Peeling_same_trees dc_Peeling_same_trees pm_Peeling_same_trees an_Peeling_same_trees cd_Peeling_same_trees ct_Peeling_same_trees),
    a_Peeling_take_all := a_Peeling_take_all,
    d_Peeling_take_all := (PySem.W.fnOf "take_all" "Peeling.take_all" (defArgs s_Peeling_take_all) (defBody s_Peeling_take_all) (defScope s_Peeling_take_all) .none kV_Peeling_take_all dc_Peeling_take_all pm_Peeling_take_all an_Peeling_take_all cd_Peeling_take_all ct_Peeling_take_all),
    a_Peeling_rests := a_Peeling_rests,
    d_Peeling_rests := (PySem.W.fnOf "rests" "Peeling.rests" (defArgs s_Peeling_rests) (defBody s_Peeling_rests) (defScope s_Peeling_rests) .none kV_Peeling_rests dc_Peeling_rests pm_Peeling_rests an_Peeling_rests cd_Peeling_rests ct_Peeling_rests),
    a_Peeling_moved := a_Peeling_moved,
    d_Peeling_moved := (PySem.W.fnOf "moved" "Peeling.moved" (defArgs s_Peeling_moved) (defBody s_Peeling_moved) (defScope s_Peeling_moved) .none kV_Peeling_moved dc_Peeling_moved pm_Peeling_moved an_Peeling_moved cd_Peeling_moved ct_Peeling_moved),
    a_Sharing_init := a_Sharing_init,
    d_Sharing_init := (PySem.W.fnOf "__init__" "Sharing.__init__" (defArgs s_Sharing_init) (defBody s_Sharing_init) (defScope s_Sharing_init) .none kV_Sharing_init dc_Sharing_init pm_Sharing_init an_Sharing_init cd_Sharing_init ct_Sharing_init),
    a_Sharing_same_rule := a_Sharing_same_rule,
    d_Sharing_same_rule := (PySem.W.fnOf "same_rule" "Sharing.same_rule" (defArgs s_Sharing_same_rule) (defBody s_Sharing_same_rule) (defScope s_Sharing_same_rule) .none kV_Sharing_same_rule dc_Sharing_same_rule pm_Sharing_same_rule an_Sharing_same_rule cd_Sharing_same_rule ct_Sharing_same_rule),
    a_Sharing_forests := a_Sharing_forests,
    d_Sharing_forests := (PySem.W.fnOf "forests" "Sharing.forests" (defArgs s_Sharing_forests) (defBody s_Sharing_forests) (defScope s_Sharing_forests) .none kV_Sharing_forests dc_Sharing_forests pm_Sharing_forests an_Sharing_forests cd_Sharing_forests ct_Sharing_forests),
    a_Sharing_forest_row := a_Sharing_forest_row,
    d_Sharing_forest_row := (PySem.W.fnOf "forest_row" "Sharing.forest_row" (defArgs s_Sharing_forest_row) (defBody s_Sharing_forest_row) (defScope s_Sharing_forest_row) .none kV_Sharing_forest_row dc_Sharing_forest_row pm_Sharing_forest_row an_Sharing_forest_row cd_Sharing_forest_row ct_Sharing_forest_row),
    a_Sharing_keep := a_Sharing_keep,
    d_Sharing_keep := (PySem.W.fnOf "keep" "Sharing.keep" (defArgs s_Sharing_keep) (defBody s_Sharing_keep) (defScope s_Sharing_keep) .none kV_Sharing_keep dc_Sharing_keep pm_Sharing_keep an_Sharing_keep cd_Sharing_keep ct_Sharing_keep),
    a_Sharing_most := a_Sharing_most,
    d_Sharing_most := (PySem.W.fnOf "most" "Sharing.most" (defArgs s_Sharing_most) (defBody s_Sharing_most) (defScope s_Sharing_most) .none kV_Sharing_most dc_Sharing_most pm_Sharing_most an_Sharing_most cd_Sharing_most ct_Sharing_most),
    a_Sharing_pairs := a_Sharing_pairs,
    d_Sharing_pairs := (PySem.W.fnOf "pairs" "Sharing.pairs" (defArgs s_Sharing_pairs) (defBody s_Sharing_pairs) (defScope s_Sharing_pairs) .none kV_Sharing_pairs dc_Sharing_pairs pm_Sharing_pairs an_Sharing_pairs cd_Sharing_pairs ct_Sharing_pairs),
    a_Sharing_read_off := a_Sharing_read_off,
    d_Sharing_read_off := (PySem.W.fnOf "read_off" "Sharing.read_off" (defArgs s_Sharing_read_off) (defBody s_Sharing_read_off) (defScope s_Sharing_read_off) .none kV_Sharing_read_off dc_Sharing_read_off pm_Sharing_read_off an_Sharing_read_off cd_Sharing_read_off ct_Sharing_read_off),
    a_shared := a_shared,
    d_shared := (PySem.W.fnOf "shared" "shared" (defArgs s_shared) (defBody s_shared) (defScope s_shared) .none kV_shared dc_shared pm_shared an_shared cd_shared ct_shared),
    a_shared_pairs := a_shared_pairs,
    d_shared_pairs := (PySem.W.fnOf "shared_pairs" "shared_pairs" (defArgs s_shared_pairs) (defBody s_shared_pairs) (defScope s_shared_pairs) .none kV_shared_pairs dc_shared_pairs pm_shared_pairs an_shared_pairs cd_shared_pairs ct_shared_pairs),
    a_law_source := a_law_source,
    d_law_source := (PySem.W.fnOf "_law_source" "_law_source" (defArgs s_law_source) (defBody s_law_source) (defScope s_law_source) .none kV_law_source dc_law_source pm_law_source an_law_source cd_law_source ct_law_source),
    a_law_draw := a_law_draw,
    d_law_draw := (PySem.W.fnOf "_law_draw" "_law_draw" (defArgs s_law_draw) (defBody s_law_draw) (defScope s_law_draw) .none kV_law_draw dc_law_draw pm_law_draw an_law_draw cd_law_draw ct_law_draw),
    a_law_parts := a_law_parts,
    d_law_parts := (PySem.W.fnOf "_law_parts" "_law_parts" (defArgs s_law_parts) (defBody s_law_parts) (defScope s_law_parts) .none kV_law_parts dc_law_parts pm_law_parts an_law_parts cd_law_parts ct_law_parts),
    a_law_pure := a_law_pure,
    d_law_pure := (PySem.W.fnOf "_law_pure" "_law_pure" (defArgs s_law_pure) (defBody s_law_pure) (defScope s_law_pure) .none kV_law_pure dc_law_pure pm_law_pure an_law_pure cd_law_pure ct_law_pure),
    a_law_sizes := a_law_sizes,
    d_law_sizes := (PySem.W.fnOf "_law_sizes" "_law_sizes" (defArgs s_law_sizes) (defBody s_law_sizes) (defScope s_law_sizes) .none kV_law_sizes dc_law_sizes pm_law_sizes an_law_sizes cd_law_sizes ct_law_sizes),
    a_law_shape_of := a_law_shape_of,
    d_law_shape_of := (PySem.W.fnOf "_law_shape_of" "_law_shape_of" (defArgs s_law_shape_of) (defBody s_law_shape_of) (defScope s_law_shape_of) .none kV_law_shape_of dc_law_shape_of pm_law_shape_of an_law_shape_of cd_law_shape_of ct_law_shape_of),
    a_law_is_laying := a_law_is_laying,
    d_law_is_laying := (PySem.W.fnOf "_law_is_laying" "_law_is_laying" (defArgs s_law_is_laying) (defBody s_law_is_laying) (defScope s_law_is_laying) .none kV_law_is_laying dc_law_is_laying pm_law_is_laying an_law_is_laying cd_law_is_laying ct_law_is_laying),
    a_law_free_tree := a_law_free_tree,
    d_law_free_tree := (PySem.W.fnOf "_law_free_tree" "_law_free_tree" (defArgs s_law_free_tree) (defBody s_law_free_tree) (defScope s_law_free_tree) .none kV_law_free_tree dc_law_free_tree pm_law_free_tree an_law_free_tree cd_law_free_tree ct_law_free_tree),
    a_law_rebuilt := a_law_rebuilt,
    d_law_rebuilt := (PySem.W.fnOf "_law_rebuilt" "_law_rebuilt" (defArgs s_law_rebuilt) (defBody s_law_rebuilt) (defScope s_law_rebuilt) .none kV_law_rebuilt dc_law_rebuilt pm_law_rebuilt an_law_rebuilt cd_law_rebuilt ct_law_rebuilt),
    a_law_asked := a_law_asked,
    d_law_asked := (PySem.W.fnOf "_law_asked" "_law_asked" (defArgs s_law_asked) (defBody s_law_asked) (defScope s_law_asked) .none kV_law_asked dc_law_asked pm_law_asked an_law_asked cd_law_asked ct_law_asked),
    a_law := a_law,
    d_law := (PySem.W.fnOf "law" "law" (defArgs s_law) (defBody s_law) (defScope s_law) .none kV_law dc_law pm_law an_law cd_law ct_law),
    cl_NodeRow := ⟨pg_NodeRow, hd_NodeRow, po_NodeRow, sa_NodeRow⟩,
    m_NodeRow := PySem.W.mg_of X G zC_NodeRow,
    mk_NodeRow := ⟨mk_NodeRow, z_NodeRow_init, i_NodeRow_init, kc_NodeRow⟩,
    n_NodeRow_firsts := n_NodeRow_firsts,
    n_NodeRow_heads := n_NodeRow_heads,
    n_NodeRow_rules := n_NodeRow_rules,
    n_NodeRow_sizes := n_NodeRow_sizes,
    cl_Peeling := ⟨pg_Peeling, hd_Peeling, po_Peeling, sa_Peeling⟩,
    m_Peeling := PySem.W.mg_of X G zC_Peeling,
    mk_Peeling := ⟨mk_Peeling, z_Peeling_init, i_Peeling_init, kc_Peeling⟩,
    n_Peeling_high := n_Peeling_high,
    n_Peeling_low := n_Peeling_low,
    n_Peeling_one := n_Peeling_one,
    n_Peeling_other := n_Peeling_other,
    n_Peeling_taken := n_Peeling_taken,
    cl_Sharing := ⟨pg_Sharing, hd_Sharing, po_Sharing, sa_Sharing⟩,
    m_Sharing := PySem.W.mg_of X G zC_Sharing,
    mk_Sharing := ⟨mk_Sharing, z_Sharing_init, i_Sharing_init, kc_Sharing⟩,
    n_Sharing_one := n_Sharing_one,
    n_Sharing_other := n_Sharing_other,
    n_Sharing_trees := n_Sharing_trees,
    F_NodeRow_init := F_NodeRow_init,
    b_NodeRow_init := b_NodeRow_init,
    F_NodeRow_many := F_NodeRow_many,
    b_NodeRow_many := b_NodeRow_many,
    mt_NodeRow_many := ⟨z_NodeRow_many, i_NodeRow_many, kp_NodeRow_many⟩,
    F_NodeRow_first_root := F_NodeRow_first_root,
    b_NodeRow_first_root := b_NodeRow_first_root,
    mt_NodeRow_first_root := ⟨z_NodeRow_first_root, i_NodeRow_first_root, kp_NodeRow_first_root⟩,
    F_NodeRow_under_mark := F_NodeRow_under_mark,
    b_NodeRow_under_mark := b_NodeRow_under_mark,
    mt_NodeRow_under_mark := ⟨z_NodeRow_under_mark, i_NodeRow_under_mark, kp_NodeRow_under_mark⟩,
    F_noderow_of := F_noderow_of,
    b_noderow_of := b_noderow_of,
    m_noderow_of := PySem.W.mg_of X G z_noderow_of,
    F_Peeling_init := F_Peeling_init,
    b_Peeling_init := b_Peeling_init,
    F_Peeling_peels := F_Peeling_peels,
    b_Peeling_peels := b_Peeling_peels,
    mt_Peeling_peels := ⟨z_Peeling_peels, i_Peeling_peels, kp_Peeling_peels⟩,
    F_Peeling_takes_last := F_Peeling_takes_last,
    b_Peeling_takes_last := b_Peeling_takes_last,
    mt_Peeling_takes_last := ⟨z_Peeling_takes_last, i_Peeling_takes_last, kp_Peeling_takes_last⟩,
    F_Peeling_takes_first := F_Peeling_takes_first,
    b_Peeling_takes_first := b_Peeling_takes_first,
    mt_Peeling_takes_first := ⟨z_Peeling_takes_first, i_Peeling_takes_first, kp_Peeling_takes_first⟩,
    F_Peeling_takes_root := F_Peeling_takes_root,
    b_Peeling_takes_root := b_Peeling_takes_root,
    mt_Peeling_takes_root := ⟨z_Peeling_takes_root, i_Peeling_takes_root, kp_Peeling_takes_root⟩,
    F_Peeling_same_trees := F_Peeling_same_trees,
    b_Peeling_same_trees := b_Peeling_same_trees,
    mt_Peeling_same_trees := ⟨z_Peeling_same_trees, i_Peeling_same_trees, kp_Peeling_same_trees⟩,
    F_Peeling_take_all := F_Peeling_take_all,
    b_Peeling_take_all := b_Peeling_take_all,
    mt_Peeling_take_all := ⟨z_Peeling_take_all, i_Peeling_take_all, kp_Peeling_take_all⟩,
    F_Peeling_rests := F_Peeling_rests,
    b_Peeling_rests := b_Peeling_rests,
    mt_Peeling_rests := ⟨z_Peeling_rests, i_Peeling_rests, kp_Peeling_rests⟩,
    F_Peeling_moved := F_Peeling_moved,
    b_Peeling_moved := b_Peeling_moved,
    mt_Peeling_moved := ⟨z_Peeling_moved, i_Peeling_moved, kp_Peeling_moved⟩,
    F_Sharing_init := F_Sharing_init,
    b_Sharing_init := b_Sharing_init,
    F_Sharing_same_rule := F_Sharing_same_rule,
    b_Sharing_same_rule := b_Sharing_same_rule,
    mt_Sharing_same_rule := ⟨z_Sharing_same_rule, i_Sharing_same_rule, kp_Sharing_same_rule⟩,
    F_Sharing_forests := F_Sharing_forests,
    b_Sharing_forests := b_Sharing_forests,
    mt_Sharing_forests := ⟨z_Sharing_forests, i_Sharing_forests, kp_Sharing_forests⟩,
    F_Sharing_forest_row := F_Sharing_forest_row,
    b_Sharing_forest_row := b_Sharing_forest_row,
    mt_Sharing_forest_row := ⟨z_Sharing_forest_row, i_Sharing_forest_row, kp_Sharing_forest_row⟩,
    F_Sharing_keep := F_Sharing_keep,
    b_Sharing_keep := b_Sharing_keep,
    mt_Sharing_keep := ⟨z_Sharing_keep, i_Sharing_keep, kp_Sharing_keep⟩,
    F_Sharing_most := F_Sharing_most,
    b_Sharing_most := b_Sharing_most,
    mt_Sharing_most := ⟨z_Sharing_most, i_Sharing_most, kp_Sharing_most⟩,
    F_Sharing_pairs := F_Sharing_pairs,
    b_Sharing_pairs := b_Sharing_pairs,
    mt_Sharing_pairs := ⟨z_Sharing_pairs, i_Sharing_pairs, kp_Sharing_pairs⟩,
    F_Sharing_read_off := F_Sharing_read_off,
    b_Sharing_read_off := b_Sharing_read_off,
    mt_Sharing_read_off := ⟨z_Sharing_read_off, i_Sharing_read_off, kp_Sharing_read_off⟩,
    F_shared := F_shared,
    b_shared := b_shared,
    m_shared := PySem.W.mg_of X G z_shared,
    F_shared_pairs := F_shared_pairs,
    b_shared_pairs := b_shared_pairs,
    m_shared_pairs := PySem.W.mg_of X G z_shared_pairs,
    F_law_source := F_law_source,
    b_law_source := b_law_source,
    m_law_source := PySem.W.mg_of X G z_law_source,
    F_law_draw := F_law_draw,
    b_law_draw := b_law_draw,
    m_law_draw := PySem.W.mg_of X G z_law_draw,
    F_law_parts := F_law_parts,
    b_law_parts := b_law_parts,
    m_law_parts := PySem.W.mg_of X G z_law_parts,
    F_law_pure := F_law_pure,
    b_law_pure := b_law_pure,
    m_law_pure := PySem.W.mg_of X G z_law_pure,
    F_law_sizes := F_law_sizes,
    b_law_sizes := b_law_sizes,
    m_law_sizes := PySem.W.mg_of X G z_law_sizes,
    F_law_shape_of := F_law_shape_of,
    b_law_shape_of := b_law_shape_of,
    m_law_shape_of := PySem.W.mg_of X G z_law_shape_of,
    F_law_is_laying := F_law_is_laying,
    b_law_is_laying := b_law_is_laying,
    m_law_is_laying := PySem.W.mg_of X G z_law_is_laying,
    F_law_free_tree := F_law_free_tree,
    b_law_free_tree := b_law_free_tree,
    m_law_free_tree := PySem.W.mg_of X G z_law_free_tree,
    F_law_rebuilt := F_law_rebuilt,
    b_law_rebuilt := b_law_rebuilt,
    m_law_rebuilt := PySem.W.mg_of X G z_law_rebuilt,
    F_law_asked := F_law_asked,
    b_law_asked := b_law_asked,
    m_law_asked := PySem.W.mg_of X G z_law_asked,
    F_law := F_law,
    b_law := b_law,
    m_law := PySem.W.mg_of X G z_law,
    g_all := PySem.W.mg_none_of X G zg_all,
    g_bool := PySem.W.mg_none_of X G zg_bool,
    g_enumerate := PySem.W.mg_none_of X G zg_enumerate,
    g_int := PySem.W.mg_none_of X G zg_int,
    g_isinstance := PySem.W.mg_none_of X G zg_isinstance,
    g_len := PySem.W.mg_none_of X G zg_len,
    g_list := PySem.W.mg_none_of X G zg_list,
    g_max := PySem.W.mg_none_of X G zg_max,
    g_range := PySem.W.mg_none_of X G zg_range,
    g_reversed := PySem.W.mg_none_of X G zg_reversed,
    g_sorted := PySem.W.mg_none_of X G zg_sorted,
    g_str := PySem.W.mg_none_of X G zg_str,
    g_tuple := PySem.W.mg_none_of X G zg_tuple,
    t_MARK_HERE := t_MARK_HERE,
    k_MARK_HERE := PySem.W.mg_of X G zk_MARK_HERE,
    t_MARK_THERE := t_MARK_THERE,
    k_MARK_THERE := PySem.W.mg_of X G zk_MARK_THERE }, rfl, rfl⟩⟩
  obtain ⟨T, e1, e2⟩ := T
  refine ⟨(PySem.W.fnOf "law" "law" (defArgs s_law) (defBody s_law) (defScope s_law) .none kV_law dc_law pm_law an_law cd_law ct_law), fun s v => .of_eq rfl, fun base _ _ => ?_⟩
  rw [e0, ← e1, ← e2]
  exact ok_law T
theorem walkLaw {l : PySem.W.OpenLaw} {q : Program} {loose : List Str} {XP : (Str → Option Value) → Heap → Prop} {YP : World → Heap → Prop} {d : DefRec} {K : Params → PySem.W.Frag} (hn : l.most = some 63) (hdf : d.params.defaults = [])
    (hY : ∀ (w : World) (h : Heap), YP w h → (K w.params).In h)
    (F : ∀ (w : World) (mg : Str → Option Value) (fa : Addr) (h : Heap), (K w.params).In h → h.Ns mainGlobals mg → mg d.name = some (.ref fa) →
      ∃ fd : FuncData, (∀ (s : Shared) (u : Value), BindsTo s fd ⟨[u], []⟩ [("script", u)]) ∧ ∀ base : Heap, (K w.params).In base → base.Ns mainGlobals mg → FnOk l.prog w (K w.params) mg base CX0 9 fa fd ["script"] (spLawK (K w.params))) :
    PySem.W.WalkO q loose XP YP l.row.toRowW d [] (fun f vs => PySem.call f vs) :=
  L2.walk_of (n := 63) (k := 9) (x := "script") (CX := fun _ => CX0) (sp := fun w => spLawK (K w.params)) hn (by decide) hdf ⟨rfl, by decide, by decide⟩ hY F (fun _ _ a ns hl _ hS => ⟨a, ns, rfl, hS, fun _ => rfl⟩) fun _ _ _ _ _ z => z
end Sh

open PySem PySem.W PyProof.Rows in
set_option maxRecDepth 100000 in
set_option maxHeartbeats 0 in
theorem PySem.Challenge.cw_alwaystree_k93_shared_when_nodes_are_lef_holds : PySem.Challenge.rw_alwaystree_k93_shared_when_nodes_are_lef.Holds := by
  w_on; o_law; k_head; (case hw => w_witness2)
  k_fill
  refine Sh.walkLaw (l := PySem.Challenge.rw_alwaystree_k93_shared_when_nodes_are_lef) rfl rfl (fun w h Y => PySem.W.kIn_of Y) ?F
  case F =>
    intro w mg fa h KX G hmg
    refine' Sh.all_mk KX G hmg ?zC_NodeRow ?pg_NodeRow ?hd_NodeRow ?po_NodeRow ?sa_NodeRow ?mk_NodeRow ?kc_NodeRow ?n_NodeRow_firsts ?n_NodeRow_heads ?n_NodeRow_rules ?n_NodeRow_sizes ?zC_Peeling ?pg_Peeling ?hd_Peeling ?po_Peeling ?sa_Peeling ?mk_Peeling ?kc_Peeling ?n_Peeling_high ?n_Peeling_low ?n_Peeling_one ?n_Peeling_other ?n_Peeling_taken ?zC_Sharing ?pg_Sharing ?hd_Sharing ?po_Sharing ?sa_Sharing ?mk_Sharing ?kc_Sharing ?n_Sharing_one ?n_Sharing_other ?n_Sharing_trees ?z_NodeRow_init ?i_NodeRow_init ?l_NodeRow_init ?co_NodeRow_init ?kp_NodeRow_init ?z_NodeRow_many ?i_NodeRow_many ?l_NodeRow_many ?co_NodeRow_many ?kp_NodeRow_many ?z_NodeRow_first_root ?i_NodeRow_first_root ?l_NodeRow_first_root ?co_NodeRow_first_root ?kp_NodeRow_first_root ?z_NodeRow_under_mark ?i_NodeRow_under_mark ?l_NodeRow_under_mark ?co_NodeRow_under_mark ?kp_NodeRow_under_mark ?z_noderow_of ?l_noderow_of ?co_noderow_of ?kp_noderow_of ?z_Peeling_init ?i_Peeling_init ?l_Peeling_init ?co_Peeling_init ?kp_Peeling_init ?z_Peeling_peels ?i_Peeling_peels ?l_Peeling_peels ?co_Peeling_peels ?kp_Peeling_peels ?z_Peeling_takes_last ?i_Peeling_takes_last ?l_Peeling_takes_last ?co_Peeling_takes_last ?kp_Peeling_takes_last ?z_Peeling_takes_first ?i_Peeling_takes_first ?l_Peeling_takes_first ?co_Peeling_takes_first ?kp_Peeling_takes_first ?z_Peeling_takes_root ?i_Peeling_takes_root ?l_Peeling_takes_root ?co_Peeling_takes_root ?kp_Peeling_takes_root ?z_Peeling_same_trees ?i_Peeling_same_trees ?l_Peeling_same_trees ?co_Peeling_same_trees ?kp_Peeling_same_trees ?z_Peeling_take_all ?i_Peeling_take_all ?l_Peeling_take_all ?co_Peeling_take_all ?kp_Peeling_take_all ?z_Peeling_rests ?i_Peeling_rests ?l_Peeling_rests ?co_Peeling_rests ?kp_Peeling_rests ?z_Peeling_moved ?i_Peeling_moved ?l_Peeling_moved ?co_Peeling_moved ?kp_Peeling_moved ?z_Sharing_init ?i_Sharing_init ?l_Sharing_init ?co_Sharing_init ?kp_Sharing_init ?z_Sharing_same_rule ?i_Sharing_same_rule ?l_Sharing_same_rule ?co_Sharing_same_rule ?kp_Sharing_same_rule ?z_Sharing_forests ?i_Sharing_forests ?l_Sharing_forests ?co_Sharing_forests ?kp_Sharing_forests ?z_Sharing_forest_row ?i_Sharing_forest_row ?l_Sharing_forest_row ?co_Sharing_forest_row ?kp_Sharing_forest_row ?z_Sharing_keep ?i_Sharing_keep ?l_Sharing_keep ?co_Sharing_keep ?kp_Sharing_keep ?z_Sharing_most ?i_Sharing_most ?l_Sharing_most ?co_Sharing_most ?kp_Sharing_most ?z_Sharing_pairs ?i_Sharing_pairs ?l_Sharing_pairs ?co_Sharing_pairs ?kp_Sharing_pairs ?z_Sharing_read_off ?i_Sharing_read_off ?l_Sharing_read_off ?co_Sharing_read_off ?kp_Sharing_read_off ?z_shared ?l_shared ?co_shared ?kp_shared ?z_shared_pairs ?l_shared_pairs ?co_shared_pairs ?kp_shared_pairs ?z_law_source ?l_law_source ?co_law_source ?kp_law_source ?z_law_draw ?l_law_draw ?co_law_draw ?kp_law_draw ?z_law_parts ?l_law_parts ?co_law_parts ?kp_law_parts ?z_law_pure ?l_law_pure ?co_law_pure ?kp_law_pure ?z_law_sizes ?l_law_sizes ?co_law_sizes ?kp_law_sizes ?z_law_shape_of ?l_law_shape_of ?co_law_shape_of ?kp_law_shape_of ?z_law_is_laying ?l_law_is_laying ?co_law_is_laying ?kp_law_is_laying ?z_law_free_tree ?l_law_free_tree ?co_law_free_tree ?kp_law_free_tree ?z_law_rebuilt ?l_law_rebuilt ?co_law_rebuilt ?kp_law_rebuilt ?z_law_asked ?l_law_asked ?co_law_asked ?kp_law_asked ?z_law ?l_law ?co_law ?kp_law ?zg_all ?zg_bool ?zg_enumerate ?zg_int ?zg_isinstance ?zg_len ?zg_list ?zg_max ?zg_range ?zg_reversed ?zg_sorted ?zg_str ?zg_tuple ?zk_MARK_HERE ?zk_MARK_THERE
    (case zC_NodeRow => k_is)
    (case pg_NodeRow => k_is)
    (case hd_NodeRow => k_is)
    (case po_NodeRow => k_is)
    (case sa_NodeRow => k_is)
    (case mk_NodeRow => k_is)
    (case kc_NodeRow => k_is)
    (case n_NodeRow_firsts => k_is)
    (case n_NodeRow_heads => k_is)
    (case n_NodeRow_rules => k_is)
    (case n_NodeRow_sizes => k_is)
    (case zC_Peeling => k_is)
    (case pg_Peeling => k_is)
    (case hd_Peeling => k_is)
    (case po_Peeling => k_is)
    (case sa_Peeling => k_is)
    (case mk_Peeling => k_is)
    (case kc_Peeling => k_is)
    (case n_Peeling_high => k_is)
    (case n_Peeling_low => k_is)
    (case n_Peeling_one => k_is)
    (case n_Peeling_other => k_is)
    (case n_Peeling_taken => k_is)
    (case zC_Sharing => k_is)
    (case pg_Sharing => k_is)
    (case hd_Sharing => k_is)
    (case po_Sharing => k_is)
    (case sa_Sharing => k_is)
    (case mk_Sharing => k_is)
    (case kc_Sharing => k_is)
    (case n_Sharing_one => k_is)
    (case n_Sharing_other => k_is)
    (case n_Sharing_trees => k_is)
    (case z_NodeRow_init => k_is)
    (case i_NodeRow_init => k_is)
    (case l_NodeRow_init => k_is)
    (case co_NodeRow_init => k_is)
    (case kp_NodeRow_init => k_is)
    (case z_NodeRow_many => k_is)
    (case i_NodeRow_many => k_is)
    (case l_NodeRow_many => k_is)
    (case co_NodeRow_many => k_is)
    (case kp_NodeRow_many => k_is)
    (case z_NodeRow_first_root => k_is)
    (case i_NodeRow_first_root => k_is)
    (case l_NodeRow_first_root => k_is)
    (case co_NodeRow_first_root => k_is)
    (case kp_NodeRow_first_root => k_is)
    (case z_NodeRow_under_mark => k_is)
    (case i_NodeRow_under_mark => k_is)
    (case l_NodeRow_under_mark => k_is)
    (case co_NodeRow_under_mark => k_is)
    (case kp_NodeRow_under_mark => k_is)
    (case z_noderow_of => k_is)
    (case l_noderow_of => k_is)
    (case co_noderow_of => k_is)
    (case kp_noderow_of => k_is)
    (case z_Peeling_init => k_is)
    (case i_Peeling_init => k_is)
    (case l_Peeling_init => k_is)
    (case co_Peeling_init => k_is)
    (case kp_Peeling_init => k_is)
    (case z_Peeling_peels => k_is)
    (case i_Peeling_peels => k_is)
    (case l_Peeling_peels => k_is)
    (case co_Peeling_peels => k_is)
    (case kp_Peeling_peels => k_is)
    (case z_Peeling_takes_last => k_is)
    (case i_Peeling_takes_last => k_is)
    (case l_Peeling_takes_last => k_is)
    (case co_Peeling_takes_last => k_is)
    (case kp_Peeling_takes_last => k_is)
    (case z_Peeling_takes_first => k_is)
    (case i_Peeling_takes_first => k_is)
    (case l_Peeling_takes_first => k_is)
    (case co_Peeling_takes_first => k_is)
    (case kp_Peeling_takes_first => k_is)
    (case z_Peeling_takes_root => k_is)
    (case i_Peeling_takes_root => k_is)
    (case l_Peeling_takes_root => k_is)
    (case co_Peeling_takes_root => k_is)
    (case kp_Peeling_takes_root => k_is)
    (case z_Peeling_same_trees => k_is)
    (case i_Peeling_same_trees => k_is)
    (case l_Peeling_same_trees => k_is)
    (case co_Peeling_same_trees => k_is)
    (case kp_Peeling_same_trees => k_is)
    (case z_Peeling_take_all => k_is)
    (case i_Peeling_take_all => k_is)
    (case l_Peeling_take_all => k_is)
    (case co_Peeling_take_all => k_is)
    (case kp_Peeling_take_all => k_is)
    (case z_Peeling_rests => k_is)
    (case i_Peeling_rests => k_is)
    (case l_Peeling_rests => k_is)
    (case co_Peeling_rests => k_is)
    (case kp_Peeling_rests => k_is)
    (case z_Peeling_moved => k_is)
    (case i_Peeling_moved => k_is)
    (case l_Peeling_moved => k_is)
    (case co_Peeling_moved => k_is)
    (case kp_Peeling_moved => k_is)
    (case z_Sharing_init => k_is)
    (case i_Sharing_init => k_is)
    (case l_Sharing_init => k_is)
    (case co_Sharing_init => k_is)
    (case kp_Sharing_init => k_is)
    (case z_Sharing_same_rule => k_is)
    (case i_Sharing_same_rule => k_is)
    (case l_Sharing_same_rule => k_is)
    (case co_Sharing_same_rule => k_is)
    (case kp_Sharing_same_rule => k_is)
    (case z_Sharing_forests => k_is)
    (case i_Sharing_forests => k_is)
    (case l_Sharing_forests => k_is)
    (case co_Sharing_forests => k_is)
    (case kp_Sharing_forests => k_is)
    (case z_Sharing_forest_row => k_is)
    (case i_Sharing_forest_row => k_is)
    (case l_Sharing_forest_row => k_is)
    (case co_Sharing_forest_row => k_is)
    (case kp_Sharing_forest_row => k_is)
    (case z_Sharing_keep => k_is)
    (case i_Sharing_keep => k_is)
    (case l_Sharing_keep => k_is)
    (case co_Sharing_keep => k_is)
    (case kp_Sharing_keep => k_is)
    (case z_Sharing_most => k_is)
    (case i_Sharing_most => k_is)
    (case l_Sharing_most => k_is)
    (case co_Sharing_most => k_is)
    (case kp_Sharing_most => k_is)
    (case z_Sharing_pairs => k_is)
    (case i_Sharing_pairs => k_is)
    (case l_Sharing_pairs => k_is)
    (case co_Sharing_pairs => k_is)
    (case kp_Sharing_pairs => k_is)
    (case z_Sharing_read_off => k_is)
    (case i_Sharing_read_off => k_is)
    (case l_Sharing_read_off => k_is)
    (case co_Sharing_read_off => k_is)
    (case kp_Sharing_read_off => k_is)
    (case z_shared => k_is)
    (case l_shared => k_is)
    (case co_shared => k_is)
    (case kp_shared => k_is)
    (case z_shared_pairs => k_is)
    (case l_shared_pairs => k_is)
    (case co_shared_pairs => k_is)
    (case kp_shared_pairs => k_is)
    (case z_law_source => k_is)
    (case l_law_source => k_is)
    (case co_law_source => k_is)
    (case kp_law_source => k_is)
    (case z_law_draw => k_is)
    (case l_law_draw => k_is)
    (case co_law_draw => k_is)
    (case kp_law_draw => k_is)
    (case z_law_parts => k_is)
    (case l_law_parts => k_is)
    (case co_law_parts => k_is)
    (case kp_law_parts => k_is)
    (case z_law_pure => k_is)
    (case l_law_pure => k_is)
    (case co_law_pure => k_is)
    (case kp_law_pure => k_is)
    (case z_law_sizes => k_is)
    (case l_law_sizes => k_is)
    (case co_law_sizes => k_is)
    (case kp_law_sizes => k_is)
    (case z_law_shape_of => k_is)
    (case l_law_shape_of => k_is)
    (case co_law_shape_of => k_is)
    (case kp_law_shape_of => k_is)
    (case z_law_is_laying => k_is)
    (case l_law_is_laying => k_is)
    (case co_law_is_laying => k_is)
    (case kp_law_is_laying => k_is)
    (case z_law_free_tree => k_is)
    (case l_law_free_tree => k_is)
    (case co_law_free_tree => k_is)
    (case kp_law_free_tree => k_is)
    (case z_law_rebuilt => k_is)
    (case l_law_rebuilt => k_is)
    (case co_law_rebuilt => k_is)
    (case kp_law_rebuilt => k_is)
    (case z_law_asked => k_is)
    (case l_law_asked => k_is)
    (case co_law_asked => k_is)
    (case kp_law_asked => k_is)
    (case z_law => k_is)
    (case l_law => k_is)
    (case co_law => k_is)
    (case kp_law => k_is)
    (case zg_all => k_is)
    (case zg_bool => k_is)
    (case zg_enumerate => k_is)
    (case zg_int => k_is)
    (case zg_isinstance => k_is)
    (case zg_len => k_is)
    (case zg_list => k_is)
    (case zg_max => k_is)
    (case zg_range => k_is)
    (case zg_reversed => k_is)
    (case zg_sorted => k_is)
    (case zg_str => k_is)
    (case zg_tuple => k_is)
    (case zk_MARK_HERE => k_is)
    (case zk_MARK_THERE => k_is)
