import PyProof.Rows.All
import HandS.ForMost
import HandS.Conv
import HandS.SetFor
import HandS.Strs
import HandS.TupSets
import HandS.Deep
import HandS.More
import HandS.DictComp
import HandS.SortInts
import HandS.TupMul
import HandS.Rev
import HandS.MapObj
import HandS.TupAny
import KE.KDictPairs
import Wide.All
import OpenK.AllK
import Wide.FinOn
import HandS.Wide
import HandS.WideMore
import HandS.IsInst
import HandS.NoneIn
import HandS.Style
import HandS.TupLen
import HandS.Small
import HandS.Star
import PySem.Challenge.RW_knotpapers_k75_whole_tables_of_circles
set_option Elab.async false
set_option linter.all false
set_option maxRecDepth 100000
set_option maxHeartbeats 4000000
/-! Rules beyond the hand layer's own. -/
namespace Eng
open PySem PySem.Spec PyProof.Rows L2
section
variable {X : Cx} {a b c : Expr}
/-- an expression that makes a range with a step -/
def PRg3 (X : Cx) (e : Expr) (t : L2.St → Hp → (Int → Int → Int → Nat → Hp → Prop) → Prop) : Prop :=
  ∀ (pins : List (Addr × Obj)) (s : Shared) (σ : L2.St) (H : Hp) (Q : Int → Int → Int → Nat → Hp → Prop), Inv X pins σ H s → t σ H Q →
    wpAny (model X.prog X.w) X.A (eval e X.env) (fun x s' => ∃ r a b c n t u v H', x = .ref r ∧ IsRange s'.heap r a b c t u v ∧ Inv X pins σ H' s' ∧ RgC a b c n ∧ Q a b c n H') X.xe s
def tRg3 (ta : TA) : L2.St → Hp → (Int → Int → Int → Nat → Hp → Prop) → Prop := fun σ H Q => ta σ H fun vs H1 => ∃ (i j c : Int) (n : Nat), vs = [.int i, .int j, .int c] ∧ RgC i j c n ∧ Q i j c n H1
theorem prg_3 {ta : TA} {p pos : Pos} (hg : Gl X "range") (hm : X.mg "range" = none) (ha : PA X [a, b, c] ta)
    (hs : starEach [a, b, c] X.env = (false, eval a X.env) :: starEach [b, c] X.env) (hpl : (backTo pos (starEach [b, c] X.env)).any (·.1) = false) :
    PRg3 X (.Call (.Name "range" p) [a, b, c] [] pos) (tRg3 ta) := by
  intro pins s σ H Q I h
  refine Call_ (ld_blt I hg hm boot_range (PyProof.Rows.callWith_type1 (thn (ha.run pos pins s σ H _ I h) fun us s1 ⟨vs, H1, I1, r1, q1⟩ => ?_) hs hpl))
  obtain ⟨i, j, k, n, e, hc, q⟩ := q1
  subst e
  cases r1 with
  | cons r rr =>
    cases rr with
    | cons r' rr =>
      cases rr with
      | cons r'' rr =>
        cases rr
        obtain ⟨t, rfl⟩ := r
        obtain ⟨t', rfl⟩ := r'
        obtain ⟨t'', rfl⟩ := r''
        exact call_range_3 hc.1 ⟨_, i, j, k, n, _, _, _, H1, rfl, IsRange.new .., I1.kept fun b u e => Heap.get?_push_of_some _ e, hc, q⟩ (.inl (PyProof.noPylong_small hc.2.1))
/-- the ints a, a + c, .. -/
def rgV3 (a c : Int) (n : Nat) : List V := (List.range n).map fun i => V.int (a + (i : Nat) * c)
theorem rgV3_length (a c : Int) (n : Nat) : (rgV3 a c n).length = n := by unfold rgV3; rw [List.length_map, List.length_range]
theorem vals_rg3 {a c : Int} {n : Nat} {acc : Array Value} (h : ItemsOf (fun i v => ∃ t, v = .int (a + i * c) t) acc n) : Vals (rgV3 a c n) acc.toList := by
  have e : acc.toList.length = n := by rw [Array.length_toList]; exact h.1
  unfold rgV3
  rw [← e]
  refine vals_of_get acc.toList _ fun j u hj => ?_
  obtain ⟨t, rfl⟩ := h.2 j u (by rw [← hj, Array.getElem?_toList])
  exact ⟨t, rfl⟩
variable {e : Expr} {te : L2.St → Hp → (Int → Int → Int → Nat → Hp → Prop) → Prop}
def tLstRg3 (te : L2.St → Hp → (Int → Int → Int → Nat → Hp → Prop) → Prop) : TE := fun σ H Q => te σ H fun a b c n H1 => n ≤ 2 ^ 24 ∧ ∀ q, H1 q = none → Q (.ref q) (upd H1 q (.lst (rgV3 a c n)))
def tTupRg3 (te : L2.St → Hp → (Int → Int → Int → Nat → Hp → Prop) → Prop) : TE := fun σ H Q => te σ H fun a b c n H1 => n ≤ 2 ^ 24 ∧ ∀ q, H1 q = none → Q (.ref q) (upd H1 q (.tup (rgV3 a c n)))
theorem pe_listRg3 {p pos : Pos} (hc : X.calm = true) (hg : Gl X "list") (hm : X.mg "list" = none) (he : PRg3 X e te) (na : starEach [e] X.env = (false, eval e X.env) :: starEach [] X.env := by rfl) : PE X (.Call (.Name "list" p) [e] [] pos) (tLstRg3 te) := by
  refine ⟨fun pins s σ H Q I h => ?_⟩
  refine Call_ (ld_blt I hg hm boot_list (PyProof.Rows.callWith_type1 (args_cons (thn (he pins s σ H _ I h) fun x s1 ⟨r, a, b, c, n, t, u, v, H1, ex, hr, I1, rc, ok, q⟩ => args_nil ?_) na) na))
  subst ex
  refine call_list_range (n := n) (I1.ok.hd hc) hr rc.2.2.1 rc.2.2.2 ok fun h' tk acc c' hk e' hi => ?_
  refine ⟨.ref s1.heap.objs.size, upd H1 s1.heap.objs.size (.lst (rgV3 a c n)), I1.laid hk (Nat.le_refl _) (show ObjOk X.prog X.w _ _ _ (.lst (rgV3 a c n)) from ⟨?_, acc.toList, c', vals_rg3 hi, ?_⟩), rfl, q _ (I1.hok.fresh (Nat.le_refl _))⟩
  · rw [rgV3_length, sizeLine_eq]; omega
  · rw [Array.toArray_toList]; exact e'
theorem pe_tupRg3 {p pos : Pos} (hc : X.calm = true) (hg : Gl X "tuple") (hm : X.mg "tuple" = none) (he : PRg3 X e te) (na : starEach [e] X.env = (false, eval e X.env) :: starEach [] X.env := by rfl) : PE X (.Call (.Name "tuple" p) [e] [] pos) (tTupRg3 te) := by
  refine ⟨fun pins s σ H Q I h => ?_⟩
  refine Call_ (ld_blt I hg hm boot_tuple (PyProof.Rows.callWith_type1 (args_cons (thn (he pins s σ H _ I h) fun x s1 ⟨r, a, b, c, n, t, u, v, H1, ex, hr, I1, rc, ok, q⟩ => args_nil ?_) na) na))
  subst ex
  refine call_tuple_range (n := n) (I1.ok.hd hc) hr rc.2.2.1 rc.2.2.2 ok fun h' tk acc hk hi => ?_
  have I2 : Inv X pins σ H1 { s1 with heap := h', toks := tk } := I1.kept hk
  refine ⟨.ref h'.objs.size, upd H1 h'.objs.size (.tup (rgV3 a c n)), I2.laid (t' := tk) (fun c o e => Heap.get?_push_of_some _ e) (Nat.le_refl _) (show ObjOk X.prog X.w _ _ _ (.tup (rgV3 a c n)) from ⟨?_, acc.toList, vals_rg3 hi, ?_⟩), rfl, q _ (I2.hok.fresh (Nat.le_refl _))⟩
  · rw [rgV3_length, sizeLine_eq]; omega
  · rw [Array.toArray_toList]; exact IsTup.new _ _
end

/-- name = {k: v for ..}: stored within the comprehension's frame -/
theorem ps_setDc {X : Cx} {i : Nat} {y : Str} {py : Pos} {kx vx tg iter : Expr} {ifs : List Expr} {scope : Scope} {own : List (Str × Nat)} {pos spos : Pos} {wi : TI} {g : TG} {tt : TT} {tk tv : TE} (hc : X.calm = true) (hN : X.N.Nodup) (hy : X.N[i]? = some y) (hyl : X.env.scope.names.lookup y = some .local)
    (hsw : swapsWith (.DictComp kx vx [⟨tg, iter, ifs, 0⟩] scope pos) (some (.Name y py)) spos.line X.env = pure true) (hi : PI X tg iter wi) (ok : BlkOk X.N X.env.scope scope own)
    (hg : ∀ (s : Shared) (H : Hp) (C : Addr) (cl : List (Str × Addr)) (fp : List Addr), PG (X.blk s H scope (compEnvC scope cl C X.env) fp) tg g) (ht : ∀ (s : Shared) (H : Hp) (C : Addr) (cl : List (Str × Addr)) (fp : List Addr), PTs (X.blk s H scope (compEnvC scope cl C X.env) fp) ifs tt)
    (hk : ∀ (s : Shared) (H : Hp) (C : Addr) (cl : List (Str × Addr)) (fp : List Addr), PE (X.blk s H scope (compEnvC scope cl C X.env) fp) kx tk)
    (he : ∀ (s : Shared) (H : Hp) (C : Addr) (cl : List (Str × Addr)) (fp : List Addr), PE (X.blk s H scope (compEnvC scope cl C X.env) fp) vx tv) (hs : ∀ x, foldedSetIterable iter X.env x = pure x) :
    PS X (.Assign [.Name y py] (.DictComp kx vx [⟨tg, iter, ifs, 0⟩] scope pos) spos) (tAsg (tDc wi g tt tk tv (own.map (·.2))) (gName i)) := by
  refine ⟨fun pins s σ H D I h => ?_⟩
  rw [exec_Assign_Name_used _ _ _ _ hsw]
  refine wpAny_bind (wpAny_standAt (wpAny_bind ?_))
  show wpAny _ X.A (do let _ ← comprehension (.DictComp kx vx [⟨tg, iter, ifs, 0⟩] scope pos) scope X.env (firstIterPos [⟨tg, iter, ifs, 0⟩] pos) newDict false (eval iter X.env) (some (assign (.Name y py) X.env))) _ _ s
  have h : tDc wi g tt tk tv (own.map (·.2)) σ H (fun x H1 => gName i x σ H1 D.nx) := h
  refine wpAny_bind (thn (dc_core (Qf := fun _ s' => SP X pins D .next s') hc hN I hi ok hg ht hk he hs h fun L C s' m H' I' q hn f => ?_) fun _ s' hq => wpAny_pure (wpAny_pure hq))
  show wpAny _ _ (assign (.Name y py) X.env (.ref L)) _ _ _
  refine wpAny_assign_Name (store_ok2 (v := V.ref L) I' hN hy (.inl hyl) rfl (fun s2 I2 ⟨a, sb, ha⟩ => ?_) (.inr hyl))
  obtain ⟨f0, f1, f2, f3, f4, f5⟩ := f
  have haC : C ≠ a := by
    rcases ha with z | z
    · rw [z]; exact f1
    · exact fun e => f4 y a z e.symm
  refine ⟨m, hn.sameBut sb haC, fun h3 sb3 => ?_⟩
  exact ⟨_, H', I2.turned (t' := s2.toks) (fun b o hb e => (sb3.2 b hb).trans e) f0 f1 f3 f4 f5, q⟩
end Eng
/-! sorted(t), t a tuple of numbers. -/
namespace SrtO
open PySem PySem.Spec PyProof.Rows
section
variable {prog : Program} {w : World} {A : Around} {E : Value → Shared → Prop} {s : Shared}
/-- sorted(t): the new list stands behind what was collected -/
theorem sorted_ordT {l : Addr} {vs : List Value} {ltv : Value → Value → Bool} {Q : Value → Shared → Prop} (O : Swo ltv) (hl : IsTup s.heap l vs.toArray) (hz : vs.length ≤ sizeLine)
    (hS : 2 ≤ vs.length → ∀ (h₁ : Heap) (a : Addr), h₁.get? a = some (seqObj "list" vs.toArray 0) → SortableO prog w A.in1.in1 { s with heap := h₁ } a vs ltv)
    (h : ∀ (h' : Heap) (out : List Value), (∀ b o, s.heap.get? b = some o → h'.get? b = some o) → Srtd ltv out → Stb ltv out vs → Q (.ref h'.objs.size) { s with heap := sortedHeap (h'.push (seqObj "list" vs.toArray 0)) h'.objs.size vs out.toArray }) :
    wpAny (model prog w) A (call (.builtin "sorted") [.ref l]) Q E s := by
  obtain ⟨o, ho, hc, n, hd⟩ := hl
  refine Calls.call_function_entry kind_sorted plain_sorted entry_sorted (args_sorted1 _) ?_
  unfold Builtin.«sorted»
  refine wpAny_bind (m := checkCount "sorted" 1 1 _) (wpAny_pure ?_)
  refine wpAny_bind (wpAny_collect_seq l (.inr rfl) ho hc hd (fun h' kp => ?_) (by simpa using hz))
  refine wpAny_bind (wpAny_newList ?_ (by simpa using hz))
  have hoL : (h'.push (seqObj "list" vs.toArray 0)).get? h'.objs.size = some (seqObj "list" vs.toArray 0) := Heap.get?_push_size _ rfl
  show wpAny _ _ _ _ _ { s with heap := h'.push (seqObj "list" vs.toArray 0) }
  refine wpAny_bind (wpAny_holding (wpAny_call_entry slot_list_sort ⟨_, hoL, rfl⟩ entry_list_sort (list_sort_ord O hoL hz (fun h2 => hS h2 _ _ hoL) fun out hs hb => ⟨_, rfl, ?_⟩) (args_list_sort _)))
  exact wpAny_pure ⟨_, rfl, h h' out kp hs hb⟩
end
end SrtO
namespace L2
open PySem PySem.Spec PyProof.Rows
/-- sorted(t), t a tuple of ints -/
def rSortedIT (K : PySem.W.Frag) : List V → Hp → VK → Prop := fun vs H Q => ∃ (a : Addr) (ns : List Int), vs = [V.ref a] ∧ SqT K H a (ns.map V.int) ∧
  ∀ (ns' : List Int) (p : Addr), ns'.Perm ns → ns'.Pairwise (· ≤ ·) → H p = none → Q (.ref p) (upd H p (.lst (ns'.map V.int)))
section
variable {X : Cx}
theorem cr_sortedIT : CallR X (.builtin "sorted") (rSortedIT X.K) := by
  intro pins s σ H vs us Q I r h
  obtain ⟨a, ns, rfl, hs, q⟩ := h
  obtain ⟨its, rv, hl, hz⟩ := I.tuple hs
  rw [Vals.ref1 r]
  have hi := rv.ints
  refine SrtO.sorted_ordT SrtO.swo_int hl (by rw [← rv.length]; exact hz) (fun h2 h₁ a' _ => SrtO.ints_sortable hi h2) fun h' out kp h1 h2 => ?_
  obtain ⟨k1, k2, k3⟩ := SrtO.ints_out hi h1 h2
  have I1 : Inv X pins σ H { s with heap := h' } := I.kept (t' := s.toks) kp
  obtain ⟨ep, he'⟩ := PyProof.Rows.sortedHeap_at (vs := its) (out := out.toArray) (n := 0) (Heap.get?_push_size h' rfl : (h'.push (seqObj "list" its.toArray 0)).get? h'.objs.size = some (seqObj "list" its.toArray 0))
  have hlen : ((out.map SrtO.iv).map V.int).length ≤ sizeLine := by
    rw [List.length_map, k2.length_eq]
    rw [List.length_map] at hz
    exact hz
  exact ⟨.ref _, upd H h'.objs.size (.lst ((out.map SrtO.iv).map V.int)), I1.laid (t' := s.toks) (fun b o e => by
    have hlt : b < h'.objs.size := Heap.lt_size e
    rw [PyProof.Rows.sortedHeap_old (Nat.ne_of_lt hlt) (by rw [size_push']; exact Nat.lt_succ_of_lt hlt)]
    exact Heap.get?_push_of_some _ e) (Nat.le_refl _) ⟨hlen, out, ep, vals_of_ints k1, he'⟩, rfl, q _ _ k2 k3 (I1.hok.fresh (Nat.le_refl _))⟩
end
end L2
/-! t * 1. -/
namespace L2
open PySem PySem.Spec PyProof.Rows
theorem tuple_mul1 (l : Addr) (items : Array Value) (n : Nat) (dd : Option Addr) (sl : Array (Option Value)) (x : Int) (u : Tok) (c0 : (decide (x < -(2 ^ 63)) || decide (x ≥ 2 ^ 63)) = false) (c1 : (items.isEmpty || x == 1) = true) :
    Meets (Builtin.«tuple.__mul__» ⟨[.ref l, .int x u], []⟩) (fun _ R s => s.heap.get? l = some { cls := .type "tuple", dict := dd, data := .seq items n, slots := sl } ∧ R (.ok (.ret (Value.ref l))) s) :=
  .of_wp fun prog w A R s h => by
    obtain ⟨hp, g, d, tk, os⟩ := s
    obtain ⟨hl, h⟩ := h
    have f1 := AutoSeq1.idx_int
    have hT : (⟨hp, g, d, tk, os⟩ : Shared).TypeIs (.ref l) "tuple" := ⟨_, hl, rfl⟩
    wp_walk using wpAny_loadPart' hl
    repeat (first
      | (refine wpAny_ite_false (decide_eq_false (by rw [c0]; exact Bool.false_ne_true)) ?_; wp_walk using wpAny_loadPart' hl, wpAny_typeOf hT)
      | (refine wpAny_ite_true (decide_eq_true c1) ?_; wp_walk using wpAny_loadPart' hl, wpAny_typeOf hT))
    exact ⟨_, rfl, h⟩
def rRepTA (K : PySem.W.Frag) : R2 := fun x y H Q => ∃ l k xs, x = .ref l ∧ y = .int k ∧ SqT K H l xs ∧ 1 ≤ k ∧ k ≤ 1000 ∧ xs.length ≤ 1000 ∧ (xs = [] ∨ k = 1 → Q (.ref l) H) ∧ (xs ≠ [] → 2 ≤ k → ∀ p, H p = none → Q (.ref p) (upd H p (.tup (List.replicate k.toNat xs).flatten)))
section
variable {X : Cx}
theorem op_repTA : OpR X (binaryOp .Mult) (rRepTA X.K) := by
  intro pins s σ H x y v u Q I rx ry h
  obtain ⟨l, k, xs, rfl, rfl, hT, h1, h2, hz, q1, q2⟩ := h
  by_cases hc : xs = [] ∨ k = 1
  · cases rx
    obtain ⟨t, rfl⟩ := ry
    obtain ⟨its, r, ⟨⟨cls, dd, data, sl⟩, ho, hc', n, hd⟩, hs⟩ := I.tuple hT
    simp only at hc' hd
    subst hc' hd
    have c0 : (decide (k < -(2 ^ 63)) || decide (k ≥ 2 ^ 63)) = false := by
      rw [decide_eq_false (by omega), decide_eq_false (by omega)] <;> rfl
    have c1 : (its.toArray.isEmpty || k == 1) = true := by
      rcases hc with e | e
      · subst e
        cases r
        rfl
      · subst e
        simp
    exact wpAny_binaryOp_repeat_ref (T := "tuple") (U := "int") (by decide) ⟨_, ho, rfl⟩ (fun s' => typeIs_int s' k t) noFill_tuple_mul F.fills_int_mul F.slot_int_rmul repeat_tuple F.slot_int_index.lookup
      (call_meets F.slot_int_rmul (typeIs_int s k t) F.entry_int_rmul (F.args_int_rmul_2 _ _) (int_rmul_tuple k t l its.toArray n dd sl)
        ⟨ho, rfl, ⟨_, ho, rfl⟩, call_meets F.slot_tuple_mul ⟨_, ho, rfl⟩ F.entry_tuple_mul (F.args_tuple_mul_2 _ _) (tuple_mul1 l its.toArray n dd sl k t c0 c1) ⟨ho, ⟨.ref l, H, I, rfl, q1 hc⟩⟩⟩)
  · have hx : xs ≠ [] := fun e => hc (.inl e)
    have hk : 2 ≤ k := by
      have : k ≠ 1 := fun e => hc (.inr e)
      omega
    exact op_repT pins s σ H _ _ v u Q I rx ry ⟨l, k, xs, rfl, rfl, hT, hx, hk, h2, hz, q2 hx hk⟩
end
end L2
/-! New tuples, told with their objects. -/
namespace L2
open PySem PySem.Spec PyProof.Rows
def refV : V → Bool
  | .ref _ => true
  | _ => false
/-- some members, none of them an object -/
def fne : List V → Bool
  | [] => false
  | u :: us => (u :: us).all fun v => !refV v
/-- a new tuple's cell: a flat one's as it is (it may become a key), any other's with its object -/
def tcl (us : List V) (o : Obj) : HO := match fne us with
  | true => .tup us
  | false => .frz o (.tup us)
def newT (us : List V) (H : Hp) (Q : VK) : Prop := ∀ (p : Addr) (o : Obj), H p = none → o.dict = none → Q (.ref p) (upd H p (tcl us o))
section
variable {X : Cx} {pins : List (Addr × Obj)} {σ : St} {H : Hp} {s : Shared} {h : Heap} {tk : Nat}
theorem tcl_ok {us : List V} {its : List Value} {P : Program} {w : World} {H' : Hp} (hz : us.length ≤ sizeLine) (r : Vals us its) : ObjOk P w H' (h.push { cls := .type "tuple", data := .seq its.toArray }) h.objs.size (tcl us { cls := .type "tuple", data := .seq its.toArray }) := by
  have e : (h.push { cls := .type "tuple", data := .seq its.toArray }).get? h.objs.size = some { cls := .type "tuple", data := .seq its.toArray } := Heap.get?_push_size _ rfl
  have p : ObjOk P w H' (h.push { cls := .type "tuple", data := .seq its.toArray }) h.objs.size (.tup us) := ⟨hz, its, r, IsTup.new _ _⟩
  unfold tcl
  split
  · exact p
  · exact ⟨e, p⟩
/-- a tuple has been laid -/
theorem layT {us : List V} {its : List Value} {Q : VK} (I : Inv X pins σ H { s with heap := h, toks := tk }) (hz : us.length ≤ sizeLine) (r : Vals us its) (q : newT us H Q) : EP X pins σ Q (.ref h.objs.size) { s with heap := h.push { cls := .type "tuple", data := .seq its.toArray }, toks := tk } :=
  have I2 := I.laid (o := tcl us { cls := .type "tuple", data := .seq its.toArray }) (h' := h.push { cls := .type "tuple", data := .seq its.toArray }) (t' := tk) (fun b o e => Heap.get?_push_of_some _ e) (Nat.le_refl _) (tcl_ok hz r)
  ⟨.ref h.objs.size, _, I2, rfl, q _ _ (I.hok.fresh (Nat.le_refl _)) rfl⟩
end
end L2
namespace RT
open PySem PySem.Spec PyProof.Rows L2
theorem nolen_rt : typeLookup (.type "reversed") "__len__" = pure none := by rw [typeLookup_type, builtinLookup_eq_fast]; kernel_rfl
theorem hint_rt : typeLookup (.type "reversed") "__length_hint__" = pure (some (.builtin "reversed.__length_hint__")) := by rw [typeLookup_type, builtinLookup_eq_fast]; kernel_rfl
theorem slot_rt_hint : Slot "reversed" "__length_hint__" "reversed.__length_hint__" :=
  .of (owner := "reversed") (n := "__length_hint__") (by rw [typeLookup_type, builtinLookup_eq_fast]; kernel_rfl) (by decide +kernel) (by decide +kernel) (by decide +kernel)
    (by first | exact .inl (by decide +kernel) | exact .inr (by decide +kernel)) (by rw [isSubtype_type]; kernel_rfl)
theorem entry_rt_hint : entryFor table "reversed.__length_hint__" = some Builtin.«reversed.__length_hint__» := entryFor_of_tree (by kernel_rfl)
theorem args_rt_hint (a : Value) : argsOk "reversed.__length_hint__" ⟨[a], []⟩ := by
  unfold argsOk; rw [signature?_of (id := "reversed.__length_hint__") (n := ['_', '_', 't', 'n', 'i', 'h', '_', 'h', 't', 'g', 'n', 'e', 'l', '_', '_']) (o := ['d', 'e', 's', 'r', 'e', 'v', 'e', 'r']) (by kernel_rfl) owner_rt]; kernel_rfl
section
variable {prog : Program} {w : World} {A : Around} {E : Value → Shared → Prop} {s : Shared}
theorem tup_at {h h' : Heap} {t : Addr} {items : Array Value} (x : IsTup h t items) (e : ∀ o, h.get? t = some o → h'.get? t = some o) : IsTup h' t items := let ⟨o, ho, r⟩ := x; ⟨o, e o ho, r⟩
theorem hint_ok {it t : Addr} {items : Array Value} {Q : Bool → Shared → Prop} (hit : IsRt s.heap it t ((items.size : Int) - 1)) (ht : IsTup s.heap t items) (hn : items.size ≤ sizeLine)
    (h : ∀ tk, s.toks ≤ tk → Q (decide (items.size ≠ 0)) { s with toks := tk }) : wpAny (model prog w) A (Builtin.List.listLengthHint (.ref it)) Q E s := by
  have hT := hit.typeIs
  unfold Builtin.List.listLengthHint
  refine wpAny_bind (wpAny_specialOf hT nolen_rt ?_)
  show wpAny _ A (specialOf (Value.ref it) (Str.ofString "__length_hint__") >>= _) _ _ _
  refine wpAny_bind (wpAny_specialOf hT hint_rt ?_)
  generalize hid : ("reversed.__length_hint__" : String) = id0
  dsimp only
  rw [show splitId id0 = some ("reversed", "__length_hint__") from by subst hid; decide +kernel]
  dsimp only
  refine wpAny_bind (wpAny_isInstance (b := true) hT (by rw [isSubtype_type]; kernel_rfl) ?_)
  rw [if_neg (by decide)]
  rw [if_neg (by subst hid; decide +kernel)]
  refine wpAny_bind (wpAny_rule ?_)
  subst hid
  refine wpAny_bind (wpAny_of_eq (a := (Value.builtin "reversed.__length_hint__", [Value.ref it])) (by
    have := slot_rt_hint.bind (Value.ref it)
    exact this) ?_)
  dsimp only
  refine wpAny_bind (wpAny_attempt (wpAny_call_entry slot_rt_hint hT entry_rt_hint ?_ (args_rt_hint _)))
  unfold Builtin.«reversed.__length_hint__»
  obtain ⟨o, ho, hc, hd⟩ := id hit
  refine wpAny_bind (wpAny_of_eq (a := Value.ref it) (by first | rfl | kernel_rfl) ?_)
  refine wpAny_bind (wpAny_field ho hd (x := .ref t) rfl ?_)
  rw [if_neg (show ¬ (Value.ref t == Value.none) = true from fun h => by cases h)]
  have hz : items.size ≤ 16777216 := by rw [sizeLine_eq] at hn; exact hn
  refine wpAny_bind (len_tuple ht (by omega) ?_)
  refine wpAny_bind (wpAny_of_eq (a := some ((items.size : Nat) : Int)) rfl ?_)
  dsimp only
  refine wpAny_bind (wpAny_field (s := { s with toks := s.toks + 1 + 1 }) ho hd (x := rawInt ((items.size : Int) - 1)) rfl ?_)
  show wpAny _ _ (if ((items.size : Nat) : Int) < ((items.size : Int) - 1) + 1 then _ else retInt (((items.size : Int) - 1) + 1)) _ _ _
  rw [if_neg (by omega)]
  have e1 : ((items.size : Int) - 1) + 1 = ((items.size : Nat) : Int) := by omega
  rw [e1]
  refine wpAny_bind (wpAny_mkInt ?_)
  refine wpAny_pure ⟨_, rfl, ?_⟩
  have f1 : Builtin.List.listFitsIndex ((items.size : Nat) : Int) = true := by
    unfold Builtin.List.listFitsIndex
    rw [Bool.and_eq_true, decide_eq_true_eq, decide_eq_true_eq]
    constructor <;> omega
  have f2 : Builtin.List.listTooLong ((items.size : Nat) : Int).toNat = false := by
    unfold Builtin.List.listTooLong
    rw [Int.toNat_natCast]
    exact decide_eq_false (by rw [sizeLine_eq]; omega)
  have e2 : (((items.size : Nat) : Int) != 0) = decide (items.size ≠ 0) := by
    by_cases q : items.size = 0
    · simp [q]
    · simp [q]
  have h0 : ¬ (((items.size : Nat) : Int) < 0) := by omega
  have h3 := h (s.toks + 1 + 1 + 1) (by omega)
  rw [← e2] at h3
  clear hit hd e1 e2 ho hc hT ht hn hz h
  revert f1 f2 h0 h3
  generalize ((items.size : Nat) : Int) = N
  intro f1 f2 h0 h3
  dsimp only
  refine wpAny_bind (wpAny_of_eq (a := some N) rfl ?_)
  dsimp only
  rw [f1, f2, if_neg (show ¬ (!true) = true from fun h => by cases h), if_neg h0, if_neg Bool.false_ne_true]
  exact wpAny_pure h3
theorem Walks.revTup {A : Around} (hh : A.handled = none) (I t : Addr) (hne : t ≠ I) (items : Array Value) (hn : items.size ≤ sizeLine) :
    Walks prog w A I [I, t] [I] items.size (fun i v => items[items.size - 1 - i]? = some v) (fun i h => i ≤ items.size ∧ IsRt h I t ((items.size : Int) - 1 - (i : Int)) ∧ IsTup h t items) where
  sub := fun b hb => by simp at hb; simp [hb]
  frame := fun _ _ _ x hk => ⟨x.1, x.2.1.at fun o e => hk I (by simp) o e, tup_at x.2.2 fun o e => hk t (by simp) o e⟩
  item := fun i s Q E hi x hQ => by
    have e : (items.size : Int) - 1 - (i : Int) = ((items.size - 1 - i : Nat) : Int) := by omega
    have hit := x.2.1
    rw [e] at hit
    have hx : items[items.size - 1 - i]? = some (items[items.size - 1 - i]'(by omega)) := Array.getElem?_eq_getElem (by omega)
    refine next_rt_item hit x.2.2 hx hn fun h' hit' hs' => ?_
    have e2 : ((items.size - 1 - i : Nat) : Int) - 1 = (items.size : Int) - 1 - ((i + 1 : Nat) : Int) := by omega
    rw [e2] at hit'
    exact hQ _ h' (s.toks + 1) hx ⟨hi, hit', tup_at x.2.2 fun o eo => (hs'.2 t hne).trans eo⟩ fun b o hb eo => (hs'.2 b (fun h => hb (by simp [h]))).trans eo
  done := fun s Q E x hQ => by
    have e : (items.size : Int) - 1 - (items.size : Int) = -1 := by omega
    have hit := x.2.1
    rw [e] at hit
    exact next_rt_end hh hit fun h' he' => hQ h' s.toks fun b o hb eo => he' b o (fun h => hb (by simp [h])) eo
  self := fun _ _ _ _ x hQ => iter_rt x.2.1 hQ
theorem collect_rt {it t : Addr} {items : Array Value} {Q : List Value → Shared → Prop} (hh : A.handled = none) (hit : IsRt s.heap it t ((items.size : Int) - 1)) (hl : IsTup s.heap t items) (hne : t ≠ it) (hn : items.size ≤ sizeLine)
    (hQ : ∀ (h' : Heap) (tk : Nat) (acc : Array Value), (∀ b o, b ≠ it → s.heap.get? b = some o → h'.get? b = some o) → ItemsOf (fun i v => items[items.size - 1 - i]? = some v) acc items.size → Q acc.toList { s with heap := h', toks := tk }) :
    wpAny (model prog w) A (collect (.ref it)) Q E s := by
  have W := (Walks.revTup (prog := prog) (w := w) (A := A.in1) hh it t hne items hn).toS
  obtain ⟨oi, hoi, _⟩ := id hit
  obtain ⟨ol, hol, _⟩ := id hl
  have hSi : s.heap.objs.size ≠ it := Nat.ne_of_gt (Heap.lt_size hoi)
  have hSl : s.heap.objs.size ≠ t := Nat.ne_of_gt (Heap.lt_size hol)
  have hSf : s.heap.objs.size ∉ [it, t] := by simp only [List.mem_cons, List.not_mem_nil, or_false, not_or]; exact ⟨hSi, hSl⟩
  unfold collect
  refine wpAny_bind (wpAny_runValue (codeAny_builtin F.entry_proto_collect ?_))
  rw [Around.under_plainId F.plain_proto_collect _]
  show wpAny _ A.in1 (newList [] >>= fun l' => again (.builtin "list.__iadd__" ⟨[l', .ref it], []⟩)) _ _ s
  refine wpAny_bind (wpAny_newObj_type ?_)
  refine wpAny_pure ⟨plainId_quiet F.plain_list_iadd _, codeAny_builtin F.entry_list_iadd ?_⟩
  rw [Around.under_plainId F.plain_list_iadd _]
  have hS₁ : (s.heap.push { cls := .type "list", data := .seq ([] : List Value).toArray }).get? s.heap.objs.size = some { cls := .type "list", data := .seq ([] : List Value).toArray } := Heap.get?_push_size _ rfl
  have hit1 : IsRt (s.heap.push { cls := .type "list", data := .seq ([] : List Value).toArray }) it t ((items.size : Int) - 1) := hit.at fun o e => Heap.get?_push_of_some _ e
  have hl1 : IsTup (s.heap.push { cls := .type "list", data := .seq ([] : List Value).toArray }) t items := tup_at hl fun o e => Heap.get?_push_of_some _ e
  have hT : ({ s with heap := s.heap.push { cls := .type "list", data := .seq ([] : List Value).toArray } } : Shared).TypeIs (.ref it) "reversed" := IsRt.typeIs (s := { s with heap := s.heap.push { cls := .type "list", data := .seq ([] : List Value).toArray } }) hit1
  have h1 : Builtin.List.listSameRef (.ref s.heap.objs.size) (.ref it) = false := by simp [Builtin.List.listSameRef, hSi]
  show wpAny _ A.in1 (Builtin.List.listExtendWith (.ref s.heap.objs.size) (.ref it) (.ref s.heap.objs.size)) _ _ _
  unfold Builtin.List.listExtendWith
  refine wpAny_bind (wpAny_typeOf hT ?_)
  rw [if_neg (by rw [h1]; decide)]
  refine wpAny_bind (iter_rt (s := { s with heap := s.heap.push { cls := .type "list", data := .seq ([] : List Value).toArray } }) hit1 ?_)
  refine wpAny_bind (wpAny_holding ?_)
  refine hint_ok (s := { s with heap := s.heap.push { cls := .type "list", data := .seq ([] : List Value).toArray } }) hit1 hl1 hn fun tk htk => ?_
  have e0 : ((items.size : Nat) : Int) - 1 - ((0 : Nat) : Int) = (items.size : Int) - 1 := by omega
  by_cases q : items.size ≠ 0
  · rw [decide_eq_true q]
    show wpAny _ A.in1 (rule "list.extend.makes-room" >>= fun _ => Builtin.List.listTouch (.ref s.heap.objs.size) >>= fun _ =>
      again (.builtin "list.extend.loop" ⟨[.ref s.heap.objs.size, .ref it, .ref s.heap.objs.size], []⟩)) _ _ _
    refine wpAny_bind (wpAny_rule ?_)
    refine wpAny_bind ?_
    show wpAny _ A.in1 (updateSeq s.heap.objs.size (·.push .none) >>= fun _ => updateSeq s.heap.objs.size (·.pop)) _ _ _
    refine wpAny_bind (wpAny_updateSeq (s := { s with heap := s.heap.push { cls := .type "list", data := .seq ([] : List Value).toArray }, toks := tk }) hS₁ rfl ?_)
    have hS₂ := Heap.get?_update_self (Obj.mapSeq (·.push Value.none)) hS₁ rfl
    refine wpAny_updateSeq hS₂ rfl ?_
    have hS₃ := Heap.get?_update_self (Obj.mapSeq (·.pop)) hS₂ rfl
    have oth : ∀ b o, b ≠ s.heap.objs.size → (s.heap.push { cls := .type "list", data := .seq ([] : List Value).toArray }).get? b = some o →
        (((s.heap.push { cls := .type "list", data := .seq ([] : List Value).toArray }).update s.heap.objs.size (Obj.mapSeq (·.push Value.none))).update s.heap.objs.size (Obj.mapSeq (·.pop))).get? b = some o :=
      fun b o hb e => (Heap.get?_update_other _ _ (Ne.symm hb)).trans ((Heap.get?_update_other _ _ (Ne.symm hb)).trans e)
    refine wpAny_pure ⟨plainId_quiet F.plain_extend_loop _, codeAny_extend_loopS W hn _ hSf _ items.size 0 _ _ _ rfl (Nat.zero_le _) ⟨Nat.zero_le _, by rw [e0]; exact hit1.at fun o e => oth it o (Ne.symm hSi) e, tup_at hl1 fun o e => oth t o (Ne.symm hSl) e⟩ hS₃ (ItemsOf.nil _) fun s' acc' c' hm hS' hacc => ?_⟩
    show wpAny _ A (load s.heap.objs.size >>= _) _ _ s'
    refine wpAny_bind (wpAny_load hS' ?_)
    refine wpAny_pure ?_
    rw [Moved.eq_with hm]
    refine hQ s'.heap s'.toks acc' (fun b o hb e => hm.heap b o (fun hmem => ?_) (oth b o (Nat.ne_of_lt (Heap.lt_size e)) (Heap.get?_push_of_some _ e))) hacc
    rcases List.mem_cons.mp hmem with e' | hmem
    · exact absurd (Heap.lt_size e) (by rw [e']; exact Nat.lt_irrefl _)
    · exact hb (List.mem_singleton.mp hmem)
  · rw [decide_eq_false q]
    show wpAny _ A.in1 (again (.builtin "list.extend.loop" ⟨[.ref s.heap.objs.size, .ref it, .ref s.heap.objs.size], []⟩)) _ _ _
    refine wpAny_pure ⟨plainId_quiet F.plain_extend_loop _, codeAny_extend_loopS W hn _ hSf _ items.size 0 _ _ _ rfl (Nat.zero_le _) ⟨Nat.zero_le _, by rw [e0]; exact hit1, hl1⟩ hS₁ (ItemsOf.nil _) fun s' acc' c' hm hS' hacc => ?_⟩
    show wpAny _ A (load s.heap.objs.size >>= _) _ _ s'
    refine wpAny_bind (wpAny_load hS' ?_)
    refine wpAny_pure ?_
    rw [Moved.eq_with hm]
    refine hQ s'.heap s'.toks acc' (fun b o hb e => hm.heap b o (fun hmem => ?_) (Heap.get?_push_of_some _ e)) hacc
    rcases List.mem_cons.mp hmem with e' | hmem
    · exact absurd (Heap.lt_size e) (by rw [e']; exact Nat.lt_irrefl _)
    · exact hb (List.mem_singleton.mp hmem)
theorem code_tuple_new_rt {it t : Addr} {items : Array Value} {Q₁ : Value → Shared → Prop} (hh : A.handled = none) (hit : IsRt s.heap it t ((items.size : Int) - 1)) (hl : IsTup s.heap t items) (hne : t ≠ it) (hn : items.size ≤ sizeLine)
    (h : ∀ (h' : Heap) (tk : Nat) (acc : Array Value), (∀ b o, b ≠ it → s.heap.get? b = some o → h'.get? b = some o) → ItemsOf (fun i v => items[items.size - 1 - i]? = some v) acc items.size →
      Q₁ (.ref h'.objs.size) { s with heap := h'.push { cls := .type "tuple", data := .seq acc }, toks := tk }) :
    codeAny (model prog w) A (.call (.builtin "tuple.__new__") ⟨[.type "tuple", .ref it], []⟩) (wants Q₁ E) s := by
  refine codeAny_of_tree ?_
  show wpAny _ A.in1 (do checkBuiltinCall "tuple.__new__" ⟨[.type "tuple", .ref it], []⟩; again (.builtin "tuple.__new__" ⟨[.type "tuple", .ref it], []⟩)) _ _ s
  refine wpAny_bind (wpAny_of_eq (F.newCall_tuple_1 _) (wpAny_pure ⟨plainId_quiet F.plain_tuple_new _, codeAny_builtin F.entry_tuple_new ?_⟩))
  rw [Around.under_plainId F.plain_tuple_new _]
  have hsub := sub_tuple_self
  have hinit := init_tuple_lookup
  have hmh := madeHere_tuple
  have hTI : s.TypeIs (.ref it) "reversed" := hit.typeIs
  have hh1 : A.in1.handled = none := hh
  wp_walk using wpAny_typeOf hTI, collect_rt (A := A.in1) hh1 hit hl hne hn
  intro h' tk acc hk hacc
  show wpAny _ _ (Builtin.Tuple.tupleExact acc.toList.toArray >>= fun v => ret v) _ _ _
  unfold Builtin.Tuple.tupleExact
  refine wpAny_bind (wpAny_newObj_type ?_ (by show acc.toList.toArray.size ≤ sizeLine; simp only [Array.toArray_toList]; rw [hacc.1]; exact hn))
  refine wpAny_pure ?_
  have e : acc.toList.toArray = acc := by simp
  rw [e]
  exact h h' tk acc hk hacc
theorem call_tuple_rt {it t : Addr} {items : Array Value} {Q : Value → Shared → Prop} (hh : A.handled = none) (hit : IsRt s.heap it t ((items.size : Int) - 1)) (hl : IsTup s.heap t items) (hne : t ≠ it) (hn : items.size ≤ sizeLine)
    (hQ : ∀ (h' : Heap) (tk : Nat) (acc : Array Value), (∀ b o, b ≠ it → s.heap.get? b = some o → h'.get? b = some o) → ItemsOf (fun i v => items[items.size - 1 - i]? = some v) acc items.size →
      Q (.ref h'.objs.size) { s with heap := h'.push { cls := .type "tuple", data := .seq acc }, toks := tk }) :
    wpAny (model prog w) A (call (.type "tuple") [.ref it]) Q E s := by
  refine callType_codes (Q₁ := fun obj s₁ => s₁.TypeIs obj "tuple" ∧ Q obj s₁) F.called_tuple (F.typeCall_tuple_1 _) F.entry_object_init
    (code_tuple_new_rt (A := A.in1) hh hit hl hne hn fun h' tk acc hk hacc => ⟨⟨_, Heap.get?_push_size _ rfl, rfl⟩, hQ h' tk acc hk hacc⟩) fun obj s₁ h₁ => ?_
  exact ⟨h₁.1, F.args_object_init_2 obj _, object_init_meets F.called_tuple.init.lookup F.called_tuple.made (by decide) prog w A.in1 _ s₁ ⟨h₁.1, rfl, h₁.2⟩⟩
end
/-- tuple(reversed(x)), x a list or a tuple -/
def tTupRevA (K : PySem.W.Frag) (te : TE) : TE := fun σ H Q => te σ H fun v H1 => ∃ (a : Addr) (xs : List V), v = .ref a ∧ (SqL K H1 a xs ∨ SqT K H1 a xs) ∧ newT xs.reverse H1 Q
section
variable {X : Cx}
theorem pe_tupRevA {e : Expr} {te : TE} {p p2 pos pos2 : Pos} (hc : X.calm = true) (hg : Gl X "tuple") (hm : X.mg "tuple" = none) (hg2 : Gl X "reversed") (hm2 : X.mg "reversed" = none) (he : PE X e te)
    (hs : starEach [e] X.env = (false, eval e X.env) :: starEach [] X.env := by rfl)
    (hs2 : starEach [.Call (.Name "reversed" p2) [e] [] pos2] X.env = (false, eval (.Call (.Name "reversed" p2) [e] [] pos2) X.env) :: starEach [] X.env := by rfl) :
    PE X (.Call (.Name "tuple" p) [.Call (.Name "reversed" p2) [e] [] pos2] [] pos) (tTupRevA X.K te) := by
  refine ⟨fun pins s σ H Q I h => ?_⟩
  refine Call_ (ld_blt I hg hm boot_tuple (PyProof.Rows.callWith_type1 (args_cons (Call_ (ld_blt I hg2 hm2 PyProof.Rows.boot_reversed (PyProof.Rows.callWith_type1 (args_cons (thn (he.run pins s σ H _ I h) fun u s1 ⟨v, H1, I1, r1, q1⟩ => args_nil ?_) hs) hs rfl))) hs2) hs2 rfl))
  obtain ⟨a, xs, ev, hq, q⟩ := q1
  subst ev
  obtain rfl : u = Value.ref a := r1
  rcases hq with hq | hq
  · obtain ⟨its, rv, p', hz⟩ := I1.list hq
    refine call_reversed_list p'.isList (args_nil ?_)
    have k0 : ∀ b o, s1.heap.get? b = some o → (s1.heap.push (revObj a ((its.toArray.size : Int) - 1))).get? b = some o := fun b o e => Heap.get?_push_of_some _ e
    have I2 : Inv X pins σ H1 { s1 with heap := s1.heap.push (revObj a ((its.toArray.size : Int) - 1)) } := I1.kept (t' := s1.toks) k0
    obtain ⟨f0, f1, f2, f3, f4, f5⟩ := I1.fpOk (H' := H1) (b := s1.heap.objs.size) (Nat.le_refl _) (I1.hok.fresh (Nat.le_refl _))
    have hl := p'.isList
    obtain ⟨ol, hol, _⟩ := id hl
    have hne : a ≠ s1.heap.objs.size := Nat.ne_of_lt (Heap.lt_size hol)
    have hn : its.toArray.size ≤ sizeLine := by rw [List.size_toArray, ← rv.length]; exact hz
    refine call_tuple_rev (s := { s1 with heap := s1.heap.push (revObj a ((its.toArray.size : Int) - 1)) }) (I1.ok.hd hc) ⟨_, Heap.get?_push_size _ rfl, rfl, rfl⟩ (hl.push _) hne hn fun h' tk acc hk hi => ?_
    have I3 : Inv X pins σ H1 { s1 with heap := h', toks := tk } := I2.turned (t' := tk) (fun b o hb e => hk b o hb e) f0 f1 f3 f4 f5
    have z := layT (s := s1) (h := h') (tk := tk) (us := xs.reverse) (its := acc.toList) (Q := Q) I3 (by rw [List.length_reverse]; exact hz) (vals_rev rv hi) q
    rw [Array.toArray_toList] at z
    exact z
  · obtain ⟨its, rv, p', hz⟩ := I1.tuple hq
    have hn : its.toArray.size ≤ sizeLine := by rw [List.size_toArray, ← rv.length]; exact hz
    have hn63 : (its.toArray.size : Int) < 2 ^ 63 := by have := hn; rw [sizeLine_eq] at this; omega
    refine call_reversed_tup p' (fun A E Q k => len_tuple p' hn63 k) (args_nil ?_)
    have k0 : ∀ b o, s1.heap.get? b = some o → (s1.heap.push (rtObj a ((its.toArray.size : Int) - 1))).get? b = some o := fun b o e => Heap.get?_push_of_some _ e
    have I2 : Inv X pins σ H1 { s1 with heap := s1.heap.push (rtObj a ((its.toArray.size : Int) - 1)), toks := s1.toks + 1 + 1 } := I1.kept (t' := s1.toks + 1 + 1) k0
    obtain ⟨f0, f1, f2, f3, f4, f5⟩ := I1.fpOk (H' := H1) (b := s1.heap.objs.size) (Nat.le_refl _) (I1.hok.fresh (Nat.le_refl _))
    obtain ⟨ol, hol, _⟩ := id p'
    have hne : a ≠ s1.heap.objs.size := Nat.ne_of_lt (Heap.lt_size hol)
    refine call_tuple_rt (s := { s1 with heap := s1.heap.push (rtObj a ((its.toArray.size : Int) - 1)), toks := s1.toks + 1 + 1 }) (I1.ok.hd hc) ⟨_, Heap.get?_push_size _ rfl, rfl, rfl⟩ (tup_at p' fun o e => Heap.get?_push_of_some _ e) hne hn fun h' tk acc hk hi => ?_
    have I3 : Inv X pins σ H1 { s1 with heap := h', toks := tk } := I2.turned (t' := tk) (fun b o hb e => hk b o hb e) f0 f1 f3 f4 f5
    have z := layT (s := s1) (h := h') (tk := tk) (us := xs.reverse) (its := acc.toList) (Q := Q) I3 (by rw [List.length_reverse]; exact hz) (vals_rev rv hi) q
    rw [Array.toArray_toList] at z
    exact z
end
end RT
namespace L2
open PySem PySem.Spec PyProof.Rows
section
variable {X : Cx}
/-- how many ints, each once -/
def distI (ns : List Int) : Nat := (firstMet (fun i => ns.getD i 0) ns.length).length
def tLenSetA (K : PySem.W.Frag) (ta : TE) : TE := fun σ H Q => ta σ H fun x H1 => ∃ (l : Addr) (ns : List Int), x = V.ref l ∧ SqL K H1 l (ns.map V.int) ∧ ns.length < 64 ∧ Q (.int (distI ns)) H1
theorem pe_lenSetA {a : Expr} {ta : TE} {p p2 q pos : Pos} (hc : X.calm = true) (hg : Gl X "len") (hm : X.mg "len" = none) (hg2 : Gl X "set") (hm2 : X.mg "set" = none) (ha : PE X a ta)
    (na : starEach [a] X.env = (false, eval a X.env) :: starEach [] X.env := by rfl) : PE X (.Call (.Name "len" p) [.Call (.Name "set" p2) [a] [] q] [] pos) (tLenSetA X.K ta) := by
  refine ⟨fun pins s σ H Q I h => ?_⟩
  refine Call_ (ld_blt I hg hm PySem.boot_len ?_)
  refine PyProof.Rows.callWith_builtin1 (PyProof.Rows.args_cons ?_ rfl) rfl rfl
  refine Call_ (ld_blt I hg2 hm2 PyProof.Rows.boot_set ?_)
  refine PyProof.Rows.callWith_type1 (PyProof.Rows.args_cons (thn (ha.run pins s σ H _ I h) fun v s1 ⟨x, H1, I1, r1, q1⟩ => PyProof.Rows.args_nil ?_) na) na rfl
  obtain ⟨l, ns, rfl, hq, h1, q1⟩ := q1
  cases r1
  obtain ⟨its, r, pl, hz⟩ := I1.list hq
  have hl : its.toArray.size = ns.length := by rw [List.size_toArray, ← r.length, List.length_map]
  refine call_set_list (I1.ok.hd hc) pl.isList (ns := ns) (by simpa using r.ints) (by unfold scanBound; omega) fun h' tk hS hk => ?_
  rw [hl] at hS
  refine PyProof.Rows.args_nil ?_
  obtain ⟨o, es, ep, t, ho, hex, hd, _, _, hsc, hf, hn⟩ := hS
  have I2 : Inv X pins σ H1 { s1 with heap := h', toks := tk } := I1.kept fun b o e => hk b o (Heap.lt_size e) e
  refine call_len_set ho hex hd hf ?_ ⟨.int (distI ns), H1, I2.tok _, ⟨_, by rw [hn]; rfl⟩, q1⟩
  unfold scanBound at hsc
  omega
end
end L2
/-! New tuples, told with their objects: dict(x) of a tuple of pairs. -/
namespace L2
open PySem PySem.Spec PyProof.Rows
section
variable {X : Cx} {pins : List (Addr × Obj)} {σ : St} {H : Hp} {s : Shared} {h : Heap} {tk : Nat}
/-- a display -/
def tTupD (t : TA) : TE := fun σ H Q => t σ H fun xs H1 => xs.length ≤ sizeLine ∧ newT xs H1 Q
theorem pe_tupD {es : List Expr} {t : TA} {pos : Pos} {x1} (a : PA X es t) : PE X (.Tuple es x1 pos) (tTupD t) :=
  ⟨fun pins s σ H Q I hq => wpAny_Tuple_spliced (thn (a.run pos pins s σ H _ I hq) fun us s1 ⟨xs, H1, I1, r, z, q⟩ =>
    ⟨by rw [← r.length]; exact z, layT (s := s1) (h := s1.heap) (tk := s1.toks) I1 z r q⟩)⟩
/-- t + u -/
def rCatD (K : PySem.W.Frag) : R2 := fun x y H Q => ∃ a b xs ys, x = .ref a ∧ y = .ref b ∧ SqT K H a xs ∧ SqT K H b ys ∧ xs.length + ys.length ≤ sizeLine ∧
  (xs = [] → Q (.ref b) H) ∧ (xs ≠ [] → ys = [] → Q (.ref a) H) ∧ (xs ≠ [] → ys ≠ [] → newT (xs ++ ys) H Q)
theorem op_catD : OpR X (binaryOp .Add) (rCatD X.K) := by
  intro pins s σ H x y v u Q I rx ry w
  obtain ⟨a, b, xs, ys, ea, eb, ha, hb, hz, q0, q1, q2⟩ := w
  subst ea eb
  by_cases hx : xs = []
  · exact op_catA pins s σ H _ _ v u Q I rx ry ⟨a, b, xs, ys, rfl, rfl, ha, hb, hz, q0, q1, fun n => absurd hx n⟩
  · cases rx
    cases ry
    obtain ⟨i1, r1, p1, _⟩ := I.tuple ha
    obtain ⟨i2, r2, p2, _⟩ := I.tuple hb
    exact HT.cat_tup p1 p2 (fun n => hx (r1.nil_iff.mp n)) (fun n => ⟨.ref a, H, I, rfl, q1 hx (r2.nil_iff.mp n)⟩)
      (fun n => layT (s := s) (h := s.heap) (tk := s.toks) I (by rw [List.length_append]; exact hz) (r1.append r2) (q2 hx fun n' => n (r2.nil_iff.mpr n')))
      (by rw [← r1.length, ← r2.length]; exact hz)
/-- t[lo:hi] -/
def rSlD (K : PySem.W.Frag) : V → Option Int → Option Int → Hp → VK → Prop := fun x lo hi H Q => ∃ a xs, x = .ref a ∧ SqT K H a xs ∧
  (HT.sIx xs.length 0 lo = 0 ∧ HT.sIx xs.length xs.length hi = xs.length → Q (.ref a) H) ∧ (¬ (HT.sIx xs.length 0 lo = 0 ∧ HT.sIx xs.length xs.length hi = xs.length) → newT (cutV xs lo hi) H Q)
theorem sl_tupD : SlR X (rSlD X.K) := by
  intro pins s σ H x v vl vu lo hi sl Q I rx hs pl pu w
  obtain ⟨a, xs, ea, hx, q1, q2⟩ := w
  subst ea
  by_cases hw : HT.sIx xs.length 0 lo = 0 ∧ HT.sIx xs.length xs.length hi = xs.length
  · exact sl_tupA pins s σ H _ v vl vu lo hi sl Q I rx hs pl pu ⟨a, xs, rfl, hx, q1, fun n => absurd hw n⟩
  · cases rx
    obtain ⟨its, r, ht, hz⟩ := I.tuple hx
    have hl : its.toArray.size = xs.length := r.length.symm
    refine ⟨"tuple", _, PyProof.Rows.slot_tuple_getitem.lookup, ht.typeIs, HT.getItem_tuple_cut ht hs pl pu (hl ▸ hw) ?_ (hl ▸ hz)⟩
    rw [hl]
    exact layT (s := s) (h := s.heap) (tk := s.toks) I (Nat.le_trans (cutV_length xs lo hi) hz) ((r.drop _).take _) (q2 hw)
/-- tuple(x), x a list or a tuple -/
theorem call_tupD : CallR X (.type "tuple") (fun xs H Q => ∃ p ys, xs = [.ref p] ∧ ((SqL X.K H p ys ∧ newT ys H Q) ∨ (SqT X.K H p ys ∧ Q (.ref p) H))) := by
  intro pins s σ H xs us Q I r w
  obtain ⟨p, ys, ex, w⟩ := w
  subst ex
  obtain ⟨u, eu, rx⟩ := vals1 r
  subst eu
  cases rx
  rcases w with ⟨hq, q⟩ | ⟨hq, q⟩
  · obtain ⟨its, rv, pl, hz⟩ := I.list hq
    exact call_tuple_list pl.isList (fun h' kp => layT (s := s) (h := h') (tk := s.toks) (I.kept (t' := s.toks) kp) hz rv q) (by rw [List.size_toArray, ← rv.length]; exact hz)
  · obtain ⟨its, rv, pl, hz⟩ := I.tuple hq
    exact call_tuple_same pl ⟨.ref p, H, I, rfl, q⟩
/-- tuple(range(..)) -/
def tTupRgD (te : St → Hp → (Int → Int → Hp → Prop) → Prop) : TE := fun σ H Q => te σ H fun a b H1 => RgOk a b ∧ newT (rgV a b) H1 Q
theorem pe_tupRgD {e : Expr} {te : St → Hp → (Int → Int → Hp → Prop) → Prop} {p pos : Pos} (hc : X.calm = true) (hg : Gl X "tuple") (hm : X.mg "tuple" = none) (he : PRg X e te)
    (na : starEach [e] X.env = (false, eval e X.env) :: starEach [] X.env := by rfl) : PE X (.Call (.Name "tuple" p) [e] [] pos) (tTupRgD te) := by
  refine ⟨fun pins s σ H Q I w => Call_ (ld_blt I hg hm boot_tuple (PyProof.Rows.callWith_type1 (args_cons (thn (he pins s σ H _ I w) fun x s1 y => args_nil ?_) na) na))⟩
  obtain ⟨r, a, b, t, u, v, H1, ex, hr, I1, ok, q⟩ := y
  subst ex
  obtain ⟨b1, b2, b3, b4, b5⟩ := ok
  refine call_tuple_range (n := (b - a).toNat) (I1.ok.hd hc) hr (small_one b1 b2 b3 b4) (rangeSize_nat a b) b5 fun h' tk acc hk hi => ?_
  have z := layT (s := s1) (h := h') (tk := tk) (us := rgV a b) (its := acc.toList) (Q := Q) (I1.kept hk) (by rw [rgV_length, sizeLine_eq]; omega) (vals_rg hi) q
  rw [Array.toArray_toList] at z
  exact z
def tTupRg3D (te : L2.St → Hp → (Int → Int → Int → Nat → Hp → Prop) → Prop) : TE := fun σ H Q => te σ H fun a b c n H1 => n ≤ 2 ^ 24 ∧ newT (Eng.rgV3 a c n) H1 Q
theorem pe_tupRg3D {e : Expr} {te : L2.St → Hp → (Int → Int → Int → Nat → Hp → Prop) → Prop} {p pos : Pos} (hc : X.calm = true) (hg : Gl X "tuple") (hm : X.mg "tuple" = none) (he : Eng.PRg3 X e te)
    (na : starEach [e] X.env = (false, eval e X.env) :: starEach [] X.env := by rfl) : PE X (.Call (.Name "tuple" p) [e] [] pos) (tTupRg3D te) := by
  refine ⟨fun pins s σ H Q I w => Call_ (ld_blt I hg hm boot_tuple (PyProof.Rows.callWith_type1 (args_cons (thn (he pins s σ H _ I w) fun x s1 y => args_nil ?_) na) na))⟩
  obtain ⟨r, a, b, c, n, t, u, v, H1, ex, hr, I1, rc, ok, q⟩ := y
  subst ex
  refine call_tuple_range (n := n) (I1.ok.hd hc) hr rc.2.2.1 rc.2.2.2 ok fun h' tk acc hk hi => ?_
  have z := layT (s := s1) (h := h') (tk := tk) (us := Eng.rgV3 a c n) (its := acc.toList) (Q := Q) (I1.kept hk) (by rw [Eng.rgV3_length, sizeLine_eq]; omega) (Eng.vals_rg3 hi) q
  rw [Array.toArray_toList] at z
  exact z
/-! ### dict(x), x a tuple of pairs -/
/-- a tuple that is known with its object -/
def TupO (H : Hp) (a : Addr) (us : List V) : Prop := ∃ o : Obj, H a = some (.frz o (.tup us)) ∧ o.dict = none
theorem pairs_at {H : Hp} (I : Inv X pins σ H s) : ∀ {us : List V} {its : List Value} {kvs : List (Key × V)}, Vals us its → Paired (fun u kv => ∃ p, u = V.ref p ∧ SqT X.K H p [kV kv.1, kv.2]) us kvs →
    ∃ (prs : List (Value × Value)) (Ts : Nat → Addr) (qs : List (Key × Value)), qs.length = prs.length ∧ KV kvs qs ∧ PairItems s.heap its.toArray Ts prs ∧ ∀ (i : Nat) (k v : Value), prs[i]? = some (k, v) → ∃ q : Key, qs[i]? = some (q, v) ∧ keyIs q k = true := by
  intro us its kvs r p
  induction p generalizing its with
  | nil =>
    cases r
    exact ⟨[], fun _ => 0, [], rfl, .nil, ⟨rfl, fun j k v e => by simp at e⟩, fun i k v e => by simp at e⟩
  | cons hp tp ih =>
    rename_i u kv us' kvs'
    cases r with
    | cons r1 r2 =>
      rename_i x xs
      obtain ⟨prs, Ts, qs, hl, kv', ⟨sz, pi⟩, hk⟩ := ih r2
      obtain ⟨p, eu, ht⟩ := hp
      subst eu
      cases r1
      obtain ⟨i2, r', pl, hz⟩ := I.tuple ht
      cases r' with
      | cons ra rb =>
        cases rb with
        | cons rb rc =>
          cases rc
          rename_i ku vu
          refine ⟨(ku, vu) :: prs, fun j => match j with | 0 => p | j + 1 => Ts j, (kv.1, vu) :: qs, by simp [hl], .cons ⟨rfl, rb⟩ kv', ⟨by simpa using sz, fun j k v e => ?_⟩, fun j k v e => ?_⟩
          · cases j with
            | zero =>
              simp at e
              obtain ⟨rfl, rfl⟩ := e
              exact ⟨by simp, .inl pl⟩
            | succ j =>
              simp at e
              have := pi j k v e
              exact ⟨by simpa using this.1, this.2⟩
          · cases j with
            | zero =>
              simp at e
              obtain ⟨rfl, rfl⟩ := e
              exact ⟨kv.1, by simp, kV_is (P := X.prog) (w := X.w) ra⟩
            | succ j =>
              simp at e
              obtain ⟨q, e1, e2⟩ := hk j k v e
              exact ⟨q, by simpa using e1, e2⟩
/-- a tuple that is known with its object: one of the run's, one of the module's -/
def TupK (K : PySem.W.Frag) (H : Hp) (a : Addr) (us : List V) : Prop := TupO H a us ∨
  ∃ (o : Obj) (its : Array Value) (n : Nat), K.lookup a = some o ∧ o.cls = .type "tuple" ∧ o.dict = none ∧ o.data = .seq its n ∧ its.size ≤ sizeLine ∧ Vals us its.toList
theorem TupK.obj {H : Hp} {a : Addr} {us : List V} (I : Inv X pins σ H s) (t : TupK X.K H a us) : ∃ (o : Obj) (its : List Value) (n : Nat), s.heap.get? a = some o ∧ o.cls = .type "tuple" ∧ o.dict = none ∧ o.data = .seq its.toArray n ∧ us.length ≤ sizeLine ∧ Vals us its := by
  rcases t with ⟨o, ho, hd⟩ | ⟨o, its, n, hk, hc, hd, hs, hz, r⟩
  · obtain ⟨he, hz, its, rv, o', ho', hcl, n, hdat⟩ := (show ObjOk X.prog X.w H s.heap a (.frz o (.tup us)) from I.hok a _ ho)
    rw [he] at ho'
    cases ho'
    exact ⟨o, its, n, he, hcl, hd, hdat, hz, rv⟩
  · refine ⟨o, its.toList, n, I.kIn a o hk, hc, hd, by simpa using hs, ?_, r⟩
    rw [r.length]
    simpa using hz
theorem call_dictT (hcalm : X.calm = true) : CallR X (.type "dict") (fun xs H Q => ∃ (a : Addr) (us : List V) (kvs : List (Key × V)), xs = [.ref a] ∧ TupK X.K H a us ∧ Paired (fun u kv => ∃ p, u = V.ref p ∧ SqT X.K H p [kV kv.1, kv.2]) us kvs ∧
    ∀ p, H p = none → Q (.ref p) (upd H p (.dK (mergeK [] kvs)))) := by
  intro pins s σ H xs us Q I r w
  obtain ⟨a, vs, kvs, ex, ht, hp, q⟩ := w
  subst ex
  obtain ⟨u, eu, rx⟩ := vals1 r
  subst eu
  cases rx
  obtain ⟨o, its, n, he, hcl, hd, hdat, hz, rv⟩ := ht.obj I
  obtain ⟨prs, Ts, qs, hl, rel, pi, hk⟩ := pairs_at I rv hp
  have lq : prs.length = vs.length := by
    have := pi.1
    rw [List.size_toArray, ← rv.length] at this
    exact this.symm
  refine PySem.call_dict_pairs (knd := mixKind X.prog X.w) (kvs := qs) (PySem.PairArg.tuple a its.toArray Ts prs) (I.ok.hd hcalm) ⟨⟨o, n, he, hcl, hd, hdat⟩, pi⟩ ⟨hl, fun i k v e => hk i k v e⟩ (by rw [lq]; exact hz) fun h' tk hd' k => ?_
  have hm : (s.heap.objs.size == sysModules) = false := beq_eq_false_iff_ne.mpr (Nat.ne_of_gt I.big)
  have lk : (mergeK [] kvs).length ≤ sizeLine := by
    have := length_mergeK kvs []
    have := rel.length
    rw [List.length_nil] at *
    omega
  exact ⟨.ref s.heap.objs.size, upd H s.heap.objs.size (.dK (mergeK [] kvs)), I.laid (t' := tk) (fun b o e => k b o (by simp) e) (Nat.le_refl _) (show ObjOk X.prog X.w _ _ _ (.dK (mergeK [] kvs)) from ⟨lk, hm, merged [] qs, KV.merge rel .nil, hd'⟩), rfl, q _ (I.hok.fresh (Nat.le_refl _))⟩
end
end L2
/-! The evaluator: values, objects, draws, expressions, statements. -/
namespace Eng
open PySem L2

inductive Val where
  | non | bl (b : Bool) | int (i : Int) | str (x : Str)
  | tup (xs : List Val) | tl (xs : List Val)
  | ref (l : Nat) | scr
  /-- a list of numbers at a place, that nobody writes -/
  | sl (a : Nat) (ns : List Int)
  /-- a dict that nobody writes; t: its keys are tuples -/
  | fd (t : Bool) (ks : List (List L2.Key)) (vs : List Val)

inductive Ob where
  | lst (xs : List Val)
  | dct (t : Bool) (ks : List (List L2.Key)) (vs : List Val)
  | tape

/-- the heap: the newest object first; lo: the least place written so far; lk: the places that stand still -/
structure Hs where
  os : List Ob
  n : Nat
  lo : Nat
  lk : List Nat

inductive T (A : Type) where
  | ok (a : A) | no | dr (n : Nat) (k : Nat → T A)

def T.bind {A B : Type} : T A → (A → T B) → T B
  | .ok a, f => f a
  | .no, _ => .no
  | .dr n k, f => .dr n fun i => (k i).bind f

/-- at every draw, an end of which P holds -/
def T.All {A : Type} (P : A → Prop) : T A → Prop
  | .ok a => P a
  | .no => False
  | .dr n k => ∀ i, i < n → (k i).All P

def T.allB {A : Type} (P : A → Bool) : T A → Bool
  | .ok a => P a
  | .no => false
  | .dr n k => (List.range n).all fun i => (k i).allB P

theorem T.all_bind {A B : Type} {P : B → Prop} {f : A → T B} : ∀ {t : T A}, (t.bind f).All P ↔ t.All fun a => (f a).All P
  | .ok a => Iff.rfl
  | .no => Iff.rfl
  | .dr n k => by
    show (∀ i, i < n → ((k i).bind f).All P) ↔ ∀ i, i < n → (k i).All fun a => (f a).All P
    exact ⟨fun h i hi => (T.all_bind (t := k i)).mp (h i hi), fun h i hi => (T.all_bind (t := k i)).mpr (h i hi)⟩
theorem T.all_mono {A : Type} {P Q : A → Prop} (h : ∀ a, P a → Q a) : ∀ {t : T A}, t.All P → t.All Q
  | .ok a, p => h a p
  | .no, p => p
  | .dr n k, p => fun i hi => T.all_mono h (p i hi)
theorem T.all_of_allB {A : Type} {P : A → Bool} : ∀ {t : T A}, t.allB P = true → t.All fun a => P a = true
  | .ok a, h => h
  | .no, h => nomatch h
  | .dr n k, h => fun i hi => T.all_of_allB (List.all_eq_true.mp h i (List.mem_range.mpr hi))

abbrev Env := List (Option Val)

def Hs.get (h : Hs) (l : Nat) : Option Ob := if Nat.blt l h.n then h.os[h.n - 1 - l]? else none
def Hs.new (h : Hs) (o : Ob) : Hs := ⟨o :: h.os, h.n + 1, h.lo, h.lk⟩
def Hs.put (h : Hs) (l : Nat) (o : Ob) : Hs := ⟨h.os.set (h.n - 1 - l) o, h.n, min h.lo l, h.lk⟩
/-- a dict that may be written -/
def Hs.wd (h : Hs) (l : Nat) : Option (Bool × List (List L2.Key) × List Val) := match h.get l with
  | some (.dct t ks vs) => if h.lk.contains l then none else some (t, ks, vs)
  | _ => none
/-- a list that may be written -/
def Hs.wl (h : Hs) (l : Nat) : Option (List Val) := match h.get l with
  | some (.lst xs) => if h.lk.contains l then none else some xs
  | _ => none

inductive Bop | add | sub | mul | fdiv | mod | pow | band | bxor | shl | shr
inductive Cop | eq | ne | lt | le | gt | ge | is | nis | mem | nmem
inductive Ty | bool | int | str | list | tuple | dict
/-- built-ins -/
inductive Bi | len | abs | max2 | min2 | int | bool | sum | maxl | minl | any | all | sorted | tuple | list | dict1
inductive Me | append | pop | popAt | extend | index | remove | insert
/-- what is walked -/
inductive Sk | val | rng | rev
inductive Tg | nm (i : Nat) | tp (ts : List Tg)

inductive E where
  | c (v : Val) | v (i : Nat)
  | bin (op : Bop) (m : Bool) (a b : E) | neg (a : E)
  | cmp (op : Cop) (a b : E) | chn (o1 o2 : Cop) (a b c : E)
  | and (a b : E) | or (a b : E) | not (a : E) | ite (c a b : E)
  | tup (es : List E) | lst (m : Bool) (es : List E)
  | sub (a i : E) | slc (m : Bool) (a : E) (lo hi : Option E)
  | call (f : Nat) (es : List E)
  | bi (b : Bi) (m : Bool) (es : List E)
  | isi (e : E) (t : Ty)
  | me (o : E) (k : Me) (es : List E)
  | mat (t : Bool) (m : Bool) (sk : Sk) (es : List E)
  | lc (m : Bool) (own : List Nat) (tg : Tg) (sk : Sk) (es : List E) (cs : List E) (e : E)
  /-- {} (t: its keys are tuples), d.get(k, x), a dict's comprehension, a dict that is written out -/
  | dnew (t : Bool) | dget (o k x : E)
  /-- len(set(a)), a list of ints -/
  | lset (a : E)
  /-- {k: v, ..}, keys and values in turn -/
  | disp (es : List E)
  | dc (own : List Nat) (tg : Tg) (sk : Sk) (es : List E) (cs : List E) (ke ve : E)
  | lc2 (m : Bool) (own : List Nat) (tg : Tg) (sk : Sk) (es : List E) (cs : List E) (own1 : List Nat) (tg1 : Tg) (sk1 : Sk) (es1 : List E) (cs1 : List E) (e : E)

/-- targets of an assignment -/
inductive At | nm (i : Nat) | tp (ts : List At) | sb (o i : E)
inductive S where
  | ex (e : E) | asg (t : At) (e : E) | aug (i : Nat) (op : Bop) (e : E) | augS (o i : E) (op : Bop) (e : E)
  | ret (e : E) | ite (c : E) (a b : List S) | whl (c : E) (b : List S) | for_ (tg : Tg) (sk : Sk) (es : List E) (b : List S)
  | brk | cnt | pass | never
  | del (o i : E)
inductive Fl | nx | bk | ct | rt (v : Val)

/-! ### values -/
def optAll {A B : Type} (f : A → Option B) : List A → Option (List B)
  | [] => some []
  | x :: xs => match f x with
    | none => none
    | some y => match optAll f xs with
      | none => none
      | some ys => some (y :: ys)

/-- the data that a value is, at most so deep -/
def toD (h : Hs) : Nat → Val → Option PyData
  | 0, _ => none
  | _ + 1, .non => some .none
  | _ + 1, .bl b => some (.bool b)
  | _ + 1, .int i => some (.int i)
  | _ + 1, .str x => if PyData.strOk x then some (.str x) else none
  | n + 1, .tup xs => (optAll (toD h n) xs).map .tuple
  | n + 1, .tl xs => (optAll (toD h n) xs).map .list
  | n + 1, .ref l => match h.get l with
    | some (.lst xs) => (optAll (toD h n) xs).map .list
    | _ => none
  | _ + 1, .scr => none
  | _ + 1, .sl _ _ => none
  | _ + 1, .fd .. => none

def isFlat : Val → Bool
  | .non | .bl _ | .int _ | .str _ => true
  | _ => false
/-- == of two values -/
def veq (h : Hs) (v w : Val) : Option Bool := match v, w with
  | .int i, .int j => some (decide (i = j))
  | .bl a, .bl b => some (decide (a = b))
  | _, _ => match toD h 16 v, toD h 16 w with
    | some d, some e => some (PyData.eqv d e)
    | _, _ => none
def vint : Val → Option Int
  | .int i => some i
  | _ => none
def vbl : Val → Option Bool
  | .bl b => some b
  | _ => none
/-- the items of a list or tuple that is read -/
def items (h : Hs) : Val → Option (List Val)
  | .tup xs | .tl xs => some xs
  | .sl _ ns => some (ns.map .int)
  | .ref l => match h.get l with
    | some (.lst xs) => some xs
    | _ => none
  | _ => none
def itemsL (h : Hs) : Val → Option (List Val)
  | .tl xs => some xs
  | .ref l => match h.get l with
    | some (.lst xs) => some xs
    | _ => none
  | _ => none
/-- .. that nobody else holds still -/
def itemsW (h : Hs) : Val → Option (List Val)
  | .tl xs => some xs
  | .ref l => h.wl l
  | _ => none
def truth (h : Hs) : Val → Option Bool
  | .non => some false
  | .bl b => some b
  | .int i => some (i != 0)
  | .tup xs | .tl xs => some (!xs.isEmpty)
  | .ref l => match h.get l with
    | some (.lst xs) => some (!xs.isEmpty)
    | some (.dct false ks _) => if h.lk.contains l then none else some (!ks.isEmpty)
    | _ => none
  | .fd false ks _ => some (!ks.isEmpty)
  | _ => none

/-! ### dicts -/
def atomK : Val → Option L2.Key
  | .int i => some (.inl i)
  | .str x => some (.inr x)
  | _ => none
/-- the engine's kind: are constants of the module read that are tuples (then no tuple is a key) -/
def kcase : Bool := true
/-- a value as a key: of a plain dict a row of one -/
def keyOf (t : Bool) (v : Val) : Option (List L2.Key) := match t with
  | false => (atomK v).map fun k => [k]
  | true => match v with
    | .tup (x :: xs) => match kcase with
      | false => optAll atomK (x :: xs)
      | true => none
    | _ => none
def kVal : L2.Key → Val
  | .inl i => .int i
  | .inr x => .str x
/-- a key as a value -/
def keyV (t : Bool) (k : List L2.Key) : Val := match t with
  | false => match k with
    | a :: _ => kVal a
    | [] => .int 0
  | true => .tup (k.map kVal)
def dicOf (h : Hs) : Val → Option (Bool × List (List L2.Key) × List Val)
  | .fd t ks vs => some (t, ks, vs)
  | .ref l => match h.get l with
    | some (.dct t ks vs) => some (t, ks, vs)
    | _ => none
  | _ => none
def dGet : List (List L2.Key) → List Val → List L2.Key → Option Val
  | k :: ks, v :: vs, x => if k = x then some v else dGet ks vs x
  | _, _, _ => none
def repK : List (List L2.Key) → List Val → List L2.Key → Val → List Val
  | k :: ks, v :: vs, x, u => (if k = x then u else v) :: repK ks vs x u
  | _, _, _, _ => []
def dPut (ks : List (List L2.Key)) (vs : List Val) (x : List L2.Key) (u : Val) : List (List L2.Key) × List Val :=
  if ks.any fun k => decide (k = x) then (ks, repK ks vs x u) else (ks ++ [x], vs ++ [u])
def dDrop : List (List L2.Key) → List Val → List L2.Key → List (List L2.Key) × List Val
  | k :: ks, v :: vs, x => if k = x then dDrop ks vs x else (k :: (dDrop ks vs x).1, v :: (dDrop ks vs x).2)
  | _, _, _ => ([], [])
def keyI : List L2.Key → Option Int
  | [.inl i] => some i
  | _ => none
/-- a row of pairs (key, value) -/
def pairK : List Val → Option (List (List L2.Key × Val))
  | [] => some []
  | .tup [k, v] :: r => match atomK k, pairK r with
    | some a, some q => some (([a], v) :: q)
    | _, _ => none
  | _ => none
def dFill : List (List L2.Key × Val) → List (List L2.Key) → List Val → List (List L2.Key) × List Val
  | [], ks, vs => (ks, vs)
  | (k, v) :: r, ks, vs => dFill r (dPut ks vs k v).1 (dPut ks vs k v).2
/-- keys and values in turn -/
def prK : List Val → Option (List (List L2.Key × Val))
  | [] => some []
  | k :: v :: r => match atomK k, prK r with
    | some a, some q => some (([a], v) :: q)
    | _, _ => none
  | _ => none
/-- dict(v) -/
def dictV (v : Val) (h : Hs) : T (Val × Hs) := match v with
  | .tup xs => match pairK xs with
    | some ps => .ok (.ref h.n, h.new (.dct false (dFill ps [] []).1 (dFill ps [] []).2))
    | none => .no
  | v => match dicOf h v with
    | some (false, ks, vs) => .ok (.ref h.n, h.new (.dct false ks vs))
    | _ => .no
/-- a dict that is written out, its entries made -/
def dispV (l : Nat) (p : List Val × Hs) : T (Val × Hs) := match p.2.get l with
  | some (.dct false [] []) => match prK p.1 with
    | some ps => if Nat.ble ps.length 15 then .ok (.ref l, p.2.put l (.dct false (dFill ps [] []).1 (dFill ps [] []).2)) else .no
    | none => .no
  | _ => .no
/-- a dict that nobody walks now -/
def freeD (h : Hs) : Val → Bool
  | .fd .. => true
  | .ref l => !h.lk.contains l
  | _ => false
def small (n : Nat) : Bool := Nat.ble n 1048576
def T.of {A : Type} : Option A → T A
  | some a => .ok a
  | none => .no
/-- a new list, as a value or as an object -/
def mkL (m : Bool) (xs : List Val) (h : Hs) : T (Val × Hs) := match m with
  | false => .ok (.tl xs, h)
  | true => .ok (.ref h.n, h.new (.lst xs))

def matV (t m : Bool) (xs : List Val) (h : Hs) : T (Val × Hs) := match t with
  | true => .ok (.tup xs, h)
  | false => mkL m xs h
def bopI (op : Bop) (i j : Int) : Option Int := match op with
  | .add => some (i + j)
  | .sub => some (i - j)
  | .mul => if Nat.blt i.natAbs.log2 400000 && Nat.blt j.natAbs.log2 400000 then some (i * j) else none
  | .fdiv => if decide (0 < j) && Nat.blt j.natAbs.log2 9000 then some (i / j) else if decide (j ≠ 0) && Nat.blt j.natAbs 1073741824 then some (i.fdiv j) else none
  | .mod => if decide (0 < j) then some (i % j) else if decide (j ≠ 0) then some (i.fmod j) else none
  | .pow => if decide (0 ≤ j) && decide (j ≤ 1000) && Nat.blt i.natAbs 18446744073709551616 then some (i ^ j.toNat) else none
  | .band => some (Builtin.bitAnd i j)
  | .bxor => some (Builtin.bitXor i j)
  | .shl => if decide (0 ≤ j) && decide (j ≤ 1000) && Nat.blt i.natAbs 18446744073709551616 then some (i * 2 ^ j.toNat) else none
  | .shr => if decide (0 ≤ j) then some (i / 2 ^ j.toNat) else none
def bopV (op : Bop) (m : Bool) (v w : Val) (h : Hs) : T (Val × Hs) := match v, w with
  | .int i, .int j => (T.of (bopI op i j)).bind fun k => .ok (.int k, h)
  | .tup xs, .tup ys => match op with
    | .add => if small (xs.length + ys.length) then .ok (.tup (xs ++ ys), h) else .no
    | _ => .no
  | .str x, .str y => match op with
    | .add => if small (x.length + y.length) then .ok (.str (x ++ y), h) else .no
    | _ => .no
  | .tup xs, .int k => match op with
    | .mul => if decide (1 ≤ k) && decide (k ≤ 1000) && Nat.ble xs.length 1000 && xs.all isFlat then .ok (.tup (List.replicate k.toNat xs).flatten, h) else .no
    | _ => .no
  | v, .int k => match op with
    | .mul => match itemsW h v with
      | some xs => if decide (0 ≤ k) && decide (k ≤ 100000) && small (xs.length * k.toNat) then mkL m (List.replicate k.toNat xs).flatten h else .no
      | none => .no
    | _ => .no
  | v, w => match op with
    | .add => match itemsW h v, itemsW h w with
      | some xs, some ys => if small (xs.length + ys.length) then mkL m (xs ++ ys) h else .no
      | _, _ => .no
    | _ => .no

def toV : Val → Option V
  | .non => some .non
  | .bl b => some (.bl b)
  | .int i => some (.int i)
  | .str x => some (.str x)
  | _ => none
/-- v in w -/
def memS (h : Hs) (v w : Val) : Option Bool := match w with
  | .tup xs => match toV v, optAll toV xs with
    | some a, some us => some (inV a us)
    | _, _ => none
  | w => match itemsL h w, toD h 16 v with
    | some xs, some d => match optAll (toD h 15) xs with
      | some ds => some (ds.any fun z => PyData.eqv z d)
      | none => none
    | _, _ => none
def memV (h : Hs) (v w : Val) : Option Bool := match dicOf h w with
  | some (t, ks, vs) => match keyOf t v with
    | some k => some (dGet ks vs k).isSome
    | none => none
  | none => memS h v w
def copI (op : Cop) (i j : Int) : Option Bool := match op with
  | .eq => some (decide (i = j))
  | .ne => some (!decide (i = j))
  | .lt => some (decide (i < j))
  | .le => some (decide (i ≤ j))
  | .gt => some (decide (j < i))
  | .ge => some (decide (j ≤ i))
  | _ => none
def copV (op : Cop) (v w : Val) (h : Hs) : Option Bool := match v, w with
  | .int i, .int j => copI op i j
  | v, w => match op with
    | .eq => veq h v w
    | .ne => (veq h v w).map (!·)
    | .is => match v, w with
      | .bl a, .bl b => some (decide (a = b))
      | .non, .non => some true
      | .ref _, .non | .tup _, .non | .tl _, .non | .int _, .non | .bl _, .non | .str _, .non => some false
      | _, _ => none
    | .nis => match v, w with
      | .bl a, .bl b => some (!decide (a = b))
      | .non, .non => some false
      | .ref _, .non | .tup _, .non | .tl _, .non | .int _, .non | .bl _, .non | .str _, .non => some true
      | _, _ => none
    | .mem => memV h v w
    | .nmem => (memV h v w).map (!·)
    | _ => none

def tyOf (h : Hs) : Val → Option Ty
  | .non => none
  | .bl _ => some .bool
  | .int _ => some .int
  | .str _ => some .str
  | .tup _ => some .tuple
  | .tl _ => some .list
  | .ref l => match h.get l with
    | some (.lst _) => some .list
    | _ => none
  | .scr => some .list
  | .sl _ _ => some .list
  | .fd .. => some .dict
/-- isinstance(v, T) -/
def isiV (h : Hs) (v : Val) (t : Ty) : Option Bool := match v with
  | .non => some false
  | v => match tyOf h v with
    | none => none
    | some s => some (match s, t with
      | .bool, .bool | .bool, .int | .int, .int | .str, .str | .list, .list | .tuple, .tuple | .dict, .dict => true
      | _, _ => false)

def ixI (n : Nat) (i : Int) : Option Nat := if decide (0 ≤ i) then (if decide (i < n) then some i.toNat else none) else if decide (-(n : Int) ≤ i) then some (i + n).toNat else none
def subV (v : Val) (i : Val) (h : Hs) : Option Val := match dicOf h v with
  | some (t, ks, vs) => match keyOf t i with
    | some k => dGet ks vs k
    | none => none
  | none => match i with
    | .int k => match items h v with
      | some xs => match ixI xs.length k with
        | some j => xs[j]?
        | none => none
      | none => none
    | _ => none
def slX (n d : Nat) : Option Int → Nat
  | none => d
  | some v => if decide (v < 0) then (v + n).toNat else min v.toNat n
def cutL {A : Type} (xs : List A) (lo hi : Option Int) : List A := (xs.drop (slX xs.length 0 lo)).take (slX xs.length xs.length hi - slX xs.length 0 lo)
def slcV (m : Bool) (v : Val) (lo hi : Option Int) (h : Hs) : T (Val × Hs) := match v with
  | .tup xs => .ok (.tup (cutL xs lo hi), h)
  | v => match itemsL h v with
    | some xs => mkL m (cutL xs lo hi) h
    | none => .no

def insI (x : Int) : List Int → List Int
  | [] => [x]
  | y :: ys => if decide (x ≤ y) then x :: y :: ys else y :: insI x ys
def sortI : List Int → List Int
  | [] => []
  | x :: xs => insI x (sortI xs)
/-! tuples of small numbers, by their codes -/
def tupI : Val → Option (List Int)
  | .tup xs => optAll vint xs
  | _ => none
def codeT : List Int → Int
  | [] => 0
  | d :: r => d * 1048576 ^ r.length + codeT r
def bdT (d : Nat) (ns : List Int) : Bool := ns.length == d && ns.all fun m => decide (0 ≤ m) && decide (m < 1048576)
def insT (x : List Int) : List (List Int) → List (List Int)
  | [] => [x]
  | y :: ys => if decide (codeT x ≤ codeT y) then x :: y :: ys else y :: insT x ys
def sortT : List (List Int) → List (List Int)
  | [] => []
  | x :: xs => insT x (sortT xs)
def sortedV (m : Bool) (xs : List Val) (h : Hs) : T (Val × Hs) := match optAll vint xs with
  | some ns => mkL m ((sortI ns).map .int) h
  | none => match optAll tupI xs with
    | some (n :: nss) => if Nat.blt xs.length 64 && decide (1 ≤ n.length) && (n :: nss).all (bdT n.length) then mkL m ((sortT (n :: nss)).map fun ns => .tup (ns.map .int)) h else .no
    | _ => .no
def maxI : Int → List Int → Int
  | m, [] => m
  | m, x :: xs => maxI (if decide (m < x) then x else m) xs
def minI : Int → List Int → Int
  | m, [] => m
  | m, x :: xs => minI (if decide (x < m) then x else m) xs
def biV (b : Bi) (m : Bool) (vs : List Val) (h : Hs) : T (Val × Hs) := match b, vs with
  | .len, [v] => match items h v with
    | some xs => .ok (.int xs.length, h)
    | none => match dicOf h v with
      | some (_, ks, _) => if freeD h v then .ok (.int ks.length, h) else .no
      | none => .no
  | .abs, [.int i] => .ok (.int (if decide (i < 0) then -i else i), h)
  | .max2, [.int i, .int j] => .ok (.int (if decide (j > i) then j else i), h)
  | .min2, [.int i, .int j] => .ok (.int (if decide (j < i) then j else i), h)
  | .int, [.int i] => .ok (.int i, h)
  | .int, [.bl k] => .ok (.int (if k then 1 else 0), h)
  | .bool, [.int i] => .ok (.bl (i != 0), h)
  | .bool, [.bl k] => .ok (.bl k, h)
  | .sum, [v] => match itemsL h v with
    | some xs => match optAll vint xs with
      | some ns => .ok (.int ns.sum, h)
      | none => .no
    | none => .no
  | .maxl, [v] => match itemsL h v with
    | some xs => match optAll vint xs with
      | some (n :: ns) => .ok (.int (maxI n ns), h)
      | _ => .no
    | none => .no
  | .minl, [v] => match itemsL h v with
    | some xs => match optAll vint xs with
      | some (n :: ns) => .ok (.int (minI n ns), h)
      | _ => .no
    | none => .no
  | .any, [v] => match itemsL h v with
    | some xs => match optAll vbl xs with
      | some bs => .ok (.bl (bs.any id), h)
      | none => .no
    | none => .no
  | .all, [v] => match itemsL h v with
    | some xs => match optAll vbl xs with
      | some bs => .ok (.bl (bs.all id), h)
      | none => .no
    | none => .no
  | .sorted, [v] => match itemsL h v with
    | some xs => sortedV m xs h
    | none => match v with
      | .tup xs => match optAll vint xs with
        | some ns => mkL m ((sortI ns).map .int) h
        | none => .no
      | v => match dicOf h v with
        | some (false, ks, _) => match optAll keyI ks with
          | some ns => if Nat.blt ns.length 64 then mkL m ((sortI ns).map .int) h else .no
          | none => .no
        | _ => .no
  | .dict1, [v] => dictV v h
  | .tuple, [v] => match v with
    | .tup xs => .ok (.tup xs, h)
    | v => match itemsL h v with
      | some xs => .ok (.tup xs, h)
      | none => .no
  | .list, [v] => match v with
    | .scr => .ok (.scr, h)
    | v => match items h v with
      | some xs => mkL m xs h
      | none => match dicOf h v with
        | some (t, ks, _) => if freeD h v then mkL m (ks.map (keyV t)) h else .no
        | none => .no
  | _, _ => .no

def meV (k : Me) (o : Val) (vs : List Val) (h : Hs) : T (Val × Hs) := match o with
  | .ref l => match h.wl l with
    | none => .no
    | some xs => match k, vs with
      | .append, [v] => if small xs.length then .ok (.non, h.put l (.lst (xs ++ [v]))) else .no
      | .pop, [] => match xs[xs.length - 1]? with
        | some y => .ok (y, h.put l (.lst xs.dropLast))
        | none => .no
      | .extend, [w] => match w with
        | .ref b => match h.wl b with
          | some ys => if small (xs.length + ys.length) then .ok (.non, h.put l (.lst (xs ++ ys))) else .no
          | none => .no
        | _ => .no
      | _, _ => .no
  | _ => .no

def idxV (y : V) : List V → Nat → Option Nat
  | [], _ => none
  | x :: xs, n => if eqV x y then some n else idxV y xs (n + 1)
/-- l.index(v), a list of flat things; else as above -/
def meA (k : Me) (o : Val) (vs : List Val) (h : Hs) : T (Val × Hs) := match k with
  | .index => match vs with
    | [v] => match itemsL h o, toV v with
      | some xs, some y => match optAll toV xs with
        | some us => match idxV y us 0 with
          | some n => .ok (.int n, h)
          | none => .no
        | none => .no
      | _, _ => .no
    | _ => .no
  | k => meV k o vs h

/-- o[i] = v -/
def setV (o i v : Val) (h : Hs) : T Hs := match o with
  | .ref l => match h.wd l with
    | some (t, ks, vs) => match keyOf t i with
      | some k => if small ks.length then .ok (h.put l (.dct t (dPut ks vs k v).1 (dPut ks vs k v).2)) else .no
      | none => .no
    | none => match i with
      | .int k => match h.wl l with
        | some xs => match ixI xs.length k with
          | some j => .ok (h.put l (.lst (xs.set j v)))
          | none => .no
        | none => .no
      | _ => .no
  | _ => .no
/-- del d[i] -/
def delV (o i : Val) (h : Hs) : T Hs := match o with
  | .ref l => match h.wd l with
    | some (false, ks, vs) => match keyOf false i with
      | some k => if (dGet ks vs k).isSome then .ok (h.put l (.dct false (dDrop ks vs k).1 (dDrop ks vs k).2)) else .no
      | none => .no
    | _ => .no
  | _ => .no

mutual
def tgS : Tg → Val → Env → Option Env
  | .nm i, v, s => some (s.set i (some v))
  | .tp ts, v, s => match v with
    | .tup xs => tgsS ts xs s
    | _ => none
def tgsS : List Tg → List Val → Env → Option Env
  | [], [], s => some s
  | t :: ts, x :: xs, s => match tgS t x s with
    | some s' => tgsS ts xs s'
    | none => none
  | _, _, _ => none
end

def wipeE (s : Env) : List Nat → Env
  | [] => s
  | v :: vs => (wipeE s vs).set v none

/-- the items of a comprehension -/
def lcL (bd : Val → Option Env) (tst : Env → Hs → T (Bool × Hs)) (elt : Env → Hs → T (Val × Hs)) : List Val → Hs → T (List Val × Hs)
  | [], h => .ok ([], h)
  | x :: xs, h => match bd x with
    | none => .no
    | some s => (tst s h).bind fun r => match r.1 with
      | true => (elt s r.2).bind fun q => (lcL bd tst elt xs q.2).bind fun w => .ok (q.1 :: w.1, w.2)
      | false => lcL bd tst elt xs r.2
/-- the entries of a dict's comprehension -/
def dcL (bd : Val → Option Env) (tst : Env → Hs → T (Bool × Hs)) (ek ev : Env → Hs → T (Val × Hs)) : List Val → List (List L2.Key) → List Val → Hs → T ((List (List L2.Key) × List Val) × Hs)
  | [], ks, vs, h => .ok ((ks, vs), h)
  | x :: xs, ks, vs, h => match bd x with
    | none => .no
    | some s => (tst s h).bind fun r => match r.1 with
      | true => (ek s r.2).bind fun q => (ev s q.2).bind fun w => match keyOf false q.1 with
        | some k => dcL bd tst ek ev xs (dPut ks vs k w.1).1 (dPut ks vs k w.1).2 w.2
        | none => .no
      | false => dcL bd tst ek ev xs ks vs r.2
/-- .. of one with two for -/
def lcL2 (bd : Val → Option Env) (tst : Env → Hs → T (Bool × Hs)) (inn : Env → Hs → T (List Val × Hs)) : List Val → Hs → T (List Val × Hs)
  | [], h => .ok ([], h)
  | x :: xs, h => match bd x with
    | none => .no
    | some s => (tst s h).bind fun r => match r.1 with
      | true => (inn s r.2).bind fun q => (lcL2 bd tst inn xs q.2).bind fun w => .ok (q.1 ++ w.1, w.2)
      | false => lcL2 bd tst inn xs r.2

def rngL (lo : Int) : Nat → List Val
  | 0 => []
  | n + 1 => .int lo :: rngL (lo + 1) n
def rngC (lo c : Int) : Nat → List Val
  | 0 => []
  | n + 1 => .int lo :: rngC (lo + c) c n
def bd62 (i : Int) : Bool := decide (-4611686018427387904 ≤ i) && decide (i < 4611686018427387904)
/-- the turns of a range with a step -/
def rgN (i j c : Int) : Nat := if decide (0 < c) then ((j - i + c - 1) / c).toNat else ((i - j + (-c) - 1) / (-c)).toNat
/-- what is walked: the items; the place that is to stand still, if it is an object that may be written -/
def srcV (sk : Sk) (vs : List Val) (h : Hs) : Option (List Val × Option Nat) := match sk, vs with
  | .val, [v] => match v with
    | .tup xs | .tl xs => some (xs, none)
    | .ref l => match h.get l with
      | some (.lst xs) => some (xs, some l)
      | _ => none
    | _ => none
  | .rev, [v] => match v with
    | .tup xs | .tl xs => some (xs.reverse, none)
    | .ref l => match h.get l with
      | some (.lst xs) => some (xs.reverse, some l)
      | _ => none
    | _ => none
  | .rng, [.int j] => if bd62 j && decide (j ≤ 1000000) then some (rngL 0 j.toNat, none) else none
  | .rng, [.int i, .int j] => if bd62 i && bd62 j && decide (j - i ≤ 1000000) then some (rngL i (j - i).toNat, none) else none
  | .rng, [.int i, .int j, .int c] => if bd62 i && bd62 j && decide (c ≠ 0) && Nat.blt c.natAbs 1000000 && Nat.ble (rgN i j c) 1000000 then some (rngC i c (rgN i j c), none) else none
  | _, _ => none
/-- the heap with a place that stands still -/
def Hs.lock (h : Hs) (l : Nat) : Hs := ⟨h.os, h.n, h.lo, l :: h.lk⟩
def Hs.unlock (h : Hs) (lk : List Nat) : Hs := ⟨h.os, h.n, h.lo, lk⟩

def isVar : List E → Bool
  | [.v _] => true
  | _ => false
section
variable (cf : Nat → List Val → Hs → T (Val × Hs))
mutual
def ev : E → Env → Hs → T (Val × Hs)
  | .c v, _, h => .ok (v, h)
  | .v i, s, h => match s[i]? with
    | some (some v) => .ok (v, h)
    | _ => .no
  | .bin op m a b, s, h => (ev a s h).bind fun p => (ev b s p.2).bind fun q => bopV op m p.1 q.1 q.2
  | .neg a, s, h => (ev a s h).bind fun p => match p.1 with
    | .int i => .ok (.int (-i), p.2)
    | _ => .no
  | .cmp op a b, s, h => (ev a s h).bind fun p => (ev b s p.2).bind fun q => match copV op p.1 q.1 q.2 with
    | some k => .ok (.bl k, q.2)
    | none => .no
  | .chn o1 o2 a b c, s, h => (ev a s h).bind fun p => (ev b s p.2).bind fun q => match copV o1 p.1 q.1 q.2 with
    | some true => (ev c s q.2).bind fun r => match copV o2 q.1 r.1 r.2 with
      | some k => .ok (.bl k, r.2)
      | none => .no
    | some false => .ok (.bl false, q.2)
    | none => .no
  | .and a b, s, h => (ev a s h).bind fun p => match p.1 with
    | .bl true => ev b s p.2
    | .bl false => .ok (.bl false, p.2)
    | _ => .no
  | .or a b, s, h => (ev a s h).bind fun p => match p.1 with
    | .bl true => .ok (.bl true, p.2)
    | .bl false => ev b s p.2
    | _ => .no
  | .not a, s, h => (ev a s h).bind fun p => match p.1 with
    | .bl k => .ok (.bl (!k), p.2)
    | _ => .no
  | .ite c a b, s, h => ((ev c s h).bind fun p => match truth p.2 p.1 with
    | some k => T.ok (k, p.2)
    | none => .no).bind fun p => match p.1 with
    | true => ev a s p.2
    | false => ev b s p.2
  | .tup es, s, h => (evs es s h).bind fun p => if small p.1.length then .ok (.tup p.1, p.2) else .no
  | .lst m es, s, h => (evs es s h).bind fun p => if small p.1.length then mkL m p.1 p.2 else .no
  | .sub a i, s, h => (ev a s h).bind fun p => (ev i s p.2).bind fun q => match subV p.1 q.1 q.2 with
    | some v => .ok (v, q.2)
    | none => .no
  | .slc m a lo hi, s, h => (ev a s h).bind fun p => (evo lo s p.2).bind fun q => (evo hi s q.2).bind fun r => slcV m p.1 q.1 r.1 r.2
  | .call f es, s, h => (evs es s h).bind fun p => cf f p.1 p.2
  | .bi b m es, s, h => (evs es s h).bind fun p => biV b m p.1 p.2
  | .lset a, s, h => (ev a s h).bind fun p => match itemsL p.2 p.1 with
    | some xs => match optAll vint xs with
      | some ns => if Nat.blt ns.length 64 then .ok (.int (distI ns), p.2) else .no
      | none => .no
    | none => .no
  | .isi e t, s, h => (ev e s h).bind fun p => match isiV p.2 p.1 t with
    | some k => .ok (.bl k, p.2)
    | none => .no
  | .me o k es, s, h => (ev o s h).bind fun p => match itemsL p.2 p.1 with
    | some _ => (evs es s p.2).bind fun q => meA k p.1 q.1 q.2
    | none => .no
  | .mat t m sk es, s, h => (evs es s h).bind fun p => match srcV sk p.1 p.2 with
    | some (xs, _) => matV t m xs p.2
    | none => .no
  | .lc m own tg sk es cs e, s, h => (evs es s h).bind fun p => match srcV sk p.1 p.2 with
    | some (xs, none) => if small xs.length then (lcL (fun x => tgS tg x (wipeE s own)) (evt cs) (ev e) xs p.2).bind fun r => mkL m r.1 r.2 else .no
    | some (xs, some l) => match isVar es && small xs.length with
      | true => (lcL (fun x => tgS tg x (wipeE s own)) (evt cs) (ev e) xs (p.2.lock l)).bind fun r => mkL m r.1 (r.2.unlock p.2.lk)
      | false => .no
    | none => .no
  | .dnew t, s, h => .ok (.ref h.n, h.new (.dct t [] []))
  | .disp es, s, h => (evs es s (h.new (.dct false [] []))).bind fun p => dispV h.n p
  | .dget o k x, s, h => (ev o s h).bind fun p => match dicOf p.2 p.1 with
    | some _ => (ev k s p.2).bind fun q => (ev x s q.2).bind fun r => match dicOf r.2 p.1 with
      | some (t, ks, vs) => match keyOf t q.1 with
        | some y => .ok ((dGet ks vs y).getD r.1, r.2)
        | none => .no
      | none => .no
    | none => .no
  | .dc own tg sk es cs ke ve, s, h => (evs es s h).bind fun p => match srcV sk p.1 p.2 with
    | some (xs, none) => if small xs.length then (dcL (fun x => tgS tg x (wipeE s own)) (evt cs) (ev ke) (ev ve) xs [] [] p.2).bind fun r => .ok (.ref r.2.n, r.2.new (.dct false r.1.1 r.1.2)) else .no
    | _ => .no
  | .lc2 m own tg sk es cs own1 tg1 sk1 es1 cs1 e, s, h => (evs es s h).bind fun p => match srcV sk p.1 p.2 with
    | some (xs, none) => (lcL2 (fun x => tgS tg x (wipeE s own)) (evt cs) (fun s1 h1 => (evs es1 s1 h1).bind fun p1 => match srcV sk1 p1.1 p1.2 with
      | some (ys, none) => lcL (fun y => tgS tg1 y (wipeE s1 own1)) (evt cs1) (ev e) ys p1.2
      | _ => .no) xs p.2).bind fun r => if small r.1.length then mkL m r.1 r.2 else .no
    | _ => .no
def evs : List E → Env → Hs → T (List Val × Hs)
  | [], _, h => .ok ([], h)
  | e :: es, s, h => (ev e s h).bind fun p => (evs es s p.2).bind fun q => .ok (p.1 :: q.1, q.2)
def evo : Option E → Env → Hs → T (Option Int × Hs)
  | none, _, h => .ok (none, h)
  | some e, s, h => (ev e s h).bind fun p => match p.1 with
    | .int i => .ok (some i, p.2)
    | _ => .no
/-- a comprehension's tests: at most one -/
def evt : List E → Env → Hs → T (Bool × Hs)
  | [], _, h => .ok (true, h)
  | e :: es, s, h => match es with
    | [] => (ev e s h).bind fun p => match truth p.2 p.1 with
      | some k => .ok (k, p.2)
      | none => .no
    | _ :: _ => .no
end
end
end Eng
namespace Eng
open PySem L2

abbrev Rs := Fl × Env × Hs
def forL (bd : Val → Env → Option Env) (body : Env → Hs → T Rs) : List Val → Env → Hs → T Rs
  | [], s, h => .ok (.nx, s, h)
  | x :: xs, s, h => match bd x s with
    | none => .no
    | some s1 => (body s1 h).bind fun r => match r.1 with
      | .nx => forL bd body xs r.2.1 r.2.2
      | .ct => forL bd body xs r.2.1 r.2.2
      | .bk => .ok (.nx, r.2.1, r.2.2)
      | .rt v => .ok (.rt v, r.2.1, r.2.2)
def whlL (tst : Env → Hs → T (Bool × Hs)) (body : Env → Hs → T Rs) : Nat → Env → Hs → T Rs
  | 0, _, _ => .no
  | n + 1, s, h => (tst s h).bind fun p => match p.1 with
    | true => (body s p.2).bind fun r => match r.1 with
      | .nx => whlL tst body n r.2.1 r.2.2
      | .ct => whlL tst body n r.2.1 r.2.2
      | .bk => .ok (.nx, r.2.1, r.2.2)
      | .rt v => .ok (.rt v, r.2.1, r.2.2)
    | false => .ok (.nx, s, p.2)

section
variable (cf : Nat → List Val → Hs → T (Val × Hs)) (fu : Nat)
def tst (e : E) (s : Env) (h : Hs) : T (Bool × Hs) := (ev cf e s h).bind fun p => match truth p.2 p.1 with
  | some k => .ok (k, p.2)
  | none => .no
mutual
def asg : At → Val → Env → Hs → T (Env × Hs)
  | .nm i, v, s, h => .ok (s.set i (some v), h)
  | .tp ts, v, s, h => match v with
    | .tup xs => if xs.length == ts.length then asgs ts xs s h else .no
    | _ => .no
  | .sb o i, v, s, h => (ev cf o s h).bind fun p => (ev cf i s p.2).bind fun q => (setV p.1 q.1 v q.2).bind fun h' => .ok (s, h')
def asgs : List At → List Val → Env → Hs → T (Env × Hs)
  | [], [], s, h => .ok (s, h)
  | t :: ts, x :: xs, s, h => (asg t x s h).bind fun r => asgs ts xs r.1 r.2
  | _, _, _, _ => .no
end
/-- x op= y, by values -/
def ipV (op : Bop) (v w : Val) (h : Hs) : T (Val × Hs) := match v with
  | .ref l => match op with
    | .add => match h.wl l, (match w with
      | .ref b => h.wl b
      | _ => none) with
      | some xs, some ys => if small (xs.length + ys.length) then .ok (.ref l, h.put l (.lst (xs ++ ys))) else .no
      | _, _ => .no
    | _ => .no
  | .int i => match w with
    | .int j => match op with
      | .add => .ok (.int (i + j), h)
      | .sub => .ok (.int (i - j), h)
      | _ => .no
    | _ => .no
  | .str x => match w with
    | .str y => match op with
      | .add => if small (x.length + y.length) then .ok (.str (x ++ y), h) else .no
      | _ => .no
    | _ => .no
  | _ => .no
mutual
def ex : S → Env → Hs → T Rs
  | .ex e, s, h => (ev cf e s h).bind fun p => .ok (.nx, s, p.2)
  | .asg t e, s, h => (ev cf e s h).bind fun p => (asg cf t p.1 s p.2).bind fun r => .ok (.nx, r.1, r.2)
  | .aug i op e, s, h => match s[i]? with
    | some (some x) => (ev cf e s h).bind fun p => (ipV op x p.1 p.2).bind fun q => .ok (.nx, s.set i (some q.1), q.2)
    | _ => .no
  | .augS o i op e, s, h => (ev cf o s h).bind fun p => (ev cf i s p.2).bind fun q => match subV p.1 q.1 q.2 with
    | some x => (ev cf e s q.2).bind fun r => (ipV op x r.1 r.2).bind fun z => (setV p.1 q.1 z.1 z.2).bind fun h' => .ok (.nx, s, h')
    | none => .no
  | .ret e, s, h => (ev cf e s h).bind fun p => .ok (.rt p.1, s, p.2)
  | .ite c a b, s, h => (tst cf c s h).bind fun p => match p.1 with
    | true => exs a s p.2
    | false => exs b s p.2
  | .whl c b, s, h => whlL (tst cf c) (exs b) fu s h
  | .for_ tg sk es b, s, h => (evs cf es s h).bind fun p => match srcV sk p.1 p.2 with
    | some (xs, none) => forL (tgS tg) (exs b) xs s p.2
    | some (xs, some l) => match isVar es with
      | true => (forL (tgS tg) (exs b) xs s (p.2.lock l)).bind fun r => .ok (r.1, r.2.1, r.2.2.unlock p.2.lk)
      | false => .no
    | none => .no
  | .brk, s, h => .ok (.bk, s, h)
  | .cnt, s, h => .ok (.ct, s, h)
  | .pass, s, h => .ok (.nx, s, h)
  | .never, _, _ => .no
  | .del o i, s, h => (ev cf o s h).bind fun p => (ev cf i s p.2).bind fun q => (delV p.1 q.1 q.2).bind fun h' => .ok (.nx, s, h')
def exs : List S → Env → Hs → T Rs
  | [], s, h => .ok (.nx, s, h)
  | t :: ts, s, h => (ex t s h).bind fun r => match r.1 with
    | .nx => exs ts r.2.1 r.2.2
    | _ => .ok r
end
end

/-- a value behind a call: what was made within becomes a value -/
def fzV (h : Hs) (n : Nat) : Nat → Val → Option Val
  | 0, _ => none
  | k + 1, .tup xs => (optAll (fzV h n k) xs).map .tup
  | k + 1, .tl xs => (optAll (fzV h n k) xs).map .tl
  | k + 1, .ref l => if Nat.blt l n then some (.ref l) else match h.get l with
    | some (.lst xs) => (optAll (fzV h n k) xs).map .tl
    | some (.dct t ks xs) => (optAll (fzV h n k) xs).map (.fd t ks)
    | _ => none
  | _ + 1, .non => some .non
  | _ + 1, .bl b => some (.bl b)
  | _ + 1, .int i => some (.int i)
  | _ + 1, .str x => some (.str x)
  | _ + 1, .scr => some .scr
  | _ + 1, .sl a ns => some (.sl a ns)
  | k + 1, .fd t ks vs => (optAll (fzV h n k) vs).map (.fd t ks)

inductive Fn where
  /-- parameters (the last one takes the rest, if va), names in all, the body; fz: what it makes and hands back is never written -/
  | code (np : Nat) (va : Bool) (nN : Nat) (body : List S) (fz : Bool)
  | start | pick | next

def pickV (vs : List Val) (h : Hs) : T (Val × Hs) := match vs with
  | [.ref l, .int n] => match h.get l with
    | some .tape => if decide (0 < n) && decide (n ≤ 1000000000000000000) then .dr n.toNat fun i => .ok (.int i, h) else .no
    | _ => .no
  | _ => .no
/-- a law's own list of draws, as it is written out -/
def tapeL (xs : List Val) : Bool := match xs with
  | [.scr, .int p, .int b, .int s] => decide (0 ≤ p) && decide (p ≤ 63) && decide (0 ≤ b) && decide (0 ≤ s) && decide (s ≤ 2147483647)
  | _ => false
def nextV (vs : List Val) (h : Hs) : T (Val × Hs) := match vs with
  | [.ref l, .int n] => match decide (0 < n) && decide (n ≤ 1000000000000000000) with
    | true => match h.get l with
      | some .tape => .dr n.toNat fun i => .ok (.int i, h)
      | some (.lst xs) => match tapeL xs && !h.lk.contains l with
        | true => .dr n.toNat fun i => .ok (.int i, h.put l .tape)
        | false => .no
      | _ => .no
    | false => .no
  | _ => .no
def runF (cf : Nat → List Val → Hs → T (Val × Hs)) (fu nN : Nat) (body : List S) (fz : Bool) (vs : List Val) (h : Hs) : T (Val × Hs) :=
  (exs cf fu body (vs.map some ++ List.replicate (nN - vs.length) none) ⟨h.os, h.n, h.n, h.lk⟩).bind fun r =>
    let go : Val → T (Val × Hs) := fun v => match fz && Nat.ble h.n r.2.2.lo, fzV r.2.2 h.n 12 v with
      | true, some v' => .ok (v', h)
      | _, _ => .ok (v, ⟨r.2.2.os, r.2.2.n, min h.lo r.2.2.lo, h.lk⟩)
    match r.1 with
    | .nx => go .non
    | .rt v => go v
    | _ => .no
def callN (tab : List Fn) (fu : Nat) : Nat → Nat → List Val → Hs → T (Val × Hs)
  | 0, _, _, _ => .no
  | d + 1, f, vs, h => match tab[f]? with
    | none => .no
    | some .start => match vs with
      | [.scr] => .ok (.ref h.n, h.new .tape)
      | _ => .no
    | some .pick => pickV vs h
    | some .next => nextV vs h
    | some (.code np va nN body fz) => match va with
      | false => if vs.length == np then runF (callN tab fu d) fu nN body fz vs h else .no
      | true => if Nat.ble (np - 1) vs.length && small vs.length && (!(vs.drop (np - 1)).isEmpty && (vs.drop (np - 1)).all isFlat) then runF (callN tab fu d) fu nN body fz (vs.take (np - 1) ++ [.tup (vs.drop (np - 1))]) h else .no
end Eng
/-! The relation between the evaluator's values and heaps and those of the hand layer. -/
namespace Eng
open PySem L2

/-- the module's part, and the places that no value may name (lists that are being made) -/
structure Cn where
  K : PySem.W.Frag
  fb : List Addr
section
variable (K : Cn)
/-- a tuple, a list that nobody writes -/
def Own (al : List Addr) (H : Hp) (a : Addr) (o : HO) : Prop := H a = some o ∧ a ∉ al ∧ a ∉ K.fb
/-- the key of a plain dict -/
def hk : List L2.Key → L2.Key
  | k :: _ => k
  | [] => .inl 0
structure KOk (t : Bool) (ks : List (List L2.Key)) (n : Nat) : Prop where
  len : ks.length = n
  one : t = false → ∀ k ∈ ks, ∃ a, k = [a]
  ne : ∀ k ∈ ks, k ≠ []
def dHO (t : Bool) (ks : List (List L2.Key)) (us : List V) : HO := if t then .dT (ks.zip us) else .dK ((ks.map hk).zip us)
/-- a tuple: a flat one as it is, any other one with its object, or a constant of the module -/
def KT (a : Addr) (us : List V) : Prop := kcase = true ∧ ∃ (o : Obj) (its : Array Value) (n : Nat), K.K.lookup a = some o ∧ o.cls = .type "tuple" ∧ o.dict = none ∧ o.data = .seq its n ∧ its.size ≤ sizeLine ∧ Vals us its.toList
def StT (al : List Addr) (H : Hp) (a : Addr) (us : List V) : Prop := (∃ o : Obj, o.dict = none ∧ Own K al H a (tcl us o)) ∨ KT K a us
def StL (al : List Addr) (H : Hp) (a : Addr) (us : List V) : Prop :=
  (Rd H a (.lst us) ∧ a ∉ al ∧ a ∉ K.fb) ∨ ∃ (o : Obj) (its : Array Value) (n : Nat), K.K.lookup a = some o ∧ o.cls = .type "list" ∧ o.dict = none ∧ o.data = .seq its n ∧ its.size ≤ sizeLine ∧ Vals us its.toList
mutual
def RV (al : List Addr) (H : Hp) : Val → V → Prop
  | .non, u => u = .non
  | .bl b, u => u = .bl b
  | .int i, u => u = .int i
  | .str x, u => u = .str x
  | .tup xs, u => ∃ a us, u = .ref a ∧ StT K al H a us ∧ RVs al H xs us
  | .tl xs, u => ∃ a us, u = .ref a ∧ (H a = some (.lst us) ∧ a ∉ al ∧ a ∉ K.fb) ∧ RVs al H xs us
  | .ref l, u => ∃ a, u = .ref a ∧ al[l]? = some a
  | .scr, u => ∃ (a : Addr) (ns : List Int), u = .ref a ∧ StL K al H a (ns.map V.int) ∧ ns.length ≤ 63
  | .sl a ns, u => u = .ref a ∧ StL K al H a (ns.map V.int)
  | .fd t ks vs, u => ∃ a us, u = .ref a ∧ Own K al H a (dHO t ks us) ∧ KOk t ks vs.length ∧ RVs al H vs us
def RVs (al : List Addr) (H : Hp) : List Val → List V → Prop
  | [], us => us = []
  | x :: xs, us => ∃ u r, us = u :: r ∧ RV al H x u ∧ RVs al H xs r
end
/-- the next state keeps what nobody writes -/
structure Kp (al : List Addr) (H : Hp) (al' : List Addr) (H' : Hp) : Prop where
  pre : ∀ (l : Nat) a, al[l]? = some a → al'[l]? = some a
  keep : ∀ a o, a ∉ al → H a = some o → H' a = some o ∧ a ∉ al'
end
section
variable {K : Cn} {al al' al2 : List Addr} {H H' H2 : Hp}
theorem Own.mono {a o} (k : Kp al H al' H') (h : Own K al H a o) : Own K al' H' a o := ⟨(k.keep a _ h.2.1 h.1).1, (k.keep a _ h.2.1 h.1).2, h.2.2⟩
theorem StT.sq {a us} (h : StT K al H a us) : SqT K.K H a us := by
  rcases h with ⟨o, _, h⟩ | ⟨_, o, its, n, h1, h2, _, h3⟩
  · have h := h.1
    unfold tcl at h
    split at h
    · exact .inl (.inl h)
    · exact .inl (.inr ⟨o, h⟩)
  · exact .inr ⟨o, its, n, h1, h2, h3⟩
/-- a flat tuple may be a key -/
theorem StT.key {a us} (h : StT K al H a us) (f : fne us = true) (k : kcase = false) : H a = some (.tup us) := by
  rcases h with ⟨o, _, h⟩ | h
  · have h := h.1
    unfold tcl at h
    rw [f] at h
    exact h
  · exact absurd (k.symm.trans h.1) Bool.false_ne_true
theorem StL.sq {a us} (h : StL K al H a us) : SqL K.K H a us := h.elim (fun z => .inl z.1) .inr
theorem Rd.keep {a u} (k : Kp al H al' H') (h : Rd H a u) (n : a ∉ al) : Rd H' a u ∧ a ∉ al' := by
  rcases h with h | ⟨o, h⟩
  · obtain ⟨q, n'⟩ := k.keep a _ n h
    exact ⟨.inl q, n'⟩
  · obtain ⟨q, n'⟩ := k.keep a _ n h
    exact ⟨.inr ⟨o, q⟩, n'⟩
theorem StT.mono {a us} (k : Kp al H al' H') (h : StT K al H a us) : StT K al' H' a us := h.imp (fun ⟨o, d, h⟩ => ⟨o, d, Own.mono k h⟩) id
theorem StL.mono {a us} (k : Kp al H al' H') (h : StL K al H a us) : StL K al' H' a us := by
  rcases h with h | h
  · obtain ⟨z1, z2⟩ := Rd.keep k h.1 h.2.1
    exact .inl ⟨z1, z2, h.2.2⟩
  · exact .inr h
mutual
theorem RV.mono (k : Kp al H al' H') : ∀ {x : Val} {u : V}, RV K al H x u → RV K al' H' x u
  | .non, u, h => by simp only [RV] at h ⊢; exact h
  | .bl b, u, h => by simp only [RV] at h ⊢; exact h
  | .int i, u, h => by simp only [RV] at h ⊢; exact h
  | .str x, u, h => by simp only [RV] at h ⊢; exact h
  | .tup xs, u, h => by
    simp only [RV] at h ⊢
    obtain ⟨a, us, e, s, r⟩ := h
    exact ⟨a, us, e, s.mono k, RVs.mono k r⟩
  | .tl xs, u, h => by
    simp only [RV] at h ⊢
    obtain ⟨a, us, e, s, r⟩ := h
    exact ⟨a, us, e, ⟨(k.keep a _ s.2.1 s.1).1, (k.keep a _ s.2.1 s.1).2, s.2.2⟩, RVs.mono k r⟩
  | .ref l, u, h => by
    simp only [RV] at h ⊢
    obtain ⟨a, e, q⟩ := h
    exact ⟨a, e, k.pre l a q⟩
  | .scr, u, h => by
    simp only [RV] at h ⊢
    obtain ⟨a, ns, e, s, r⟩ := h
    exact ⟨a, ns, e, s.mono k, r⟩
  | .sl a ns, u, h => by
    simp only [RV] at h ⊢
    exact ⟨h.1, h.2.mono k⟩
  | .fd t ks vs, u, h => by
    simp only [RV] at h ⊢
    obtain ⟨a, us, e, s, l, r⟩ := h
    exact ⟨a, us, e, s.mono k, l, RVs.mono k r⟩
theorem RVs.mono (k : Kp al H al' H') : ∀ {xs : List Val} {us : List V}, RVs K al H xs us → RVs K al' H' xs us
  | [], us, h => by simp only [RVs] at h ⊢; exact h
  | x :: xs, us, h => by
    simp only [RVs] at h ⊢
    obtain ⟨u, r, e, h1, h2⟩ := h
    exact ⟨u, r, e, RV.mono k h1, RVs.mono k h2⟩
end
theorem Kp.refl : Kp al H al H := ⟨fun _ _ h => h, fun _ _ n h => ⟨h, n⟩⟩
theorem Kp.trans (a : Kp al H al' H') (b : Kp al' H' al2 H2) : Kp al H al2 H2 :=
  ⟨fun l x h => b.pre l x (a.pre l x h), fun x o n h => let ⟨q, n'⟩ := a.keep x o n h; b.keep x o n' q⟩

/-! ### rows of values -/
theorem RVs.length : ∀ {xs : List Val} {us : List V}, RVs K al H xs us → xs.length = us.length
  | [], us, h => by simp only [RVs] at h; subst h; rfl
  | x :: xs, us, h => by
    simp only [RVs] at h
    obtain ⟨u, r, e, h1, h2⟩ := h
    subst e
    simp [RVs.length h2]
theorem RVs.get : ∀ {xs : List Val} {us : List V} {i : Nat} {x : Val}, RVs K al H xs us → xs[i]? = some x → ∃ u, us[i]? = some u ∧ RV K al H x u
  | [], us, i, x, h, e => by simp at e
  | y :: xs, us, i, x, h, e => by
    simp only [RVs] at h
    obtain ⟨u, r, e', h1, h2⟩ := h
    subst e'
    cases i with
    | zero =>
      simp at e
      subst e
      exact ⟨u, rfl, h1⟩
    | succ i =>
      simp at e
      obtain ⟨w, hw, rw'⟩ := RVs.get h2 e
      exact ⟨w, by simpa using hw, rw'⟩
theorem RVs.of : ∀ {xs : List Val} {us : List V}, xs.length = us.length → (∀ (i : Nat) x u, xs[i]? = some x → us[i]? = some u → RV K al H x u) → RVs K al H xs us
  | [], us, l, h => by
    simp only [RVs]
    cases us with
    | nil => rfl
    | cons _ _ => simp at l
  | x :: xs, us, l, h => by
    cases us with
    | nil => simp at l
    | cons u r =>
      simp only [RVs]
      exact ⟨u, r, rfl, h 0 x u rfl rfl, RVs.of (by simpa using l) fun i y w e1 e2 => h (i + 1) y w (by simpa using e1) (by simpa using e2)⟩
theorem RVs.at {xs : List Val} {us : List V} {i : Nat} {x : Val} {u : V} (h : RVs K al H xs us) (e1 : xs[i]? = some x) (e2 : us[i]? = some u) : RV K al H x u := by
  obtain ⟨w, hw, r⟩ := h.get e1
  rw [e2] at hw
  cases hw
  exact r
theorem RVs.nil : RVs K al H [] [] := by simp only [RVs]
theorem RVs.cons {x u xs us} (h1 : RV K al H x u) (h2 : RVs K al H xs us) : RVs K al H (x :: xs) (u :: us) := by
  simp only [RVs]
  exact ⟨u, us, rfl, h1, h2⟩
theorem RVs.append : ∀ {xs ys : List Val} {us ws : List V}, RVs K al H xs us → RVs K al H ys ws → RVs K al H (xs ++ ys) (us ++ ws)
  | [], ys, us, ws, h1, h2 => by
    simp only [RVs] at h1
    subst h1
    exact h2
  | x :: xs, ys, us, ws, h1, h2 => by
    simp only [RVs] at h1
    obtain ⟨u, r, e, a, b⟩ := h1
    subst e
    exact .cons a (RVs.append b h2)
theorem RVs.one {x u} (h : RV K al H x u) : RVs K al H [x] [u] := .cons h .nil
theorem RVs.drop {xs : List Val} {us : List V} (n : Nat) (h : RVs K al H xs us) : RVs K al H (xs.drop n) (us.drop n) := by
  refine .of (by simp [h.length]) fun i x u e1 e2 => ?_
  rw [List.getElem?_drop] at e1 e2
  exact h.at e1 e2
theorem RVs.take {xs : List Val} {us : List V} (n : Nat) (h : RVs K al H xs us) : RVs K al H (xs.take n) (us.take n) := by
  refine .of (by simp [h.length]) fun i x u e1 e2 => ?_
  rw [List.getElem?_take] at e1 e2
  split at e1
  · rename_i hlt
    rw [if_pos hlt] at e2
    exact h.at e1 e2
  · cases e1
theorem RVs.set {xs : List Val} {us : List V} {j : Nat} {x u} (h : RVs K al H xs us) (hx : RV K al H x u) : RVs K al H (xs.set j x) (us.set j u) := by
  refine .of (by simp [h.length]) fun i y w e1 e2 => ?_
  have hl := h.length
  rw [List.getElem?_set] at e1 e2
  by_cases e : j = i
  · subst e
    simp only [if_true] at e1 e2
    split at e1
    · rename_i h1
      rw [if_pos (by omega)] at e2
      cases e1; cases e2
      exact hx
    · cases e1
  · rw [if_neg e] at e1 e2
    exact h.at e1 e2
theorem RVs.reverse {xs : List Val} {us : List V} (h : RVs K al H xs us) : RVs K al H xs.reverse us.reverse := by
  have hl := h.length
  refine .of (by simp [hl]) fun i x u e1 e2 => ?_
  have h1 : i < xs.length := by
    have := (List.getElem?_eq_some_iff.mp e1).1
    simpa using this
  rw [List.getElem?_reverse h1] at e1
  rw [List.getElem?_reverse (by omega)] at e2
  rw [← hl] at e2
  exact h.at e1 e2
theorem RVs.dropLast {xs : List Val} {us : List V} (h : RVs K al H xs us) : RVs K al H xs.dropLast us.dropLast := by
  rw [List.dropLast_eq_take, List.dropLast_eq_take, ← h.length]
  exact h.take _
theorem RVs.rep {xs : List Val} {us : List V} (h : RVs K al H xs us) : ∀ n, RVs K al H (List.replicate n xs).flatten (List.replicate n us).flatten
  | 0 => .nil
  | n + 1 => by
    rw [List.replicate_succ, List.replicate_succ, List.flatten_cons, List.flatten_cons]
    exact h.append (RVs.rep h n)
theorem RVs.ints : ∀ (ns : List Int), RVs K al H (ns.map .int) (ns.map V.int)
  | [] => .nil
  | n :: ns => .cons (by simp only [RV]) (RVs.ints ns)
theorem RVs.isEmpty {xs : List Val} {us : List V} (h : RVs K al H xs us) : xs.isEmpty = us.isEmpty := by
  have := h.length
  cases xs <;> cases us <;> simp at this ⊢
theorem RVs.vints : ∀ {xs : List Val} {us : List V} {ns : List Int}, RVs K al H xs us → optAll vint xs = some ns → us = ns.map V.int ∧ xs = ns.map Val.int
  | [], us, ns, h, e => by
    simp only [RVs] at h
    subst h
    cases e
    exact ⟨rfl, rfl⟩
  | x :: xs, us, ns, h, e => by
    simp only [RVs] at h
    obtain ⟨u, r, e', h1, h2⟩ := h
    subst e'
    unfold optAll at e
    cases x with
    | int i =>
      simp only [vint] at e
      cases q : optAll vint xs with
      | none => rw [q] at e; cases e
      | some ys =>
        rw [q] at e
        simp only at e
        cases e
        obtain ⟨z1, z2⟩ := RVs.vints h2 q
        simp only [RV] at h1
        subst h1
        exact ⟨by rw [z1]; rfl, by rw [z2]; rfl⟩
    | _ => simp [vint] at e
theorem RVs.vbls : ∀ {xs : List Val} {us : List V} {bs : List Bool}, RVs K al H xs us → optAll vbl xs = some bs → us = bs.map V.bl
  | [], us, ns, h, e => by
    simp only [RVs] at h
    subst h
    cases e
    rfl
  | x :: xs, us, ns, h, e => by
    simp only [RVs] at h
    obtain ⟨u, r, e', h1, h2⟩ := h
    subst e'
    unfold optAll at e
    cases x with
    | bl i =>
      simp only [vbl] at e
      cases q : optAll vbl xs with
      | none => rw [q] at e; cases e
      | some ys =>
        rw [q] at e
        simp only at e
        cases e
        have z1 := RVs.vbls h2 q
        simp only [RV] at h1
        subst h1
        rw [z1]; rfl
    | _ => simp [vbl] at e
end

/-! ### the heap -/
/-- the list of a law's draws: the script, how far it is read, what is left of a great number, the seed -/
def TapeOk (K : Cn) (al : List Addr) (H : Hp) (a : Addr) : Prop := ∃ (sa : Addr) (ns : List Int) (p b s : Int), H a = some (.lst [.ref sa, .int p, .int b, .int s]) ∧ StL K al H sa (ns.map V.int) ∧ ns.length ≤ 63 ∧ 0 ≤ p ∧ p ≤ 63 ∧ 0 ≤ b ∧ 0 ≤ s ∧ s ≤ 2147483647
def RO (K : Cn) (al : List Addr) (lk : List Nat) (H : Hp) (l : Nat) (a : Addr) : Ob → Prop
  | .lst xs => ∃ us, (if lk.contains l then ∃ od, H a = some (.frz od (.lst us)) else H a = some (.lst us)) ∧ RVs K al H xs us
  | .dct t ks vs => ∃ us, (if lk.contains l then ∃ od, H a = some (.frz od (dHO t ks us)) else H a = some (dHO t ks us)) ∧ KOk t ks vs.length ∧ RVs K al H vs us
  | .tape => TapeOk K al H a
structure RH (K : Cn) (al : List Addr) (h : Hs) (H : Hp) : Prop where
  len : al.length = h.n
  os : h.os.length = h.n
  nd : al.Nodup
  lkb : ∀ l, h.lk.contains l = true → l < h.n
  fb : ∀ a ∈ K.fb, a ∉ al ∧ ∃ o, H a = some o ∧ ∀ us, o ≠ .tup us
  ob : ∀ (l : Nat) a o, al[l]? = some a → h.get l = some o → RO K al h.lk H l a o
structure Ext (al : List Addr) (h : Hs) (H : Hp) (al' : List Addr) (h' : Hs) (H' : Hp) : Prop extends Kp al H al' H' where
  frz : ∀ a o u, H a = some (.frz o u) → H' a = some (.frz o u)
  lo : h'.lo ≤ h.lo
  sm : ∀ l, l < h'.lo → l < h.n → h'.get l = h.get l
  n : h.n ≤ h'.n
  lk : h'.lk = h.lk
section
variable {K : Cn} {al al' al2 : List Addr} {H H' H2 : Hp} {h h' h2 : Hs}
theorem Ext.refl : Ext al h H al h H := { Kp.refl with frz := fun _ _ _ e => e, lo := Nat.le_refl _, sm := fun _ _ _ => rfl, n := Nat.le_refl _, lk := rfl }
theorem Ext.trans (a : Ext al h H al' h' H') (b : Ext al' h' H' al2 h2 H2) : Ext al h H al2 h2 H2 :=
  { a.toKp.trans b.toKp with
    frz := fun x o u e => b.frz x o u (a.frz x o u e)
    lo := Nat.le_trans b.lo a.lo
    sm := fun l e1 e2 => (b.sm l e1 (Nat.lt_of_lt_of_le e2 a.n)).trans (a.sm l (Nat.lt_of_lt_of_le e1 b.lo) e2)
    n := Nat.le_trans a.n b.n
    lk := b.lk.trans a.lk }
theorem Hs.get_lt {l : Nat} {o : Ob} (e : h.get l = some o) : l < h.n := by
  unfold Hs.get at e
  split at e
  · rename_i q
    exact of_decide_eq_true (by simpa [Nat.blt_eq] using q)
  · cases e
theorem RH.mem (r : RH K al h H) {l : Nat} {a : Addr} (e : al[l]? = some a) : ∃ o, h.get l = some o ∧ RO K al h.lk H l a o := by
  have hl : l < h.n := by rw [← r.len]; exact (List.getElem?_eq_some_iff.mp e).1
  have q : h.get l = h.os[h.n - 1 - l]? := by
    unfold Hs.get
    rw [if_pos (by simpa [Nat.blt_eq] using hl)]
  have h1 : h.n - 1 - l < h.os.length := by rw [r.os]; omega
  rw [List.getElem?_eq_getElem h1] at q
  exact ⟨_, q, r.ob l a _ e q⟩
/-- a tracked place holds something -/
theorem RH.has (r : RH K al h H) {a : Addr} (m : a ∈ al) : ∃ o, H a = some o := by
  obtain ⟨l, e⟩ := List.getElem?_of_mem m
  obtain ⟨o, _, q⟩ := r.mem e
  cases o with
  | lst xs =>
    obtain ⟨us, q, _⟩ := q
    split at q
    · obtain ⟨od, q⟩ := q
      exact ⟨_, q⟩
    · exact ⟨_, q⟩
  | dct t ks vs =>
    obtain ⟨us, q, _⟩ := q
    split at q
    · obtain ⟨od, q⟩ := q
      exact ⟨_, q⟩
    · exact ⟨_, q⟩
  | tape =>
    obtain ⟨sa, ns, p, b, s, q, _⟩ := q
    exact ⟨_, q⟩
theorem RH.free (r : RH K al h H) {p : Addr} (e : H p = none) : p ∉ al := fun m => by
  obtain ⟨o, q⟩ := r.has m
  rw [e] at q
  cases q
theorem RH.inj (r : RH K al h H) {l m : Nat} {a : Addr} (e1 : al[l]? = some a) (e2 : al[m]? = some a) : l = m := by
  have h1 := (List.getElem?_eq_some_iff.mp e1).1
  exact (List.getElem?_inj h1 r.nd).mp (e1.trans e2.symm)
theorem RO.mono {l : Nat} {a : Addr} {o : Ob} {lk : List Nat} (k : Kp al H al' H') (e : H' a = H a) (x : RO K al lk H l a o) : RO K al' lk H' l a o := by
  cases o with
  | lst xs =>
    obtain ⟨us, q, r⟩ := x
    refine ⟨us, ?_, r.mono k⟩
    rw [e]
    exact q
  | dct t ks vs =>
    obtain ⟨us, q, l, r⟩ := x
    refine ⟨us, ?_, l, r.mono k⟩
    rw [e]
    exact q
  | tape =>
    obtain ⟨sa, ns, p, b, s, q, sq, rest⟩ := x
    exact ⟨sa, ns, p, b, s, by rw [e]; exact q, sq.mono k, rest⟩
theorem RH.nfb (r : RH K al h H) {p : Addr} (e : H p = none) : p ∉ K.fb := fun m => by
  obtain ⟨_, o, q, _⟩ := r.fb p m
  rw [e] at q
  cases q
/-- a new object that nobody writes -/
theorem Kp.free (r : RH K al h H) {p : Addr} {o : HO} (e : H p = none) : Kp al H al (upd H p o) :=
  ⟨fun _ _ q => q, fun a u n q => ⟨by rw [upd_ne (ne_of_none q e)]; exact q, n⟩⟩
theorem RH.freeU (r : RH K al h H) {p : Addr} {o : HO} (e : H p = none) : RH K al h (upd H p o) :=
  ⟨r.len, r.os, r.nd, r.lkb, fun a m => ⟨(r.fb a m).1, let ⟨u, q, nt⟩ := (r.fb a m).2; ⟨u, by rw [upd_ne (ne_of_none q e)]; exact q, nt⟩⟩, fun l a ob e1 e2 => RO.mono (Kp.free r e) (by
    obtain ⟨u, q⟩ := r.has (List.mem_of_getElem? e1)
    rw [upd_ne (ne_of_none q e)]) (r.ob l a ob e1 e2)⟩
theorem Ext.freeU (r : RH K al h H) {p : Addr} {o : HO} (e : H p = none) : Ext al h H al h (upd H p o) :=
  { Kp.free r e with frz := fun a u w q => by rw [upd_ne (ne_of_none q e)]; exact q, lo := Nat.le_refl _, sm := fun _ _ _ => rfl, n := Nat.le_refl _, lk := rfl }
/-- a new object that is tracked -/
theorem Kp.new (r : RH K al h H) {p : Addr} {o : HO} (e : H p = none) : Kp al H (al ++ [p]) (upd H p o) :=
  ⟨fun l a q => by rw [List.getElem?_append_left (List.getElem?_eq_some_iff.mp q).1]; exact q, fun a u n q => by
    have ne := ne_of_none q e
    refine ⟨by rw [upd_ne ne]; exact q, ?_⟩
    simp only [List.mem_append, List.mem_singleton, not_or]
    exact ⟨n, ne⟩⟩
theorem Hs.get_new (h : Hs) (o : Ob) (hos : h.os.length = h.n) (l : Nat) : (h.new o).get l = if l = h.n then some o else h.get l := by
  unfold Hs.new Hs.get
  simp only
  by_cases e : l = h.n
  · subst e
    simp [Nat.blt_eq]
  · rw [if_neg e]
    by_cases q : l < h.n
    · have q1 : l < h.n + 1 := by omega
      simp only [Nat.blt_eq, q, q1, if_true, decide_true]
      have e2 : h.n + 1 - 1 - l = (h.n - 1 - l) + 1 := by omega
      rw [e2, List.getElem?_cons_succ]
    · have q1 : ¬ l < h.n + 1 := by omega
      simp [Nat.blt_eq, q, q1]
theorem RH.new (r : RH K al h H) {p : Addr} {o : HO} {ob : Ob} (e : H p = none) (x : RO K (al ++ [p]) h.lk (upd H p o) h.n p ob) : RH K (al ++ [p]) (h.new ob) (upd H p o) := by
  refine ⟨by simp [Hs.new, r.len], by simp [Hs.new, r.os], ?_, fun l e => Nat.lt_succ_of_lt (r.lkb l e), fun a m => ?_, fun l a u e1 e2 => ?_⟩
  · rw [List.nodup_append]
    refine ⟨r.nd, by simp, fun a ha b hb => ?_⟩
    rw [List.mem_singleton] at hb
    subst hb
    intro z
    subst z
    exact r.free e ha
  · obtain ⟨z, u, q, nt⟩ := r.fb a m
    have ne := ne_of_none q e
    exact ⟨by simp only [List.mem_append, List.mem_singleton, not_or]; exact ⟨z, ne⟩, u, by rw [upd_ne ne]; exact q, nt⟩
  · rw [Hs.get_new h ob r.os] at e2
    by_cases el : l = h.n
    · subst el
      rw [if_pos rfl] at e2
      cases e2
      rw [List.getElem?_append_right (by rw [r.len]; exact Nat.le_refl _)] at e1
      rw [r.len] at e1
      simp at e1
      subst e1
      exact x
    · rw [if_neg el] at e2
      have hl := Hs.get_lt e2
      rw [List.getElem?_append_left (by rw [r.len]; exact hl)] at e1
      refine RO.mono (Kp.new r e) ?_ (r.ob l a u e1 e2)
      obtain ⟨w, q⟩ := r.has (List.mem_of_getElem? e1)
      rw [upd_ne (ne_of_none q e)]
theorem Ext.new (r : RH K al h H) {p : Addr} {o : HO} {ob : Ob} (e : H p = none) : Ext al h H (al ++ [p]) (h.new ob) (upd H p o) :=
  { Kp.new r e with
    frz := fun a u w q => by rw [upd_ne (ne_of_none q e)]; exact q
    lo := Nat.le_refl _
    sm := fun l _ e2 => by rw [Hs.get_new h ob r.os, if_neg (by omega)]
    n := Nat.le_succ _
    lk := rfl }
/-- a tracked list is written -/
theorem Hs.get_put (h : Hs) (o : Ob) (hos : h.os.length = h.n) {l : Nat} (hl : l < h.n) (m : Nat) : (h.put l o).get m = if m = l then some o else h.get m := by
  unfold Hs.put Hs.get
  simp only
  by_cases q : m < h.n
  · simp only [Nat.blt_eq, q, if_true, decide_true]
    rw [List.getElem?_set]
    by_cases e : m = l
    · subst e
      rw [if_pos rfl, if_pos (by rw [hos]; omega), if_pos rfl]
    · rw [if_neg e, if_neg (by omega)]
  · have e : ¬ m = l := by omega
    simp [Nat.blt_eq, q, e]
theorem Kp.put (r : RH K al h H) {l : Nat} {a : Addr} {o : HO} (e : al[l]? = some a) : Kp al H al (upd H a o) :=
  ⟨fun _ _ q => q, fun b u n q => ⟨by rw [upd_ne (fun z => n (by rw [z]; exact List.mem_of_getElem? e))]; exact q, n⟩⟩
theorem RH.put (r : RH K al h H) {l : Nat} {a : Addr} {o : HO} {ob : Ob} (e : al[l]? = some a) (x : RO K al h.lk (upd H a o) l a ob) : RH K al (h.put l ob) (upd H a o) := by
  have hl : l < h.n := by rw [← r.len]; exact (List.getElem?_eq_some_iff.mp e).1
  refine ⟨r.len, by simp [Hs.put, r.os], r.nd, r.lkb, fun b m => ⟨(r.fb b m).1, let ⟨u, q, nt⟩ := (r.fb b m).2; ⟨u, by rw [upd_ne fun z => (r.fb b m).1 (by rw [z]; exact List.mem_of_getElem? e)]; exact q, nt⟩⟩, fun m b u e1 e2 => ?_⟩
  rw [Hs.get_put h ob r.os hl] at e2
  by_cases em : m = l
  · subst em
    rw [if_pos rfl] at e2
    cases e2
    rw [e] at e1
    cases e1
    exact x
  · rw [if_neg em] at e2
    refine RO.mono (Kp.put r e) ?_ (r.ob m b u e1 e2)
    rw [upd_ne fun z => em (r.inj (by rw [← z]; exact e1) e)]
theorem Ext.put (r : RH K al h H) {l : Nat} {a : Addr} {o : HO} {ob : Ob} (e : al[l]? = some a) (nf : ∀ od u, H a ≠ some (.frz od u)) : Ext al h H al (h.put l ob) (upd H a o) :=
  { Kp.put r e with
    frz := fun b u w q => by
      rw [upd_ne fun z => nf u w (by rw [← z]; exact q)]
      exact q
    lo := Nat.min_le_left _ _
    sm := fun m e1 e2 => by
      have hl : l < h.n := by rw [← r.len]; exact (List.getElem?_eq_some_iff.mp e).1
      rw [Hs.get_put h ob r.os hl, if_neg]
      have : (h.put l ob).lo = min h.lo l := rfl
      rw [this] at e1
      omega
    n := Nat.le_refl _
    lk := rfl }
theorem RH.wl (r : RH K al h H) {l : Nat} {a : Addr} {xs : List Val} (e : al[l]? = some a) (w : h.wl l = some xs) : ∃ us, H a = some (.lst us) ∧ RVs K al H xs us ∧ h.lk.contains l = false := by
  unfold Hs.wl at w
  cases q : h.get l with
  | none => rw [q] at w; cases w
  | some o =>
    rw [q] at w
    cases o with
    | tape => cases w
    | dct t ks vs => cases w
    | lst ys =>
      simp only at w
      obtain ⟨us, x, rv⟩ := r.ob l a _ e q
      cases c : h.lk.contains l with
      | true =>
        rw [c, if_pos rfl] at w
        cases w
      | false =>
        rw [c, if_neg Bool.false_ne_true] at w
        rw [c, if_neg Bool.false_ne_true] at x
        cases w
        exact ⟨us, x, rv, rfl⟩
/-- no tracked place holds a tuple -/
theorem RH.ntup (r : RH K al h H) {a : Addr} {us : List V} (e : H a = some (.tup us)) : a ∉ al ∧ a ∉ K.fb := by
  refine ⟨fun m => ?_, fun m => ?_⟩
  · obtain ⟨l, e'⟩ := List.getElem?_of_mem m
    obtain ⟨o, _, q⟩ := r.mem e'
    cases o with
    | lst xs =>
      obtain ⟨us, q, _⟩ := q
      split at q
      · obtain ⟨od, q⟩ := q
        rw [e] at q
        cases q
      · rw [e] at q
        cases q
    | dct t ks vs =>
      obtain ⟨us, q, _⟩ := q
      split at q
      · obtain ⟨od, q⟩ := q
        rw [e] at q
        cases q
      · rw [e] at q
        unfold dHO at q
        cases t <;> cases q
    | tape =>
      obtain ⟨sa, ns, p, b, s, q, _⟩ := q
      rw [e] at q
      cases q
  · obtain ⟨_, o, q, nt⟩ := r.fb a m
    rw [e] at q
    cases q
    exact nt us rfl
theorem RH.wd (r : RH K al h H) {l : Nat} {a : Addr} {t : Bool} {ks : List (List L2.Key)} {vs : List Val} (e : al[l]? = some a) (w : h.wd l = some (t, ks, vs)) : ∃ us, H a = some (dHO t ks us) ∧ KOk t ks vs.length ∧ RVs K al H vs us ∧ h.lk.contains l = false := by
  unfold Hs.wd at w
  cases q : h.get l with
  | none => rw [q] at w; cases w
  | some o =>
    rw [q] at w
    cases o with
    | tape => cases w
    | lst ys => cases w
    | dct t' ks' vs' =>
      simp only at w
      obtain ⟨us, x, kk, rv⟩ := r.ob l a _ e q
      cases c : h.lk.contains l with
      | true =>
        rw [c, if_pos rfl] at w
        cases w
      | false =>
        rw [c, if_neg Bool.false_ne_true] at w
        rw [c, if_neg Bool.false_ne_true] at x
        cases w
        exact ⟨us, x, kk, rv, rfl⟩
/-- a tracked list that is read -/
theorem RH.rl (r : RH K al h H) {l : Nat} {a : Addr} {xs : List Val} (e : al[l]? = some a) (w : h.get l = some (.lst xs)) : ∃ us, Rd H a (.lst us) ∧ RVs K al H xs us := by
  obtain ⟨us, x, rv⟩ := r.ob l a _ e w
  split at x
  · obtain ⟨od, x⟩ := x
    exact ⟨us, .inr ⟨od, x⟩, rv⟩
  · exact ⟨us, .inl x, rv⟩
end
end Eng
/-! Operators, built-ins, methods, by values. -/
namespace Eng
open PySem L2

/-- what is wanted of a value and a heap behind a step -/
def Pt (K : Cn) (al : List Addr) (h : Hs) (H : Hp) (Q : V → Hp → Prop) : Val × Hs → Prop :=
  fun q => ∀ al' H' u, Ext al h H al' q.2 H' → RH K al' q.2 H' → RV K al' H' q.1 u → Q u H'
section
variable {K : Cn} {al al' : List Addr} {H H' : Hp} {h h' : Hs} {Q : V → Hp → Prop}
theorem Pt.trans {q : Val × Hs} (e : Ext al h H al' h' H') (p : Pt K al h H Q q) : Pt K al' h' H' Q q := fun al2 H2 u e2 r v => p al2 H2 u (e.trans e2) r v
theorem Pt.here {v : Val} {u : V} (p : Pt K al h H Q (v, h)) (r : RH K al h H) (rv : RV K al H v u) : Q u H := p al H u Ext.refl r rv
/-- a new tuple -/
theorem Pt.tup {xs : List Val} {us : List V} (q : Pt K al h H Q (.tup xs, h)) (r : RH K al h H) (rv : RVs K al H xs us) : newT us H Q := fun p o np hd => by
  refine q al _ _ (Ext.freeU r np) (r.freeU np) ?_
  simp only [RV]
  exact ⟨p, us, rfl, .inl ⟨o, hd, upd_same, r.free np, r.nfb np⟩, rv.mono (Kp.free r np)⟩
/-- flat values are no objects -/
theorem RV.flat {v : Val} {u : V} (r : RV K al H v u) (f : isFlat v = true) : refV u = false := by
  cases v <;> first | (cases f; done) | skip
  all_goals
    simp only [RV] at r
    subst r
    rfl
theorem RVs.flat : ∀ {xs : List Val} {us : List V}, RVs K al H xs us → xs.all isFlat = true → (us.all fun v => !refV v) = true
  | [], us, r, _ => by
    simp only [RVs] at r
    subst r
    rfl
  | x :: xs, us, r, f => by
    simp only [RVs] at r
    obtain ⟨u, w, e, r1, r2⟩ := r
    subst e
    rw [List.all_cons, Bool.and_eq_true] at f
    rw [List.all_cons, r1.flat f.1, r2.flat f.2]
    rfl
theorem fne_of : ∀ {us : List V}, us ≠ [] → (us.all fun v => !refV v) = true → fne us = true
  | [], n, _ => absurd rfl n
  | _ :: _, _, h => h
/-- a new list -/
theorem Pt.mk {m : Bool} {xs : List Val} {us : List V} {p : Addr} (q : (mkL m xs h).All (Pt K al h H Q)) (r : RH K al h H) (rv : RVs K al H xs us) (np : H p = none) : Q (.ref p) (upd H p (.lst us)) := by
  cases m with
  | false =>
    refine q al _ _ (Ext.freeU r np) (r.freeU np) ?_
    simp only [RV]
    exact ⟨p, us, rfl, ⟨upd_same, r.free np, r.nfb np⟩, rv.mono (Kp.free r np)⟩
  | true =>
    refine q (al ++ [p]) _ _ (Ext.new r np) (r.new np ⟨us, ?_, rv.mono (Kp.new r np)⟩) ?_
    · split
      · rename_i z
        exact absurd (r.lkb _ z) (Nat.lt_irrefl _)
      · exact upd_same
    · simp only [RV]
      refine ⟨p, rfl, ?_⟩
      rw [List.getElem?_append_right (by rw [r.len]; exact Nat.le_refl _), r.len]
      simp

theorem RV.int_of {i : Int} {u : V} (r : RV K al H (.int i) u) : u = .int i := by simpa only [RV] using r
theorem RV.bl_of {b : Bool} {u : V} (r : RV K al H (.bl b) u) : u = .bl b := by simpa only [RV] using r
theorem RV.str_of {x : Str} {u : V} (r : RV K al H (.str x) u) : u = .str x := by simpa only [RV] using r
theorem RV.non_of {u : V} (r : RV K al H .non u) : u = .non := by simpa only [RV] using r
theorem RV.int (i : Int) : RV K al H (.int i) (.int i) := by simp only [RV]
theorem RV.bl (b : Bool) : RV K al H (.bl b) (.bl b) := by simp only [RV]
theorem RV.str (x : Str) : RV K al H (.str x) (.str x) := by simp only [RV]
theorem RV.non : RV K al H .non .non := by simp only [RV]
theorem RV.tup_of {xs : List Val} {u : V} (r : RV K al H (.tup xs) u) : ∃ a us, u = .ref a ∧ StT K al H a us ∧ RVs K al H xs us := by simpa only [RV] using r
theorem RV.tl_of {xs : List Val} {u : V} (r : RV K al H (.tl xs) u) : ∃ a us, u = .ref a ∧ (H a = some (.lst us) ∧ a ∉ al ∧ a ∉ K.fb) ∧ RVs K al H xs us := by simpa only [RV] using r
theorem RV.ref_of {l : Nat} {u : V} (r : RV K al H (.ref l) u) : ∃ a, u = .ref a ∧ al[l]? = some a := by simpa only [RV] using r
theorem RV.scr_of {u : V} (r : RV K al H .scr u) : ∃ (a : Addr) (ns : List Int), u = .ref a ∧ StL K al H a (ns.map V.int) ∧ ns.length ≤ 63 := by simpa only [RV] using r

theorem items_of {v : Val} {xs : List Val} {u : V} (r : RH K al h H) (e : items h v = some xs) (rv : RV K al H v u) : ∃ a us, u = .ref a ∧ (SqL K.K H a us ∨ SqT K.K H a us) ∧ RVs K al H xs us := by
  cases v with
  | tup ys =>
    cases e
    obtain ⟨a, us, e, s, q⟩ := rv.tup_of
    exact ⟨a, us, e, .inr s.sq, q⟩
  | tl ys =>
    cases e
    obtain ⟨a, us, e, s, q⟩ := rv.tl_of
    exact ⟨a, us, e, .inl (SqL.of s.1), q⟩
  | sl b ns =>
    cases e
    simp only [RV] at rv
    exact ⟨b, _, rv.1, .inl rv.2.sq, RVs.ints ns⟩
  | ref l =>
    obtain ⟨a, e1, e2⟩ := rv.ref_of
    unfold items at e
    simp only at e
    split at e
    · rename_i zs q
      cases e
      obtain ⟨us, rd, q'⟩ := r.rl e2 q
      exact ⟨a, us, e1, .inl (.inl rd), q'⟩
    · cases e
  | _ => cases e
theorem itemsL_of {v : Val} {xs : List Val} {u : V} (r : RH K al h H) (e : itemsL h v = some xs) (rv : RV K al H v u) : ∃ a us, u = .ref a ∧ SqL K.K H a us ∧ RVs K al H xs us := by
  cases v with
  | tl ys =>
    cases e
    obtain ⟨a, us, e, s, q⟩ := rv.tl_of
    exact ⟨a, us, e, SqL.of s.1, q⟩
  | ref l =>
    obtain ⟨a, e1, e2⟩ := rv.ref_of
    unfold itemsL at e
    simp only at e
    split at e
    · rename_i zs q
      cases e
      obtain ⟨us, rd, q'⟩ := r.rl e2 q
      exact ⟨a, us, e1, .inl rd, q'⟩
    · cases e
  | _ => cases e
theorem itemsW_of {v : Val} {xs : List Val} {u : V} (r : RH K al h H) (e : itemsW h v = some xs) (rv : RV K al H v u) : ∃ a us, u = .ref a ∧ H a = some (.lst us) ∧ RVs K al H xs us := by
  cases v with
  | tl ys =>
    cases e
    obtain ⟨a, us, e, s, q⟩ := rv.tl_of
    exact ⟨a, us, e, s.1, q⟩
  | ref l =>
    obtain ⟨a, e1, e2⟩ := rv.ref_of
    obtain ⟨us, q1, q2, _⟩ := r.wl e2 e
    exact ⟨a, us, e1, q1, q2⟩
  | _ => cases e

/-! ### data -/
theorem dpAll_of {f : Val → Option PyData} (hf : ∀ v d u, f v = some d → RV K al H v u → Dp K.K H u d) : ∀ {xs : List Val} {ds : List PyData} {us : List V}, optAll f xs = some ds → RVs K al H xs us → DpAll K.K H us ds
  | [], ds, us, e, r => by
    simp only [RVs] at r
    subst r
    cases e
    exact .nil
  | x :: xs, ds, us, e, r => by
    simp only [RVs] at r
    obtain ⟨u, rest, e', h1, h2⟩ := r
    subst e'
    unfold optAll at e
    cases q : f x with
    | none => rw [q] at e; cases e
    | some d =>
      rw [q] at e
      simp only at e
      cases q2 : optAll f xs with
      | none => rw [q2] at e; cases e
      | some ds' =>
        rw [q2] at e
        simp only at e
        cases e
        exact .cons (hf x d u q h1) (dpAll_of hf q2 h2)
theorem toD_of (r : RH K al h H) : ∀ (n : Nat) (v : Val) (d : PyData) (u : V), toD h n v = some d → RV K al H v u → Dp K.K H u d
  | 0, v, d, u, e, rv => by simp [toD] at e
  | n + 1, v, d, u, e, rv => by
    cases v with
    | non => simp only [toD, Option.some.injEq] at e; subst e; rw [rv.non_of]; exact .non
    | bl b => simp only [toD, Option.some.injEq] at e; subst e; rw [rv.bl_of]; exact .bl b
    | int i => simp only [toD, Option.some.injEq] at e; subst e; rw [rv.int_of]; exact .int i
    | str x =>
      simp only [toD] at e
      split at e
      · simp only [Option.some.injEq] at e; subst e; rw [rv.str_of]; exact .str x
      · cases e
    | tup xs =>
      simp only [toD, Option.map_eq_some_iff] at e
      obtain ⟨ds, q, e⟩ := e
      subst e
      obtain ⟨a, us, e1, s, rs⟩ := rv.tup_of
      subst e1
      exact .tup s.sq (dpAll_of (fun v d u e rv => toD_of r n v d u e rv) q rs)
    | tl xs =>
      simp only [toD, Option.map_eq_some_iff] at e
      obtain ⟨ds, q, e⟩ := e
      subst e
      obtain ⟨a, us, e1, s, rs⟩ := rv.tl_of
      subst e1
      exact .lst (SqL.of s.1) (dpAll_of (fun v d u e rv => toD_of r n v d u e rv) q rs)
    | ref l =>
      simp only [toD] at e
      split at e
      · rename_i xs q
        simp only [Option.map_eq_some_iff] at e
        obtain ⟨ds, q2, e⟩ := e
        subst e
        obtain ⟨a, e1, e2⟩ := rv.ref_of
        obtain ⟨us, rd, rs⟩ := r.rl e2 q
        subst e1
        exact .lst (.inl rd) (dpAll_of (fun v d u e rv => toD_of r n v d u e rv) q2 rs)
      · cases e
    | scr => simp [toD] at e
    | sl a ns => simp [toD] at e
    | fd t ks vs => simp [toD] at e
theorem layAll_of {f : Val → Option PyData} {n : Nat} (hf : ∀ v d, f v = some d → d.canLay0 = true ∧ d.depth ≤ n) : ∀ {xs : List Val} {ds : List PyData}, optAll f xs = some ds → PyData.canLayAll0 ds = true ∧ PyData.depthAll ds ≤ n
  | [], ds, e => by cases e; exact ⟨by simp [PyData.canLayAll0], by simp [PyData.depthAll]⟩
  | x :: xs, ds, e => by
    unfold optAll at e
    cases q : f x with
    | none => rw [q] at e; cases e
    | some d =>
      rw [q] at e
      simp only at e
      cases q2 : optAll f xs with
      | none => rw [q2] at e; cases e
      | some ds' =>
        rw [q2] at e
        simp only at e
        cases e
        obtain ⟨a1, a2⟩ := hf x d q
        obtain ⟨b1, b2⟩ := layAll_of hf q2
        exact ⟨by simp [PyData.canLayAll0, a1, b1], by simp only [PyData.depthAll]; omega⟩
theorem toD_lay : ∀ (n : Nat) (v : Val) (d : PyData), toD h n v = some d → d.canLay0 = true ∧ d.depth ≤ n
  | 0, v, d, e => by simp [toD] at e
  | n + 1, v, d, e => by
    cases v with
    | non => simp only [toD, Option.some.injEq] at e; subst e; simp [PyData.canLay0, PyData.depth]
    | bl b => simp only [toD, Option.some.injEq] at e; subst e; simp [PyData.canLay0, PyData.depth]
    | int i => simp only [toD, Option.some.injEq] at e; subst e; simp [PyData.canLay0, PyData.depth]
    | str x =>
      simp only [toD] at e
      split at e
      · rename_i q
        simp only [Option.some.injEq] at e; subst e; simp [PyData.canLay0, PyData.depth, q]
      · cases e
    | tup xs =>
      simp only [toD, Option.map_eq_some_iff] at e
      obtain ⟨ds, q, e⟩ := e
      subst e
      obtain ⟨a, b⟩ := layAll_of (fun v d e => toD_lay n v d e) q
      exact ⟨by simpa [PyData.canLay0] using a, by simp only [PyData.depth]; omega⟩
    | tl xs =>
      simp only [toD, Option.map_eq_some_iff] at e
      obtain ⟨ds, q, e⟩ := e
      subst e
      obtain ⟨a, b⟩ := layAll_of (fun v d e => toD_lay n v d e) q
      exact ⟨by simpa [PyData.canLay0] using a, by simp only [PyData.depth]; omega⟩
    | ref l =>
      simp only [toD] at e
      split at e
      · simp only [Option.map_eq_some_iff] at e
        obtain ⟨ds, q, e⟩ := e
        subst e
        obtain ⟨a, b⟩ := layAll_of (fun v d e => toD_lay n v d e) q
        exact ⟨by simpa [PyData.canLay0] using a, by simp only [PyData.depth]; omega⟩
      · cases e
    | scr => simp [toD] at e
    | sl a ns => simp [toD] at e
    | fd t ks vs => simp [toD] at e
theorem toD_shaped {v : Val} {d : PyData} (e : toD h 16 v = some d) : SeqAt.shaped d = true := by
  obtain ⟨a, b⟩ := toD_lay 16 v d e
  unfold SeqAt.shaped
  rw [a, decide_eq_true (by omega)]
  rfl
theorem veq_of {v w : Val} {b : Bool} {x y : V} (r : RH K al h H) (e : veq h v w = some b) (r1 : RV K al H v x) (r2 : RV K al H w y) : ∃ d e, Dp K.K H x d ∧ Dp K.K H y e ∧ SeqAt.shaped d = true ∧ SeqAt.shaped e = true ∧ b = PyData.eqv d e := by
  have gen : (match toD h 16 v, toD h 16 w with
    | some d, some e => some (PyData.eqv d e)
    | _, _ => none) = some b → ∃ d e, Dp K.K H x d ∧ Dp K.K H y e ∧ SeqAt.shaped d = true ∧ SeqAt.shaped e = true ∧ b = PyData.eqv d e := fun e => by
    split at e
    · rename_i d e' q1 q2
      cases e
      exact ⟨d, e', toD_of r _ _ _ _ q1 r1, toD_of r _ _ _ _ q2 r2, toD_shaped q1, toD_shaped q2, rfl⟩
    · cases e
  unfold veq at e
  split at e
  · cases e
    rw [r1.int_of, r2.int_of]
    exact ⟨_, _, .int _, .int _, rfl, rfl, by simp [PyData.eqv]; exact (Bool.beq_eq_decide_eq _ _).symm⟩
  · cases e
    rw [r1.bl_of, r2.bl_of]
    exact ⟨_, _, .bl _, .bl _, rfl, rfl, by simp [PyData.eqv]; exact (Bool.beq_eq_decide_eq _ _).symm⟩
  · exact gen e

end
/-! ### the rules by values -/
def pyB : Bop → Operator
  | .add => .Add | .sub => .Sub | .mul => .Mult | .fdiv => .FloorDiv | .mod => .Mod | .pow => .Pow | .band => .BitAnd | .bxor => .BitXor | .shl => .LShift | .shr => .RShift
def pyC : Cop → CmpOp
  | .eq => .Eq | .ne => .NotEq | .lt => .Lt | .le => .LtE | .gt => .Gt | .ge => .GtE | .is => .Is | .nis => .IsNot | .mem => .In | .nmem => .NotIn
def rO (F : PySem.W.Frag) (f : Val → Val → Hs → T (Val × Hs)) : R2 := fun x y H Q => ∃ K al h v w, K.K = F ∧ RH K al h H ∧ RV K al H v x ∧ RV K al H w y ∧ (f v w h).All (Pt K al h H Q)
def rC (F : PySem.W.Frag) (f : Val → Val → Hs → Option Bool) : R2 := fun x y H Q => ∃ K al h v w k, K.K = F ∧ RH K al h H ∧ RV K al H v x ∧ RV K al H w y ∧ f v w h = some k ∧ Q (.bl k) H
section
variable {X : Cx}
theorem small_lt {n : Nat} (h : small n = true) : n < sizeLine := by
  have h1 : n ≤ 1048576 := Nat.le_of_ble_eq_true h
  have h2 : sizeLine = 16777216 := by decide
  omega
theorem bop_int {op : Bop} {i j : Int} {k : Int} (e : bopI op i j = some k) {H : Hp} {Q : V → Hp → Prop} (q : Q (.int k) H) :
    ∀ (pins : List (Addr × Obj)) (s : Shared) (σ : St) (v u : Value), Inv X pins σ H s → RelV (.int i) v → RelV (.int j) u → wpAny (model X.prog X.w) X.A (binaryOp (pyB op) v u) (EP X pins σ Q) X.xe s := by
  intro pins s σ v u I r1 r2
  cases op with
  | add => cases e; exact op_add pins s σ H _ _ v u Q I r1 r2 ⟨i, j, rfl, rfl, q⟩
  | sub => cases e; exact op_sub pins s σ H _ _ v u Q I r1 r2 ⟨i, j, rfl, rfl, q⟩
  | mul =>
    simp only [bopI] at e
    split at e
    · rename_i z
      cases e
      rw [Bool.and_eq_true, Nat.blt_eq, Nat.blt_eq] at z
      refine op_mulW pins s σ H _ _ v u Q I r1 r2 ⟨i, j, rfl, rfl, ?_, q⟩
      unfold CMulW
      omega
    · cases e
  | fdiv =>
    simp only [bopI] at e
    split at e
    · rename_i z
      cases e
      rw [Bool.and_eq_true, Nat.blt_eq, decide_eq_true_eq] at z
      exact op_fdivW pins s σ H _ _ v u Q I r1 r2 ⟨i, j, rfl, rfl, z, q⟩
    · split at e
      · rename_i z
        cases e
        rw [Bool.and_eq_true, Nat.blt_eq, decide_eq_true_eq] at z
        exact op_fdivN pins s σ H _ _ v u Q I r1 r2 ⟨i, j, rfl, rfl, z, q⟩
      · cases e
  | mod =>
    simp only [bopI] at e
    split at e
    · rename_i z
      cases e
      exact op_mod pins s σ H _ _ v u Q I r1 r2 ⟨i, j, rfl, rfl, of_decide_eq_true z, q⟩
    · split at e
      · rename_i z
        cases e
        exact op_modN pins s σ H _ _ v u Q I r1 r2 ⟨i, j, rfl, rfl, of_decide_eq_true z, q⟩
      · cases e
  | pow =>
    simp only [bopI] at e
    split at e
    · rename_i z
      cases e
      rw [Bool.and_eq_true, Bool.and_eq_true, Nat.blt_eq, decide_eq_true_eq, decide_eq_true_eq] at z
      refine op_pow pins s σ H _ _ v u Q I r1 r2 ⟨i, j, rfl, rfl, ?_, q⟩
      unfold CPow
      omega
    · cases e
  | band => cases e; exact op_and pins s σ H _ _ v u Q I r1 r2 ⟨i, j, rfl, rfl, q⟩
  | bxor => cases e; exact op_xor pins s σ H _ _ v u Q I r1 r2 ⟨i, j, rfl, rfl, q⟩
  | shl =>
    simp only [bopI] at e
    split at e
    · rename_i z
      cases e
      rw [Bool.and_eq_true, Bool.and_eq_true, Nat.blt_eq, decide_eq_true_eq, decide_eq_true_eq] at z
      refine op_shl pins s σ H _ _ v u Q I r1 r2 ⟨i, j, rfl, rfl, ?_, q⟩
      unfold CPow
      omega
    · cases e
  | shr =>
    simp only [bopI] at e
    split at e
    · rename_i z
      cases e
      exact op_shr pins s σ H _ _ v u Q I r1 r2 ⟨i, j, rfl, rfl, of_decide_eq_true z, q⟩
    · cases e
theorem or_bin (op : Bop) (m : Bool) : OpR X (binaryOp (pyB op)) (rO X.K (bopV op m)) := by
  intro pins s σ H x y v u Q I r1 r2 hq
  obtain ⟨K, al, h, a, b, eK, rh, ra, rb, p⟩ := hq
  -- a list times a number
  have rep : ∀ k : Int, b = .int k → (match op with
      | .mul => match itemsW h a with
        | some xs => if decide (0 ≤ k) && decide (k ≤ 100000) && small (xs.length * k.toNat) then mkL m (List.replicate k.toNat xs).flatten h else .no
        | none => .no
      | _ => .no).All (Pt K al h H Q) → wpAny (model X.prog X.w) X.A (binaryOp (pyB op) v u) (EP X pins σ Q) X.xe s := fun k eb pq => by
    subst eb
    cases op with
    | mul =>
      simp only at pq
      split at pq
      · rename_i xs q
        split at pq
        · rename_i z
          rw [Bool.and_eq_true, Bool.and_eq_true, decide_eq_true_eq, decide_eq_true_eq] at z
          obtain ⟨a', us, e1, e2, rs⟩ := itemsW_of rh q ra
          subst e1
          have ey := rb.int_of
          subst ey
          refine op_rep pins s σ H _ _ v u Q I r1 r2 ⟨a', k, us, rfl, rfl, e2, by omega, by omega, ?_, fun p' np => Pt.mk pq rh (rs.rep _) np⟩
          rw [← rs.length]
          exact Nat.le_of_lt (small_lt z.2)
        · exact pq.elim
      · exact pq.elim
    | _ => exact pq.elim
  have cat : (match op with
      | .add => match itemsW h a, itemsW h b with
        | some xs, some ys => if small (xs.length + ys.length) then mkL m (xs ++ ys) h else .no
        | _, _ => .no
      | _ => .no).All (Pt K al h H Q) → wpAny (model X.prog X.w) X.A (binaryOp (pyB op) v u) (EP X pins σ Q) X.xe s := fun pq => by
    cases op with
    | add =>
      simp only at pq
      split at pq
      · rename_i xs ys q1 q2
        split at pq
        · rename_i z
          obtain ⟨a1, us, e1, e2, rs⟩ := itemsW_of rh q1 ra
          obtain ⟨a2, ws, e3, e4, rs2⟩ := itemsW_of rh q2 rb
          subst e1 e3
          refine op_cat pins s σ H _ _ v u Q I r1 r2 ⟨a1, a2, us, ws, rfl, rfl, e2, e4, ?_, fun p' np => Pt.mk pq rh (rs.append rs2) np⟩
          rw [← rs.length, ← rs2.length]
          exact Nat.le_of_lt (small_lt z)
        · exact pq.elim
      · exact pq.elim
    | _ => exact pq.elim
  unfold bopV at p
  split at p
  · rename_i i j
    have e1 := ra.int_of
    have e2 := rb.int_of
    subst e1 e2
    rw [T.all_bind] at p
    cases e : bopI op i j with
    | none => rw [e] at p; exact p.elim
    | some k =>
      rw [e] at p
      exact bop_int e (Pt.here p rh (.int k)) pins s σ v u I r1 r2
  · rename_i xs ys
    obtain ⟨a1, us, e1, s1, rs1⟩ := ra.tup_of
    obtain ⟨a2, ws, e2, s2, rs2⟩ := rb.tup_of
    subst e1 e2
    cases op with
    | add =>
      simp only at p
      split at p
      · rename_i z
        have hl : us.length + ws.length ≤ sizeLine := by
          rw [← rs1.length, ← rs2.length]
          exact Nat.le_of_lt (small_lt z)
        refine op_catD pins s σ H _ _ v u Q I r1 r2 ⟨a1, a2, us, ws, rfl, rfl, eK ▸ s1.sq, eK ▸ s2.sq, hl, fun e => ?_, fun _ e => ?_, fun _ _ => Pt.tup p rh (rs1.append rs2)⟩
        · subst e
          have e' : xs = [] := List.length_eq_zero_iff.mp (by rw [rs1.length]; rfl)
          subst e'
          exact Pt.here p rh rb
        · subst e
          have e' : ys = [] := List.length_eq_zero_iff.mp (by rw [rs2.length]; rfl)
          subst e'
          rw [List.append_nil] at p
          exact Pt.here p rh ra
      · exact p.elim
    | _ => exact p.elim
  · rename_i x' y'
    have e1 := ra.str_of
    have e2 := rb.str_of
    subst e1 e2
    cases op with
    | add =>
      simp only at p
      split at p
      · rename_i z
        exact op_add_str pins s σ H _ _ v u Q I r1 r2 ⟨x', y', rfl, rfl, Nat.le_of_lt (small_lt z), Pt.here p rh (.str _)⟩
      · exact p.elim
    | _ => exact p.elim
  · rename_i xs k
    obtain ⟨a1, us, e1, s1, rs1⟩ := ra.tup_of
    have e2 := rb.int_of
    subst e1 e2
    cases op with
    | mul =>
      simp only at p
      split at p
      · rename_i z
        rw [Bool.and_eq_true, Bool.and_eq_true, Bool.and_eq_true, decide_eq_true_eq, decide_eq_true_eq] at z
        obtain ⟨z, fl⟩ := z
        have zl := Nat.le_of_ble_eq_true z.2
        rw [rs1.length] at zl
        refine op_repTA pins s σ H _ _ v u Q I r1 r2 ⟨a1, k, us, rfl, rfl, eK ▸ s1.sq, z.1.1, z.1.2, zl, fun e => ?_, fun ne k2 p' np => ?_⟩
        rotate_left
        · have fr : fne (List.replicate k.toNat us).flatten = true := by
            refine fne_of (fun e => ?_) (List.all_eq_true.mpr fun x hx => ?_)
            · have : us ∈ List.replicate k.toNat us := List.mem_replicate.mpr ⟨by omega, rfl⟩
              exact ne (List.flatten_eq_nil_iff.mp e us this)
            · obtain ⟨l, hl, hx⟩ := List.mem_flatten.mp hx
              rw [(List.mem_replicate.mp hl).2] at hx
              exact List.all_eq_true.mp (rs1.flat fl) x hx
          have := Pt.tup p rh (rs1.rep k.toNat) p' { cls := .none, data := .fields #[] } np rfl
          unfold tcl at this
          rw [fr] at this
          exact this
        rcases e with e | e
        · subst e
          have e' : xs = [] := List.length_eq_zero_iff.mp (by rw [rs1.length]; rfl)
          subst e'
          have : (List.replicate k.toNat ([] : List Val)).flatten = [] := by simp
          rw [this] at p
          exact Pt.here p rh ra
        · subst e
          have : (List.replicate (1 : Int).toNat xs).flatten = xs := by simp
          rw [this] at p
          exact Pt.here p rh ra
      · exact p.elim
    | _ => exact p.elim
  · exact rep _ rfl p
  · exact cat p
theorem un_negR : UnR X (unaryOp .USub) (fun x H Q => ∃ i, x = V.int i ∧ Q (.int (-i)) H) := un_neg
end
end Eng
/-! Dicts: rows of keys and values. -/
namespace Eng
open PySem L2
section
variable {K : Cn} {al : List Addr} {H : Hp}
theorem dGet_some {κ : Type} [DecidableEq κ] (f : List L2.Key → κ) {x : List L2.Key} : ∀ {ks : List (List L2.Key)} {vs : List Val} {us : List V} {v : Val}, RVs K al H vs us → ks.length = vs.length → (∀ k ∈ ks, f k = f x ↔ k = x) → dGet ks vs x = some v → ∃ u, valV ((ks.map f).zip us) (f x) = some u ∧ RV K al H v u
  | [], vs, us, v, r, l, i, e => by simp [dGet] at e
  | k :: ks, [], us, v, r, l, i, e => by simp at l
  | k :: ks, w :: vs, us, v, r, l, i, e => by
    simp only [RVs] at r
    obtain ⟨u, rest, eu, r1, r2⟩ := r
    subst eu
    unfold dGet at e
    by_cases q : k = x
    · rw [if_pos q] at e
      cases e
      refine ⟨u, ?_, r1⟩
      rw [List.map_cons, List.zip_cons_cons]
      exact valV_pos (by rw [q])
    · rw [if_neg q] at e
      have nf : ¬ f k = f x := fun z => q ((i k List.mem_cons_self).mp z)
      rw [List.map_cons, List.zip_cons_cons, valV_neg nf]
      exact dGet_some f r2 (by simpa using l) (fun k' m => i k' (List.mem_cons_of_mem _ m)) e
theorem dGet_none {κ : Type} [DecidableEq κ] (f : List L2.Key → κ) {x : List L2.Key} : ∀ {ks : List (List L2.Key)} {vs : List Val} {us : List V}, RVs K al H vs us → ks.length = vs.length → (∀ k ∈ ks, f k = f x ↔ k = x) → dGet ks vs x = none → valV ((ks.map f).zip us) (f x) = none
  | [], vs, us, r, l, i, e => rfl
  | k :: ks, [], us, r, l, i, e => by simp at l
  | k :: ks, w :: vs, us, r, l, i, e => by
    simp only [RVs] at r
    obtain ⟨u, rest, eu, r1, r2⟩ := r
    subst eu
    unfold dGet at e
    by_cases q : k = x
    · rw [if_pos q] at e
      cases e
    · rw [if_neg q] at e
      have nf : ¬ f k = f x := fun z => q ((i k List.mem_cons_self).mp z)
      rw [List.map_cons, List.zip_cons_cons, valV_neg nf]
      exact dGet_none f r2 (by simpa using l) (fun k' m => i k' (List.mem_cons_of_mem _ m)) e
theorem atom_of {v : Val} {k : L2.Key} {u : V} (e : atomK v = some k) (r : RV K al H v u) : u = kV k := by
  cases v with
  | int i =>
    cases e
    exact r.int_of
  | str x =>
    cases e
    exact r.str_of
  | _ => cases e
theorem atoms_of : ∀ {vs : List Val} {ks : List L2.Key} {us : List V}, optAll atomK vs = some ks → RVs K al H vs us → us = ks.map kV
  | [], ks, us, e, r => by
    cases e
    simp only [RVs] at r
    exact r
  | v :: vs, ks, us, e, r => by
    unfold optAll at e
    simp only [RVs] at r
    obtain ⟨u, rest, eu, r1, r2⟩ := r
    subst eu
    cases q : atomK v with
    | none => rw [q] at e; cases e
    | some k =>
      rw [q] at e
      simp only at e
      cases q2 : optAll atomK vs with
      | none => rw [q2] at e; cases e
      | some ks' =>
        rw [q2] at e
        cases e
        rw [List.map_cons, atom_of q r1, atoms_of q2 r2]
theorem keyT {v : Val} {k : List L2.Key} (h : keyOf true v = some k) : ∃ xs, v = .tup xs ∧ kcase = false ∧ optAll atomK xs = some k ∧ xs ≠ [] := by
  unfold keyOf at h
  simp only at h
  split at h
  · split at h
    · rename_i kc
      exact ⟨_, rfl, kc, h, List.cons_ne_nil _ _⟩
    · cases h
  · cases h
theorem fne_keys {xs : List Val} {k : List L2.Key} (h : optAll atomK xs = some k) (n : xs ≠ []) : fne (k.map kV) = true := by
  cases xs with
  | nil => exact absurd rfl n
  | cons x xs =>
    unfold optAll at h
    cases q : atomK x with
    | none => rw [q] at h; cases h
    | some d =>
    rw [q] at h
    simp only at h
    cases q2 : optAll atomK xs with
    | none => rw [q2] at h; cases h
    | some ds =>
    rw [q2] at h
    cases h
    refine fne_of (List.cons_ne_nil _ _) (List.all_eq_true.mpr fun u hu => ?_)
    obtain ⟨c, _, rfl⟩ := List.mem_map.mp hu
    cases c <;> rfl
theorem keyOf_ne {t : Bool} {v : Val} {k : List L2.Key} (h : keyOf t v = some k) : k ≠ [] := by
  cases t with
  | false =>
    unfold keyOf at h
    simp only [Option.map_eq_some_iff] at h
    obtain ⟨c, _, rfl⟩ := h
    exact List.cons_ne_nil _ _
  | true =>
    obtain ⟨xs, _, _, e, n⟩ := keyT h
    intro z
    subst z
    have := fne_keys e n
    cases this
/-- the dict that a value is -/
theorem dic_of {h : Hs} {v : Val} {u : V} {t : Bool} {ks : List (List L2.Key)} {vs : List Val} (rh : RH K al h H) (e : dicOf h v = some (t, ks, vs)) (rv : RV K al H v u) : ∃ a us, u = .ref a ∧ Rd H a (dHO t ks us) ∧ KOk t ks vs.length ∧ RVs K al H vs us := by
  cases v with
  | fd t' ks' vs' =>
    cases e
    simp only [RV] at rv
    obtain ⟨a, us, e1, s, l, r⟩ := rv
    exact ⟨a, us, e1, .inl s.1, l, r⟩
  | ref l =>
    unfold dicOf at e
    simp only at e
    split at e
    · rename_i q
      cases e
      obtain ⟨a, e1, e2⟩ := rv.ref_of
      obtain ⟨us, x, l, r⟩ := rh.ob _ a _ e2 q
      split at x
      · obtain ⟨od, x⟩ := x
        exact ⟨a, us, e1, .inr ⟨od, x⟩, l, r⟩
      · exact ⟨a, us, e1, .inl x, l, r⟩
    · cases e
  | _ => cases e
/-- .. that nobody walks now -/
theorem dic_free {h : Hs} {v : Val} {u : V} {t : Bool} {ks : List (List L2.Key)} {vs : List Val} (rh : RH K al h H) (e : dicOf h v = some (t, ks, vs)) (f : freeD h v = true) (rv : RV K al H v u) : ∃ a us, u = .ref a ∧ H a = some (dHO t ks us) ∧ KOk t ks vs.length ∧ RVs K al H vs us := by
  cases v with
  | fd t' ks' vs' =>
    cases e
    simp only [RV] at rv
    obtain ⟨a, us, e1, s, l, r⟩ := rv
    exact ⟨a, us, e1, s.1, l, r⟩
  | ref l =>
    unfold dicOf at e
    simp only at e
    split at e
    · rename_i q
      cases e
      obtain ⟨a, e1, e2⟩ := rv.ref_of
      obtain ⟨us, x, l, r⟩ := rh.ob _ a _ e2 q
      unfold freeD at f
      simp only [Bool.not_eq_true'] at f
      rw [f, if_neg Bool.false_ne_true] at x
      exact ⟨a, us, e1, x, l, r⟩
    · cases e
  | _ => cases e
theorem dic_get {h : Hs} {v i : Val} {u y : V} {t : Bool} {ks : List (List L2.Key)} {vs : List Val} {k : List L2.Key} (rh : RH K al h H) (e : dicOf h v = some (t, ks, vs)) (rv : RV K al H v u) (ki : keyOf t i = some k) (ri : RV K al H i y) :
    ∃ a o, u = .ref a ∧ DGet H a y o ∧ (match dGet ks vs k with
      | some w => ∃ z, o = some z ∧ RV K al H w z
      | none => o = none) := by
  obtain ⟨a, us, eu, rd, kk, rs⟩ := dic_of rh e rv
  refine ⟨a, ?_⟩
  cases t with
  | false =>
    unfold keyOf at ki
    simp only [Option.map_eq_some_iff] at ki
    obtain ⟨c, hc, ek⟩ := ki
    subst ek
    have ey := atom_of hc ri
    have inj : ∀ k ∈ ks, hk k = hk [c] ↔ k = [c] := fun k m => by
      obtain ⟨b, eb⟩ := kk.one rfl k m
      subst eb
      exact ⟨fun z => by rw [show b = c from z], fun z => by rw [z]⟩
    refine ⟨valV ((ks.map hk).zip us) (hk [c]), eu, .inl ⟨_, c, rd, ey, rfl⟩, ?_⟩
    cases q : dGet ks vs [c] with
    | none => exact dGet_none hk rs kk.len inj q
    | some w => exact dGet_some hk rs kk.len inj q
  | true =>
    obtain ⟨xs, ei, kc, ki', nn⟩ := keyT ki
    subst ei
    · obtain ⟨b, ws, eb, st, rw'⟩ := ri.tup_of
      have ew := atoms_of ki' rw'
      subst ew
      have inj : ∀ k' ∈ ks, id k' = id k ↔ k' = k := fun _ _ => Iff.rfl
      have em : ks.map id = ks := List.map_id ks
      refine ⟨valV (ks.zip us) k, eu, .inr ⟨_, k, b, rd, eb, st.key (fne_keys ki' nn) kc, rfl⟩, ?_⟩
      cases q : dGet ks vs k with
      | none =>
        have := dGet_none id rs kk.len inj q
        rw [em] at this
        exact this
      | some w =>
        have := dGet_some id rs kk.len inj q
        rw [em] at this
        exact this
end
section
variable {K : Cn} {al : List Addr} {H : Hp}
def repU : List (List L2.Key) → List V → List L2.Key → V → List V
  | k :: ks, u :: us, x, w => (if k = x then w else u) :: repU ks us x w
  | _, _, _, _ => []
def putU (ks : List (List L2.Key)) (us : List V) (x : List L2.Key) (w : V) : List V := if ks.any fun k => decide (k = x) then repU ks us x w else us ++ [w]
theorem rep_rv {x : List L2.Key} {v : Val} {w : V} (rw' : RV K al H v w) : ∀ {ks : List (List L2.Key)} {vs : List Val} {us : List V}, RVs K al H vs us → RVs K al H (repK ks vs x v) (repU ks us x w)
  | [], vs, us, r => by cases vs <;> exact .nil
  | k :: ks, [], us, r => by
    simp only [RVs] at r
    subst r
    exact .nil
  | k :: ks, z :: vs, us, r => by
    simp only [RVs] at r
    obtain ⟨u, rest, eu, r1, r2⟩ := r
    subst eu
    unfold repK repU
    by_cases q : k = x
    · rw [if_pos q, if_pos q]
      exact .cons rw' (rep_rv rw' r2)
    · rw [if_neg q, if_neg q]
      exact .cons r1 (rep_rv rw' r2)
theorem repK_len {x : List L2.Key} {v : Val} : ∀ {ks : List (List L2.Key)} {vs : List Val}, ks.length = vs.length → (repK ks vs x v).length = vs.length
  | [], [], _ => rfl
  | [], _ :: _, h => by simp at h
  | _ :: _, [], h => by simp at h
  | k :: ks, z :: vs, h => by
    unfold repK
    rw [List.length_cons, List.length_cons, repK_len (by simpa using h)]
theorem put_zip {κ : Type} [DecidableEq κ] (f : List L2.Key → κ) {x : List L2.Key} {w : V} {ks : List (List L2.Key)} {us : List V} (l : ks.length = us.length) (i : ∀ k ∈ ks, f k = f x ↔ k = x) :
    putK ((ks.map f).zip us) (f x) w = (if ks.any fun k => decide (k = x) then (ks.map f).zip (repU ks us x w) else ((ks ++ [x]).map f).zip (us ++ [w])) := by
  have anyE : ∀ {ks : List (List L2.Key)} {us : List V}, ks.length = us.length → (∀ k ∈ ks, f k = f x ↔ k = x) → (((ks.map f).zip us).any fun kv => decide (kv.1 = f x)) = ks.any fun k => decide (k = x) := by
    intro ks
    induction ks with
    | nil => intro us l i; rfl
    | cons k ks ih =>
      intro us l i
      cases us with
      | nil => simp at l
      | cons u us =>
        rw [List.map_cons, List.zip_cons_cons, List.any_cons, List.any_cons, ih (by simpa using l) (fun k' m => i k' (List.mem_cons_of_mem _ m))]
        have := i k List.mem_cons_self
        congr 1
        exact decide_eq_decide.mpr this
  have mapE : ∀ {ks : List (List L2.Key)} {us : List V}, ks.length = us.length → (∀ k ∈ ks, f k = f x ↔ k = x) → ((ks.map f).zip us).map (fun kv => if kv.1 = f x then (kv.1, w) else kv) = (ks.map f).zip (repU ks us x w) := by
    intro ks
    induction ks with
    | nil => intro us l i; rfl
    | cons k ks ih =>
      intro us l i
      cases us with
      | nil => simp at l
      | cons u us =>
        have hk := i k List.mem_cons_self
        unfold repU
        rw [List.map_cons, List.zip_cons_cons, List.map_cons, ih (by simpa using l) (fun k' m => i k' (List.mem_cons_of_mem _ m)), List.zip_cons_cons]
        by_cases q : k = x
        · rw [if_pos q, if_pos (hk.mpr q)]
        · rw [if_neg q, if_neg fun z => q (hk.mp z)]
  unfold putK
  rw [anyE l i]
  split
  · rw [mapE l i]
  · rw [List.map_append, List.zip_append (by rw [List.length_map]; exact l)]
    rfl
/-- d[k] = v -/
theorem dic_put {i : Val} {y w : V} {v : Val} {t : Bool} {ks : List (List L2.Key)} {vs : List Val} {us : List V} {k : List L2.Key} {a : Addr} (e : H a = some (dHO t ks us)) (kk : KOk t ks vs.length) (rs : RVs K al H vs us) (ki : keyOf t i = some k) (ri : RV K al H i y) (hs : ks.length < sizeLine) :
    DPut H a y w (upd H a (dHO t (dPut ks vs k v).1 (putU ks us k w))) ∧ KOk t (dPut ks vs k v).1 (dPut ks vs k v).2.length := by
  have lu : ks.length = us.length := kk.len.trans rs.length
  have one : t = false → ∃ c, k = [c] := fun ht => by
    subst ht
    unfold keyOf at ki
    simp only [Option.map_eq_some_iff] at ki
    obtain ⟨c, hc, ek⟩ := ki
    exact ⟨c, ek.symm⟩
  refine ⟨?_, ?_⟩
  · cases t with
    | false =>
      unfold keyOf at ki
      simp only [Option.map_eq_some_iff] at ki
      obtain ⟨c, hc, ek⟩ := ki
      subst ek
      have ey := atom_of hc ri
      have inj : ∀ k ∈ ks, hk k = hk [c] ↔ k = [c] := fun k m => by
        obtain ⟨b, eb⟩ := kk.one rfl k m
        subst eb
        exact ⟨fun z => by rw [show b = c from z], fun z => by rw [z]⟩
      refine .inl ⟨_, c, e, ey, by rw [List.length_zip, List.length_map]; omega, ?_⟩
      have pz := put_zip hk (w := w) lu inj
      congr 1
      show HO.dK _ = HO.dK _
      congr 1
      refine Eq.trans ?_ pz.symm
      unfold dPut putU
      split <;> rfl
    | true =>
      obtain ⟨xs, ei, kc, ki', nn⟩ := keyT ki
      subst ei
      · obtain ⟨b, ws, eb, st, rw'⟩ := ri.tup_of
        have ew := atoms_of ki' rw'
        subst ew
        have inj : ∀ k' ∈ ks, id k' = id k ↔ k' = k := fun _ _ => Iff.rfl
        refine .inr ⟨_, k, b, e, eb, st.key (fne_keys ki' nn) kc, by rw [List.length_zip]; omega, ?_⟩
        have pz := put_zip id (w := w) lu inj
        simp only [List.map_id] at pz
        congr 1
        show HO.dT _ = HO.dT _
        congr 1
        refine Eq.trans ?_ pz.symm
        unfold dPut putU
        split <;> rfl
  · unfold dPut
    split
    · exact ⟨by show ks.length = (repK ks vs k v).length; rw [repK_len kk.len]; exact kk.len, kk.one, kk.ne⟩
    · refine ⟨by simp [kk.len], fun ht x m => ?_, fun x m => ?_⟩
      · rcases List.mem_append.mp m with m | m
        · exact kk.one ht x m
        · rw [List.mem_singleton.mp m]
          exact one ht
      · rcases List.mem_append.mp m with m | m
        · exact kk.ne x m
        · rw [List.mem_singleton.mp m]
          exact keyOf_ne ki
theorem putK_zip {u w : V} {v : Val} {ks : List (List L2.Key)} {vs : List Val} {us : List V} {i : Val} {k : List L2.Key} (l : ks.length = us.length) (one : ∀ k ∈ ks, ∃ a, k = [a]) (ki : keyOf false i = some k) (ri : RV K al H i u) :
    ∃ c, u = kV c ∧ putK ((ks.map hk).zip us) c w = ((dPut ks vs k v).1.map hk).zip (putU ks us k w) := by
  unfold keyOf at ki
  simp only [Option.map_eq_some_iff] at ki
  obtain ⟨c, hc, ek⟩ := ki
  subst ek
  have inj : ∀ k ∈ ks, hk k = hk [c] ↔ k = [c] := fun k m => by
    obtain ⟨b, eb⟩ := one k m
    subst eb
    exact ⟨fun z => by rw [show b = c from z], fun z => by rw [z]⟩
  refine ⟨c, atom_of hc ri, (put_zip hk (w := w) l inj).trans ?_⟩
  unfold dPut putU
  split <;> rfl
theorem dPut_ok {i : Val} {v : Val} {ks : List (List L2.Key)} {vs : List Val} {k : List L2.Key} (kk : KOk false ks vs.length) (ki : keyOf false i = some k) : KOk false (dPut ks vs k v).1 (dPut ks vs k v).2.length := by
  have one : ∃ c, k = [c] := by
    unfold keyOf at ki
    simp only [Option.map_eq_some_iff] at ki
    obtain ⟨c, hc, ek⟩ := ki
    exact ⟨c, ek.symm⟩
  unfold dPut
  split
  · exact ⟨by show ks.length = (repK ks vs k v).length; rw [repK_len kk.len]; exact kk.len, kk.one, kk.ne⟩
  · refine ⟨by simp [kk.len], fun ht x m => ?_, fun x m => ?_⟩
    · rcases List.mem_append.mp m with m | m
      · exact kk.one ht x m
      · rw [List.mem_singleton.mp m]
        exact one
    · rcases List.mem_append.mp m with m | m
      · exact kk.ne x m
      · rw [List.mem_singleton.mp m]
        exact keyOf_ne ki
theorem dPut_len {ks : List (List L2.Key)} {vs : List Val} {k : List L2.Key} {v : Val} : (dPut ks vs k v).1.length ≤ ks.length + 1 := by
  unfold dPut
  split
  · exact Nat.le_succ _
  · simp
theorem put_rv {v : Val} {w : V} {ks : List (List L2.Key)} {vs : List Val} {us : List V} {k : List L2.Key} (rs : RVs K al H vs us) (r : RV K al H v w) : RVs K al H (dPut ks vs k v).2 (putU ks us k w) := by
  unfold dPut putU
  split
  · exact rep_rv r rs
  · exact rs.append (.one r)
end
section
variable {K : Cn} {al : List Addr} {H : Hp}
def dropU : List (List L2.Key) → List V → List L2.Key → List V
  | k :: ks, u :: us, x => if k = x then dropU ks us x else u :: dropU ks us x
  | _, _, _ => []
theorem drop_rv {x : List L2.Key} : ∀ {ks : List (List L2.Key)} {vs : List Val} {us : List V}, RVs K al H vs us → RVs K al H (dDrop ks vs x).2 (dropU ks us x)
  | [], vs, us, r => by cases vs <;> exact .nil
  | k :: ks, [], us, r => by
    simp only [RVs] at r
    subst r
    exact .nil
  | k :: ks, z :: vs, us, r => by
    simp only [RVs] at r
    obtain ⟨u, rest, eu, r1, r2⟩ := r
    subst eu
    unfold dDrop dropU
    by_cases q : k = x
    · rw [if_pos q, if_pos q]
      exact drop_rv r2
    · rw [if_neg q, if_neg q]
      exact .cons r1 (drop_rv r2)
theorem dDrop_len {x : List L2.Key} : ∀ {ks : List (List L2.Key)} {vs : List Val}, ks.length = vs.length → (dDrop ks vs x).1.length = (dDrop ks vs x).2.length
  | [], [], _ => rfl
  | [], _ :: _, h => by simp at h
  | _ :: _, [], h => by simp at h
  | k :: ks, z :: vs, h => by
    unfold dDrop
    by_cases q : k = x
    · rw [if_pos q]; exact dDrop_len (by simpa using h)
    · rw [if_neg q]
      simp only [List.length_cons]
      rw [dDrop_len (by simpa using h)]
theorem dDrop_mem {x y : List L2.Key} : ∀ {ks : List (List L2.Key)} {vs : List Val}, y ∈ (dDrop ks vs x).1 → y ∈ ks
  | [], vs, m => by cases vs <;> simp [dDrop] at m
  | _ :: _, [], m => by simp [dDrop] at m
  | k :: ks, z :: vs, m => by
    unfold dDrop at m
    by_cases q : k = x
    · rw [if_pos q] at m
      exact List.mem_cons_of_mem _ (dDrop_mem m)
    · rw [if_neg q] at m
      rcases List.mem_cons.mp m with e | m
      · rw [e]; exact List.mem_cons_self
      · exact List.mem_cons_of_mem _ (dDrop_mem m)
theorem drop_zip {κ : Type} [DecidableEq κ] (f : List L2.Key → κ) {x : List L2.Key} : ∀ {ks : List (List L2.Key)} {vs : List Val} {us : List V}, ks.length = vs.length → ks.length = us.length → (∀ k ∈ ks, f k = f x ↔ k = x) →
    dropK ((ks.map f).zip us) (f x) = ((dDrop ks vs x).1.map f).zip (dropU ks us x)
  | [], vs, us, _, l, i => by cases vs <;> rfl
  | k :: ks, [], us, l, _, i => by simp at l
  | k :: ks, z :: vs, [], _, l, i => by simp at l
  | k :: ks, z :: vs, u :: us, l1, l2, i => by
    have hk := i k List.mem_cons_self
    have ih := drop_zip f (x := x) (ks := ks) (vs := vs) (us := us) (by simpa using l1) (by simpa using l2) (fun k' m => i k' (List.mem_cons_of_mem _ m))
    unfold dDrop dropU
    unfold dropK at ih ⊢
    rw [List.map_cons, List.zip_cons_cons, List.filter_cons]
    by_cases q : k = x
    · rw [if_pos q, if_pos q, if_neg (by simp [hk.mpr q]), ih]
    · rw [if_neg q, if_neg q, if_pos (by simp only [decide_eq_true_eq]; exact fun z => q (hk.mp z)), ih]
      rfl
end
/-- a new dict -/
theorem new_dct {K : Cn} {al : List Addr} {H : Hp} {h : Hs} {Q : V → Hp → Prop} {t : Bool} {p : Addr} (q : Pt K al h H Q (.ref h.n, h.new (.dct t [] []))) (r : RH K al h H) (np : H p = none) : Q (.ref p) (upd H p (dHO t [] [])) := by
  refine q (al ++ [p]) _ _ (Ext.new r np) (r.new np ⟨[], ?_, ⟨rfl, fun _ _ m => absurd m (List.not_mem_nil), fun _ m => absurd m (List.not_mem_nil)⟩, .nil⟩) ?_
  · split
    · rename_i z
      exact absurd (r.lkb _ z) (Nat.lt_irrefl _)
    · exact upd_same
  · simp only [RV]
    refine ⟨p, rfl, ?_⟩
    rw [List.getElem?_append_right (by rw [r.len]; exact Nat.le_refl _), r.len]
    simp
open PyProof PyProof.Rows in
theorem subTail {prog : Program} {w : World} {A : Around} {E : Value → Shared → Prop} {s : Shared} {ve se : Expr} {a i : Value} {T id : String} {Q : Value → Shared → Prop} (ht : s.TypeIs a T)
    (look : typeLookup (.type T) "__getitem__" = pure (some (.builtin id))) (run : wpAny (model prog w) A (getItem a i) Q E s) (plain : subscripted se false a i = operate [a, i] (getItem a i)) :
    wpAny (model prog w) A (subscriptTail ve se a i) Q E s := by
  have last : wpAny (model prog w) A (subscripted se false a i) (fun r s2 => wpAny (model prog w) A (letTemporaryGo ve a r >>= fun _ => pure r) Q E s2) E s := by
    rw [plain]
    exact wpAny_operating (wpAny_mono run (fun r s2 q => wpAny_bind (wpAny_letTemporaryGo (wpAny_pure q))) fun _ _ z => z)
  unfold subscriptTail
  apply wpAny_bind
  rw [getitemInPython_of_ne (ht.not_modules)]
  apply wpAny_bind
  refine wpAny_specialOf ht look ?_
  first
    | exact wpAny_pure (wpAny_bind last)
    | exact wpAny_bind (wpAny_pure (wpAny_bind last))
    | exact wpAny_bind last
end Eng
/-! Comparisons, subscripts, built-ins, methods, stores, by values. -/
namespace Eng
open PySem L2
section
variable {X : Cx}
theorem lt_units {k : Nat} {A : Around} (hr : Room k A) : A.units + 65 < cLine := by have := hr.un; omega
theorem toV_of {al : List Addr} {H : Hp} {K : Cn} {v : Val} {a x : V} (e : toV v = some a) (rv : RV K al H v x) : x = a ∧ flatV a = true := by
  cases v <;> simp only [toV, Option.some.injEq, reduceCtorEq] at e <;> subst e
  · exact ⟨rv.non_of, rfl⟩
  · exact ⟨rv.bl_of, rfl⟩
  · exact ⟨rv.int_of, rfl⟩
  · exact ⟨rv.str_of, rfl⟩
theorem toVs_of {al : List Addr} {H : Hp} {K : Cn} : ∀ {xs : List Val} {us ws : List V}, optAll toV xs = some us → RVs K al H xs ws → ws = us ∧ us.all flatV = true
  | [], us, ws, e, r => by
    simp only [RVs] at r
    subst r
    cases e
    exact ⟨rfl, rfl⟩
  | x :: xs, us, ws, e, r => by
    simp only [RVs] at r
    obtain ⟨u, rest, e', h1, h2⟩ := r
    subst e'
    unfold optAll at e
    cases q : toV x with
    | none => rw [q] at e; cases e
    | some d =>
      rw [q] at e
      simp only at e
      cases q2 : optAll toV xs with
      | none => rw [q2] at e; cases e
      | some ds' =>
        rw [q2] at e
        simp only at e
        cases e
        obtain ⟨a1, a2⟩ := toV_of q h1
        obtain ⟨b1, b2⟩ := toVs_of q2 h2
        exact ⟨by rw [a1, b1], by simp [a2, b2]⟩
/-- v in w: a tuple of flat things, or a list of data -/
theorem memS_of {al : List Addr} {H : Hp} {h : Hs} {K : Cn} {v w : Val} {b : Bool} {x y : V} (r : RH K al h H) (e : memS h v w = some b) (r1 : RV K al H v x) (r2 : RV K al H w y) :
    (∃ a us, y = .ref a ∧ SqT K.K H a us ∧ flatV x = true ∧ us.all flatV = true ∧ b = inV x us) ∨
    ∃ d ds, Dp K.K H x d ∧ Dp K.K H y (.list ds) ∧ SeqAt.shaped d = true ∧ SeqAt.shaped (.list ds) = true ∧ b = ds.any fun z => PyData.eqv z d := by
  unfold memS at e
  split at e
  · rename_i xs
    split at e
    · rename_i a us q1 q2
      cases e
      obtain ⟨c, ws, e1, s, rs⟩ := r2.tup_of
      obtain ⟨z1, z2⟩ := toV_of q1 r1
      obtain ⟨z3, z4⟩ := toVs_of q2 rs
      subst z1 z3
      exact .inl ⟨c, _, e1, s.sq, z2, z4, rfl⟩
    · cases e
  · split at e
    · rename_i xs d q1 q2
      split at e
      · rename_i ds q3
        cases e
        obtain ⟨a, us, e1, s, rs⟩ := itemsL_of r q1 r2
        subst e1
        refine .inr ⟨d, ds, toD_of r _ _ _ _ q2 r1, .lst s (dpAll_of (fun v d u e rv => toD_of r 15 v d u e rv) q3 rs), toD_shaped q2, ?_, rfl⟩
        obtain ⟨l1, l2⟩ := layAll_of (fun v d e => toD_lay 15 v d e) q3
        have e1 : PyData.canLay0 (.list ds) = true := by simpa [PyData.canLay0] using l1
        have e2 : PyData.depth (.list ds) ≤ 64 := by simp only [PyData.depth]; omega
        unfold SeqAt.shaped
        rw [e1, decide_eq_true e2]
        rfl
      · cases e
    · cases e
theorem memV_of {al : List Addr} {H : Hp} {h : Hs} {K : Cn} {v w : Val} {b : Bool} {x y : V} (r : RH K al h H) (e : memV h v w = some b) (r1 : RV K al H v x) (r2 : RV K al H w y) :
    (∃ a o, y = .ref a ∧ DGet H a x o ∧ b = o.isSome) ∨ (∃ a us, y = .ref a ∧ SqT K.K H a us ∧ flatV x = true ∧ us.all flatV = true ∧ b = inV x us) ∨
    ∃ d ds, Dp K.K H x d ∧ Dp K.K H y (.list ds) ∧ SeqAt.shaped d = true ∧ SeqAt.shaped (.list ds) = true ∧ b = ds.any fun z => PyData.eqv z d := by
  unfold memV at e
  split at e
  · rename_i t ks vs ed
    split at e
    · rename_i k ek
      cases e
      obtain ⟨c, o, e1, g, m⟩ := dic_get r ed r2 ek r1
      refine .inl ⟨c, o, e1, g, ?_⟩
      split at m
      · rename_i w' ew
        obtain ⟨z, eo, _⟩ := m
        rw [ew, eo]
        rfl
      · rename_i ew
        rw [ew, m]
        rfl
    · cases e
  · exact .inr (memS_of r e r1 r2)
theorem or_cmp {k : Nat} (hr : Room k X.A) (op : Cop) : OpR X (compareOp (pyC op)) (rC X.K (copV op)) := by
  intro pins s σ H x y v u Q I r1 r2 hq
  obtain ⟨K, al, h, a, b, k, eK, rh, ra, rb, e, q⟩ := hq
  have hu := lt_units hr
  have hu0 : X.A.units + 64 < cLine := by omega
  unfold copV at e
  split at e
  · rename_i i j
    have e1 := ra.int_of
    have e2 := rb.int_of
    subst e1 e2
    cases op <;> simp only [copI, Option.some.injEq, reduceCtorEq] at e <;> subst e
    · exact op_eqD hu0 pins s σ H _ _ v u Q I r1 r2 ⟨_, _, .int i, .int j, rfl, rfl, by simp only [PyData.eqv, Bool.beq_eq_decide_eq]; exact q⟩
    · exact op_neD hu0 pins s σ H _ _ v u Q I r1 r2 ⟨_, _, .int i, .int j, rfl, rfl, by simp only [PyData.eqv, Bool.beq_eq_decide_eq]; exact q⟩
    · exact op_lt pins s σ H _ _ v u Q I r1 r2 ⟨i, j, rfl, rfl, q⟩
    · exact op_le pins s σ H _ _ v u Q I r1 r2 ⟨i, j, rfl, rfl, q⟩
    · exact op_gt pins s σ H _ _ v u Q I r1 r2 ⟨i, j, rfl, rfl, q⟩
    · exact op_ge pins s σ H _ _ v u Q I r1 r2 ⟨i, j, rfl, rfl, q⟩
  · have isN : ∀ c : Bool, (decide (x = V.non) = c) → b = .non → pyC op = .Is → Q (.bl c) H → wpAny (model X.prog X.w) X.A (compareOp (pyC op) v u) (EP X pins σ Q) X.xe s := fun c e1 e2 e3 q => by
      subst e2
      have e4 := rb.non_of
      subst e4
      rw [e3]
      exact op_isN pins s σ H _ _ v u Q I r1 r2 ⟨rfl, by rw [e1]; exact q⟩
    have isNN : ∀ c : Bool, (decide (x = V.non) = !c) → b = .non → pyC op = .IsNot → Q (.bl c) H → wpAny (model X.prog X.w) X.A (compareOp (pyC op) v u) (EP X pins σ Q) X.xe s := fun c e1 e2 e3 q => by
      subst e2
      have e4 := rb.non_of
      subst e4
      rw [e3]
      exact op_notN pins s σ H _ _ v u Q I r1 r2 ⟨rfl, by rw [e1, Bool.not_not]; exact q⟩
    cases op with
    | eq =>
      simp only at e
      obtain ⟨d, d', p1, p2, s1, s2, e⟩ := veq_of rh e ra rb
      subst e
      exact op_eqD hu0 pins s σ H _ _ v u Q I r1 r2 ⟨d, d', eK ▸ p1, eK ▸ p2, s1, s2, q⟩
    | ne =>
      simp only [Option.map_eq_some_iff] at e
      obtain ⟨c, e, e'⟩ := e
      subst e'
      obtain ⟨d, d', p1, p2, s1, s2, e⟩ := veq_of rh e ra rb
      subst e
      exact op_neD hu0 pins s σ H _ _ v u Q I r1 r2 ⟨d, d', eK ▸ p1, eK ▸ p2, s1, s2, q⟩
    | is =>
      simp only at e
      split at e
      · cases e
        rw [ra.bl_of] at r1
        rw [rb.bl_of] at r2
        exact op_isBl pins s σ H _ _ v u Q I r1 r2 ⟨_, _, rfl, rfl, q⟩
      · cases e
        exact isN true (by rw [ra.non_of]; rfl) rfl rfl q
      · cases e
        obtain ⟨a', e1, _⟩ := ra.ref_of
        exact isN false (by rw [e1]; rfl) rfl rfl q
      · cases e
        obtain ⟨a', _, e1, _⟩ := ra.tup_of
        exact isN false (by rw [e1]; rfl) rfl rfl q
      · cases e
        obtain ⟨a', _, e1, _⟩ := ra.tl_of
        exact isN false (by rw [e1]; rfl) rfl rfl q
      · cases e
        exact isN false (by rw [ra.int_of]; rfl) rfl rfl q
      · cases e
        exact isN false (by rw [ra.bl_of]; rfl) rfl rfl q
      · cases e
        exact isN false (by rw [ra.str_of]; rfl) rfl rfl q
      · cases e
    | nis =>
      simp only at e
      split at e
      · cases e
        rw [ra.bl_of] at r1
        rw [rb.bl_of] at r2
        exact op_notBl pins s σ H _ _ v u Q I r1 r2 ⟨_, _, rfl, rfl, q⟩
      · cases e
        exact isNN false (by rw [ra.non_of]; rfl) rfl rfl q
      · cases e
        obtain ⟨a', e1, _⟩ := ra.ref_of
        exact isNN true (by rw [e1]; rfl) rfl rfl q
      · cases e
        obtain ⟨a', _, e1, _⟩ := ra.tup_of
        exact isNN true (by rw [e1]; rfl) rfl rfl q
      · cases e
        obtain ⟨a', _, e1, _⟩ := ra.tl_of
        exact isNN true (by rw [e1]; rfl) rfl rfl q
      · cases e
        exact isNN true (by rw [ra.int_of]; rfl) rfl rfl q
      · cases e
        exact isNN true (by rw [ra.bl_of]; rfl) rfl rfl q
      · cases e
        exact isNN true (by rw [ra.str_of]; rfl) rfl rfl q
      · cases e
    | mem =>
      simp only at e
      rcases memV_of rh e ra rb with ⟨c, o, e1, g, e2⟩ | ⟨c, us, e1, s, f1, f2, e2⟩ | ⟨d, ds, p1, p2, s1, s2, e2⟩
      · subst e1 e2
        obtain rfl : u = Value.ref c := r2
        exact d_in (Nat.lt_of_le_of_lt (by omega) hu0) I g r1 fun s3 I3 => ⟨.bl o.isSome, H, I3, rfl, q⟩
      · subst e1 e2
        exact op_in_seq pins _ σ H _ _ v u Q I r1 r2 ⟨c, us, rfl, .inr (eK ▸ s), f1, f2, q⟩
      · subst e2
        exact op_inD hu pins _ σ H _ _ v u Q I r1 r2 ⟨d, ds, eK ▸ p1, eK ▸ p2, s1, s2, q⟩
    | nmem =>
      simp only [Option.map_eq_some_iff] at e
      obtain ⟨c', e, e'⟩ := e
      subst e'
      rcases memV_of rh e ra rb with ⟨c, o, e1, g, e2⟩ | ⟨c, us, e1, s, f1, f2, e2⟩ | ⟨d, ds, p1, p2, s1, s2, e2⟩
      · subst e1 e2
        obtain rfl : u = Value.ref c := r2
        exact d_notIn (Nat.lt_of_le_of_lt (by omega) hu0) I g r1 fun s3 I3 => ⟨.bl (!o.isSome), H, I3, rfl, q⟩
      · subst e1 e2
        exact op_notIn_seq pins _ σ H _ _ v u Q I r1 r2 ⟨c, us, rfl, .inr (eK ▸ s), f1, f2, q⟩
      · subst e2
        exact op_notInD hu pins _ σ H _ _ v u Q I r1 r2 ⟨d, ds, eK ▸ p1, eK ▸ p2, s1, s2, q⟩
    | _ => cases e

/-! ### subscripts -/
theorem ixI_eq (n : Nat) (i : Int) : ixI n i = ixN n i := by
  unfold ixI ixN
  by_cases h1 : 0 ≤ i
  · simp only [h1, decide_true, if_true]
    by_cases h2 : i < n <;> simp [h2]
  · simp only [h1, decide_false, if_false, Bool.false_eq_true]
    by_cases h2 : -(n : Int) ≤ i <;> simp [h2]
def rS (F : PySem.W.Frag) : R2 := fun x y H Q => ∃ K al h v w z, K.K = F ∧ RH K al h H ∧ RV K al H v x ∧ RV K al H w y ∧ subV v w h = some z ∧ ∀ u, RV K al H z u → Q u H
theorem ix_ok (hu : X.A.units + 1 < cLine) : IxR X (rS X.K) := by
  intro value slice pins s σ H x y v u Q I r1 r2 hq hs
  obtain ⟨K, al, h, a, b, z, eK, rh, ra, rb, e, q⟩ := hq
  unfold subV at e
  split at e
  · rename_i t ks vs ed
    split at e
    · rename_i kk ek
      obtain ⟨c, o, e1, g, m⟩ := dic_get rh ed ra ek rb
      subst e1
      rw [e] at m
      obtain ⟨w, eo, rw'⟩ := m
      subst eo
      obtain rfl : v = Value.ref c := r1
      exact subTail (dict_typeIs I g) PySem.F.slot_dict_getitem.lookup (d_getItem hu I g r2 fun w' s3 I3 rw2 => ⟨w, H, I3, rw2, q w rw'⟩) hs
    · cases e
  · split at e
    · rename_i k
      have ey := rb.int_of
      subst ey
      split at e
      · rename_i xs q1
        split at e
        · rename_i j q2
          obtain ⟨c, us, e1, sq, rs⟩ := items_of rh q1 ra
          subst e1
          obtain ⟨w, hw, rw'⟩ := rs.get e
          have hat : atI us k = some w := by
            unfold atI
            rw [← ixI_eq, ← rs.length, q2]
            exact hw
          rcases sq with sq | sq
          · exact ix_list value slice pins s σ H _ _ v u Q I r1 r2 ⟨c, us, k, w, rfl, rfl, eK ▸ sq, hat, q w rw'⟩ hs
          · exact ix_tup value slice pins s σ H _ _ v u Q I r1 r2 ⟨c, us, k, w, rfl, rfl, eK ▸ sq, hat, q w rw'⟩ hs
        · cases e
      · cases e
    · cases e
theorem slX_eq (n d : Nat) (x : Option Int) : slX n d x = HT.sIx n d x := by
  unfold slX HT.sIx
  cases x with
  | none => rfl
  | some v =>
    simp only
    by_cases h : v < 0 <;> simp [h]
theorem cut_eq (xs : List V) (lo hi : Option Int) : cutL xs lo hi = cutV xs lo hi := by
  unfold cutL cutV
  rw [slX_eq, slX_eq]
theorem RVs.cut {K : Cn} {al : List Addr} {H : Hp} {xs : List Val} {us : List V} (r : RVs K al H xs us) (lo hi : Option Int) : RVs K al H (cutL xs lo hi) (cutV us lo hi) := by
  rw [← cut_eq]
  unfold cutL
  rw [r.length]
  exact (r.drop _).take _
def rSl (F : PySem.W.Frag) (m : Bool) : V → Option Int → Option Int → Hp → VK → Prop := fun x lo hi H Q => ∃ K al h v, K.K = F ∧ RH K al h H ∧ RV K al H v x ∧ (slcV m v lo hi h).All (Pt K al h H Q)
theorem sl_ok (m : Bool) : SlR X (rSl X.K m) := by
  intro pins s σ H x v vl vu lo hi sl Q I r1 hs p1 p2 hq
  obtain ⟨K, al, h, a, eK, rh, ra, p⟩ := hq
  unfold slcV at p
  split at p
  · rename_i xs
    obtain ⟨c, us, e1, st, rs⟩ := ra.tup_of
    subst e1
    refine sl_tupD pins s σ H _ v vl vu lo hi sl Q I r1 hs p1 p2 ⟨c, us, rfl, eK ▸ st.sq, fun ⟨z1, z2⟩ => ?_, fun _ => Pt.tup p rh (rs.cut lo hi)⟩
    have e : cutL xs lo hi = xs := by
      unfold cutL
      rw [rs.length, slX_eq, slX_eq, z1, z2, List.drop_zero, Nat.sub_zero, ← rs.length, List.take_length]
    rw [e] at p
    exact Pt.here p rh ra
  · split at p
    · rename_i xs q1
      obtain ⟨c, us, e1, sq, rs⟩ := itemsL_of rh q1 ra
      subst e1
      exact sl_list pins s σ H _ v vl vu lo hi sl Q I r1 hs p1 p2 ⟨c, us, rfl, eK ▸ sq, fun q np => Pt.mk p rh (rs.cut lo hi) np⟩
    · exact p.elim

/-! ### o[i] = v -/
def rSet (F : PySem.W.Frag) : TSet := fun o i v H Q => ∃ K al h a b c, K.K = F ∧ RH K al h H ∧ RV K al H a o ∧ RV K al H b i ∧ RV K al H c v ∧ (setV a b c h).All fun h' => ∀ H', Ext al h H al h' H' → RH K al h' H' → Q H'
theorem set_ok (hu : X.A.units + 1 < cLine) : PSet X (rSet X.K) := by
  intro pins s σ H o i v ov iv u Q I r1 r2 r3 hq
  obtain ⟨K, al, h, a, b, c, eK, rh, ra, rb, rc, p⟩ := hq
  unfold setV at p
  split at p
  · rename_i l
    obtain ⟨d, e1, e2⟩ := ra.ref_of
    split at p
    · rename_i t ks vs q1
      split at p
      · rename_i k q2
        split at p
        · rename_i sm
          obtain ⟨us, hd, kk, rs, nk⟩ := rh.wd e2 q1
          have nf : ∀ od w, H d ≠ some (.frz od w) := fun od w z => by
            rw [hd] at z
            unfold dHO at z
            cases t <;> cases z
          obtain ⟨dp, kk'⟩ := dic_put (v := c) (w := v) hd kk rs q2 rb (small_lt sm)
          subst e1
          refine set_dict hu pins s σ H _ _ _ ov iv u Q I r1 r2 r3 ⟨d, _, rfl, dp, ?_⟩
          refine p _ (Ext.put rh e2 nf) (rh.put e2 ⟨putU ks us k v, ?_, kk', (put_rv rs rc).mono (Kp.put rh e2)⟩)
          rw [nk, if_neg Bool.false_ne_true]
          exact upd_same
        · exact p.elim
      · exact p.elim
    · split at p
      · rename_i k
        split at p
        · rename_i xs q1
          split at p
          · rename_i j q2
            have ei := rb.int_of
            subst e1 ei
            obtain ⟨us, hd, rs, nk⟩ := rh.wl e2 q1
            refine set_list pins s σ H _ _ _ ov iv u Q I r1 r2 r3 ⟨d, us, k, j, rfl, rfl, hd, by rw [← ixI_eq, ← rs.length]; exact q2, ?_⟩
            refine p _ (Ext.put rh e2 fun od w z => by rw [hd] at z; cases z) (rh.put e2 ⟨us.set j v, ?_, (rs.mono (Kp.put rh e2)).set (rc.mono (Kp.put rh e2))⟩)
            rw [nk, if_neg Bool.false_ne_true]
            exact upd_same
          · exact p.elim
        · exact p.elim
      · exact p.elim
  · exact p.elim
end
end Eng
/-! Built-ins and methods, by values. -/
namespace Eng
open PySem L2
section
variable {K : Cn} {al : List Addr} {H : Hp} {h : Hs}
theorem RVs.none_of {us : List V} (r : RVs K al H [] us) : us = [] := by simpa only [RVs] using r
theorem RVs.one_of {x : Val} {us : List V} (r : RVs K al H [x] us) : ∃ u, us = [u] ∧ RV K al H x u := by
  simp only [RVs] at r
  obtain ⟨u, r', e, h1, h2⟩ := r
  subst h2
  exact ⟨u, e, h1⟩
theorem RVs.two_of {x y : Val} {us : List V} (r : RVs K al H [x, y] us) : ∃ u w, us = [u, w] ∧ RV K al H x u ∧ RV K al H y w := by
  simp only [RVs] at r
  obtain ⟨u, r', e, h1, w, r2, e2, h2, h3⟩ := r
  subst h3 e2
  exact ⟨u, w, e, h1, h2⟩
theorem RVs.three_of {x y z : Val} {us : List V} (r : RVs K al H [x, y, z] us) : ∃ u w t, us = [u, w, t] ∧ RV K al H x u ∧ RV K al H y w ∧ RV K al H z t := by
  simp only [RVs] at r
  obtain ⟨u, r', e, h1, w, r2, e2, h2, t, r3, e3, h3, h4⟩ := r
  subst h4 e3 e2
  exact ⟨u, w, t, e, h1, h2, h3⟩
end

/-! ### sorting, the greatest, the least -/
theorem insI_perm (x : Int) : ∀ xs, (insI x xs).Perm (x :: xs)
  | [] => .refl _
  | y :: ys => by
    unfold insI
    split
    · exact .refl _
    · exact ((insI_perm x ys).cons y).trans (.swap x y ys)
theorem sortI_perm : ∀ xs, (sortI xs).Perm xs
  | [] => .refl _
  | x :: xs => (insI_perm x _).trans ((sortI_perm xs).cons x)
theorem insI_sorted (x : Int) : ∀ {xs : List Int}, xs.Pairwise (· ≤ ·) → (insI x xs).Pairwise (· ≤ ·)
  | [], _ => by simp [insI]
  | y :: ys, h => by
    unfold insI
    rw [List.pairwise_cons] at h
    split
    · rename_i q
      have q : x ≤ y := of_decide_eq_true q
      rw [List.pairwise_cons, List.pairwise_cons]
      refine ⟨fun z hz => ?_, h⟩
      rcases List.mem_cons.mp hz with e | e
      · rw [e]; exact q
      · exact Int.le_trans q (h.1 z e)
    · rename_i q
      have q : ¬ x ≤ y := fun z => q (decide_eq_true z)
      rw [List.pairwise_cons]
      refine ⟨fun z hz => ?_, insI_sorted x h.2⟩
      rcases List.mem_cons.mp ((insI_perm x ys).mem_iff.mp hz) with e | e
      · rw [e]; omega
      · exact h.1 z e
theorem sortI_sorted : ∀ xs, (sortI xs).Pairwise (· ≤ ·)
  | [] => .nil
  | x :: xs => insI_sorted x (sortI_sorted xs)
theorem sorted_one {xs ys : List Int} (p : xs.Perm ys) (h1 : xs.Pairwise (· ≤ ·)) (h2 : ys.Pairwise (· ≤ ·)) : xs = ys := by
  induction xs generalizing ys with
  | nil => exact (List.nil_perm.mp p).symm
  | cons x xs ih =>
    cases ys with
    | nil => exact absurd p.length_eq (by simp)
    | cons y ys =>
      rw [List.pairwise_cons] at h1 h2
      have e : x = y := by
        have m1 : x ∈ y :: ys := p.mem_iff.mp List.mem_cons_self
        have m2 : y ∈ x :: xs := p.mem_iff.mpr List.mem_cons_self
        rcases List.mem_cons.mp m1 with e | e
        · exact e
        · rcases List.mem_cons.mp m2 with e' | e'
          · exact e'.symm
          · have a := h1.1 y e'
            have b := h2.1 x e
            omega
      subst e
      rw [ih (List.Perm.cons_inv p) h1.2 h2.2]
theorem sortI_eq {xs ys : List Int} (p : ys.Perm xs) (h : ys.Pairwise (· ≤ ·)) : ys = sortI xs := sorted_one (p.trans (sortI_perm xs).symm) h (sortI_sorted xs)
theorem maxI_mem : ∀ (m : Int) (xs : List Int), maxI m xs ∈ m :: xs
  | m, [] => List.mem_cons_self
  | m, x :: xs => by
    unfold maxI
    have h := maxI_mem (if decide (m < x) then x else m) xs
    rcases List.mem_cons.mp h with e | e
    · rw [e]
      split
      · simp
      · simp
    · exact List.mem_cons_of_mem _ (List.mem_cons_of_mem _ e)
theorem maxI_le : ∀ (m : Int) (xs : List Int), ∀ y ∈ m :: xs, y ≤ maxI m xs
  | m, [], y, hy => by
    rw [List.mem_singleton] at hy
    rw [hy]
    exact Int.le_refl _
  | m, x :: xs, y, hy => by
    unfold maxI
    have h := maxI_le (if decide (m < x) then x else m) xs
    have h0 := h _ List.mem_cons_self
    rcases List.mem_cons.mp hy with e | hy
    · subst e
      split at h0 <;> rename_i q
      · have : y < x := of_decide_eq_true q
        simp only [q, if_true]
        omega
      · simp only [q, if_false, Bool.false_eq_true]
        exact h0
    · rcases List.mem_cons.mp hy with e | hy
      · subst e
        split at h0 <;> rename_i q
        · simp only [q, if_true]
          exact h0
        · have : ¬ m < y := fun z => q (decide_eq_true z)
          simp only [q, if_false, Bool.false_eq_true]
          omega
      · exact h y (List.mem_cons_of_mem _ hy)
theorem minI_mem : ∀ (m : Int) (xs : List Int), minI m xs ∈ m :: xs
  | m, [] => List.mem_cons_self
  | m, x :: xs => by
    unfold minI
    have h := minI_mem (if decide (x < m) then x else m) xs
    rcases List.mem_cons.mp h with e | e
    · rw [e]
      split
      · simp
      · simp
    · exact List.mem_cons_of_mem _ (List.mem_cons_of_mem _ e)
theorem minI_le : ∀ (m : Int) (xs : List Int), ∀ y ∈ m :: xs, minI m xs ≤ y
  | m, [], y, hy => by
    rw [List.mem_singleton] at hy
    rw [hy]
    exact Int.le_refl _
  | m, x :: xs, y, hy => by
    unfold minI
    have h := minI_le (if decide (x < m) then x else m) xs
    have h0 := h _ List.mem_cons_self
    rcases List.mem_cons.mp hy with e | hy
    · subst e
      split at h0 <;> rename_i q
      · have : x < y := of_decide_eq_true q
        simp only [q, if_true]
        omega
      · simp only [q, if_false, Bool.false_eq_true]
        exact h0
    · rcases List.mem_cons.mp hy with e | hy
      · subst e
        split at h0 <;> rename_i q
        · simp only [q, if_true]
          exact h0
        · have : ¬ y < m := fun z => q (decide_eq_true z)
          simp only [q, if_false, Bool.false_eq_true]
          omega
      · exact h y (List.mem_cons_of_mem _ hy)
theorem max_one {ns : List Int} {m m' : Int} (h1 : m ∈ ns) (h2 : ∀ y ∈ ns, y ≤ m) (h3 : m' ∈ ns) (h4 : ∀ y ∈ ns, y ≤ m') : m = m' := by
  have a := h2 _ h3
  have b := h4 _ h1
  omega
theorem min_one {ns : List Int} {m m' : Int} (h1 : m ∈ ns) (h2 : ∀ y ∈ ns, m ≤ y) (h3 : m' ∈ ns) (h4 : ∀ y ∈ ns, m' ≤ y) : m = m' := by
  have a := h2 _ h3
  have b := h4 _ h1
  omega

/-! tuples by their codes -/
theorem codeT_eq : ∀ ns, codeT ns = TS.code 1048576 ns
  | [] => rfl
  | d :: r => by
    show d * 1048576 ^ r.length + codeT r = d * 1048576 ^ r.length + TS.code 1048576 r
    rw [codeT_eq r]
theorem code_inj {B : Int} : ∀ {ns ms : List Int}, ns.length = ms.length → TS.Bd B ns → TS.Bd B ms → TS.code B ns = TS.code B ms → ns = ms
  | [], [], _, _, _, _ => rfl
  | [], _ :: _, h, _, _, _ => by simp at h
  | _ :: _, [], h, _, _, _ => by simp at h
  | d :: r, e :: q, h, h1, h2, hc => by
    have hl : r.length = q.length := by simpa using h
    rcases Int.lt_trichotomy d e with z | z | z
    · have := TS.code_lt hl h1.tail h2.tail z
      omega
    · subst z
      have : TS.code B r = TS.code B q := by
        have e1 : d * B ^ r.length + TS.code B r = d * B ^ q.length + TS.code B q := hc
        rw [hl] at e1
        omega
      rw [code_inj hl h1.tail h2.tail this]
    · have := TS.code_lt hl.symm h2.tail h1.tail z
      omega
theorem insT_perm (x : List Int) : ∀ xs, (insT x xs).Perm (x :: xs)
  | [] => .refl _
  | y :: ys => by
    unfold insT
    split
    · exact .refl _
    · exact ((insT_perm x ys).cons y).trans (.swap x y ys)
theorem sortT_perm : ∀ xs, (sortT xs).Perm xs
  | [] => .refl _
  | x :: xs => (insT_perm x _).trans ((sortT_perm xs).cons x)
theorem insT_sorted (x : List Int) : ∀ {xs : List (List Int)}, xs.Pairwise (fun a b => codeT a ≤ codeT b) → (insT x xs).Pairwise (fun a b => codeT a ≤ codeT b)
  | [], _ => by simp [insT]
  | y :: ys, h => by
    unfold insT
    rw [List.pairwise_cons] at h
    split
    · rename_i q
      have q : codeT x ≤ codeT y := of_decide_eq_true q
      rw [List.pairwise_cons, List.pairwise_cons]
      refine ⟨fun z hz => ?_, h⟩
      rcases List.mem_cons.mp hz with e | e
      · rw [e]; exact q
      · exact Int.le_trans q (h.1 z e)
    · rename_i q
      have q : ¬ codeT x ≤ codeT y := fun z => q (decide_eq_true z)
      rw [List.pairwise_cons]
      refine ⟨fun z hz => ?_, insT_sorted x h.2⟩
      rcases List.mem_cons.mp ((insT_perm x ys).mem_iff.mp hz) with e | e
      · rw [e]; omega
      · exact h.1 z e
theorem sortT_sorted : ∀ xs, (sortT xs).Pairwise (fun a b => codeT a ≤ codeT b)
  | [] => .nil
  | x :: xs => insT_sorted x (sortT_sorted xs)
theorem sortedT_one {xs ys : List (List Int)} (p : xs.Perm ys) (inj : ∀ a ∈ xs, ∀ b ∈ xs, codeT a = codeT b → a = b) (h1 : xs.Pairwise (fun a b => codeT a ≤ codeT b)) (h2 : ys.Pairwise (fun a b => codeT a ≤ codeT b)) : xs = ys := by
  induction xs generalizing ys with
  | nil => exact (List.nil_perm.mp p).symm
  | cons x xs ih =>
    cases ys with
    | nil => exact absurd p.length_eq (by simp)
    | cons y ys =>
      rw [List.pairwise_cons] at h1 h2
      have e : x = y := by
        have m1 : x ∈ y :: ys := p.mem_iff.mp List.mem_cons_self
        have m2 : y ∈ x :: xs := p.mem_iff.mpr List.mem_cons_self
        rcases List.mem_cons.mp m1 with e | e
        · exact e
        · rcases List.mem_cons.mp m2 with e' | e'
          · exact e'.symm
          · have a := h1.1 y e'
            have b := h2.1 x e
            exact inj x List.mem_cons_self y m2 (by omega)
      subst e
      rw [ih (List.Perm.cons_inv p) (fun a ha b hb => inj a (List.mem_cons_of_mem _ ha) b (List.mem_cons_of_mem _ hb)) h1.2 h2.2]
theorem RVs.perm {K : Cn} {al : List Addr} {H : Hp} {us ys : List V} (p : ys.Perm us) : ∀ {xs : List Val}, RVs K al H xs us → ∃ zs, zs.Perm xs ∧ RVs K al H zs ys := by
  induction p with
  | nil => exact fun r => ⟨_, .refl _, r⟩
  | cons u p ih =>
    intro xs r
    cases xs with
    | nil => simp only [RVs] at r; cases r
    | cons x xs =>
      simp only [RVs] at r
      obtain ⟨u', r', e, h1, h2⟩ := r
      cases e
      obtain ⟨zs, p1, p2⟩ := ih h2
      exact ⟨x :: zs, p1.cons x, .cons h1 p2⟩
  | swap a b l =>
    intro xs r
    match xs, r with
    | x :: y :: xs, r =>
      simp only [RVs] at r
      obtain ⟨u', r', e, h1, w, r2, e2, h2, h3⟩ := r
      cases e2
      cases e
      exact ⟨y :: x :: xs, .swap x y xs, .cons h2 (.cons h1 h3)⟩
    | [], r => simp only [RVs] at r; cases r
    | [x], r =>
      simp only [RVs] at r
      obtain ⟨u', r', e, h1, h2⟩ := r
      subst h2
      cases e
  | trans _ _ ih1 ih2 =>
    intro xs r
    obtain ⟨zs, p1, r1⟩ := ih2 r
    obtain ⟨ws, p2, r2⟩ := ih1 r1
    exact ⟨ws, p2.trans p1, r2⟩
theorem tupI_of {v : Val} {ns : List Int} (e : tupI v = some ns) : v = .tup (ns.map .int) := by
  cases v with
  | tup xs =>
    have key : ∀ {xs : List Val} {ns : List Int}, optAll vint xs = some ns → xs = ns.map Val.int := by
      intro xs
      induction xs with
      | nil => intro ns h; cases h; rfl
      | cons x xs ih =>
        intro ns h
        unfold optAll at h
        cases q : vint x with
        | none => rw [q] at h; cases h
        | some i =>
          rw [q] at h
          simp only at h
          cases q2 : optAll vint xs with
          | none => rw [q2] at h; cases h
          | some is =>
            rw [q2] at h
            simp only at h
            cases h
            cases x <;> simp only [vint, Option.some.injEq, reduceCtorEq] at q
            subst q
            rw [ih q2]
            rfl
    rw [key e]
  | _ => cases e
theorem tupIs_of : ∀ {xs : List Val} {nss : List (List Int)}, optAll tupI xs = some nss → xs = nss.map fun ns => .tup (ns.map .int)
  | [], nss, h => by cases h; rfl
  | x :: xs, nss, h => by
    unfold optAll at h
    cases q : tupI x with
    | none => rw [q] at h; cases h
    | some i =>
      rw [q] at h
      simp only at h
      cases q2 : optAll tupI xs with
      | none => rw [q2] at h; cases h
      | some is =>
        rw [q2] at h
        simp only at h
        cases h
        rw [tupI_of q, tupIs_of q2]
        rfl
theorem bdT_of {d : Nat} {ns : List Int} (h : bdT d ns = true) : ns.length = d ∧ TS.Bd 1048576 ns := by
  unfold bdT at h
  rw [Bool.and_eq_true, beq_iff_eq, List.all_eq_true] at h
  refine ⟨h.1, fun m hm => ?_⟩
  have := h.2 m hm
  rw [Bool.and_eq_true, decide_eq_true_eq, decide_eq_true_eq] at this
  exact this
/-- tuples, each a value's, in an order -/
theorem zs_of {zs : List Val} {nss : List (List Int)} (p : zs.Perm (nss.map fun ns => .tup (ns.map .int))) : ∃ mss : List (List Int), mss.Perm nss ∧ zs = mss.map fun ns => .tup (ns.map .int) := by
  generalize hw : nss.map (fun ns => Val.tup (ns.map .int)) = ws at p
  induction p generalizing nss with
  | nil => exact ⟨[], by cases nss with | nil => exact .refl _ | cons _ _ => simp at hw, rfl⟩
  | cons u p ih =>
    cases nss with
    | nil => simp at hw
    | cons n nss =>
      simp only [List.map_cons, List.cons.injEq] at hw
      obtain ⟨mss, p1, e1⟩ := ih hw.2
      exact ⟨n :: mss, p1.cons n, by rw [List.map_cons, e1, hw.1]⟩
  | swap a b l =>
    match nss, hw with
    | n :: m :: nss, hw =>
      simp only [List.map_cons, List.cons.injEq] at hw
      exact ⟨m :: n :: nss, .swap n m nss, by simp only [List.map_cons, hw.1, hw.2.1, hw.2.2]⟩
    | [], hw => simp at hw
    | [n], hw => simp at hw
  | trans _ _ ih1 ih2 =>
    obtain ⟨mss, p1, e1⟩ := ih2 hw
    obtain ⟨kss, p2, e2⟩ := ih1 e1.symm
    exact ⟨kss, p2.trans p1, e2⟩
theorem atomV_rv {K : Cn} {al : List Addr} {H : Hp} : ∀ k, RV K al H (kVal k) (kV k)
  | .inl i => RV.int i
  | .inr x => RV.str x
theorem atomVs_rv {K : Cn} {al : List Addr} {H : Hp} : ∀ k : List L2.Key, RVs K al H (k.map kVal) (k.map kV)
  | [] => .nil
  | a :: k => .cons (atomV_rv a) (atomVs_rv k)
theorem keysK_rv {K : Cn} {al : List Addr} {H : Hp} : ∀ {ks : List (List L2.Key)} {ws : List V}, (∀ k ∈ ks, ∃ a, k = [a]) → ks.length = ws.length → RVs K al H (ks.map (keyV false)) (((ks.map hk).zip ws).map fun kv => kV kv.1)
  | [], ws, _, _ => .nil
  | k :: ks, [], _, l => by simp at l
  | k :: ks, w :: ws, one, l => by
    obtain ⟨a, e⟩ := one k List.mem_cons_self
    subst e
    exact .cons (atomV_rv a) (keysK_rv (fun k' m => one k' (List.mem_cons_of_mem _ m)) (by simpa using l))
theorem keysT_rv {K : Cn} {al : List Addr} {h : Hs} {H : Hp} (rh : RH K al h H) : ∀ {ks : List (List L2.Key)} {ws : List V} {bs : List Addr}, (∀ k ∈ ks, k ≠ []) → ks.length = ws.length → IsKeys H (ks.zip ws) bs → RVs K al H (ks.map (keyV true)) (bs.map V.ref)
  | [], ws, bs, _, _, ik => by
    cases ik
    exact .nil
  | k :: ks, [], _, _, l, _ => by simp at l
  | k :: ks, w :: ws, bs, ne, l, ik => by
    rw [List.zip_cons_cons] at ik
    cases ik with
    | cons hp ht =>
      refine .cons ?_ (keysT_rv rh (fun k' m => ne k' (List.mem_cons_of_mem _ m)) (by simpa using l) ht)
      have f : fne (k.map kV) = true := fne_of (fun z => ne k List.mem_cons_self (List.map_eq_nil_iff.mp z)) (List.all_eq_true.mpr fun u hu => by
        obtain ⟨c, _, rfl⟩ := List.mem_map.mp hu
        cases c <;> rfl)
      simp only [keyV, RV]
      refine ⟨_, k.map kV, rfl, .inl ⟨{ cls := .none, data := .fields #[] }, rfl, ?_, rh.ntup hp⟩, atomVs_rv k⟩
      unfold tcl
      rw [f]
      exact hp
def rB (F : PySem.W.Frag) (b : Bi) (m : Bool) : List V → Hp → VK → Prop := fun xs H Q => ∃ K al h vs, K.K = F ∧ RH K al h H ∧ RVs K al H vs xs ∧ (biV b m vs h).All (Pt K al h H Q)
/-- the built-in behind a name -/
def pyBi : Bi → Value
  | .len => .builtin "len" | .abs => .builtin "abs" | .max2 => .builtin "max" | .min2 => .builtin "min" | .int => .type "int" | .bool => .type "bool" | .sum => .builtin "sum"
  | .maxl => .builtin "max" | .minl => .builtin "min" | .any => .builtin "any" | .all => .builtin "all" | .sorted => .builtin "sorted" | .tuple => .type "tuple" | .list => .type "list" | .dict1 => .type "dict"
theorem StT.tk {K : Cn} {al : List Addr} {H : Hp} {a : Addr} {us : List V} (st : StT K al H a us) (f : fne us = false) : TupK K.K H a us := by
  rcases st with ⟨o, hd, q⟩ | ⟨_, q⟩
  · have q := q.1
    unfold tcl at q
    rw [f] at q
    exact .inl ⟨o, q, hd⟩
  · exact .inr q
theorem pairK_ok {K : Cn} {al : List Addr} {H : Hp} : ∀ {xs : List Val} {us : List V} {ps : List (List L2.Key × Val)}, pairK xs = some ps → RVs K al H xs us →
    ∃ kvs : List (L2.Key × V), Paired (fun u kv => ∃ p, u = V.ref p ∧ SqT K.K H p [kV kv.1, kv.2]) us kvs ∧ ps.map (·.1) = kvs.map (fun kv => [kv.1]) ∧ RVs K al H (ps.map (·.2)) (kvs.map (·.2)) ∧ fne us = false
  | [], us, ps, e, r => by
    cases e
    simp only [RVs] at r
    subst r
    exact ⟨[], .nil, rfl, .nil, rfl⟩
  | x :: xs, us, ps, e, r => by
    simp only [RVs] at r
    obtain ⟨u, w, eu, r1, r2⟩ := r
    subst eu
    unfold pairK at e
    split at e
    · rename_i h; cases h
    · rename_i k v r' h
      cases h
      split at e
      · rename_i a q e1 e2
        cases e
        obtain ⟨kvs, p1, p2, p3, p4⟩ := pairK_ok e2 r2
        obtain ⟨t, ws, et, st, rs⟩ := r1.tup_of
        subst et
        obtain ⟨uk, uv, ew, rk, rv⟩ := rs.two_of
        subst ew
        have ek := atom_of e1 rk
        subst ek
        exact ⟨(a, uv) :: kvs, .cons ⟨t, rfl, st.sq⟩ p1, by simp [p2], .cons rv p3, rfl⟩
      · cases e
    · cases e
theorem dFill_ok {K : Cn} {al : List Addr} {H : Hp} : ∀ {ps : List (List L2.Key × Val)} {kvs : List (L2.Key × V)} {ks : List (List L2.Key)} {vs : List Val} {us : List V}, ps.map (·.1) = kvs.map (fun kv => [kv.1]) → RVs K al H (ps.map (·.2)) (kvs.map (·.2)) → KOk false ks vs.length → RVs K al H vs us →
    ∃ us', mergeK ((ks.map hk).zip us) kvs = ((dFill ps ks vs).1.map hk).zip us' ∧ KOk false (dFill ps ks vs).1 (dFill ps ks vs).2.length ∧ RVs K al H (dFill ps ks vs).2 us'
  | [], [], ks, vs, us, _, _, kk, rs => ⟨us, rfl, kk, rs⟩
  | [], _ :: _, _, _, _, e, _, _, _ => by simp at e
  | _ :: _, [], _, _, _, e, _, _, _ => by simp at e
  | (k, v) :: ps, (c, w) :: kvs, ks, vs, us, e, r, kk, rs => by
    simp only [List.map_cons, List.cons.injEq] at e
    obtain ⟨e1, e2⟩ := e
    have e1 : k = [c] := e1
    subst e1
    have r : RVs K al H (v :: ps.map (·.2)) (w :: kvs.map (·.2)) := r
    simp only [RVs] at r
    obtain ⟨u, q, eu, r1, r2⟩ := r
    cases eu
    have ki : keyOf false (kVal c) = some [c] := by cases c <;> rfl
    obtain ⟨c', ec, ez⟩ := putK_zip (K := K) (al := al) (H := H) (w := w) (v := v) (vs := vs) (kk.len.trans rs.length) (kk.one rfl) ki (atomV_rv c)
    have ec : c = c' := by cases c <;> cases c' <;> cases ec <;> rfl
    subst ec
    obtain ⟨us', f1, f2, f3⟩ := dFill_ok e2 r2 (dPut_ok (v := v) kk ki) (put_rv (k := [c]) rs r1)
    refine ⟨us', ?_, f2, f3⟩
    show mergeK (putK ((ks.map hk).zip us) c w) kvs = _
    rw [ez]
    exact f1
theorem Pt.dct {K : Cn} {al : List Addr} {h : Hs} {H : Hp} {Q : V → Hp → Prop} {ks : List (List L2.Key)} {vs : List Val} {us : List V} {p : Addr} (q : Pt K al h H Q (.ref h.n, h.new (.dct false ks vs))) (r : RH K al h H) (kk : KOk false ks vs.length) (rv : RVs K al H vs us) (np : H p = none) : Q (.ref p) (upd H p (.dK ((ks.map hk).zip us))) := by
  refine q (al ++ [p]) _ _ (Ext.new r np) (r.new np ⟨us, ?_, kk, rv.mono (Kp.new r np)⟩) ?_
  · split
    · rename_i z
      exact absurd (r.lkb _ z) (Nat.lt_irrefl _)
    · exact upd_same
  · simp only [RV]
    refine ⟨p, rfl, ?_⟩
    rw [List.getElem?_append_right (by rw [r.len]; exact Nat.le_refl _), r.len]
    simp
theorem keyI_ok : ∀ {ks : List (List L2.Key)} {ns : List Int}, optAll keyI ks = some ns → ks.map hk = ns.map Sum.inl
  | [], ns, e => by cases e; rfl
  | k :: ks, ns, e => by
    unfold optAll at e
    cases q : keyI k with
    | none => rw [q] at e; cases e
    | some i =>
      rw [q] at e
      simp only at e
      cases q2 : optAll keyI ks with
      | none => rw [q2] at e; cases e
      | some ms =>
        rw [q2] at e
        cases e
        rw [List.map_cons, List.map_cons, keyI_ok q2]
        unfold keyI at q
        split at q
        · cases q; rfl
        · cases q
section
variable {X : Cx}
theorem bi_ok (hc : X.calm = true) (b : Bi) (m : Bool) : CallR X (pyBi b) (rB X.K b m) := by
  intro pins s σ H xs us Q I r1 hq
  obtain ⟨K, al, h, vs, eK, rh, rs, p⟩ := hq
  unfold biV at p
  split at p
  · -- len
    obtain ⟨u, e, ru⟩ := rs.one_of
    subst e
    split at p
    · rename_i q1
      obtain ⟨a, ws, e1, sq, rw'⟩ := items_of rh q1 ru
      subst e1
      rw [rw'.length] at p
      exact call_len_seq pins s σ H _ us Q I r1 ⟨a, ws, rfl, eK ▸ sq, Pt.here p rh (.int _)⟩
    · split at p
      · rename_i t ks vs q2
        split at p
        · rename_i q3
          obtain ⟨a, ws, e1, hd, kk, rs'⟩ := dic_free rh q2 q3 ru
          subst e1
          have hl := kk.len.trans rs'.length
          cases t with
          | false =>
            refine call_lenD pins s σ H _ us Q I r1 ⟨a, _, rfl, hd, ?_⟩
            rw [List.length_zip, List.length_map, ← hl, Nat.min_self]
            exact Pt.here p rh (.int _)
          | true =>
            refine call_len_dT pins s σ H _ us Q I r1 ⟨a, _, rfl, hd, ?_⟩
            rw [List.length_zip, ← hl, Nat.min_self]
            exact Pt.here p rh (.int _)
        · exact p.elim
      · exact p.elim
  · obtain ⟨u, e, ru⟩ := rs.one_of
    rw [ru.int_of] at e
    subst e
    refine call_abs pins s σ H _ us Q I r1 ⟨_, rfl, ?_⟩
    have z := Pt.here p rh (.int _)
    simpa using z
  · obtain ⟨u, w, e, ru, rw'⟩ := rs.two_of
    rw [ru.int_of, rw'.int_of] at e
    subst e
    refine call_max2 hc pins s σ H _ us Q I r1 ⟨_, _, rfl, ?_⟩
    have z := Pt.here p rh (.int _)
    simpa using z
  · obtain ⟨u, w, e, ru, rw'⟩ := rs.two_of
    rw [ru.int_of, rw'.int_of] at e
    subst e
    refine call_min2 hc pins s σ H _ us Q I r1 ⟨_, _, rfl, ?_⟩
    have z := Pt.here p rh (.int _)
    simpa using z
  · obtain ⟨u, e, ru⟩ := rs.one_of
    rw [ru.int_of] at e
    subst e
    exact call_int1 pins s σ H _ us Q I r1 (.inl ⟨_, rfl, Pt.here p rh (.int _)⟩)
  · obtain ⟨u, e, ru⟩ := rs.one_of
    rw [ru.bl_of] at e
    subst e
    exact call_int1 pins s σ H _ us Q I r1 (.inr ⟨_, rfl, Pt.here p rh (.int _)⟩)
  · obtain ⟨u, e, ru⟩ := rs.one_of
    rw [ru.int_of] at e
    subst e
    exact call_bool1 pins s σ H _ us Q I r1 (.inl ⟨_, rfl, Pt.here p rh (.bl _)⟩)
  · obtain ⟨u, e, ru⟩ := rs.one_of
    rw [ru.bl_of] at e
    subst e
    exact call_bool1 pins s σ H _ us Q I r1 (.inr ⟨_, rfl, Pt.here p rh (.bl _)⟩)
  · -- sum
    obtain ⟨u, e, ru⟩ := rs.one_of
    subst e
    split at p
    · rename_i q1
      split at p
      · rename_i ns q2
        obtain ⟨a, ws, e1, sq, rw'⟩ := itemsL_of rh q1 ru
        subst e1
        obtain ⟨z1, z2⟩ := rw'.vints q2
        subst z1
        exact cr_sum hc pins s σ H _ us Q I r1 ⟨a, ns, rfl, eK ▸ sq, Pt.here p rh (.int _)⟩
      · exact p.elim
    · exact p.elim
  · -- max
    obtain ⟨u, e, ru⟩ := rs.one_of
    subst e
    split at p
    · rename_i q1
      split at p
      · rename_i n ns q2
        obtain ⟨a, ws, e1, sq, rw'⟩ := itemsL_of rh q1 ru
        subst e1
        obtain ⟨z1, z2⟩ := rw'.vints q2
        subst z1
        refine cr_max hc pins s σ H _ us Q I r1 ⟨a, n :: ns, rfl, eK ▸ sq, by simp, fun k h1 h2 => ?_⟩
        rw [max_one h1 h2 (maxI_mem n ns) (maxI_le n ns)]
        exact Pt.here p rh (.int _)
      · exact p.elim
    · exact p.elim
  · obtain ⟨u, e, ru⟩ := rs.one_of
    subst e
    split at p
    · rename_i q1
      split at p
      · rename_i n ns q2
        obtain ⟨a, ws, e1, sq, rw'⟩ := itemsL_of rh q1 ru
        subst e1
        obtain ⟨z1, z2⟩ := rw'.vints q2
        subst z1
        refine cr_min hc pins s σ H _ us Q I r1 ⟨a, n :: ns, rfl, eK ▸ sq, by simp, fun k h1 h2 => ?_⟩
        rw [min_one h1 h2 (minI_mem n ns) (minI_le n ns)]
        exact Pt.here p rh (.int _)
      · exact p.elim
    · exact p.elim
  · -- any
    obtain ⟨u, e, ru⟩ := rs.one_of
    subst e
    split at p
    · rename_i q1
      split at p
      · rename_i bs q2
        obtain ⟨a, ws, e1, sq, rw'⟩ := itemsL_of rh q1 ru
        subst e1
        have z1 := rw'.vbls q2
        subst z1
        exact cr_any hc pins s σ H _ us Q I r1 ⟨a, bs, rfl, eK ▸ sq, Pt.here p rh (.bl _)⟩
      · exact p.elim
    · exact p.elim
  · obtain ⟨u, e, ru⟩ := rs.one_of
    subst e
    split at p
    · rename_i q1
      split at p
      · rename_i bs q2
        obtain ⟨a, ws, e1, sq, rw'⟩ := itemsL_of rh q1 ru
        subst e1
        have z1 := rw'.vbls q2
        subst z1
        exact cr_all hc pins s σ H _ us Q I r1 ⟨a, bs, rfl, eK ▸ sq, Pt.here p rh (.bl _)⟩
      · exact p.elim
    · exact p.elim
  · -- sorted
    obtain ⟨u, e, ru⟩ := rs.one_of
    subst e
    split at p
    · rename_i q1
      obtain ⟨a, ws, e1, sq, rw'⟩ := itemsL_of rh q1 ru
      subst e1
      unfold sortedV at p
      split at p
      · rename_i ns q2
        obtain ⟨z1, z2⟩ := rw'.vints q2
        subst z1
        refine cr_sortedI pins s σ H _ us Q I r1 ⟨a, ns, rfl, eK ▸ sq, fun ns' p' pm so np => ?_⟩
        rw [sortI_eq pm so]
        exact Pt.mk p rh (RVs.ints _) np
      · split at p
        · rename_i n nss q2
          split at p
          · rename_i q3
            rw [Bool.and_eq_true, Bool.and_eq_true, Nat.blt_eq, decide_eq_true_eq, List.all_eq_true] at q3
            have ex := tupIs_of q2
            rw [ex] at rw'
            have hx : ∀ x ∈ ws, ∃ ns, TupI X.K H x ns ∧ ns.length = n.length ∧ TS.Bd 1048576 ns := fun x hx => by
              obtain ⟨i, hi⟩ := List.getElem?_of_mem hx
              have hlt := (List.getElem?_eq_some_iff.mp hi).1
              rw [← rw'.length] at hlt
              obtain ⟨v, hv⟩ : ∃ v, ((n :: nss).map fun ns => Val.tup (ns.map .int))[i]? = some v := ⟨_, List.getElem?_eq_getElem hlt⟩
              have rv := rw'.at hv hi
              rw [List.getElem?_map, Option.map_eq_some_iff] at hv
              obtain ⟨m, hm, ev⟩ := hv
              subst ev
              obtain ⟨b1, b2⟩ := bdT_of (q3.2 m (List.mem_of_getElem? hm))
              obtain ⟨t, us', et, st, rs'⟩ := rv.tup_of
              have : us' = m.map V.int := (rs'.vints (ns := m) (by
                clear hm rs' st b1 b2 rv
                induction m with
                | nil => rfl
                | cons i m ih => simp [optAll, vint, ih])).1
              subst this
              exact ⟨m, ⟨t, et, eK ▸ st.sq⟩, b1, b2⟩
            refine cr_sortT (d := n.length) (B := 1048576) q3.1.2 pins s σ H _ us Q I r1 ⟨a, ws, rfl, eK ▸ sq, by rw [← rw'.length, ← ex]; exact q3.1.1, hx, fun ys p' pm so np => ?_⟩
            obtain ⟨zs, pz, rz⟩ := RVs.perm pm rw'
            obtain ⟨mss, pms, ez⟩ := zs_of pz
            have bd : ∀ m ∈ n :: nss, m.length = n.length ∧ TS.Bd 1048576 m := fun m hm => bdT_of (q3.2 m hm)
            have so' : mss.Pairwise (fun a b => codeT a ≤ codeT b) := by
              rw [List.pairwise_iff_getElem] at so ⊢
              intro i j hi hj hij
              have hl : mss.length = ys.length := by rw [← rz.length, ez, List.length_map]
              have get : ∀ (i : Nat) (hi : i < mss.length), TupI X.K H (ys[i]'(hl ▸ hi)) mss[i] := fun i hi => by
                have h1 : zs[i]? = some (Val.tup (mss[i].map .int)) := by
                  rw [ez, List.getElem?_map, List.getElem?_eq_getElem hi]
                  rfl
                have rv := rz.at h1 (List.getElem?_eq_getElem (hl ▸ hi))
                obtain ⟨t, us', et, st, rs'⟩ := rv.tup_of
                have : us' = mss[i].map V.int := (rs'.vints (ns := mss[i]) (by
                  generalize mss[i] = m
                  induction m with
                  | nil => rfl
                  | cons i m ih => simp [optAll, vint, ih])).1
                subst this
                exact ⟨t, et, eK ▸ st.sq⟩
              have := so i j (hl ▸ hi) (hl ▸ hj) hij mss[i] mss[j] (get i hi) (get j hj)
              rw [codeT_eq, codeT_eq]
              exact this
            have inj : ∀ a ∈ mss, ∀ b ∈ mss, codeT a = codeT b → a = b := fun a ha b hb hc => by
              obtain ⟨l1, b1⟩ := bd a (pms.mem_iff.mp ha)
              obtain ⟨l2, b2⟩ := bd b (pms.mem_iff.mp hb)
              rw [codeT_eq, codeT_eq] at hc
              exact code_inj (l1.trans l2.symm) b1 b2 hc
            have em := sortedT_one (pms.trans (sortT_perm (n :: nss)).symm) inj so' (sortT_sorted _)
            rw [← em, ← ez] at p
            exact Pt.mk p rh rz np
          · exact p.elim
        · exact p.elim
    · split at p
      · obtain ⟨a, ws, e1, st, rw'⟩ := ru.tup_of
        subst e1
        split at p
        · rename_i ns q2
          obtain ⟨z1, z2⟩ := rw'.vints q2
          subst z1
          refine cr_sortedIT pins s σ H _ us Q I r1 ⟨a, ns, rfl, eK ▸ st.sq, fun ns' p' pm so np => ?_⟩
          rw [sortI_eq pm so]
          exact Pt.mk p rh (RVs.ints _) np
        · exact p.elim
      · split at p
        · rename_i q3
          split at p
          · rename_i ns q2
            split at p
            · rename_i hl
              obtain ⟨a, us', e1, rd, kk, rs'⟩ := dic_of rh q3 ru
              subst e1
              have ek := keyI_ok q2
              have l1 : ns.length = us'.length := by
                have := congrArg List.length ek
                rw [List.length_map, List.length_map] at this
                rw [← this, kk.len, rs'.length]
              have l0 : (ns.map (Sum.inl : Int → L2.Key)).length = us'.length := by rw [List.length_map]; exact l1
              refine call_sortedDI hc pins s σ H _ us Q I r1 ⟨a, _, ns, rfl, rd, ?_, Nat.le_of_ble_eq_true hl, fun ys p' pm so np => ?_⟩
              · rw [ek]
                exact List.map_fst_zip (Nat.le_of_eq l0)
              · rw [sortI_eq pm so]
                exact Pt.mk p rh (RVs.ints _) np
            · exact p.elim
          · exact p.elim
        · exact p.elim
  · -- dict
    obtain ⟨u, e, ru⟩ := rs.one_of
    subst e
    unfold dictV at p
    split at p
    · split at p
      · rename_i ps q1
        obtain ⟨a, ws, e1, st, rw'⟩ := ru.tup_of
        subst e1
        obtain ⟨kvs, p1, p2, p3, p4⟩ := pairK_ok q1 rw'
        obtain ⟨us', f1, f2, f3⟩ := dFill_ok (K := K) (al := al) (H := H) (ks := []) (vs := []) (us := []) p2 p3 ⟨rfl, fun _ _ m => absurd m (List.not_mem_nil), fun _ m => absurd m (List.not_mem_nil)⟩ .nil
        have tk := st.tk p4
        rw [eK] at tk p1
        refine call_dictT hc pins s σ H _ us Q I r1 ⟨a, ws, kvs, rfl, tk, p1, fun p' np => ?_⟩
        have f1 : mergeK [] kvs = _ := f1
        rw [f1]
        exact Pt.dct p rh f2 f3 np
      · exact p.elim
    · split at p
      · rename_i q3
        obtain ⟨a, us', e1, rd, kk, rs'⟩ := dic_of rh q3 ru
        subst e1
        obtain ⟨u', eu, rx⟩ := vals1 r1
        subst eu
        cases rx
        exact d_copyOf I rd fun p' s' np I' => ⟨.ref p', _, I', rfl, Pt.dct p rh kk rs' np⟩
      · exact p.elim
  · -- tuple
    obtain ⟨u, e, ru⟩ := rs.one_of
    subst e
    split at p
    · obtain ⟨a, ws, e1, st, rw'⟩ := ru.tup_of
      subst e1
      exact call_tupD pins s σ H _ us Q I r1 ⟨a, ws, rfl, .inr ⟨eK ▸ st.sq, Pt.here p rh ru⟩⟩
    · split at p
      · rename_i q1
        obtain ⟨a, ws, e1, sq, rw'⟩ := itemsL_of rh q1 ru
        subst e1
        exact call_tupD pins s σ H _ us Q I r1 ⟨a, ws, rfl, .inl ⟨eK ▸ sq, Pt.tup p rh rw'⟩⟩
      · exact p.elim
  · -- list
    obtain ⟨u, e, ru⟩ := rs.one_of
    subst e
    split at p
    · obtain ⟨a, ns, e1, st, hl⟩ := ru.scr_of
      subst e1
      refine call_list_of pins s σ H _ us Q I r1 ⟨a, _, rfl, .inl (eK ▸ st.sq), fun l np => ?_⟩
      refine p al _ _ (Ext.freeU rh np) (rh.freeU np) ?_
      simp only [RV]
      exact ⟨l, ns, rfl, .inl ⟨.inl upd_same, rh.free np, rh.nfb np⟩, hl⟩
    · split at p
      · rename_i q1
        obtain ⟨a, ws, e1, sq, rw'⟩ := items_of rh q1 ru
        subst e1
        exact call_list_of pins s σ H _ us Q I r1 ⟨a, ws, rfl, eK ▸ sq, fun l np => Pt.mk p rh rw' np⟩
      · split at p
        · rename_i t ks vs q2
          split at p
          · rename_i q3
            obtain ⟨a, ws, e1, hd, kk, rs'⟩ := dic_free rh q2 q3 ru
            subst e1
            have hl := kk.len.trans rs'.length
            cases t with
            | false => exact call_list_dK hc pins s σ H _ us Q I r1 ⟨a, _, rfl, hd, fun l np => Pt.mk p rh (keysK_rv (kk.one rfl) hl) np⟩
            | true => exact call_list_dT hc pins s σ H _ us Q I r1 ⟨a, _, rfl, .inl hd, fun l bs np ik => Pt.mk p rh (keysT_rv rh kk.ne hl ik) np⟩
          · exact p.elim
        · exact p.elim
  · exact p.elim

/-! ### isinstance -/
def pyT : Ty → String
  | .bool => "bool" | .int => "int" | .str => "str" | .list => "list" | .tuple => "tuple" | .dict => "dict"
theorem tyX_of {K : Cn} {al : List Addr} {H : Hp} {h : Hs} {v : Val} {u : V} {t : Ty} (r : RH K al h H) (e : tyOf h v = some t) (rv : RV K al H v u) : TyX K.K H u (.type (pyT t)) := by
  cases v with
  | non => cases e
  | bl b => cases e; rw [rv.bl_of]; exact .base (.bl b)
  | int i => cases e; rw [rv.int_of]; exact .base (.int i)
  | str x => cases e; rw [rv.str_of]; exact .base (.str x)
  | tup xs =>
    cases e
    obtain ⟨a, us, e1, st, _⟩ := rv.tup_of
    subst e1
    rcases st with ⟨o, _, q⟩ | ⟨_, o, its, n, h1, h2, _⟩
    · have q := q.1
      unfold tcl at q
      split at q
      · exact .base (.tup q)
      · exact .fTuple q
    · exact .kTuple h1 h2
  | tl xs =>
    cases e
    obtain ⟨a, us, e1, st, _⟩ := rv.tl_of
    subst e1
    exact .base (.lst st.1)
  | ref l =>
    unfold tyOf at e
    simp only at e
    split at e
    · rename_i xs q
      cases e
      obtain ⟨a, e1, e2⟩ := rv.ref_of
      obtain ⟨us, rd, _⟩ := r.rl e2 q
      subst e1
      rcases rd with rd | ⟨o, rd⟩
      · exact .base (.lst rd)
      · exact .base (.frz rd)
    · cases e
  | scr =>
    cases e
    obtain ⟨a, ns, e1, st, _⟩ := rv.scr_of
    subst e1
    rcases st with ⟨rd | ⟨o, rd⟩, _⟩ | ⟨o, its, n, hk, hcl, _⟩
    · exact .base (.lst rd)
    · exact .base (.frz rd)
    · exact .kList hk hcl
  | sl a ns =>
    cases e
    simp only [RV] at rv
    obtain ⟨e1, st⟩ := rv
    subst e1
    rcases st with ⟨rd | ⟨o, rd⟩, _⟩ | ⟨o, its, n, hk, hcl, _⟩
    · exact .base (.lst rd)
    · exact .base (.frz rd)
    · exact .kList hk hcl
  | fd t ks vs =>
    cases e
    simp only [RV] at rv
    obtain ⟨a, us, e1, st, _⟩ := rv
    subst e1
    obtain ⟨z, _⟩ := st
    unfold dHO at z
    cases t
    · exact .base (.dK z)
    · exact .base (.dT z)
def rIs (F : PySem.W.Frag) (t : Ty) : List V → Hp → VK → Prop := fun xs H Q => ∃ K al h v x k, xs = [x, .ty (pyT t)] ∧ K.K = F ∧ RH K al h H ∧ RV K al H v x ∧ isiV h v t = some k ∧ Q (.bl k) H
theorem isi_ok (t : Ty) : CallR X (.builtin "isinstance") (rIs X.K t) := by
  intro pins s σ H xs us Q I r1 hq
  obtain ⟨K, al, h, v, x, k, e, eK, rh, rv, e2, q⟩ := hq
  subst e
  unfold isiV at e2
  split at e2
  · cases e2
    rw [rv.non_of] at r1
    refine call_isi pins s σ H _ us Q I r1 ⟨_, _, .type "NoneType", .type (pyT t), false, rfl, .ty _, .base .non, ?_, q⟩
    cases t <;> exact kit_ty (by decide +kernel)
  · split at e2
    · cases e2
    · rename_i t' q1
      refine call_isi pins s σ H _ us Q I r1 ⟨_, _, .type (pyT t'), .type (pyT t), k, rfl, .ty _, eK ▸ tyX_of rh q1 rv, ?_, q⟩
      cases t' <;> cases t <;> (simp only [Option.some.injEq] at e2; subst e2; exact kit_ty (by decide +kernel))

/-! ### methods of lists -/
theorem idxV_of {y : V} : ∀ {xs : List V} {k n : Nat}, idxV y xs k = some n → ∃ z, xs[n - k]? = some z ∧ eqV z y = true ∧ (∀ m z', m < n → xs[m - k]? = some z' → k ≤ m → eqV z' y = false) ∧ k ≤ n
  | [], k, n, h => by simp [idxV] at h
  | x :: xs, k, n, h => by
    unfold idxV at h
    split at h
    · rename_i q
      cases h
      exact ⟨x, by simp, q, fun m z' hm _ hk => by omega, Nat.le_refl _⟩
    · rename_i q
      obtain ⟨z, h1, h2, h3, h4⟩ := idxV_of h
      have e : n - k = (n - (k + 1)) + 1 := by omega
      refine ⟨z, by rw [e, List.getElem?_cons_succ]; exact h1, h2, fun m z' hm hz hk => ?_, by omega⟩
      by_cases em : m = k
      · subst em
        rw [Nat.sub_self, List.getElem?_cons_zero] at hz
        cases hz
        simpa using q
      · have e2 : m - k = (m - (k + 1)) + 1 := by omega
        rw [e2, List.getElem?_cons_succ] at hz
        exact h3 m z' hm hz (by omega)
def rM (F : PySem.W.Frag) (k : Me) : V → List V → Hp → VK → Prop := fun x xs H Q => ∃ K al h v vs, K.K = F ∧ RH K al h H ∧ RV K al H v x ∧ RVs K al H vs xs ∧ (meA k v vs h).All (Pt K al h H Q)
def pyM : Me → String
  | .append => "list.append" | .pop => "list.pop" | .popAt => "list.pop" | .extend => "list.extend" | .index => "list.index" | .remove => "list.remove" | .insert => "list.insert"
theorem me_ok (k : Me) : MtR X (pyM k) (rM X.K k) := by
  intro pins s σ H x xs v us Q I r0 r1 hq
  obtain ⟨K, al, h, o, vs, eK, rh, ro, rs, p⟩ := hq
  unfold meA at p
  split at p
  · -- index
    split at p
    · obtain ⟨u, e, ru⟩ := rs.one_of
      subst e
      split at p
      · rename_i xs y q1 q2
        split at p
        · rename_i ws q3
          split at p
          · rename_i n q4
            obtain ⟨a, us', e1, sq, rw'⟩ := itemsL_of rh q1 ro
            subst e1
            obtain ⟨z1, z2⟩ := toV_of q2 ru
            obtain ⟨z3, z4⟩ := toVs_of q3 rw'
            subst z1 z3
            obtain ⟨z, m1, m2, m3, _⟩ := idxV_of q4
            rw [Nat.sub_zero] at m1
            exact mt_index pins s σ H _ _ v us Q I r0 r1 ⟨a, _, _, n, z, rfl, rfl, eK ▸ sq, z2, z4, m1, m2, fun m z' hm hz => m3 m z' (by omega) (by rw [Nat.sub_zero]; exact hz) (Nat.zero_le _), Pt.here p rh (.int _)⟩
          · exact p.elim
        · exact p.elim
      · exact p.elim
    · exact p.elim
  unfold meV at p
  split at p
  · rename_i l
    obtain ⟨a, e1, e2⟩ := ro.ref_of
    subst e1
    split at p
    · exact p.elim
    · rename_i ys q1
      obtain ⟨ws, hd, rw', nk⟩ := rh.wl e2 q1
      have nf : ∀ od u, H a ≠ some (.frz od u) := fun od u z => by rw [hd] at z; cases z
      have put : ∀ (zs : List Val) (ts : List V), RVs K al H zs ts → RH K al (h.put l (.lst zs)) (upd H a (.lst ts)) := fun zs ts rz => rh.put e2 ⟨ts, by rw [nk, if_neg Bool.false_ne_true]; exact upd_same, rz.mono (Kp.put rh e2)⟩
      split at p
      · obtain ⟨u, e, ru⟩ := rs.one_of
        subst e
        split at p
        · rename_i z
          refine mt_append pins s σ H _ _ v us Q I r0 r1 ⟨a, ws, u, rfl, rfl, hd, by rw [← rw'.length]; exact small_lt z, ?_⟩
          exact p al _ _ (Ext.put rh e2 nf) (put _ _ (rw'.append (.one ru))) .non
        · exact p.elim
      · have e := rs.none_of
        subst e
        split at p
        · rename_i y q2
          rw [rw'.length] at q2
          have hlt := (List.getElem?_eq_some_iff.mp q2).1
          obtain ⟨w, hw, rv⟩ := rw'.get q2
          refine mt_pop pins s σ H _ _ v us Q I r0 r1 ⟨a, ws, w, rfl, rfl, hd, hw, ?_⟩
          exact p al _ _ (Ext.put rh e2 nf) (put _ _ rw'.dropLast) (rv.mono (Kp.put rh e2))
        · exact p.elim
      · obtain ⟨u, e, ru⟩ := rs.one_of
        subst e
        split at p
        · rename_i b
          obtain ⟨c, e3, e4⟩ := ru.ref_of
          subst e3
          split at p
          · rename_i zs q2
            obtain ⟨ts, hd2, rz, _⟩ := rh.wl e4 q2
            split at p
            · rename_i z
              refine mt_extend pins s σ H _ _ v us Q I r0 r1 ⟨a, c, ws, ts, rfl, rfl, hd, hd2, by rw [← rw'.length, ← rz.length]; exact Nat.le_of_lt (small_lt z), ?_⟩
              exact p al _ _ (Ext.put rh e2 nf) (put _ _ (rw'.append rz)) .non
            · exact p.elim
          · exact p.elim
        · exact p.elim
      · exact p.elim
  · exact p.elim

/-! ### x op= y -/
def rIp (F : PySem.W.Frag) (op : Bop) : TIp := fun x y H Q => ∃ K al h v w, K.K = F ∧ RH K al h H ∧ RV K al H v x ∧ RV K al H w y ∧ (ipV op v w h).All (Pt K al h H Q)
theorem ip_ok (op : Bop) : PIp X (pyB op) (rIp X.K op) := by
  intro pins s σ H x y v u Q I r1 r2 hq
  obtain ⟨K, al, h, a, b, eK, rh, ra, rb, p⟩ := hq
  unfold ipV at p
  split at p
  · rename_i l
    obtain ⟨c, e1, e2⟩ := ra.ref_of
    subst e1
    split at p
    · split at p
      · rename_i xs ys q1 q2
        split at p
        · rename_i z
          obtain ⟨us, hd, rs, nk⟩ := rh.wl e2 q1
          have nf : ∀ od u, H c ≠ some (.frz od u) := fun od u z => by rw [hd] at z; cases z
          split at q2
          · rename_i l2
            obtain ⟨c2, e3, e4⟩ := rb.ref_of
            subst e3
            obtain ⟨ws, hd2, rs2, _⟩ := rh.wl e4 q2
            refine iop_ext pins s σ H _ _ v u Q I r1 r2 ⟨c, c2, us, ws, rfl, rfl, hd, hd2, by rw [← rs.length, ← rs2.length]; exact Nat.le_of_lt (small_lt z), ?_⟩
            refine p al _ _ (Ext.put rh e2 nf) (rh.put e2 ⟨us ++ ws, by rw [nk, if_neg Bool.false_ne_true]; exact upd_same, (rs.append rs2).mono (Kp.put rh e2)⟩) ?_
            simp only [RV]
            exact ⟨c, rfl, e2⟩
          · cases q2
        · exact p.elim
      · exact p.elim
    · exact p.elim
  · rename_i i
    have e1 := ra.int_of
    subst e1
    split at p
    · rename_i j
      have e2 := rb.int_of
      subst e2
      split at p
      · exact iop_add pins s σ H _ _ v u Q I r1 r2 ⟨i, j, rfl, rfl, Pt.here p rh (.int _)⟩
      · exact iop_sub pins s σ H _ _ v u Q I r1 r2 ⟨i, j, rfl, rfl, Pt.here p rh (.int _)⟩
      · exact p.elim
    · exact p.elim
  · rename_i i
    have e1 := ra.str_of
    subst e1
    split at p
    · rename_i j
      have e2 := rb.str_of
      subst e2
      split at p
      · split at p
        · rename_i z
          exact iop_add_str pins s σ H _ _ v u Q I r1 r2 ⟨i, j, rfl, rfl, Nat.le_of_lt (small_lt z), Pt.here p rh (.str _)⟩
        · exact p.elim
      · exact p.elim
    · exact p.elim
  · exact p.elim
end
end Eng
/-! Readings made of runs. -/
namespace Eng
open PySem L2
theorem PE.imp {X : Cx} {e : Expr} {t t' : TE} (h : PE X e t) (i : ∀ σ H Q, t' σ H Q → t σ H Q) : PE X e t' := ⟨fun pins s σ H Q I w => h.run pins s σ H Q I (i σ H Q w)⟩
theorem PT.imp {X : Cx} {e : Expr} {t t' : TT} (h : PT X e t) (i : ∀ σ H Q, t' σ H Q → t σ H Q) : PT X e t' := ⟨fun pins s σ H Q I w => h.run pins s σ H Q I (i σ H Q w)⟩
theorem PTs.imp {X : Cx} {e : List Expr} {t t' : TT} (h : PTs X e t) (i : ∀ σ H Q, t' σ H Q → t σ H Q) : PTs X e t' := ⟨fun pins s σ H Q I w => h.run pins s σ H Q I (i σ H Q w)⟩
theorem PW.imp {X : Cx} {e : Expr} {t t' : TT} (h : PW X e t) (i : ∀ σ H Q, t' σ H Q → t σ H Q) : PW X e t' := ⟨fun wh pins s σ H Q I w => h.run wh pins s σ H Q I (i σ H Q w)⟩
theorem PA.imp {X : Cx} {e : List Expr} {t t' : TA} (h : PA X e t) (i : ∀ σ H Q, t' σ H Q → t σ H Q) : PA X e t' := ⟨fun pos pins s σ H Q I w => h.run pos pins s σ H Q I (i σ H Q w)⟩
theorem PS.imp {X : Cx} {e : Stmt} {t t' : TS} (h : PS X e t) (i : ∀ D σ H, t' D σ H → t D σ H) : PS X e t' := ⟨fun pins s σ H D I w => h.run pins s σ H D I (i D σ H w)⟩
theorem PSs.imp {X : Cx} {e : List Stmt} {t t' : TS} (h : PSs X e t) (i : ∀ D σ H, t' D σ H → t D σ H) : PSs X e t' := ⟨fun pins s σ H D I w => h.run pins s σ H D I (i D σ H w)⟩
theorem PG.imp {X : Cx} {e : Expr} {t t' : TG} (h : PG X e t) (i : ∀ v σ H Q, t' v σ H Q → t v σ H Q) : PG X e t' := ⟨fun pins s σ H v u Q I r w => h.run pins s σ H v u Q I r (i v σ H Q w)⟩
theorem PGs.imp {X : Cx} {e : List Expr} {t t' : TGs} (h : PGs X e t) (i : ∀ v σ H Q, t' v σ H Q → t v σ H Q) : PGs X e t' := ⟨fun pins s σ H v u Q I r w => h.run pins s σ H v u Q I r (i v σ H Q w)⟩
theorem PI.imp {X : Cx} {tg e : Expr} {t t' : TI} (h : PI X tg e t) (i : ∀ σ H Q, t' σ H Q → t σ H Q) : PI X tg e t' := ⟨fun pins s σ H Q I w => h.run pins s σ H Q I (i σ H Q w)⟩
theorem PE.orr {X : Cx} {e : Expr} {t t' : TE} (h : PE X e t) (h' : PE X e t') : PE X e (fun σ H Q => t σ H Q ∨ t' σ H Q) := ⟨fun pins s σ H Q I w => w.elim (h.run pins s σ H Q I) (h'.run pins s σ H Q I)⟩
theorem PS.orr {X : Cx} {e : Stmt} {t t' : TS} (h : PS X e t) (h' : PS X e t') : PS X e (fun D σ H => t D σ H ∨ t' D σ H) := ⟨fun pins s σ H D I w => w.elim (h.run pins s σ H D I) (h'.run pins s σ H D I)⟩
theorem PI.orr {X : Cx} {tg e : Expr} {t t' : TI} (h : PI X tg e t) (h' : PI X tg e t') : PI X tg e (fun σ H Q => t σ H Q ∨ t' σ H Q) := ⟨fun pins s σ H Q I w => w.elim (h.run pins s σ H Q I) (h'.run pins s σ H Q I)⟩

/-- the slots -/
structure RE (K : Cn) (al : List Addr) (H : Hp) (s : Env) (σ : St) : Prop where
  len : s.length = σ.length
  get : ∀ (i : Nat) v, s[i]? = some (some v) → ∃ u, σ[i]? = some (some u) ∧ RV K al H v u
section
variable {K : Cn} {al al' : List Addr} {H H' : Hp} {s : Env} {σ : St}
theorem RE.mono (k : Kp al H al' H') (r : RE K al H s σ) : RE K al' H' s σ := ⟨r.len, fun i v e => let ⟨u, e1, e2⟩ := r.get i v e; ⟨u, e1, e2.mono k⟩⟩
theorem RE.set (r : RE K al H s σ) {i : Nat} {v : Val} {u : V} (rv : RV K al H v u) : RE K al H (s.set i (some v)) (σ.set i (some u)) := by
  refine ⟨by simp [r.len], fun j w e => ?_⟩
  rw [List.getElem?_set] at e
  by_cases q : i = j
  · subst q
    rw [if_pos rfl] at e
    split at e
    · rename_i hl
      cases e
      exact ⟨u, by rw [List.getElem?_set_self (by rw [← r.len]; exact hl)], rv⟩
    · cases e
  · rw [if_neg q] at e
    obtain ⟨u', e1, e2⟩ := r.get j w e
    exact ⟨u', by rw [List.getElem?_set_ne q]; exact e1, e2⟩
theorem RE.unset (r : RE K al H s σ) {i : Nat} : RE K al H (s.set i none) (σ.set i none) := by
  refine ⟨by simp [r.len], fun j w e => ?_⟩
  rw [List.getElem?_set] at e
  by_cases q : i = j
  · subst q
    rw [if_pos rfl] at e
    split at e
    · cases e
    · cases e
  · rw [if_neg q] at e
    obtain ⟨u', e1, e2⟩ := r.get j w e
    exact ⟨u', by rw [List.getElem?_set_ne q]; exact e1, e2⟩
theorem RE.wipe (r : RE K al H s σ) : ∀ vs : List Nat, RE K al H (wipeE s vs) (wipe σ vs)
  | [] => r
  | v :: vs => (RE.wipe r vs).unset
end

/-! ### what is wanted -/
def Ps (K : Cn) (al : List Addr) (h : Hs) (H : Hp) (Q : List V → Hp → Prop) : List Val × Hs → Prop :=
  fun q => ∀ al' H' us, Ext al h H al' q.2 H' → RH K al' q.2 H' → RVs K al' H' q.1 us → Q us H'
def Pb (K : Cn) (al : List Addr) (h : Hs) (H : Hp) (Q : Bool → Hp → Prop) : Bool × Hs → Prop :=
  fun q => ∀ al' H', Ext al h H al' q.2 H' → RH K al' q.2 H' → Q q.1 H'
def Po (K : Cn) (al : List Addr) (h : Hs) (H : Hp) (Q : Option Int → Hp → Prop) : Option Int × Hs → Prop :=
  fun q => ∀ al' H', Ext al h H al' q.2 H' → RH K al' q.2 H' → Q q.1 H'
theorem Ps.trans {K : Cn} {al al' : List Addr} {H H' : Hp} {h h' : Hs} {Q : List V → Hp → Prop} {q : List Val × Hs} (e : Ext al h H al' h' H') (p : Ps K al h H Q q) : Ps K al' h' H' Q q := fun al2 H2 u e2 r v => p al2 H2 u (e.trans e2) r v
theorem Pb.trans {K : Cn} {al al' : List Addr} {H H' : Hp} {h h' : Hs} {Q : Bool → Hp → Prop} {q : Bool × Hs} (e : Ext al h H al' h' H') (p : Pb K al h H Q q) : Pb K al' h' H' Q q := fun al2 H2 e2 r => p al2 H2 (e.trans e2) r
theorem Po.trans {K : Cn} {al al' : List Addr} {H H' : Hp} {h h' : Hs} {Q : Option Int → Hp → Prop} {q : Option Int × Hs} (e : Ext al h H al' h' H') (p : Po K al h H Q q) : Po K al' h' H' Q q := fun al2 H2 e2 r => p al2 H2 (e.trans e2) r

section
variable (F : PySem.W.Frag)
def tE (c : Env → Hs → T (Val × Hs)) : TE := fun σ H Q => ∃ K al s h, K.K = F ∧ RH K al h H ∧ RE K al H s σ ∧ (c s h).All (Pt K al h H Q)
def tA (c : Env → Hs → T (List Val × Hs)) : TA := fun σ H Q => ∃ K al s h, K.K = F ∧ RH K al h H ∧ RE K al H s σ ∧ (c s h).All (Ps K al h H Q)
def tT (c : Env → Hs → T (Bool × Hs)) : TT := fun σ H Q => ∃ K al s h, K.K = F ∧ RH K al h H ∧ RE K al H s σ ∧ (c s h).All (Pb K al h H Q)
def tO (c : Env → Hs → T (Option Int × Hs)) : TO := fun σ H Q => ∃ K al s h, K.K = F ∧ RH K al h H ∧ RE K al H s σ ∧ (c s h).All (Po K al h H Q)
end
section
variable {K : Cn} {al : List Addr} {s : Env} {h : Hs} {σ : St} {H : Hp}
/-- one step, then the rest -/
theorem tE.seq {c : Env → Hs → T (Val × Hs)} {Q : V → Hp → Prop} (rh : RH K al h H) (re : RE K al H s σ)
    (p : (c s h).All fun q => ∀ al' H' u, Ext al h H al' q.2 H' → RH K al' q.2 H' → RE K al' H' s σ → RV K al' H' q.1 u → Q u H') : tE K.K c σ H Q :=
  ⟨K, al, s, h, rfl, rh, re, T.all_mono (fun q z al' H' u e r v => z al' H' u e r (re.mono e.toKp) v) p⟩
theorem tA.seq {c : Env → Hs → T (List Val × Hs)} {Q : List V → Hp → Prop} (rh : RH K al h H) (re : RE K al H s σ)
    (p : (c s h).All fun q => ∀ al' H' u, Ext al h H al' q.2 H' → RH K al' q.2 H' → RE K al' H' s σ → RVs K al' H' q.1 u → Q u H') : tA K.K c σ H Q :=
  ⟨K, al, s, h, rfl, rh, re, T.all_mono (fun q z al' H' u e r v => z al' H' u e r (re.mono e.toKp) v) p⟩
theorem tT.seq {c : Env → Hs → T (Bool × Hs)} {Q : Bool → Hp → Prop} (rh : RH K al h H) (re : RE K al H s σ)
    (p : (c s h).All fun q => ∀ al' H', Ext al h H al' q.2 H' → RH K al' q.2 H' → RE K al' H' s σ → Q q.1 H') : tT K.K c σ H Q :=
  ⟨K, al, s, h, rfl, rh, re, T.all_mono (fun q z al' H' e r => z al' H' e r (re.mono e.toKp)) p⟩
theorem tO.seq {c : Env → Hs → T (Option Int × Hs)} {Q : Option Int → Hp → Prop} (rh : RH K al h H) (re : RE K al H s σ)
    (p : (c s h).All fun q => ∀ al' H', Ext al h H al' q.2 H' → RH K al' q.2 H' → RE K al' H' s σ → Q q.1 H') : tO K.K c σ H Q :=
  ⟨K, al, s, h, rfl, rh, re, T.all_mono (fun q z al' H' e r => z al' H' e r (re.mono e.toKp)) p⟩
theorem T.of_all {A : Type} {P : A → Prop} {o : Option A} (h : (T.of o).All P) : ∃ a, o = some a ∧ P a := by
  cases o with
  | none => exact h.elim
  | some a => exact ⟨a, rfl, h⟩
theorem zip_empty {ks : List (List L2.Key)} {us : List V} (l : ks.length = us.length) : ((ks.map hk).zip us).isEmpty = ks.isEmpty := by
  cases ks <;> cases us <;> simp at l ⊢
theorem truth_of {v : Val} {u : V} {k : Bool} (r : RH K al h H) (e : truth h v = some k) (rv : RV K al H v u) : TruV K.K u H k := by
  cases v with
  | non => cases e; rw [rv.non_of]; rfl
  | bl b => cases e; rw [rv.bl_of]; rfl
  | int i => cases e; rw [rv.int_of]; rfl
  | str x => cases e
  | tup xs =>
    cases e
    obtain ⟨a, us, e1, st, rs⟩ := rv.tup_of
    subst e1
    exact .inr (.inl ⟨us, st.sq, by rw [rs.isEmpty]⟩)
  | tl xs =>
    cases e
    obtain ⟨a, us, e1, st, rs⟩ := rv.tl_of
    subst e1
    exact .inl ⟨us, SqL.of st.1, by rw [rs.isEmpty]⟩
  | ref l =>
    unfold truth at e
    simp only at e
    split at e
    · rename_i xs q
      cases e
      obtain ⟨a, e1, e2⟩ := rv.ref_of
      obtain ⟨us, rd, rs⟩ := r.rl e2 q
      subst e1
      exact .inl ⟨us, .inl rd, by rw [rs.isEmpty]⟩
    · rename_i ks vs q
      split at e
      · cases e
      · rename_i q2
        cases e
        obtain ⟨a, us, e1, hd, kk, rs⟩ := dic_free r (v := .ref l) (t := false) (ks := ks) (vs := vs) (by unfold dicOf; simp only [q]) (by unfold freeD; simpa using q2) rv
        subst e1
        exact .inr (.inr ⟨_, hd, by rw [zip_empty (kk.len.trans rs.length)]⟩)
    · cases e
  | scr => cases e
  | sl a ns => cases e
  | fd t ks vs =>
    cases t with
    | true => cases e
    | false =>
      cases e
      obtain ⟨a, us, e1, hd, kk, rs⟩ := dic_free r (v := .fd false ks vs) (t := false) (ks := ks) (vs := vs) rfl rfl rv
      subst e1
      exact .inr (.inr ⟨_, hd, by rw [zip_empty (kk.len.trans rs.length)]⟩)
end

section
variable {F : PySem.W.Frag} {σ : St} {H : Hp}
/-- two in a row -/
theorem imp_two {ca cb : Env → Hs → T (Val × Hs)} {f : Val → Val → Hs → T (Val × Hs)} {Q : V → Hp → Prop}
    (w : tE F (fun s h => (ca s h).bind fun p => (cb s p.2).bind fun q => f p.1 q.1 q.2) σ H Q) : tOp (rO F f) (tE F ca) (tE F cb) σ H Q := by
  obtain ⟨K, al, s, h, rfl, rh, re, p⟩ := w
  refine tE.seq rh re (T.all_mono (fun q z al1 H1 x e1 rh1 re1 rx => ?_) (T.all_bind.mp p))
  refine tE.seq rh1 re1 (T.all_mono (fun q2 z2 al2 H2 y e2 rh2 re2 ry => ?_) (T.all_bind.mp z))
  exact ⟨K, al2, q2.2, q.1, q2.1, rfl, rh2, rx.mono e2.toKp, ry, T.all_mono (fun _ z3 => z3.trans (e1.trans e2)) z2⟩
theorem imp_two_c {ca cb : Env → Hs → T (Val × Hs)} {f : Val → Val → Hs → Option Bool} {Q : V → Hp → Prop}
    (w : tE F (fun s h => (ca s h).bind fun p => (cb s p.2).bind fun q => match f p.1 q.1 q.2 with
      | some k => .ok (.bl k, q.2)
      | none => .no) σ H Q) : tOp (rC F f) (tE F ca) (tE F cb) σ H Q := by
  obtain ⟨K, al, s, h, rfl, rh, re, p⟩ := w
  refine tE.seq rh re (T.all_mono (fun q z al1 H1 x e1 rh1 re1 rx => ?_) (T.all_bind.mp p))
  refine tE.seq rh1 re1 (T.all_mono (fun q2 z2 al2 H2 y e2 rh2 re2 ry => ?_) (T.all_bind.mp z))
  split at z2
  · rename_i k ek
    exact ⟨K, al2, q2.2, q.1, q2.1, k, rfl, rh2, rx.mono e2.toKp, ry, ek, Pt.here (z2.trans (e1.trans e2)) rh2 (.bl k)⟩
  · exact z2.elim
theorem imp_sub {ca cb : Env → Hs → T (Val × Hs)} {Q : V → Hp → Prop}
    (w : tE F (fun s h => (ca s h).bind fun p => (cb s p.2).bind fun q => match subV p.1 q.1 q.2 with
      | some v => .ok (v, q.2)
      | none => .no) σ H Q) : tOp (rS F) (tE F ca) (tE F cb) σ H Q := by
  obtain ⟨K, al, s, h, rfl, rh, re, p⟩ := w
  refine tE.seq rh re (T.all_mono (fun q z al1 H1 x e1 rh1 re1 rx => ?_) (T.all_bind.mp p))
  refine tE.seq rh1 re1 (T.all_mono (fun q2 z2 al2 H2 y e2 rh2 re2 ry => ?_) (T.all_bind.mp z))
  split at z2
  · rename_i v ev
    exact ⟨K, al2, q2.2, q.1, q2.1, v, rfl, rh2, rx.mono e2.toKp, ry, ev, fun u ru => Pt.here (z2.trans (e1.trans e2)) rh2 ru⟩
  · exact z2.elim
theorem imp_neg {ca : Env → Hs → T (Val × Hs)} {Q : V → Hp → Prop}
    (w : tE F (fun s h => (ca s h).bind fun p => match p.1 with
      | .int i => .ok (.int (-i), p.2)
      | _ => .no) σ H Q) : tUn (fun x H Q => ∃ i, x = V.int i ∧ Q (.int (-i)) H) (tE F ca) σ H Q := by
  obtain ⟨K, al, s, h, rfl, rh, re, p⟩ := w
  refine tE.seq rh re (T.all_mono (fun q z al1 H1 x e1 rh1 re1 rx => ?_) (T.all_bind.mp p))
  split at z
  · rename_i i ei
    rw [ei] at rx
    exact ⟨i, rx.int_of, Pt.here (z.trans e1) rh1 (.int _)⟩
  · exact z.elim
theorem imp_not {ca : Env → Hs → T (Val × Hs)} {Q : V → Hp → Prop}
    (w : tE F (fun s h => (ca s h).bind fun p => match p.1 with
      | .bl k => .ok (.bl (!k), p.2)
      | _ => .no) σ H Q) : tNotV (tE F ca) σ H Q := by
  obtain ⟨K, al, s, h, rfl, rh, re, p⟩ := w
  refine tE.seq rh re (T.all_mono (fun q z al1 H1 x e1 rh1 re1 rx => ?_) (T.all_bind.mp p))
  split at z
  · rename_i i ei
    rw [ei] at rx
    exact ⟨i, rx.bl_of, Pt.here (z.trans e1) rh1 (.bl _)⟩
  · exact z.elim
theorem imp_and {ca cb : Env → Hs → T (Val × Hs)} {Q : V → Hp → Prop}
    (w : tE F (fun s h => (ca s h).bind fun p => match p.1 with
      | .bl true => cb s p.2
      | .bl false => .ok (.bl false, p.2)
      | _ => .no) σ H Q) : tAndV (tE F ca) (tE F cb) σ H Q := by
  obtain ⟨K, al, s, h, rfl, rh, re, p⟩ := w
  refine tE.seq rh re (T.all_mono (fun q z al1 H1 x e1 rh1 re1 rx => ?_) (T.all_bind.mp p))
  split at z
  · rename_i ei
    rw [ei] at rx
    exact ⟨true, rx.bl_of, iteT ⟨K, al1, s, q.2, rfl, rh1, re1, T.all_mono (fun _ z3 => z3.trans e1) z⟩⟩
  · rename_i ei
    rw [ei] at rx
    exact ⟨false, rx.bl_of, iteF (Pt.here (z.trans e1) rh1 (.bl _))⟩
  · exact z.elim
theorem imp_or {ca cb : Env → Hs → T (Val × Hs)} {Q : V → Hp → Prop}
    (w : tE F (fun s h => (ca s h).bind fun p => match p.1 with
      | .bl true => .ok (.bl true, p.2)
      | .bl false => cb s p.2
      | _ => .no) σ H Q) : tOrV (tE F ca) (tE F cb) σ H Q := by
  obtain ⟨K, al, s, h, rfl, rh, re, p⟩ := w
  refine tE.seq rh re (T.all_mono (fun q z al1 H1 x e1 rh1 re1 rx => ?_) (T.all_bind.mp p))
  split at z
  · rename_i ei
    rw [ei] at rx
    exact ⟨true, rx.bl_of, iteT (Pt.here (z.trans e1) rh1 (.bl _))⟩
  · rename_i ei
    rw [ei] at rx
    exact ⟨false, rx.bl_of, iteF ⟨K, al1, s, q.2, rfl, rh1, re1, T.all_mono (fun _ z3 => z3.trans e1) z⟩⟩
  · exact z.elim
theorem imp_ite {cc : Env → Hs → T (Bool × Hs)} {ca cb : Env → Hs → T (Val × Hs)} {Q : V → Hp → Prop}
    (w : tE F (fun s h => (cc s h).bind fun p => match p.1 with
      | true => ca s p.2
      | false => cb s p.2) σ H Q) : tIf (tT F cc) (tE F ca) (tE F cb) σ H Q := by
  obtain ⟨K, al, s, h, rfl, rh, re, p⟩ := w
  refine tT.seq rh re (T.all_mono (fun q z al1 H1 e1 rh1 re1 => ?_) (T.all_bind.mp p))
  split at z
  · rename_i ei
    rw [ei]
    exact iteT ⟨K, al1, s, q.2, rfl, rh1, re1, T.all_mono (fun _ z3 => z3.trans e1) z⟩
  · rename_i ei
    rw [ei]
    exact iteF ⟨K, al1, s, q.2, rfl, rh1, re1, T.all_mono (fun _ z3 => z3.trans e1) z⟩
theorem imp_cons {ca : Env → Hs → T (Val × Hs)} {cr : Env → Hs → T (List Val × Hs)} {Q : List V → Hp → Prop}
    (w : tA F (fun s h => (ca s h).bind fun p => (cr s p.2).bind fun q => .ok (p.1 :: q.1, q.2)) σ H Q) : tCons (tE F ca) (tA F cr) σ H Q := by
  obtain ⟨K, al, s, h, rfl, rh, re, p⟩ := w
  refine tE.seq rh re (T.all_mono (fun q z al1 H1 x e1 rh1 re1 rx => ?_) (T.all_bind.mp p))
  refine tA.seq rh1 re1 (T.all_mono (fun q2 z2 al2 H2 y e2 rh2 re2 ry => ?_) (T.all_bind.mp z))
  exact z2 al2 H2 _ (e1.trans e2) rh2 (.cons (rx.mono e2.toKp) ry)
theorem imp_tup {cr : Env → Hs → T (List Val × Hs)} {Q : V → Hp → Prop} (w : tE F (fun s h => (cr s h).bind fun p => if small p.1.length then .ok (.tup p.1, p.2) else .no) σ H Q) : tTupD (tA F cr) σ H Q := by
  obtain ⟨K, al, s, h, rfl, rh, re, p⟩ := w
  refine tA.seq rh re (T.all_mono (fun q z al1 H1 x e1 rh1 re1 rx => ?_) (T.all_bind.mp p))
  split at z
  · rename_i sm
    exact ⟨by rw [← rx.length]; exact Nat.le_of_lt (small_lt sm), Pt.tup (z.trans e1) rh1 rx⟩
  · exact z.elim
theorem imp_lst {m : Bool} {cr : Env → Hs → T (List Val × Hs)} {Q : V → Hp → Prop} (w : tE F (fun s h => (cr s h).bind fun p => if small p.1.length then mkL m p.1 p.2 else .no) σ H Q) : tLst (tA F cr) σ H Q := by
  obtain ⟨K, al, s, h, rfl, rh, re, p⟩ := w
  refine tA.seq rh re (T.all_mono (fun q z al1 H1 x e1 rh1 re1 rx => ?_) (T.all_bind.mp p))
  split at z
  · rename_i sm
    exact ⟨by rw [← rx.length]; exact Nat.le_of_lt (small_lt sm), fun p' np => Pt.mk (T.all_mono (fun _ z3 => z3.trans e1) z) rh1 rx np⟩
  · exact z.elim
theorem imp_args {f : List Val → Hs → T (Val × Hs)} {r : List V → Hp → VK → Prop} {cr : Env → Hs → T (List Val × Hs)} {Q : V → Hp → Prop}
    (hr : ∀ K al h vs xs H Q, K.K = F → RH K al h H → RVs K al H vs xs → (f vs h).All (Pt K al h H Q) → r xs H Q)
    (w : tE F (fun s h => (cr s h).bind fun p => f p.1 p.2) σ H Q) : tCB r (tA F cr) σ H Q := by
  obtain ⟨K, al, s, h, rfl, rh, re, p⟩ := w
  refine tA.seq rh re (T.all_mono (fun q z al1 H1 x e1 rh1 re1 rx => ?_) (T.all_bind.mp p))
  exact hr K al1 q.2 q.1 x H1 Q rfl rh1 rx (T.all_mono (fun _ z3 => z3.trans e1) z)
theorem imp_test {c : Env → Hs → T (Val × Hs)} {Q : Bool → Hp → Prop} (w : tT F (fun s h => (c s h).bind fun p => match truth p.2 p.1 with
      | some k => .ok (k, p.2)
      | none => .no) σ H Q) : tE F c σ H fun x H' => ∃ k, TruV F x H' k ∧ Q k H' := by
  obtain ⟨K, al, s, h, rfl, rh, re, p⟩ := w
  refine tE.seq rh re (T.all_mono (fun q z al1 H1 x e1 rh1 re1 rx => ?_) (T.all_bind.mp p))
  split at z
  · rename_i k ek
    exact ⟨k, truth_of rh1 ek rx, z al1 H1 e1 rh1⟩
  · exact z.elim
end
end Eng
/-! What is walked; comprehensions; loops. -/
namespace Eng
open PySem L2

/-- J walks the items us, whatever stands later -/
def Wk (al : List Addr) (h : Hs) (H : Hp) (J : It) (us : List V) : Prop :=
  ∀ al' h' H', Ext al h H al' h' H' → (∀ (i : Nat) u, us[i]? = some u → J.go i H' ∧ ∀ v H2, J.yld i H' v H2 → v = u ∧ H2 = H') ∧ J.stop us.length H'
section
variable {K : Cn} {al : List Addr} {h : Hs} {H : Hp}
theorem wk_tup {a : Addr} {us : List V} (s : StT K al H a us) : Wk al h H (Itt K.K a) us := fun al' h' H' e => by
  have q := (s.mono e.toKp).sq
  exact ⟨fun i u hu => ⟨⟨us, u, q, hu⟩, fun v H2 y => ⟨Option.some.inj ((y.2 us q).symm.trans hu), y.1⟩⟩, ⟨us, q, Nat.le_refl _⟩⟩
theorem wk_lst {a : Addr} {us : List V} (s : ∀ al' h' H', Ext al h H al' h' H' → SqL K.K H' a us) : Wk al h H (Itl K.K a) us := fun al' h' H' e => by
  have q := s al' h' H' e
  exact ⟨fun i u hu => ⟨⟨us, u, q, hu⟩, fun v H2 y => ⟨Option.some.inj ((y.2 us q).symm.trans hu), y.1⟩⟩, ⟨us, q, Nat.le_refl _⟩⟩
theorem rev_at {us : List V} {i : Nat} {u : V} (e : us.reverse[i]? = some u) : i < us.length ∧ us[us.length - 1 - i]? = some u := by
  have h1 : i < us.length := by
    have := (List.getElem?_eq_some_iff.mp e).1
    simpa using this
  rw [List.getElem?_reverse h1] at e
  exact ⟨h1, e⟩
theorem wk_revT {a : Addr} {us : List V} (s : StT K al H a us) : Wk al h H (RT.ItvT K.K a us.length) us.reverse := fun al' h' H' e => by
  have q := (s.mono e.toKp).sq
  refine ⟨fun i u hu => ?_, by rw [List.length_reverse]; exact Nat.le_refl _⟩
  obtain ⟨h1, h2⟩ := rev_at hu
  exact ⟨⟨h1, us, u, q, h2⟩, fun v H2 y => ⟨Option.some.inj ((y.2 us q).symm.trans h2), y.1⟩⟩
theorem wk_revL {a : Addr} {us : List V} (s : ∀ al' h' H', Ext al h H al' h' H' → SqL K.K H' a us) : Wk al h H (Itv K.K a us.length) us.reverse := fun al' h' H' e => by
  have q := s al' h' H' e
  refine ⟨fun i u hu => ?_, by rw [List.length_reverse]; exact Nat.le_refl _⟩
  obtain ⟨h1, h2⟩ := rev_at hu
  exact ⟨⟨h1, us, u, q, h2⟩, fun v H2 y => ⟨Option.some.inj ((y.2 us q).symm.trans h2), y.1⟩⟩
/-- whole numbers from lo on, by c -/
def rngU (lo c : Int) (n : Nat) : List V := (List.range n).map fun i => .int (lo + (i : Nat) * c)
theorem rngC_of (c : Int) : ∀ (n : Nat) (lo : Int), rngC lo c n = (List.range n).map fun i => Val.int (lo + (i : Nat) * c)
  | 0, lo => rfl
  | n + 1, lo => by
    unfold rngC
    rw [rngC_of c n, List.range_succ_eq_map, List.map_cons, List.map_map]
    congr 1
    · simp
    · apply List.map_congr_left
      intro i _
      simp only [Function.comp]
      congr 1
      rw [Int.natCast_succ, Int.add_mul]
      omega
theorem rngL_of : ∀ (n : Nat) (lo : Int), rngL lo n = rngC lo 1 n
  | 0, lo => rfl
  | n + 1, lo => by
    unfold rngL rngC
    rw [rngL_of n]
theorem rvs_map {A : Type} {f : A → Val} {g : A → V} (hfg : ∀ x, RV K al H (f x) (g x)) : ∀ (xs : List A), RVs K al H (xs.map f) (xs.map g)
  | [] => .nil
  | x :: xs => .cons (hfg x) (rvs_map hfg xs)
theorem rngC_rv (lo c : Int) (n : Nat) : RVs K al H (rngC lo c n) (rngU lo c n) := by
  rw [rngC_of]
  exact rvs_map (fun i => .int _) _
theorem rngL_rv (lo : Int) (n : Nat) : RVs K al H (rngL lo n) (rngU lo 1 n) := by
  rw [rngL_of]
  exact rngC_rv lo 1 n
theorem rngU_at {lo c : Int} {n i : Nat} {u : V} (e : (rngU lo c n)[i]? = some u) : i < n ∧ u = .int (lo + (i : Nat) * c) := by
  unfold rngU at e
  rw [List.getElem?_map] at e
  have h1 : i < n := by
    refine Nat.lt_of_not_le fun z => ?_
    rw [List.getElem?_eq_none (by simpa using z)] at e
    cases e
  rw [List.getElem?_range h1] at e
  exact ⟨h1, (Option.some.inj e).symm⟩
theorem wk_rng (lo : Int) (n : Nat) : Wk al h H (Itr lo n) (rngU lo 1 n) := fun al' h' H' e => by
  refine ⟨fun i u hu => ?_, by unfold rngU; simp [Itr]⟩
  obtain ⟨h1, h2⟩ := rngU_at hu
  rw [Int.mul_one] at h2
  exact ⟨h1, fun v H2 y => ⟨by rw [h2]; exact y.2, y.1⟩⟩
theorem wk_rngC (lo c : Int) (n : Nat) : Wk al h H (Itc lo c n) (rngU lo c n) := fun al' h' H' e => by
  refine ⟨fun i u hu => ?_, by unfold rngU; simp [Itc]⟩
  obtain ⟨h1, h2⟩ := rngU_at hu
  exact ⟨h1, fun v H2 y => ⟨by rw [h2]; exact y.2, y.1⟩⟩
theorem RVs.inj_len {xs : List Val} {us ws : List V} (a : RVs K al H xs us) (b : RVs K al H xs ws) : us.length = ws.length := by rw [← a.length, ← b.length]
end

/-- what is walked: evaluated, then as told -/
def tI (F : PySem.W.Frag) (sk : Sk) (c : Env → Hs → T (List Val × Hs)) : TI := fun σ H R => ∃ K al s h, K.K = F ∧ RH K al h H ∧ RE K al H s σ ∧ (c s h).All fun p => ∃ xs l, srcV sk p.1 p.2 = some (xs, l) ∧ (∀ l', l = some l' → p.2.lk.contains l' = true) ∧
  ∀ al' H' us J, Ext al h H al' p.2 H' → RH K al' p.2 H' → RVs K al' H' xs us → Wk al' p.2 H' J us → R J H'
section
variable {X : Cx} {tg : Expr}
/-- a list or a tuple is walked -/
theorem pi_seq {l : Expr} {tl : TE} (hl : PE X l tl) : PI X tg l (fun σ H R => tl σ H fun x H1 => ∃ a, x = .ref a ∧ (((∃ xs, SqL X.K H1 a xs) ∧ R (Itl X.K a) H1) ∨ ((∃ xs, SqT X.K H1 a xs) ∧ R (Itt X.K a) H1))) := by
  constructor
  intro pins s σ H R I hw
  refine thn (hl.run pins s σ H _ I hw) ?_
  rintro v s1 ⟨x, H1, I1, r1, a, ex, q⟩
  subst ex
  cases r1
  have fpo : ∀ b ∈ [s1.heap.objs.size], FpOk X pins H1 b := fun b hb => by
    rw [List.mem_singleton.mp hb]
    exact I1.fpOk (Nat.le_refl _) (I1.hok.fresh (Nat.le_refl _))
  rcases q with ⟨⟨xs, sq⟩, q⟩ | ⟨⟨xs, sq⟩, q⟩
  · obtain ⟨its, rv, pl, hz⟩ := I1.list sq
    apply wpAny_pyIter_list pl.isList
    exact ⟨_, _, _, _, H1, rfl, I1.kept (t' := s1.toks) (fun b o e => Heap.get?_push_of_some _ e), turn_list a _, ⟨_, Heap.get?_push_size _ rfl, rfl, rfl⟩, fpo, q⟩
  · obtain ⟨its, rv, pt, hz⟩ := I1.tuple sq
    apply wpAny_pyIter_tuple (show s1.heap.IsTuple a its.toArray from pt)
    exact ⟨_, _, _, _, H1, rfl, I1.kept (t' := s1.toks) (fun b o e => Heap.get?_push_of_some _ e), turn_tuple a _, ⟨_, Heap.get?_push_size _ rfl, rfl, rfl⟩, fpo, q⟩
end
section
variable {F : PySem.W.Frag} {σ : St} {H : Hp}
/-- a tracked list that stands still -/
theorem frz_sq {K : Cn} {al : List Addr} {h : Hs} {H : Hp} {l : Nat} {a : Addr} {xs : List Val} (rh : RH K al h H) (e : al[l]? = some a) (g : h.get l = some (.lst xs)) (lk : h.lk.contains l = true) :
    ∃ us, RVs K al H xs us ∧ SqL K.K H a us ∧ ∀ al' h' H', Ext al h H al' h' H' → SqL K.K H' a us := by
  obtain ⟨us, q, rs⟩ := rh.ob l a _ e g
  rw [lk, if_pos rfl] at q
  obtain ⟨od, q⟩ := q
  exact ⟨us, rs, .inl (.inr ⟨od, q⟩), fun al' h' H' x => .inl (.inr ⟨od, x.frz _ _ _ q⟩)⟩
theorem imp_val {c : Env → Hs → T (Val × Hs)} {R : It → Hp → Prop} (w : tI F .val (fun s h => (c s h).bind fun p => .ok ([p.1], p.2)) σ H R) :
    tE F c σ H fun x H1 => ∃ a, x = .ref a ∧ (((∃ xs, SqL F H1 a xs) ∧ R (Itl F a) H1) ∨ ((∃ xs, SqT F H1 a xs) ∧ R (Itt F a) H1)) := by
  obtain ⟨K, al, s, h, rfl, rh, re, p⟩ := w
  refine tE.seq rh re (T.all_mono (fun q z al1 H1 x e1 rh1 re1 rx => ?_) (T.all_bind.mp p))
  obtain ⟨xs, l, es, hl, z⟩ := z
  unfold srcV at es
  simp only at es
  split at es <;> try cases es
  · rename_i ys ey
    rw [ey] at rx
    obtain ⟨a, us, ea, st, rs⟩ := rx.tup_of
    exact ⟨a, ea, .inr ⟨⟨us, st.sq⟩, z al1 H1 us _ e1 rh1 rs (wk_tup st)⟩⟩
  · rename_i ys ey
    rw [ey] at rx
    obtain ⟨a, us, ea, st, rs⟩ := rx.tl_of
    exact ⟨a, ea, .inl ⟨⟨us, SqL.of st.1⟩, z al1 H1 us _ e1 rh1 rs (wk_lst fun al' h' H' e => SqL.of (e.keep a _ st.2.1 st.1).1)⟩⟩
  · rename_i l0 el
    split at es
    · rename_i ys g
      cases es
      rw [el] at rx
      obtain ⟨a, ea, e2⟩ := rx.ref_of
      obtain ⟨us, rs, s1, s2⟩ := frz_sq rh1 e2 g (hl l0 rfl)
      exact ⟨a, ea, .inl ⟨⟨us, s1⟩, z al1 H1 us _ e1 rh1 rs (wk_lst s2)⟩⟩
    · cases es
theorem imp_rev {c : Env → Hs → T (Val × Hs)} {R : It → Hp → Prop} (w : tI F .rev (fun s h => (c s h).bind fun p => .ok ([p.1], p.2)) σ H R) : RT.iRevA F (tE F c) σ H R := by
  obtain ⟨K, al, s, h, rfl, rh, re, p⟩ := w
  refine tE.seq rh re (T.all_mono (fun q z al1 H1 x e1 rh1 re1 rx => ?_) (T.all_bind.mp p))
  obtain ⟨xs, l, es, hl, z⟩ := z
  unfold srcV at es
  simp only at es
  split at es <;> try cases es
  · rename_i ys ey
    rw [ey] at rx
    obtain ⟨a, us, ea, st, rs⟩ := rx.tup_of
    exact ⟨a, us, ea, .inr ⟨st.sq, z al1 H1 us.reverse _ e1 rh1 rs.reverse (wk_revT st)⟩⟩
  · rename_i ys ey
    rw [ey] at rx
    obtain ⟨a, us, ea, st, rs⟩ := rx.tl_of
    exact ⟨a, us, ea, .inl ⟨SqL.of st.1, z al1 H1 us.reverse _ e1 rh1 rs.reverse (wk_revL fun al' h' H' e => SqL.of (e.keep a _ st.2.1 st.1).1)⟩⟩
  · rename_i l0 el
    split at es
    · rename_i ys g
      cases es
      rw [el] at rx
      obtain ⟨a, ea, e2⟩ := rx.ref_of
      obtain ⟨us, rs, s1, s2⟩ := frz_sq rh1 e2 g (hl l0 rfl)
      exact ⟨a, us, ea, .inl ⟨s1, z al1 H1 us.reverse _ e1 rh1 rs.reverse (wk_revL s2)⟩⟩
    · cases es
theorem bd62_of {i : Int} (h : bd62 i = true) : -(2 ^ 62) ≤ i ∧ i < 2 ^ 62 := by
  unfold bd62 at h
  rw [Bool.and_eq_true, decide_eq_true_eq, decide_eq_true_eq] at h
  omega
theorem imp_rng1 {ca : Env → Hs → T (Val × Hs)} {R : It → Hp → Prop} (w : tI F .rng (fun s h => (ca s h).bind fun p => .ok ([p.1], p.2)) σ H R) : iRng1 (tA F fun s h => (ca s h).bind fun p => .ok ([p.1], p.2)) σ H R := by
  obtain ⟨K, al, s, h, rfl, rh, re, p⟩ := w
  refine tA.seq rh re (T.all_bind.mpr (T.all_mono (fun q z al1 H1 x e1 rh1 re1 rx => ?_) (T.all_bind.mp p)))
  obtain ⟨xs, l, es, hl, z⟩ := z
  obtain ⟨v, ld, lkd⟩ : ∃ v, q.1 = v ∧ True := ⟨_, rfl, trivial⟩
  simp only at es rx e1 rh1 z
  rw [ld] at es rx
  cases v with
  | int j =>
    simp only [srcV] at es
    split at es
    · rename_i b
      cases es
      rw [Bool.and_eq_true] at b
      obtain ⟨b1, b2⟩ := bd62_of b.1
      obtain ⟨u, ex, ru⟩ := rx.one_of
      rw [ru.int_of] at ex
      exact ⟨j, ex, b1, b2, z al1 H1 _ _ e1 rh1 (rngL_rv 0 _) (wk_rng 0 _)⟩
    · cases es
  | _ => simp only [srcV] at es; cases es
theorem imp_rng2 {ca cb : Env → Hs → T (Val × Hs)} {R : It → Hp → Prop} (w : tI F .rng (fun s h => (ca s h).bind fun p => (cb s p.2).bind fun q => .ok ([p.1, q.1], q.2)) σ H R) :
    iRng2 (tA F fun s h => (ca s h).bind fun p => (cb s p.2).bind fun q => .ok ([p.1, q.1], q.2)) σ H R := by
  obtain ⟨K, al, s, h, rfl, rh, re, p⟩ := w
  refine tA.seq rh re (T.all_bind.mpr (T.all_mono (fun q z => T.all_bind.mpr (T.all_mono (fun q2 z al1 H1 x e1 rh1 re1 rx => ?_) (T.all_bind.mp z))) (T.all_bind.mp p)))
  obtain ⟨xs, l, es, hl, z⟩ := z
  obtain ⟨v, ld⟩ : ∃ v, q.1 = v := ⟨_, rfl⟩
  obtain ⟨v2, ld2⟩ : ∃ v, q2.1 = v := ⟨_, rfl⟩
  simp only at es rx e1 rh1 z
  rw [ld, ld2] at es rx
  cases v with
  | int i =>
    cases v2 with
    | int j =>
      simp only [srcV] at es
      split at es
      · rename_i b
        cases es
        rw [Bool.and_eq_true, Bool.and_eq_true] at b
        obtain ⟨b1, b2⟩ := bd62_of b.1.1
        obtain ⟨b3, b4⟩ := bd62_of b.1.2
        obtain ⟨u, u2, ex, ru, ru2⟩ := rx.two_of
        rw [ru.int_of, ru2.int_of] at ex
        exact ⟨i, j, ex, ⟨b1, b2, b3, b4⟩, z al1 H1 _ _ e1 rh1 (rngL_rv i _) (wk_rng i _)⟩
      · cases es
    | _ => simp only [srcV] at es; cases es
  | _ => simp only [srcV] at es; cases es
theorem rgN_size {i j c : Int} (hc : c ≠ 0) : Builtin.Range.rangeSize i j c = (rgN i j c : Nat) := by
  unfold Builtin.Range.rangeSize rgN
  by_cases h : 0 < c
  · simp only [h, decide_true, if_true, gt_iff_lt]
    split
    · rename_i q
      have e : j - i + c - 1 = (j - i - 1) + 1 * c := by omega
      rw [e, Int.add_mul_ediv_right _ _ (by omega)]
      have : 0 ≤ (j - i - 1) / c := Int.ediv_nonneg (by omega) (by omega)
      omega
    · rename_i q
      have : (j - i + c - 1) / c ≤ 0 := by
        have h1 : (j - i + c - 1) / c < 1 := Int.ediv_lt_of_lt_mul h (by omega)
        omega
      omega
  · have h2 : ¬ c > 0 := h
    simp only [h, h2, decide_false, if_false, Bool.false_eq_true]
    have hn : 0 < -c := by omega
    split
    · rename_i q
      have e : i - j + -c - 1 = (i - j - 1) + 1 * (-c) := by omega
      rw [e, Int.add_mul_ediv_right _ _ (by omega)]
      have : 0 ≤ (i - j - 1) / -c := Int.ediv_nonneg (by omega) (by omega)
      omega
    · rename_i q
      have : (i - j + -c - 1) / -c ≤ 0 := by
        have h1 : (i - j + -c - 1) / -c < 1 := Int.ediv_lt_of_lt_mul hn (by omega)
        omega
      omega
theorem rg_small {i j c : Int} (h1 : -(2 ^ 62) ≤ i) (h2 : i < 2 ^ 62) (h3 : -(2 ^ 62) ≤ j) (h4 : j < 2 ^ 62) (hc : c ≠ 0) (h5 : c.natAbs < 1000000) (h6 : rgN i j c ≤ 1000000) : Builtin.Range.small i j c = true := by
  unfold Builtin.Range.small
  rw [rgN_size hc]
  generalize rgN i j c = n at h6
  simp only [Builtin.Range.rangeFitsLong, Bool.and_eq_true, decide_eq_true_eq, Bool.or_eq_true]
  refine ⟨⟨⟨⟨by omega, by omega⟩, by omega⟩, by omega⟩, .inr ?_⟩
  split <;> (rw [Bool.and_eq_true, decide_eq_true_eq, decide_eq_true_eq]; omega)
theorem imp_rng3 {ca cb cc : Env → Hs → T (Val × Hs)} {R : It → Hp → Prop} (w : tI F .rng (fun s h => (ca s h).bind fun p => (cb s p.2).bind fun q => (cc s q.2).bind fun r => .ok ([p.1, q.1, r.1], r.2)) σ H R) :
    iRng3 (tA F fun s h => (ca s h).bind fun p => (cb s p.2).bind fun q => (cc s q.2).bind fun r => .ok ([p.1, q.1, r.1], r.2)) σ H R := by
  obtain ⟨K, al, s, h, rfl, rh, re, p⟩ := w
  refine tA.seq rh re (T.all_bind.mpr (T.all_mono (fun q z => T.all_bind.mpr (T.all_mono (fun q2 z => T.all_bind.mpr (T.all_mono (fun q3 z al1 H1 x e1 rh1 re1 rx => ?_) (T.all_bind.mp z))) (T.all_bind.mp z))) (T.all_bind.mp p)))
  obtain ⟨xs, l, es, hl, z⟩ := z
  obtain ⟨v, ld⟩ : ∃ v, q.1 = v := ⟨_, rfl⟩
  obtain ⟨v2, ld2⟩ : ∃ v, q2.1 = v := ⟨_, rfl⟩
  obtain ⟨v3, ld3⟩ : ∃ v, q3.1 = v := ⟨_, rfl⟩
  simp only at es rx e1 rh1 z
  rw [ld, ld2, ld3] at es rx
  cases v with
  | int i =>
    cases v2 with
    | int j =>
      cases v3 with
      | int c =>
        simp only [srcV] at es
        split at es
        · rename_i b
          cases es
          simp only [Bool.and_eq_true, Nat.blt_eq, decide_eq_true_eq] at b
          obtain ⟨⟨⟨⟨b1, b2⟩, b3⟩, b4⟩, b5⟩ := b
          obtain ⟨c1, c2⟩ := bd62_of b1
          obtain ⟨c3, c4⟩ := bd62_of b2
          obtain ⟨u, u2, u3, ex, ru, ru2, ru3⟩ := rx.three_of
          rw [ru.int_of, ru2.int_of, ru3.int_of] at ex
          exact ⟨i, j, c, rgN i j c, ex, ⟨b3, by omega, rg_small c1 c2 c3 c4 b3 b4 (Nat.le_of_ble_eq_true b5), rgN_size b3⟩, z al1 H1 _ _ e1 rh1 (rngC_rv i c _) (wk_rngC i c _)⟩
        · cases es
      | _ => simp only [srcV] at es; cases es
    | _ => simp only [srcV] at es; cases es
  | _ => simp only [srcV] at es; cases es
end
end Eng
/-! Loops and comprehensions, from runs. -/
namespace Eng
open PySem L2

mutual
def slots : Tg → List Nat
  | .nm i => [i]
  | .tp ts => slotsL ts
def slotsL : List Tg → List Nat
  | [] => []
  | t :: ts => slots t ++ slotsL ts
end
/-- what is wanted behind a statement -/
def Pd (K : Cn) (al : List Addr) (h : Hs) (H : Hp) (D : Ends) : Rs → Prop := fun r => ∀ al' H' σ', Ext al h H al' r.2.2 H' → RH K al' r.2.2 H' → RE K al' H' r.2.1 σ' → match r.1 with
  | .nx => D.nx σ' H'
  | .bk => D.bk σ' H'
  | .ct => D.ct σ' H'
  | .rt v => ∀ u, RV K al' H' v u → D.rt u H'
def tS (F : PySem.W.Frag) (c : Env → Hs → T Rs) : TS := fun D σ H => ∃ K al s h, K.K = F ∧ RH K al h H ∧ RE K al H s σ ∧ (c s h).All (Pd K al h H D)
def tG (F : PySem.W.Frag) (tg : Tg) : TG := fun v σ H Q => ∃ K al s h x s', K.K = F ∧ RH K al h H ∧ RE K al H s σ ∧ RV K al H x v ∧ tgS tg x s = some s' ∧
  ∀ σ', RE K al H s' σ' → σ'.length = σ.length → (∀ j : Nat, j ∉ slots tg → σ'[j]? = σ[j]?) → Q σ' H
theorem Pd.trans {K : Cn} {al al' : List Addr} {H H' : Hp} {h h' : Hs} {D : Ends} {q : Rs} (e : Ext al h H al' h' H') (p : Pd K al h H D q) : Pd K al' h' H' D q := fun al2 H2 σ' e2 r v => p al2 H2 σ' (e.trans e2) r v

section
variable {F : PySem.W.Frag} {σ : St} {H : Hp}
theorem imp_for {c : Env → Hs → T (List Val × Hs)} {sk : Sk} {tg : Tg} {body : Env → Hs → T Rs} {D : Ends}
    (w : ∃ K al s h, K.K = F ∧ RH K al h H ∧ RE K al H s σ ∧ (c s h).All fun p => ∃ xs l, srcV sk p.1 p.2 = some (xs, l) ∧ (∀ l', l = some l' → p.2.lk.contains l' = true) ∧ (forL (tgS tg) body xs s p.2).All (Pd K al h H D)) :
    tFor (tI F sk c) (tG F tg) (tS F body) D σ H := by
  obtain ⟨K, al, s, h, rfl, rh, re, p⟩ := w
  refine ⟨K, al, s, h, rfl, rh, re, T.all_mono (fun q z => ?_) p⟩
  obtain ⟨xs, l, es, hl, z⟩ := z
  refine ⟨xs, l, es, hl, fun al1 H1 us J e1 rh1 rs wk => ?_⟩
  have hlen := rs.length
  refine ⟨fun i m σ' H' => m = us.length - i ∧ i ≤ us.length ∧ ∃ al' s' h', Ext al1 q.2 H1 al' h' H' ∧ RH K al' h' H' ∧ RE K al' H' s' σ' ∧ (forL (tgS tg) body (xs.drop i) s' h').All (Pd K al h H D),
    ⟨us.length, by simp, Nat.zero_le _, al1, s, q.2, Ext.refl, rh1, re.mono e1.toKp, by rw [List.drop_zero]; exact z⟩, ?_⟩
  rintro i m σ' H' ⟨rfl, hi, al', s', h', e2, rh2, re2, p2⟩
  obtain ⟨wk1, wk2⟩ := wk al' h' H' e2
  by_cases hlt : i < us.length
  · obtain ⟨u, hu⟩ : ∃ u, us[i]? = some u := ⟨_, List.getElem?_eq_getElem hlt⟩
    obtain ⟨go, yl⟩ := wk1 i u hu
    have hx : xs[i]? = some xs[i] := List.getElem?_eq_getElem (by omega)
    have hd : xs.drop i = xs[i] :: xs.drop (i + 1) := List.drop_eq_getElem_cons (by omega)
    rw [hd] at p2
    unfold forL at p2
    have ru : RV K al' H' xs[i] u := (rs.mono e2.toKp).at hx hu
    split at p2
    · exact p2.elim
    · rename_i s1 hs1
      refine .inr ⟨go, fun σ'' H'' => ∃ al'' s'' h'', Ext al1 q.2 H1 al'' h'' H'' ∧ RH K al'' h'' H'' ∧ RE K al'' H'' s'' σ'' ∧ (forL (tgS tg) body (xs.drop (i + 1)) s'' h'').All (Pd K al h H D),
        fun σ'' H'' ⟨al'', s'', h'', z1, z2, z3, z4⟩ => ⟨us.length - (i + 1), by omega, rfl, hlt, al'', s'', h'', z1, z2, z3, z4⟩, fun v H2 y => ?_⟩
      obtain ⟨ev, eH⟩ := yl v H2 y
      subst ev eH
      refine ⟨K, al', s', h', xs[i], s1, rfl, rh2, re2, ru, hs1, fun σ2 re3 _ _ => ?_⟩
      refine ⟨K, al', s1, h', rfl, rh2, re3, T.all_mono (fun r z al3 H3 σ3 e3 rh3 re4 => ?_) (T.all_bind.mp p2)⟩
      have ee := e2.trans e3
      split <;> rename_i ef <;> rw [ef] at z
      · exact ⟨al3, _, _, ee, rh3, re4, z⟩
      · exact z al3 H3 σ3 (e1.trans ee) rh3 re4
      · exact ⟨al3, _, _, ee, rh3, re4, z⟩
      · exact fun u' ru' => z al3 H3 σ3 (e1.trans ee) rh3 re4 u' ru'
  · have ei : i = us.length := by omega
    subst ei
    rw [List.drop_of_length_le (by omega)] at p2
    exact .inl ⟨wk2, p2 al' H' σ' (e1.trans e2) rh2 re2⟩

/-! ### a list that is being made -/
theorem Cn.eta (K : Cn) : (⟨K.K, K.fb⟩ : Cn) = K := rfl
section
variable {K : Cn} {al : List Addr} {D : Addr} {h : Hs}
theorem Own.forbid {H : Hp} {a : Addr} {o : HO} (n : H D = none) (s : Own K al H a o) : Own ⟨K.K, D :: K.fb⟩ al H a o := by
  obtain ⟨rd, z1, z2⟩ := s
  refine ⟨rd, z1, ?_⟩
  simp only [List.mem_cons, not_or]
  refine ⟨fun e => ?_, z2⟩
  rw [e, n] at rd
  cases rd
theorem Own.upd {H : Hp} {a : Addr} {u o : HO} (m : D ∈ K.fb) (s : Own K al H a u) : Own K al (upd H D o) a u := by
  obtain ⟨rd, z1, z2⟩ := s
  exact ⟨by rw [upd_ne fun e => z2 (by rw [e]; exact m)]; exact rd, z1, z2⟩
theorem Own.adopt {H : Hp} {a : Addr} {u : HO} {ds : List Addr} (hd : ∀ d ∈ ds, d = D) (s : Own ⟨K.K, D :: K.fb⟩ al H a u) : Own K (al ++ ds) H a u := by
  obtain ⟨rd, z1, z2⟩ := s
  simp only [List.mem_cons, not_or] at z2
  refine ⟨rd, ?_, z2.2⟩
  simp only [List.mem_append, not_or]
  exact ⟨z1, fun m => z2.1 (hd a m)⟩
theorem StT.forbid {H : Hp} {a : Addr} {us : List V} (n : H D = none) (s : StT K al H a us) : StT ⟨K.K, D :: K.fb⟩ al H a us := s.imp (fun ⟨o, d, s⟩ => ⟨o, d, Own.forbid n s⟩) id
theorem StL.forbid {H : Hp} {a : Addr} {us : List V} (n : H D = none) (s : StL K al H a us) : StL ⟨K.K, D :: K.fb⟩ al H a us := by
  rcases s with ⟨rd, z1, z2⟩ | s
  · refine .inl ⟨rd, z1, ?_⟩
    simp only [List.mem_cons, not_or]
    refine ⟨fun e => ?_, z2⟩
    subst e
    rcases rd with rd | ⟨o, rd⟩ <;> (rw [n] at rd; cases rd)
  · exact .inr s
theorem StT.upd {H : Hp} {a : Addr} {us : List V} {o : HO} (m : D ∈ K.fb) (s : StT K al H a us) : StT K al (L2.upd H D o) a us := s.imp (fun ⟨o', d, s⟩ => ⟨o', d, Own.upd m s⟩) id
theorem StL.upd {H : Hp} {a : Addr} {us : List V} {o : HO} (m : D ∈ K.fb) (s : StL K al H a us) : StL K al (upd H D o) a us := by
  rcases s with ⟨rd, z1, z2⟩ | s
  · have ne : a ≠ D := fun e => z2 (by rw [e]; exact m)
    refine .inl ⟨?_, z1, z2⟩
    unfold Rd
    rw [upd_ne ne]
    exact rd
  · exact .inr s
/-- D is taken on, or given back as a value -/
theorem StT.adopt {H : Hp} {a : Addr} {us : List V} {ds : List Addr} (hd : ∀ d ∈ ds, d = D) (s : StT ⟨K.K, D :: K.fb⟩ al H a us) : StT K (al ++ ds) H a us := s.imp (fun ⟨o, d, s⟩ => ⟨o, d, Own.adopt hd s⟩) id
theorem StL.adopt {H : Hp} {a : Addr} {us : List V} {ds : List Addr} (hd : ∀ d ∈ ds, d = D) (s : StL ⟨K.K, D :: K.fb⟩ al H a us) : StL K (al ++ ds) H a us := by
  rcases s with ⟨rd, z1, z2⟩ | s
  · simp only [List.mem_cons, not_or] at z2
    refine .inl ⟨rd, ?_, z2.2⟩
    simp only [List.mem_append, not_or]
    exact ⟨z1, fun m => z2.1 (hd a m)⟩
  · exact .inr s
mutual
theorem RV.forbid {H : Hp} (n : H D = none) : ∀ {x : Val} {u : V}, RV K al H x u → RV ⟨K.K, D :: K.fb⟩ al H x u
  | .non, u, h => by simp only [RV] at h ⊢; exact h
  | .bl b, u, h => by simp only [RV] at h ⊢; exact h
  | .int i, u, h => by simp only [RV] at h ⊢; exact h
  | .str x, u, h => by simp only [RV] at h ⊢; exact h
  | .tup xs, u, h => by
    simp only [RV] at h ⊢
    obtain ⟨a, us, e, s, r⟩ := h
    exact ⟨a, us, e, s.forbid n, RVs.forbid n r⟩
  | .tl xs, u, h => by
    simp only [RV] at h ⊢
    obtain ⟨a, us, e, ⟨s1, s2, s3⟩, r⟩ := h
    refine ⟨a, us, e, ⟨s1, s2, ?_⟩, RVs.forbid n r⟩
    simp only [List.mem_cons, not_or]
    exact ⟨fun z => (by rw [z, n] at s1; cases s1), s3⟩
  | .ref l, u, h => by simp only [RV] at h ⊢; exact h
  | .scr, u, h => by
    simp only [RV] at h ⊢
    obtain ⟨a, ns, e, s, r⟩ := h
    exact ⟨a, ns, e, s.forbid n, r⟩
  | .sl a ns, u, h => by
    simp only [RV] at h ⊢
    exact ⟨h.1, h.2.forbid n⟩
  | .fd t ks vs, u, h => by
    simp only [RV] at h ⊢
    obtain ⟨a, us, e, s, l, r⟩ := h
    exact ⟨a, us, e, s.forbid n, l, RVs.forbid n r⟩
theorem RVs.forbid {H : Hp} (n : H D = none) : ∀ {xs : List Val} {us : List V}, RVs K al H xs us → RVs ⟨K.K, D :: K.fb⟩ al H xs us
  | [], us, h => by simp only [RVs] at h ⊢; exact h
  | x :: xs, us, h => by
    simp only [RVs] at h ⊢
    obtain ⟨u, r, e, h1, h2⟩ := h
    exact ⟨u, r, e, RV.forbid n h1, RVs.forbid n h2⟩
end
mutual
theorem RV.updD {H : Hp} {o : HO} (m : D ∈ K.fb) : ∀ {x : Val} {u : V}, RV K al H x u → RV K al (upd H D o) x u
  | .non, u, h => by simp only [RV] at h ⊢; exact h
  | .bl b, u, h => by simp only [RV] at h ⊢; exact h
  | .int i, u, h => by simp only [RV] at h ⊢; exact h
  | .str x, u, h => by simp only [RV] at h ⊢; exact h
  | .tup xs, u, h => by
    simp only [RV] at h ⊢
    obtain ⟨a, us, e, s, r⟩ := h
    exact ⟨a, us, e, s.upd m, RVs.updD m r⟩
  | .tl xs, u, h => by
    simp only [RV] at h ⊢
    obtain ⟨a, us, e, ⟨s1, s2, s3⟩, r⟩ := h
    exact ⟨a, us, e, ⟨by rw [upd_ne fun z => s3 (by rw [z]; exact m)]; exact s1, s2, s3⟩, RVs.updD m r⟩
  | .ref l, u, h => by simp only [RV] at h ⊢; exact h
  | .scr, u, h => by
    simp only [RV] at h ⊢
    obtain ⟨a, ns, e, s, r⟩ := h
    exact ⟨a, ns, e, s.upd m, r⟩
  | .sl a ns, u, h => by
    simp only [RV] at h ⊢
    exact ⟨h.1, h.2.upd m⟩
  | .fd t ks vs, u, h => by
    simp only [RV] at h ⊢
    obtain ⟨a, us, e, s, l, r⟩ := h
    exact ⟨a, us, e, s.upd m, l, RVs.updD m r⟩
theorem RVs.updD {H : Hp} {o : HO} (m : D ∈ K.fb) : ∀ {xs : List Val} {us : List V}, RVs K al H xs us → RVs K al (upd H D o) xs us
  | [], us, h => by simp only [RVs] at h ⊢; exact h
  | x :: xs, us, h => by
    simp only [RVs] at h ⊢
    obtain ⟨u, r, e, h1, h2⟩ := h
    exact ⟨u, r, e, RV.updD m h1, RVs.updD m h2⟩
end
mutual
theorem RV.adopt {H : Hp} {ds : List Addr} (hd : ∀ d ∈ ds, d = D) : ∀ {x : Val} {u : V}, RV ⟨K.K, D :: K.fb⟩ al H x u → RV K (al ++ ds) H x u
  | .non, u, h => by simp only [RV] at h ⊢; exact h
  | .bl b, u, h => by simp only [RV] at h ⊢; exact h
  | .int i, u, h => by simp only [RV] at h ⊢; exact h
  | .str x, u, h => by simp only [RV] at h ⊢; exact h
  | .tup xs, u, h => by
    simp only [RV] at h ⊢
    obtain ⟨a, us, e, s, r⟩ := h
    exact ⟨a, us, e, s.adopt hd, RVs.adopt hd r⟩
  | .tl xs, u, h => by
    simp only [RV] at h ⊢
    obtain ⟨a, us, e, ⟨s1, s2, s3⟩, r⟩ := h
    simp only [List.mem_cons, not_or] at s3
    refine ⟨a, us, e, ⟨s1, ?_, s3.2⟩, RVs.adopt hd r⟩
    simp only [List.mem_append, not_or]
    exact ⟨s2, fun m => s3.1 (hd a m)⟩
  | .ref l, u, h => by
    simp only [RV] at h ⊢
    obtain ⟨a, e, q⟩ := h
    exact ⟨a, e, by rw [List.getElem?_append_left (List.getElem?_eq_some_iff.mp q).1]; exact q⟩
  | .scr, u, h => by
    simp only [RV] at h ⊢
    obtain ⟨a, ns, e, s, r⟩ := h
    exact ⟨a, ns, e, s.adopt hd, r⟩
  | .sl a ns, u, h => by
    simp only [RV] at h ⊢
    exact ⟨h.1, h.2.adopt hd⟩
  | .fd t ks vs, u, h => by
    simp only [RV] at h ⊢
    obtain ⟨a, us, e, s, l, r⟩ := h
    exact ⟨a, us, e, s.adopt hd, l, RVs.adopt hd r⟩
theorem RVs.adopt {H : Hp} {ds : List Addr} (hd : ∀ d ∈ ds, d = D) : ∀ {xs : List Val} {us : List V}, RVs ⟨K.K, D :: K.fb⟩ al H xs us → RVs K (al ++ ds) H xs us
  | [], us, h => by simp only [RVs] at h ⊢; exact h
  | x :: xs, us, h => by
    simp only [RVs] at h ⊢
    obtain ⟨u, r, e, h1, h2⟩ := h
    exact ⟨u, r, e, RV.adopt hd h1, RVs.adopt hd h2⟩
end
theorem RO.forbid {H : Hp} {l : Nat} {a : Addr} {ob : Ob} {lk : List Nat} (n : H D = none) (x : RO K al lk H l a ob) : RO ⟨K.K, D :: K.fb⟩ al lk H l a ob := by
  cases ob with
  | lst xs => obtain ⟨us, q, r⟩ := x; exact ⟨us, q, r.forbid n⟩
  | dct t ks vs => obtain ⟨us, q, e, r⟩ := x; exact ⟨us, q, e, r.forbid n⟩
  | tape => obtain ⟨sa, ns, p, b, s, q, sq, rest⟩ := x; exact ⟨sa, ns, p, b, s, q, sq.forbid n, rest⟩
theorem RO.updD {H : Hp} {l : Nat} {a : Addr} {ob : Ob} {lk : List Nat} {o : HO} (m : D ∈ K.fb) (na : a ≠ D) (x : RO K al lk H l a ob) : RO K al lk (upd H D o) l a ob := by
  cases ob with
  | lst xs => obtain ⟨us, q, r⟩ := x; exact ⟨us, by rw [upd_ne na]; exact q, r.updD m⟩
  | dct t ks vs => obtain ⟨us, q, e, r⟩ := x; exact ⟨us, by rw [upd_ne na]; exact q, e, r.updD m⟩
  | tape => obtain ⟨sa, ns, p, b, s, q, sq, rest⟩ := x; exact ⟨sa, ns, p, b, s, by rw [upd_ne na]; exact q, sq.upd m, rest⟩
theorem RO.adopt {H : Hp} {l : Nat} {a : Addr} {ob : Ob} {lk : List Nat} {ds : List Addr} (hd : ∀ d ∈ ds, d = D) (x : RO ⟨K.K, D :: K.fb⟩ al lk H l a ob) : RO K (al ++ ds) lk H l a ob := by
  cases ob with
  | lst xs => obtain ⟨us, q, r⟩ := x; exact ⟨us, q, r.adopt hd⟩
  | dct t ks vs => obtain ⟨us, q, e, r⟩ := x; exact ⟨us, q, e, r.adopt hd⟩
  | tape => obtain ⟨sa, ns, p, b, s, q, sq, rest⟩ := x; exact ⟨sa, ns, p, b, s, q, sq.adopt hd, rest⟩
/-- D is laid and forbidden -/
theorem RH.forbid {H : Hp} {o : HO} (nt : ∀ us, o ≠ .tup us) (r : RH K al h H) (n : H D = none) : RH ⟨K.K, D :: K.fb⟩ al h (upd H D o) := by
  have nd := r.free n
  refine ⟨r.len, r.os, r.nd, r.lkb, fun a m => ?_, fun l a ob e1 e2 => ?_⟩
  · rcases List.mem_cons.mp m with e | m
    · subst e
      exact ⟨nd, _, upd_same, nt⟩
    · obtain ⟨z1, u, q, nt'⟩ := r.fb a m
      exact ⟨z1, u, by rw [upd_ne (ne_of_none q n)]; exact q, nt'⟩
  · have na : a ≠ D := fun z => nd (by rw [← z]; exact List.mem_of_getElem? e1)
    exact RO.updD (K := ⟨K.K, D :: K.fb⟩) List.mem_cons_self na (RO.forbid n (r.ob l a ob e1 e2))
theorem RH.updD {H : Hp} {o : HO} (nt : ∀ us, o ≠ .tup us) (r : RH K al h H) (m : D ∈ K.fb) : RH K al h (upd H D o) := by
  refine ⟨r.len, r.os, r.nd, r.lkb, fun a ma => ?_, fun l a ob e1 e2 => ?_⟩
  · obtain ⟨z1, u, q, nt'⟩ := r.fb a ma
    refine ⟨z1, ?_⟩
    by_cases e : a = D
    · subst e
      exact ⟨_, upd_same, nt⟩
    · exact ⟨u, by rw [upd_ne e]; exact q, nt'⟩
  · have na : a ≠ D := fun z => (r.fb D m).1 (by rw [← z]; exact List.mem_of_getElem? e1)
    exact RO.updD m na (r.ob l a ob e1 e2)
theorem RH.back {H : Hp} (r : RH ⟨K.K, D :: K.fb⟩ al h H) : RH K al h H :=
  ⟨r.len, r.os, r.nd, r.lkb, fun a m => r.fb a (List.mem_cons_of_mem _ m), fun l a ob e1 e2 => by
    have := RO.adopt (ds := []) (fun _ z => absurd z (List.not_mem_nil)) (r.ob l a ob e1 e2)
    rw [List.append_nil] at this
    exact this⟩
/-- D is taken on as the newest object -/
theorem RH.take {H : Hp} {xs : List Val} {us : List V} (r : RH ⟨K.K, D :: K.fb⟩ al h H) (nk : D ∉ K.fb) (e : H D = some (.lst us)) (rs : RVs ⟨K.K, D :: K.fb⟩ al H xs us) : RH K (al ++ [D]) (h.new (.lst xs)) H := by
  have nd : D ∉ al := (r.fb D List.mem_cons_self).1
  have one : ∀ d ∈ [D], d = D := fun d m => List.mem_singleton.mp m
  refine ⟨by simp [Hs.new, r.len], by simp [Hs.new, r.os], ?_, fun l z => Nat.lt_succ_of_lt (r.lkb l z), fun a m => ?_, fun l a u e1 e2 => ?_⟩
  · rw [List.nodup_append]
    refine ⟨r.nd, by simp, fun a ha b hb => ?_⟩
    rw [List.mem_singleton] at hb
    subst hb
    exact fun z => nd (by rw [← z]; exact ha)
  · obtain ⟨z1, z2⟩ := r.fb a (List.mem_cons_of_mem _ m)
    refine ⟨?_, z2⟩
    simp only [List.mem_append, List.mem_singleton, not_or]
    exact ⟨z1, fun z => nk (by rw [← z]; exact m)⟩
  · rw [Hs.get_new h _ r.os] at e2
    by_cases el : l = h.n
    · subst el
      rw [if_pos rfl] at e2
      cases e2
      rw [List.getElem?_append_right (by rw [r.len]; exact Nat.le_refl _), r.len] at e1
      simp at e1
      subst e1
      refine ⟨us, ?_, rs.adopt one⟩
      split
      · rename_i z
        exact absurd (r.lkb _ z) (Nat.lt_irrefl _)
      · exact e
    · rw [if_neg el] at e2
      rw [List.getElem?_append_left (by rw [r.len]; exact Hs.get_lt e2)] at e1
      exact (r.ob l a u e1 e2).adopt one
theorem RH.takeO {H : Hp} {ob : Ob} (r : RH ⟨K.K, D :: K.fb⟩ al h H) (nk : D ∉ K.fb) (ro : RO K (al ++ [D]) h.lk H h.n D ob) : RH K (al ++ [D]) (h.new ob) H := by
  have nd : D ∉ al := (r.fb D List.mem_cons_self).1
  have one : ∀ d ∈ [D], d = D := fun d m => List.mem_singleton.mp m
  refine ⟨by simp [Hs.new, r.len], by simp [Hs.new, r.os], ?_, fun l z => Nat.lt_succ_of_lt (r.lkb l z), fun a m => ?_, fun l a u e1 e2 => ?_⟩
  · rw [List.nodup_append]
    refine ⟨r.nd, by simp, fun a ha b hb => ?_⟩
    rw [List.mem_singleton] at hb
    subst hb
    exact fun z => nd (by rw [← z]; exact ha)
  · obtain ⟨z1, z2⟩ := r.fb a (List.mem_cons_of_mem _ m)
    refine ⟨?_, z2⟩
    simp only [List.mem_append, List.mem_singleton, not_or]
    exact ⟨z1, fun z => nk (by rw [← z]; exact m)⟩
  · rw [Hs.get_new h _ r.os] at e2
    by_cases el : l = h.n
    · subst el
      rw [if_pos rfl] at e2
      cases e2
      rw [List.getElem?_append_right (by rw [r.len]; exact Nat.le_refl _), r.len] at e1
      simp at e1
      subst e1
      exact ro
    · rw [if_neg el] at e2
      rw [List.getElem?_append_left (by rw [r.len]; exact Hs.get_lt e2)] at e1
      exact (r.ob l a u e1 e2).adopt one
theorem Ext.updD {al1 : List Addr} {h1 : Hs} {H H1 : Hp} {o : HO} (e : Ext al h H al1 h1 H1) (n : H D = none) : Ext al h H al1 h1 (upd H1 D o) :=
  { pre := e.pre, keep := fun a u na q => ⟨by rw [upd_ne (ne_of_none q n)]; exact (e.keep a u na q).1, (e.keep a u na q).2⟩, frz := fun a u w q => by rw [upd_ne (ne_of_none q n)]; exact e.frz a u w q, lo := e.lo, sm := e.sm, n := e.n, lk := e.lk }
theorem Ext.take {al1 : List Addr} {h1 : Hs} {H H1 : Hp} {ob : Ob} (e : Ext al h H al1 h1 H1) (n : H D = none) (os : h1.os.length = h1.n) : Ext al h H (al1 ++ [D]) (h1.new ob) H1 :=
  { pre := fun l a q => by have := e.pre l a q; rw [List.getElem?_append_left (List.getElem?_eq_some_iff.mp this).1]; exact this
    keep := fun a u na q => ⟨(e.keep a u na q).1, by
      simp only [List.mem_append, List.mem_singleton, not_or]
      exact ⟨(e.keep a u na q).2, ne_of_none q n⟩⟩
    frz := e.frz
    lo := e.lo
    sm := fun l z1 z2 => by
      have h2 := e.n
      rw [Hs.get_new h1 ob os, if_neg (by omega)]
      exact e.sm l z1 z2
    n := Nat.le_trans e.n (Nat.le_succ _)
    lk := e.lk }
end

/-! ### comprehensions -/
theorem wipe_ext {σ σ' : St} {vs : List Nat} (hl : σ'.length = σ.length) (h : ∀ j : Nat, j ∉ vs → σ'[j]? = σ[j]?) : L2.wipe σ' vs = L2.wipe σ vs := by
  apply List.ext_getElem?
  intro j
  by_cases m : j ∈ vs
  · have key : ∀ (τ : St) (ws : List Nat), j ∈ ws → (L2.wipe τ ws)[j]? = if j < τ.length then some none else none := by
      intro τ ws
      induction ws with
      | nil => intro z; exact absurd z (List.not_mem_nil)
      | cons v ws ih =>
        intro z
        unfold L2.wipe
        rw [List.getElem?_set]
        by_cases e : v = j
        · subst e
          rw [if_pos rfl, wipe_length]
        · rw [if_neg e]
          exact ih ((List.mem_cons.mp z).resolve_left fun q => e q.symm)
    rw [key σ' vs m, key σ vs m, hl]
  · rw [wipe_out m, wipe_out m]
    exact h j m
theorem wipe_wipe {σ : St} {vs : List Nat} : L2.wipe (L2.wipe σ vs) vs = L2.wipe σ vs := wipe_ext (wipe_length σ vs) fun j m => wipe_out m
theorem imp_lc {c : Env → Hs → T (List Val × Hs)} {sk : Sk} {tg : Tg} {own : List Nat} {ct : Env → Hs → T (Bool × Hs)} {ce : Env → Hs → T (Val × Hs)} {m : Bool} {Q : V → Hp → Prop} (hs : ∀ j ∈ slots tg, j ∈ own)
    (w : ∃ K al s h, K.K = F ∧ RH K al h H ∧ RE K al H s σ ∧ (c s h).All fun p => ∃ xs l, srcV sk p.1 p.2 = some (xs, l) ∧ (∀ l', l = some l' → p.2.lk.contains l' = true) ∧ small xs.length = true ∧
      ((lcL (fun x => tgS tg x (wipeE s own)) ct ce xs p.2).bind fun r => mkL m r.1 r.2).All (Pt K al h H Q)) :
    tLc (tI F sk c) (tG F tg) (tT F ct) (tE F ce) own σ H Q := by
  obtain ⟨K, al, s, h, rfl, rh, re, p⟩ := w
  refine ⟨K, al, s, h, rfl, rh, re, T.all_mono (fun q z => ?_) p⟩
  obtain ⟨xs, l, es, hl, hsm, z⟩ := z
  refine ⟨xs, l, es, hl, fun al1 H1 us J e1 rh1 rs wk => ?_⟩
  intro D nD
  have hlen := rs.length
  have nH : H D = none := by
    cases e : H D with
    | none => rfl
    | some o =>
      by_cases mD : D ∈ al
      · obtain ⟨i, hi⟩ := List.getElem?_of_mem mD
        obtain ⟨o', q'⟩ := rh1.has (List.mem_of_getElem? (e1.pre i D hi))
        rw [nD] at q'
        cases q'
      · have := (e1.keep D o mD e).1
        rw [nD] at this
        cases this
  have nfb := rh1.nfb nD
  -- the state that a turn begins with
  let K' : Cn := ⟨K.K, D :: K.fb⟩
  have mD : D ∈ K'.fb := List.mem_cons_self
  have reD : RE K' al1 (upd H1 D (.lst [])) s σ := by
    have r1 := re.mono e1.toKp
    exact ⟨r1.len, fun i v e => let ⟨u, z1, z2⟩ := r1.get i v e; ⟨u, z1, RV.updD (K := K') mD (z2.forbid nD)⟩⟩
  have rsD : RVs K' al1 H1 xs us := rs.forbid nD
  let St1 : Nat → Hp → Prop := fun i H' => ∃ al' h' acc ws, Ext al1 q.2 H1 al' h' H' ∧ RH K' al' h' H' ∧ H' D = some (.lst ws) ∧ RVs K' al' H' acc ws ∧ acc.length ≤ i ∧
    ((lcL (fun x => tgS tg x (wipeE s own)) ct ce (xs.drop i) h').bind fun r => mkL m (acc ++ r.1) r.2).All (Pt K al h H Q)
  have reAt : ∀ {al' h' H'}, Ext al1 q.2 H1 al' h' H' → RE K' al' H' s σ := fun {al' h' H'} e => by
    have r1 := re.mono e1.toKp
    have r2 : RE K' al1 H1 s σ := ⟨r1.len, fun i v e => let ⟨u, z1, z2⟩ := r1.get i v e; ⟨u, z1, z2.forbid nD⟩⟩
    exact r2.mono e.toKp
  refine ⟨fun i mm H' => mm = us.length - i ∧ i ≤ us.length ∧ St1 i H', ⟨us.length, by simp, Nat.zero_le _, al1, q.2, [], [], ?_, RH.forbid (fun _ z => by cases z) rh1 nD, upd_same, .nil, Nat.le_refl _, ?_⟩, ?_⟩
  · exact Ext.updD Ext.refl nD
  · rw [List.drop_zero]
    exact z
  rintro i mm H' ⟨rfl, hi, al', h', acc, ws, e2, rh2, hD, ra, hacc, p2⟩
  obtain ⟨wk1, wk2⟩ := wk al' h' H' e2
  by_cases hlt : i < us.length
  · obtain ⟨u, hu⟩ : ∃ u, us[i]? = some u := ⟨_, List.getElem?_eq_getElem hlt⟩
    obtain ⟨go, yl⟩ := wk1 i u hu
    have hx : xs[i]? = some xs[i] := List.getElem?_eq_getElem (by omega)
    have hd : xs.drop i = xs[i] :: xs.drop (i + 1) := List.drop_eq_getElem_cons (by omega)
    rw [hd] at p2
    unfold lcL at p2
    have ru : RV K' al' H' xs[i] u := (rsD.mono e2.toKp).at hx hu
    split at p2
    · exact p2.elim
    · rename_i s1 hs1
      refine .inr ⟨go, St1 (i + 1), fun H'' q'' => ⟨us.length - (i + 1), by omega, rfl, hlt, q''⟩, fun v H2 y => ?_⟩
      obtain ⟨ev, eH⟩ := yl v H2 y
      subst ev eH
      refine ⟨K', al', wipeE s own, h', xs[i], s1, rfl, rh2, (reAt e2).wipe own, ru, hs1, fun σ2 re3 hl3 hag => ?_⟩
      refine ⟨?_, ?_⟩
      · rw [← wipe_wipe (σ := σ)]
        exact wipe_ext hl3 fun j mj => hag j fun z => mj (hs j z)
      · rw [T.all_bind, T.all_bind] at p2
        refine ⟨K', al', s1, h', rfl, rh2, re3, T.all_mono (fun r z2 al2 H2 e3 rh3 => ?_) p2⟩
        cases hb : r.1 with
        | false =>
          rw [if_neg Bool.false_ne_true]
          rw [hb] at z2
          simp only at z2
          exact ⟨al2, r.2, acc, ws, e2.trans e3, rh3, (e3.keep D _ (rh2.fb D mD).1 hD).1, ra.mono e3.toKp, by omega, T.all_bind.mpr z2⟩
        | true =>
          rw [if_pos rfl]
          rw [hb] at z2
          simp only at z2
          rw [T.all_bind] at z2
          refine ⟨K', al2, s1, r.2, rfl, rh3, re3.mono e3.toKp, T.all_mono (fun r2 z3 al3 H3 u3 e4 rh4 rv3 => ?_) z2⟩
          rw [T.all_bind] at z3
          have hD2 := (e3.keep D _ (rh2.fb D mD).1 hD).1
          have hD3 := (e4.keep D _ (rh3.fb D mD).1 hD2).1
          have hwl : ws.length < sizeLine := by
            have h1 := small_lt hsm
            have h2 := ra.length
            omega
          refine ⟨ws, hD3, hwl, al3, r2.2, acc ++ [r2.1], ws ++ [u3], Ext.updD (e2.trans (e3.trans e4)) nD, RH.updD (fun _ z => by cases z) rh4 mD, upd_same, ?_, by simp; omega, ?_⟩
          · exact RVs.updD mD ((ra.mono (e3.trans e4).toKp).append (.one rv3))
          · rw [T.all_bind]
            refine T.all_mono (fun r3 z4 => ?_) z3
            have ea : acc ++ [r2.1] ++ r3.1 = acc ++ r2.1 :: r3.1 := by simp
            rw [ea]
            exact z4
  · have ei : i = us.length := by omega
    subst ei
    rw [List.drop_of_length_le (by omega)] at p2
    refine .inl ⟨wk2, ?_⟩
    have p3 : (mkL m (acc ++ []) h').All (Pt K al h H Q) := p2
    rw [List.append_nil] at p3
    cases m with
    | false =>
      refine p3 al' H' _ (e1.trans e2) rh2.back ?_
      simp only [RV]
      have ra' := ra.adopt (ds := []) (fun _ z => absurd z (List.not_mem_nil))
      rw [List.append_nil] at ra'
      exact ⟨D, ws, rfl, ⟨hD, (rh2.fb D mD).1, nfb⟩, ra'⟩
    | true =>
      refine p3 (al' ++ [D]) H' _ (Ext.take (e1.trans e2) nH rh2.os) (rh2.take nfb hD ra) ?_
      simp only [RV]
      refine ⟨D, rfl, ?_⟩
      show (al' ++ [D])[h'.n]? = some D
      rw [List.getElem?_append_right (by rw [rh2.len]; exact Nat.le_refl _), rh2.len]
      simp
theorem imp_dc {c : Env → Hs → T (List Val × Hs)} {sk : Sk} {tg : Tg} {own : List Nat} {ct : Env → Hs → T (Bool × Hs)} {ck cv : Env → Hs → T (Val × Hs)} {Q : V → Hp → Prop} (hs : ∀ j ∈ slots tg, j ∈ own)
    (w : ∃ K al s h, K.K = F ∧ RH K al h H ∧ RE K al H s σ ∧ (c s h).All fun p => ∃ xs l, srcV sk p.1 p.2 = some (xs, l) ∧ (∀ l', l = some l' → p.2.lk.contains l' = true) ∧ small xs.length = true ∧
      ((dcL (fun x => tgS tg x (wipeE s own)) ct ck cv xs [] [] p.2).bind fun r => .ok (.ref r.2.n, r.2.new (.dct false r.1.1 r.1.2))).All (Pt K al h H Q)) :
    tDc (tI F sk c) (tG F tg) (tT F ct) (tE F ck) (tE F cv) own σ H Q := by
  obtain ⟨K, al, s, h, rfl, rh, re, p⟩ := w
  refine ⟨K, al, s, h, rfl, rh, re, T.all_mono (fun q z => ?_) p⟩
  obtain ⟨xs, l, es, hl, hsm, z⟩ := z
  refine ⟨xs, l, es, hl, fun al1 H1 us J e1 rh1 rs wk => ?_⟩
  intro D nD
  have hlen := rs.length
  have nH : H D = none := by
    cases e : H D with
    | none => rfl
    | some o =>
      by_cases mD : D ∈ al
      · obtain ⟨i, hi⟩ := List.getElem?_of_mem mD
        obtain ⟨o', q'⟩ := rh1.has (List.mem_of_getElem? (e1.pre i D hi))
        rw [nD] at q'
        cases q'
      · have := (e1.keep D o mD e).1
        rw [nD] at this
        cases this
  have nfb := rh1.nfb nD
  let K' : Cn := ⟨K.K, D :: K.fb⟩
  have mD : D ∈ K'.fb := List.mem_cons_self
  have rsD : RVs K' al1 H1 xs us := rs.forbid nD
  let St1 : Nat → Hp → Prop := fun i H' => ∃ al' h' ks vs ws, Ext al1 q.2 H1 al' h' H' ∧ RH K' al' h' H' ∧ H' D = some (dHO false ks ws) ∧ KOk false ks vs.length ∧ RVs K' al' H' vs ws ∧ ks.length ≤ i ∧
    ((dcL (fun x => tgS tg x (wipeE s own)) ct ck cv (xs.drop i) ks vs h').bind fun r => .ok (.ref r.2.n, r.2.new (.dct false r.1.1 r.1.2))).All (Pt K al h H Q)
  have reAt : ∀ {al' h' H'}, Ext al1 q.2 H1 al' h' H' → RE K' al' H' s σ := fun {al' h' H'} e => by
    have r1 := re.mono e1.toKp
    have r2 : RE K' al1 H1 s σ := ⟨r1.len, fun i v e => let ⟨u, z1, z2⟩ := r1.get i v e; ⟨u, z1, z2.forbid nD⟩⟩
    exact r2.mono e.toKp
  refine ⟨fun i mm H' => mm = us.length - i ∧ i ≤ us.length ∧ St1 i H', ⟨us.length, by simp, Nat.zero_le _, al1, q.2, [], [], [], ?_, RH.forbid (fun _ z => by cases z) rh1 nD, upd_same, ⟨rfl, fun _ _ m => absurd m (List.not_mem_nil), fun _ m => absurd m (List.not_mem_nil)⟩, .nil, Nat.le_refl _, ?_⟩, ?_⟩
  · exact Ext.updD Ext.refl nD
  · rw [List.drop_zero]
    exact z
  rintro i mm H' ⟨rfl, hi, al', h', ks, vs, ws, e2, rh2, hD, kk, ra, hacc, p2⟩
  obtain ⟨wk1, wk2⟩ := wk al' h' H' e2
  by_cases hlt : i < us.length
  · obtain ⟨u, hu⟩ : ∃ u, us[i]? = some u := ⟨_, List.getElem?_eq_getElem hlt⟩
    obtain ⟨go, yl⟩ := wk1 i u hu
    have hx : xs[i]? = some xs[i] := List.getElem?_eq_getElem (by omega)
    have hd : xs.drop i = xs[i] :: xs.drop (i + 1) := List.drop_eq_getElem_cons (by omega)
    rw [hd] at p2
    unfold dcL at p2
    have ru : RV K' al' H' xs[i] u := (rsD.mono e2.toKp).at hx hu
    split at p2
    · exact p2.elim
    · rename_i s1 hs1
      refine .inr ⟨go, St1 (i + 1), fun H'' q'' => ⟨us.length - (i + 1), by omega, rfl, hlt, q''⟩, fun v H2 y => ?_⟩
      obtain ⟨ev, eH⟩ := yl v H2 y
      subst ev eH
      refine ⟨K', al', wipeE s own, h', xs[i], s1, rfl, rh2, (reAt e2).wipe own, ru, hs1, fun σ2 re3 hl3 hag => ?_⟩
      refine ⟨?_, ?_⟩
      · rw [← wipe_wipe (σ := σ)]
        exact wipe_ext hl3 fun j mj => hag j fun z => mj (hs j z)
      · rw [T.all_bind, T.all_bind] at p2
        refine ⟨K', al', s1, h', rfl, rh2, re3, T.all_mono (fun r z2 al2 H2 e3 rh3 => ?_) p2⟩
        cases hb : r.1 with
        | false =>
          rw [if_neg Bool.false_ne_true]
          rw [hb] at z2
          simp only at z2
          exact ⟨al2, r.2, ks, vs, ws, e2.trans e3, rh3, (e3.keep D _ (rh2.fb D mD).1 hD).1, kk, ra.mono e3.toKp, by omega, T.all_bind.mpr z2⟩
        | true =>
          rw [if_pos rfl]
          rw [hb] at z2
          simp only at z2
          rw [T.all_bind] at z2
          refine ⟨K', al2, s1, r.2, rfl, rh3, re3.mono e3.toKp, T.all_mono (fun r2 z3 al3 H3 u3 e4 rh4 rv3 => ?_) z2⟩
          rw [T.all_bind] at z3
          refine ⟨K', al3, s1, r2.2, rfl, rh4, (re3.mono e3.toKp).mono e4.toKp, T.all_mono (fun r4 z4 al4 H4 u4 e5 rh5 rv4 => ?_) z3⟩
          split at z4
          · rename_i k hk'
            have hD2 := (e3.keep D _ (rh2.fb D mD).1 hD).1
            have hD3 := (e4.keep D _ (rh3.fb D mD).1 hD2).1
            have hD4 := (e5.keep D _ (rh4.fb D mD).1 hD3).1
            have lkw := kk.len.trans ra.length
            obtain ⟨c0, eu, ez⟩ := putK_zip (w := u4) (v := r4.1) (vs := vs) lkw (kk.one rfl) hk' (rv3.mono e5.toKp)
            have hwl : ((ks.map hk).zip ws).length < sizeLine := by
              have h1 := small_lt hsm
              rw [List.length_zip, List.length_map]
              omega
            refine ⟨(ks.map hk).zip ws, c0, eu, hD4, hwl, al4, r4.2, (dPut ks vs k r4.1).1, (dPut ks vs k r4.1).2, putU ks ws k u4, Ext.updD (e2.trans (e3.trans (e4.trans e5))) nD, RH.updD (fun _ z => by cases z) rh5 mD, ?_, dPut_ok kk hk', ?_, ?_, T.all_bind.mpr z4⟩
            · rw [upd_same, ez]
              rfl
            · exact RVs.updD mD (put_rv (ra.mono (e3.trans (e4.trans e5)).toKp) rv4)
            · have := dPut_len (ks := ks) (vs := vs) (k := k) (v := r4.1)
              omega
          · exact z4.elim
  · have ei : i = us.length := by omega
    subst ei
    rw [List.drop_of_length_le (by omega)] at p2
    refine .inl ⟨wk2, ?_⟩
    have p3 : Pt K al h H Q (.ref h'.n, h'.new (.dct false ks vs)) := p2
    have nd := (rh2.fb D mD).1
    refine p3 (al' ++ [D]) H' _ (Ext.take (e1.trans e2) nH rh2.os) (rh2.takeO nfb ⟨ws, ?_, kk, ra.adopt (ds := [D]) fun d m => List.mem_singleton.mp m⟩) ?_
    · split
      · rename_i z
        exact absurd (rh2.lkb _ z) (Nat.lt_irrefl _)
      · exact hD
    · simp only [RV]
      refine ⟨D, rfl, ?_⟩
      show (al' ++ [D])[h'.n]? = some D
      rw [List.getElem?_append_right (by rw [rh2.len]; exact Nat.le_refl _), rh2.len]
      simp
end
end Eng
/-! Statements from runs; a list that stands still while it is walked. -/
namespace Eng
open PySem L2
section
variable {K : Cn} {al al' : List Addr} {h h1 : Hs} {H H' : Hp} {l : Nat} {a : Addr} {us : List V} {xs : List Val} {od : Obj}
theorem has_cons (l m : Nat) (lk : List Nat) : (l :: lk).contains m = (m == l || lk.contains m) := by
  rw [List.contains_cons]
theorem RO.lk {lk lk' : List Nat} {ob : Ob} (e : lk.contains l = lk'.contains l) (x : RO K al lk H l a ob) : RO K al lk' H l a ob := by
  cases ob with
  | lst ys =>
    obtain ⟨ws, q, r⟩ := x
    rw [e] at q
    exact ⟨ws, q, r⟩
  | dct t ks vs =>
    obtain ⟨ws, q, r⟩ := x
    rw [e] at q
    exact ⟨ws, q, r⟩
  | tape => exact x
theorem RH.relk {lk : List Nat} (r : RH K al h H) (e : ∀ m, h.lk.contains m = lk.contains m) : RH K al (h.unlock lk) H :=
  ⟨r.len, r.os, r.nd, fun m z => r.lkb m (by rw [e]; exact z), r.fb, fun m b ob e1 e2 => (r.ob m b ob e1 e2).lk (e m)⟩
theorem RH.lock (r : RH K al h H) (e : al[l]? = some a) (g : h.get l = some (.lst xs)) (ea : H a = some (.lst us)) (nk : h.lk.contains l = false) : RH K al (h.lock l) (upd H a (.frz od (.lst us))) := by
  have kp : Kp al H al (upd H a (.frz od (.lst us))) := Kp.put r e
  have hl : l < h.n := by rw [← r.len]; exact (List.getElem?_eq_some_iff.mp e).1
  refine ⟨r.len, r.os, r.nd, fun m z => ?_, fun b m => ?_, fun m b ob e1 e2 => ?_⟩
  · have z : (l :: h.lk).contains m = true := z
    rw [has_cons, Bool.or_eq_true, beq_iff_eq] at z
    rcases z with z | z
    · rw [z]; exact hl
    · exact r.lkb m z
  · obtain ⟨z1, o, q, nt⟩ := r.fb b m
    exact ⟨z1, o, by rw [upd_ne fun z => z1 (by rw [z]; exact List.mem_of_getElem? e)]; exact q, nt⟩
  · have x := r.ob m b ob e1 e2
    show RO K al (l :: h.lk) _ m b ob
    by_cases em : m = l
    · subst em
      rw [e] at e1
      cases e1
      have e2' : h.get m = some ob := e2
      rw [g] at e2'
      cases e2'
      · obtain ⟨ws, q, rs⟩ := x
        rw [nk, if_neg Bool.false_ne_true] at q
        refine ⟨us, ?_, ?_⟩
        · rw [has_cons, beq_self_eq_true, Bool.true_or, if_pos rfl]
          exact ⟨od, upd_same⟩
        · rw [ea] at q
          cases q
          exact rs.mono kp
    · refine RO.lk (lk := h.lk) ?_ (RO.mono kp ?_ x)
      · rw [has_cons, beq_eq_false_iff_ne.mpr em, Bool.false_or]
      · rw [upd_ne fun z => em (r.inj (by rw [← z]; exact e1) e)]

theorem Ext.unlock (r : RH K al h H) (e : al[l]? = some a) (ea : H a = some (.lst us)) (x : Ext al (h.lock l) (upd H a (.frz od (.lst us))) al' h1 H') : Ext al h H al' (h1.unlock h.lk) (upd H' a (.lst us)) := by
  have ma : a ∈ al := List.mem_of_getElem? e
  refine { pre := x.pre, keep := fun b o nb q => ?_, frz := fun b o u q => ?_, lo := x.lo, sm := x.sm, n := x.n, lk := rfl }
  · have ne : b ≠ a := fun z => nb (by rw [z]; exact ma)
    obtain ⟨z1, z2⟩ := x.keep b o nb (by rw [upd_ne ne]; exact q)
    exact ⟨by rw [upd_ne ne]; exact z1, z2⟩
  · have ne : b ≠ a := fun z => by rw [z, ea] at q; cases q
    rw [upd_ne ne]
    exact x.frz b o u (by rw [upd_ne ne]; exact q)
theorem RH.unlock (r' : RH K al' h1 H') (e : al'[l]? = some a) (nk : h.lk.contains l = false) (hk : h1.lk = l :: h.lk) (ea : H' a = some (.frz od (.lst us))) : RH K al' (h1.unlock h.lk) (upd H' a (.lst us)) := by
  have kp : Kp al' H' al' (upd H' a (.lst us)) := Kp.put r' e
  refine ⟨r'.len, r'.os, r'.nd, fun m z => r'.lkb m ?_, fun b m => ?_, fun m b ob e1 e2 => ?_⟩
  · rw [hk, has_cons]
    have z : h.lk.contains m = true := z
    rw [z, Bool.or_true]
  · obtain ⟨z1, o, q, nt⟩ := r'.fb b m
    exact ⟨z1, o, by rw [upd_ne fun z => z1 (by rw [z]; exact List.mem_of_getElem? e)]; exact q, nt⟩
  · have x := r'.ob m b ob e1 e2
    rw [hk] at x
    show RO K al' h.lk _ m b ob
    by_cases em : m = l
    · subst em
      rw [e] at e1
      cases e1
      cases ob with
      | lst ys =>
        obtain ⟨ws, q, rs⟩ := x
        rw [has_cons, beq_self_eq_true, Bool.true_or, if_pos rfl] at q
        obtain ⟨od', q⟩ := q
        rw [ea] at q
        cases q
        refine ⟨us, ?_, rs.mono kp⟩
        rw [nk, if_neg Bool.false_ne_true]
        exact upd_same
      | dct t ks vs =>
        obtain ⟨ws, q, rs⟩ := x
        rw [has_cons, beq_self_eq_true, Bool.true_or, if_pos rfl] at q
        obtain ⟨od', q⟩ := q
        rw [ea] at q
        unfold dHO at q
        cases t <;> cases q
      | tape =>
        obtain ⟨sa, ns, p, b, s, q, sq, rest⟩ := x
        rw [ea] at q
        cases q
    · refine RO.lk (lk := l :: h.lk) ?_ (RO.mono kp ?_ x)
      · rw [has_cons, beq_eq_false_iff_ne.mpr em, Bool.false_or]
      · rw [upd_ne fun z => em (r'.inj (by rw [← z]; exact e1) e)]
end
section
variable {F : PySem.W.Frag} {σ : St} {H : Hp}
/-- a list that stands still already, or comes to -/
theorem imp_forL {i : Nat} {sk : Sk} {tg : Tg} {c : Env → Hs → T (List Val × Hs)} {body : Env → Hs → T Rs} {D : Ends} {K : Cn} {al : List Addr} {s : Env} {h : Hs} {l : Nat} {ys xs : List Val} (eF : K.K = F) (rh : RH K al h H) (re : RE K al H s σ)
    (hc : ∀ h, c s h = .ok ([.ref l], h)) (hs : s[i]? = some (some (.ref l))) (g : h.get l = some (.lst ys)) (es : ∀ h' : Hs, h'.get l = some (.lst ys) → srcV sk [.ref l] h' = some (xs, some l))
    (p : ((forL (tgS tg) body xs s (h.lock l)).bind fun r => .ok (r.1, r.2.1, r.2.2.unlock h.lk)).All (Pd K al h H D)) :
    tFor (tI F sk c) (tG F tg) (tS F body) D σ H ∨ tLock (tFor (tI F sk c) (tG F tg) (tS F body)) D σ H := by
  subst eF
  rw [T.all_bind] at p
  obtain ⟨u, _, ru⟩ := re.get i _ hs
  obtain ⟨a, eu, ea⟩ := ru.ref_of
  have lself : (h.lock l).lk.contains l = true := by
    show (l :: h.lk).contains l = true
    rw [has_cons, beq_self_eq_true, Bool.true_or]
  cases nk : h.lk.contains l with
  | true =>
    left
    have same : ∀ m, h.lk.contains m = (l :: h.lk).contains m := fun m => by
      rw [has_cons]
      by_cases e : m = l
      · subst e
        rw [nk, Bool.or_true]
      · rw [beq_eq_false_iff_ne.mpr e, Bool.false_or]
    have rhl : RH K al (h.lock l) H := rh.relk same
    refine imp_for ⟨K, al, s, h.lock l, rfl, rhl, re, ?_⟩
    rw [hc]
    refine ⟨xs, some l, es _ g, fun l' e => by cases e; exact lself, ?_⟩
    refine T.all_mono (fun r z al' H' σ' e rh' re' => ?_) p
    have hk : r.2.2.lk = l :: h.lk := e.lk
    exact z al' H' σ' { e with lo := e.lo, sm := e.sm, n := e.n, lk := rfl } (rh'.relk fun m => by rw [hk, ← same]) re'
  | false =>
    right
    obtain ⟨us, hq, rs⟩ := rh.ob l a _ ea g
    rw [nk, if_neg Bool.false_ne_true] at hq
    have ma : a ∈ al := List.mem_of_getElem? ea
    refine ⟨a, .lst us, hq, True.intro, fun od => ?_⟩
    have rhl : RH K al (h.lock l) (upd H a (.frz od (.lst us))) := rh.lock ea g hq nk
    refine imp_for ⟨K, al, s, h.lock l, rfl, rhl, re.mono (Kp.put rh ea), ?_⟩
    rw [hc]
    refine ⟨xs, some l, es _ g, fun l' e => by cases e; exact lself, ?_⟩
    refine T.all_mono (fun r z al' H' σ' e rh' re' => ?_) p
    have hk : r.2.2.lk = l :: h.lk := e.lk
    have ea' : al'[l]? = some a := e.pre l a ea
    have hz : H' a = some (.frz od (.lst us)) := e.frz a od _ upd_same
    have kp : Kp al' H' al' (upd H' a (.lst us)) := Kp.put rh' ea'
    have z2 := z al' (upd H' a (.lst us)) σ' (Ext.unlock rh ea hq e) (RH.unlock rh' ea' nk hk hz) (re'.mono kp)
    split <;> rename_i ef <;> rw [ef] at z2
    · exact ⟨hz, z2⟩
    · exact ⟨hz, z2⟩
    · exact ⟨hz, z2⟩
    · exact fun u ru => ⟨hz, z2 u (ru.mono kp)⟩
theorem imp_lcL {i : Nat} {sk : Sk} {tg : Tg} {own : List Nat} {c : Env → Hs → T (List Val × Hs)} {ct : Env → Hs → T (Bool × Hs)} {ce : Env → Hs → T (Val × Hs)} {m : Bool} {Q : V → Hp → Prop} (hsl : ∀ j ∈ slots tg, j ∈ own)
    {K : Cn} {al : List Addr} {s : Env} {h : Hs} {l : Nat} {ys xs : List Val} (eF : K.K = F) (rh : RH K al h H) (re : RE K al H s σ)
    (hc : ∀ h, c s h = .ok ([.ref l], h)) (hs : s[i]? = some (some (.ref l))) (g : h.get l = some (.lst ys)) (es : ∀ h' : Hs, h'.get l = some (.lst ys) → srcV sk [.ref l] h' = some (xs, some l)) (hsm : small xs.length = true)
    (p : ((lcL (fun x => tgS tg x (wipeE s own)) ct ce xs (h.lock l)).bind fun r => mkL m r.1 (r.2.unlock h.lk)).All (Pt K al h H Q)) :
    tLc (tI F sk c) (tG F tg) (tT F ct) (tE F ce) own σ H Q ∨ tLockE (tLc (tI F sk c) (tG F tg) (tT F ct) (tE F ce) own) σ H Q := by
  subst eF
  obtain ⟨u, _, ru⟩ := re.get i _ hs
  obtain ⟨a, eu, ea⟩ := ru.ref_of
  have lself : (h.lock l).lk.contains l = true := by
    show (l :: h.lk).contains l = true
    rw [has_cons, beq_self_eq_true, Bool.true_or]
  have mk : ∀ {xs : List Val} {h1 : Hs}, ∃ v : Val, ∃ h2 : Hs, mkL m xs h1 = .ok (v, h2) ∧ mkL m xs (h1.unlock h.lk) = .ok (v, h2.unlock h.lk) := fun {xs h1} => by
    cases m with
    | false => exact ⟨_, _, rfl, rfl⟩
    | true => exact ⟨_, _, rfl, rfl⟩
  have pp : ((lcL (fun x => tgS tg x (wipeE s own)) ct ce xs (h.lock l)).bind fun r => mkL m r.1 r.2).All fun q => Pt K al h H Q (q.1, q.2.unlock h.lk) := by
    rw [T.all_bind] at p ⊢
    refine T.all_mono (fun r z => ?_) p
    obtain ⟨v, h2, e1, e2⟩ := mk (xs := r.1) (h1 := r.2)
    rw [e2] at z
    rw [e1]
    exact z
  cases nk : h.lk.contains l with
  | true =>
    left
    have same : ∀ m, h.lk.contains m = (l :: h.lk).contains m := fun m => by
      rw [has_cons]
      by_cases e : m = l
      · subst e
        rw [nk, Bool.or_true]
      · rw [beq_eq_false_iff_ne.mpr e, Bool.false_or]
    have rhl : RH K al (h.lock l) H := rh.relk same
    refine imp_lc (m := m) hsl ⟨K, al, s, h.lock l, rfl, rhl, re, ?_⟩
    rw [hc]
    refine ⟨xs, some l, es _ g, fun l' e => by cases e; exact lself, hsm, ?_⟩
    refine T.all_mono (fun r z al' H' u e rh' ru' => ?_) pp
    have hk : r.2.lk = l :: h.lk := e.lk
    exact z al' H' u { e with lo := e.lo, sm := e.sm, n := e.n, lk := rfl } (rh'.relk fun m => by rw [hk, ← same]) ru'
  | false =>
    right
    obtain ⟨us, hq, rs⟩ := rh.ob l a _ ea g
    rw [nk, if_neg Bool.false_ne_true] at hq
    refine ⟨a, .lst us, hq, True.intro, fun od => ?_⟩
    have rhl : RH K al (h.lock l) (upd H a (.frz od (.lst us))) := rh.lock ea g hq nk
    refine imp_lc (m := m) hsl ⟨K, al, s, h.lock l, rfl, rhl, re.mono (Kp.put rh ea), ?_⟩
    rw [hc]
    refine ⟨xs, some l, es _ g, fun l' e => by cases e; exact lself, hsm, ?_⟩
    refine T.all_mono (fun r z al' H' u e rh' ru' => ?_) pp
    have hk : r.2.lk = l :: h.lk := e.lk
    have ea' : al'[l]? = some a := e.pre l a ea
    have hz : H' a = some (.frz od (.lst us)) := e.frz a od _ upd_same
    have kp : Kp al' H' al' (upd H' a (.lst us)) := Kp.put rh' ea'
    exact ⟨hz, z al' (upd H' a (.lst us)) u (Ext.unlock rh ea hq e) (RH.unlock rh' ea' nk hk hz) (ru'.mono kp)⟩
end

/-! ### statements -/
section
variable {F : PySem.W.Frag} {σ : St} {H : Hp} {D : Ends}
theorem imp_ex {c : Env → Hs → T (Val × Hs)} (w : tS F (fun s h => (c s h).bind fun p => .ok (.nx, s, p.2)) D σ H) : tDrop (tE F c) D σ H := by
  obtain ⟨K, al, s, h, rfl, rh, re, p⟩ := w
  refine tE.seq rh re (T.all_mono (fun q z al1 H1 x e1 rh1 re1 rx => ?_) (T.all_bind.mp p))
  exact z al1 H1 σ e1 rh1 re1
theorem imp_del {ca cb : Env → Hs → T (Val × Hs)} (w : tS F (fun s h => (ca s h).bind fun p => (cb s p.2).bind fun q => (delV p.1 q.1 q.2).bind fun h' => .ok (.nx, s, h')) D σ H) : sDDel (tE F ca) (tE F cb) D σ H := by
  obtain ⟨K, al, s, h, rfl, rh, re, p⟩ := w
  refine tE.seq rh re (T.all_mono (fun q z al1 H1 x e1 rh1 re1 rx => ?_) (T.all_bind.mp p))
  refine tE.seq rh1 re1 (T.all_mono (fun q2 z2 al2 H2 y e2 rh2 re2 ry => ?_) (T.all_bind.mp z))
  have rx2 := rx.mono e2.toKp
  obtain ⟨v, h1⟩ := q
  obtain ⟨i, h2⟩ := q2
  simp only at z2 rx2 rh2 ry e1 e2
  unfold delV at z2
  split at z2
  · rename_i l
    split at z2
    · rename_i ks vs q1
      split at z2
      · rename_i k q2
        split at z2
        · rename_i q3
          obtain ⟨a, ea, e2'⟩ := rx2.ref_of
          obtain ⟨us, hd, kk, rs, nk⟩ := rh2.wd e2' q1
          unfold keyOf at q2
          simp only [Option.map_eq_some_iff] at q2
          obtain ⟨c, hc, ek⟩ := q2
          subst ek
          have ey := atom_of hc ry
          have inj : ∀ k ∈ ks, hk k = hk [c] ↔ k = [c] := fun k m => by
            obtain ⟨b, eb⟩ := kk.one rfl k m
            subst eb
            exact ⟨fun z => by rw [show b = c from z], fun z => by rw [z]⟩
          have nf : ∀ od w, H2 a ≠ some (.frz od w) := fun od w z => by rw [hd] at z; cases z
          refine ⟨a, _, c, ea, hd, ey, ?_, ?_⟩
          · cases q4 : dGet ks vs [c] with
            | none => rw [q4] at q3; cases q3
            | some w =>
              obtain ⟨u, h1, _⟩ := dGet_some hk rs kk.len inj q4
              have h1 : valV ((ks.map hk).zip us) c = some u := h1
              rw [h1]
              rfl
          · have dz := drop_zip hk (x := [c]) (vs := vs) kk.len (kk.len.trans rs.length) inj
            have dz : dropK ((ks.map hk).zip us) c = ((dDrop ks vs [c]).1.map hk).zip (dropU ks us [c]) := dz
            rw [dz]
            simp only [T.bind, T.All] at z2
            refine z2 al2 _ σ (e1.trans (e2.trans (Ext.put rh2 e2' nf))) (rh2.put e2' ⟨dropU ks us [c], ?_, ⟨dDrop_len kk.len, fun _ k m => kk.one rfl k (dDrop_mem m), fun k m => kk.ne k (dDrop_mem m)⟩, (drop_rv rs).mono (Kp.put rh2 e2')⟩) (re2.mono (Kp.put rh2 e2'))
            rw [nk, if_neg Bool.false_ne_true]
            exact upd_same
        · exact z2.elim
      · exact z2.elim
    · exact z2.elim
  · exact z2.elim
theorem imp_ret {c : Env → Hs → T (Val × Hs)} (w : tS F (fun s h => (c s h).bind fun p => .ok (.rt p.1, s, p.2)) D σ H) : tRet (tE F c) D σ H := by
  obtain ⟨K, al, s, h, rfl, rh, re, p⟩ := w
  refine tE.seq rh re (T.all_mono (fun q z al1 H1 x e1 rh1 re1 rx => ?_) (T.all_bind.mp p))
  exact z al1 H1 σ e1 rh1 re1 x rx
theorem imp_ifs {cc : Env → Hs → T (Bool × Hs)} {ca cb : Env → Hs → T Rs} (w : tS F (fun s h => (cc s h).bind fun p => match p.1 with
      | true => ca s p.2
      | false => cb s p.2) D σ H) : tIfS (tT F cc) (tS F ca) (tS F cb) D σ H := by
  obtain ⟨K, al, s, h, rfl, rh, re, p⟩ := w
  refine tT.seq rh re (T.all_mono (fun q z al1 H1 e1 rh1 re1 => ?_) (T.all_bind.mp p))
  split at z <;> rename_i ei <;> rw [ei]
  · exact iteT ⟨K, al1, s, q.2, rfl, rh1, re1, T.all_mono (fun _ z3 => z3.trans e1) z⟩
  · exact iteF ⟨K, al1, s, q.2, rfl, rh1, re1, T.all_mono (fun _ z3 => z3.trans e1) z⟩
theorem imp_seq {ca cb : Env → Hs → T Rs} (w : tS F (fun s h => (ca s h).bind fun r => match r.1 with
      | .nx => cb r.2.1 r.2.2
      | _ => .ok r) D σ H) : tSeq (tS F ca) (tS F cb) D σ H := by
  obtain ⟨K, al, s, h, rfl, rh, re, p⟩ := w
  refine ⟨K, al, s, h, rfl, rh, re, T.all_mono (fun r z al1 H1 σ1 e1 rh1 re1 => ?_) (T.all_bind.mp p)⟩
  obtain ⟨fl, s1, h1⟩ := r
  cases fl with
  | nx => exact ⟨K, al1, s1, h1, rfl, rh1, re1, T.all_mono (fun _ z3 => z3.trans e1) z⟩
  | bk => exact z al1 H1 σ1 e1 rh1 re1
  | ct => exact z al1 H1 σ1 e1 rh1 re1
  | rt v => exact z al1 H1 σ1 e1 rh1 re1
theorem imp_whl {ct : Env → Hs → T (Bool × Hs)} {body : Env → Hs → T Rs} {n : Nat} (w : tS F (whlL ct body n) D σ H) : tWhile (tT F ct) (tS F body) D σ H := by
  obtain ⟨K, al, s, h, rfl, rh, re, p⟩ := w
  refine ⟨fun m σ' H' => ∃ al' s' h', Ext al h H al' h' H' ∧ RH K al' h' H' ∧ RE K al' H' s' σ' ∧ (whlL ct body m s' h').All (Pd K al h H D), ⟨n, al, s, h, Ext.refl, rh, re, p⟩, ?_⟩
  rintro m σ' H' ⟨al', s', h', e1, rh1, re1, p1⟩
  cases m with
  | zero => exact p1.elim
  | succ m =>
    unfold whlL at p1
    refine tT.seq rh1 re1 (T.all_mono (fun q z al2 H2 e2 rh2 re2 => ?_) (T.all_bind.mp p1))
    split at z <;> rename_i ei <;> rw [ei]
    · refine iteT ⟨fun σ'' H'' => ∃ al'' s'' h'', Ext al h H al'' h'' H'' ∧ RH K al'' h'' H'' ∧ RE K al'' H'' s'' σ'' ∧ (whlL ct body m s'' h'').All (Pd K al h H D), fun σ'' H'' q' => ⟨m, by omega, q'⟩, ?_⟩
      refine ⟨K, al2, s', q.2, rfl, rh2, re2, T.all_mono (fun r z al3 H3 σ3 e3 rh3 re3 => ?_) (T.all_bind.mp z)⟩
      have ee := e1.trans (e2.trans e3)
      split <;> rename_i ef <;> rw [ef] at z
      · exact ⟨al3, _, _, ee, rh3, re3, z⟩
      · exact z al3 H3 σ3 ee rh3 re3
      · exact ⟨al3, _, _, ee, rh3, re3, z⟩
      · exact fun u' ru' => z al3 H3 σ3 ee rh3 re3 u' ru'
    · exact iteF (z al2 H2 σ' (e1.trans e2) rh2 re2)
/-- a target takes a value -/
def tAt (F : PySem.W.Frag) (c : Val → Env → Hs → T (Env × Hs)) : TG := fun v σ H Q => ∃ K al s h x, K.K = F ∧ RH K al h H ∧ RE K al H s σ ∧ RV K al H x v ∧
  (c x s h).All fun r => ∀ al' H' σ', Ext al h H al' r.2 H' → RH K al' r.2 H' → RE K al' H' r.1 σ' → Q σ' H'
def tAts (F : PySem.W.Frag) (c : List Val → Env → Hs → T (Env × Hs)) : TGs := fun v σ H Q => ∃ K al s h x, K.K = F ∧ RH K al h H ∧ RE K al H s σ ∧ RVs K al H x v ∧
  (c x s h).All fun r => ∀ al' H' σ', Ext al h H al' r.2 H' → RH K al' r.2 H' → RE K al' H' r.1 σ' → Q σ' H'
theorem imp_asg {ce : Env → Hs → T (Val × Hs)} {ct : Val → Env → Hs → T (Env × Hs)} (w : tS F (fun s h => (ce s h).bind fun p => (ct p.1 s p.2).bind fun r => .ok (.nx, r.1, r.2)) D σ H) : tAsg (tE F ce) (tAt F ct) D σ H := by
  obtain ⟨K, al, s, h, rfl, rh, re, p⟩ := w
  refine tE.seq rh re (T.all_mono (fun q z al1 H1 x e1 rh1 re1 rx => ?_) (T.all_bind.mp p))
  exact ⟨K, al1, s, q.2, q.1, rfl, rh1, re1, rx, T.all_mono (fun r z al2 H2 σ2 e2 rh2 re2 => z al2 H2 σ2 (e1.trans e2) rh2 re2) (T.all_bind.mp z)⟩
theorem imp_at_nm {i : Nat} {v : V} {Q : St → Hp → Prop} (w : tAt F (fun v s h => .ok (s.set i (some v), h)) v σ H Q) : gName i v σ H Q := by
  obtain ⟨K, al, s, h, x, rfl, rh, re, rx, p⟩ := w
  exact p al H _ Ext.refl rh (re.set rx)
theorem imp_at_tp {c : List Val → Env → Hs → T (Env × Hs)} {n : Nat} {v : V} {Q : St → Hp → Prop} (w : tAt F (fun v s h => match v with
      | .tup xs => if xs.length == n then c xs s h else .no
      | _ => .no) v σ H Q) : gTup F n (tAts F c) v σ H Q := by
  obtain ⟨K, al, s, h, x, rfl, rh, re, rx, p⟩ := w
  cases x with
  | tup xs =>
    obtain ⟨a, us, e, st, rs⟩ := rx.tup_of
    subst e
    simp only at p
    split at p
    · rename_i hl
      exact ⟨a, us, rfl, st.sq, by rw [← rs.length]; exact beq_iff_eq.mp hl, K, al, s, h, xs, rfl, rh, re, rs, p⟩
    · exact p.elim
  | _ => exact p.elim
theorem imp_sb {co ci : Env → Hs → T (Val × Hs)} {v : V} {Q : St → Hp → Prop} (w : tAt F (fun v s h => (co s h).bind fun p => (ci s p.2).bind fun q => (setV p.1 q.1 v q.2).bind fun h' => .ok (s, h')) v σ H Q) : gSub (tE F co) (tE F ci) (rSet F) v σ H Q := by
  obtain ⟨K, al, s, h, x, rfl, rh, re, rx, p⟩ := w
  refine tE.seq rh re (T.all_mono (fun q z al1 H1 y e1 rh1 re1 ry => ?_) (T.all_bind.mp p))
  refine tE.seq rh1 re1 (T.all_mono (fun q2 z2 al2 H2 y2 e2 rh2 re2 ry2 => ?_) (T.all_bind.mp z))
  refine ⟨K, al2, q2.2, q.1, q2.1, x, rfl, rh2, ry.mono e2.toKp, ry2, rx.mono (e1.trans e2).toKp, T.all_mono (fun h' z3 H' e3 rh3 => ?_) (T.all_bind.mp z2)⟩
  exact z3 al2 H' σ (e1.trans (e2.trans e3)) rh3 (re2.mono e3.toKp)
theorem imp_aug {i : Nat} {op : Bop} {ce : Env → Hs → T (Val × Hs)} (w : tS F (fun s h => match s[i]? with
    | some (some x) => (ce s h).bind fun p => (ipV op x p.1 p.2).bind fun q => .ok (.nx, s.set i (some q.1), q.2)
    | _ => .no) D σ H) : tAug i (tE F ce) (rIp F op) D σ H := by
  obtain ⟨K, al, s, h, rfl, rh, re, p⟩ := w
  simp only at p
  split at p
  · rename_i x hx
    obtain ⟨u, hu, ru⟩ := re.get i x hx
    refine ⟨u, hu, ?_⟩
    refine tE.seq rh re (T.all_mono (fun q z al1 H1 y e1 rh1 re1 ry => ?_) (T.all_bind.mp p))
    refine ⟨K, al1, q.2, x, q.1, rfl, rh1, ru.mono e1.toKp, ry, T.all_mono (fun q2 z2 al2 H2 w2 e2 rh2 rw2 => ?_) (T.all_bind.mp z)⟩
    exact z2 al2 H2 _ (e1.trans e2) rh2 ((re1.mono e2.toKp).set rw2)
  · exact p.elim
/-- o[i], by values -/
def rGet (F : PySem.W.Frag) : V → V → Hp → VK → Prop := rS F
theorem imp_augS {op : Bop} {co ci ce : Env → Hs → T (Val × Hs)} (w : tS F (fun s h => (co s h).bind fun p => (ci s p.2).bind fun q => match subV p.1 q.1 q.2 with
    | some x => (ce s q.2).bind fun r => (ipV op x r.1 r.2).bind fun z => (setV p.1 q.1 z.1 z.2).bind fun h' => .ok (.nx, s, h')
    | none => .no) D σ H) : tAugS (tE F co) (tE F ci) (tE F ce) (rGet F) (rIp F op) (rSet F) D σ H := by
  obtain ⟨K, al, s, h, rfl, rh, re, p⟩ := w
  refine tE.seq rh re (T.all_mono (fun q z al1 H1 y e1 rh1 re1 ry => ?_) (T.all_bind.mp p))
  refine tE.seq rh1 re1 (T.all_mono (fun q2 z2 al2 H2 y2 e2 rh2 re2 ry2 => ?_) (T.all_bind.mp z))
  split at z2
  · rename_i x hx
    refine ⟨K, al2, q2.2, q.1, q2.1, x, rfl, rh2, ry.mono e2.toKp, ry2, hx, fun u ru => ?_⟩
    refine tE.seq rh2 re2 (T.all_mono (fun q3 z3 al3 H3 y3 e3 rh3 re3 ry3 => ?_) (T.all_bind.mp z2))
    refine ⟨K, al3, q3.2, x, q3.1, rfl, rh3, ru.mono e3.toKp, ry3, T.all_mono (fun q4 z4 al4 H4 y4 e4 rh4 ry4 => ?_) (T.all_bind.mp z3)⟩
    have e24 := e3.trans e4
    refine ⟨K, al4, q4.2, q.1, q2.1, q4.1, rfl, rh4, ry.mono (e2.trans e24).toKp, ry2.mono e24.toKp, ry4, T.all_mono (fun h' z5 H' e5 rh5 => ?_) (T.all_bind.mp z4)⟩
    exact z5 al4 H' σ (e1.trans (e2.trans (e24.trans e5))) rh5 (re.mono (e1.trans (e2.trans (e24.trans e5))).toKp)
  · exact z2.elim
end
end Eng
/-! From the program's text to the evaluator's. -/
namespace Eng
open PySem L2

inductive Gk where
  | fn (i : Nat) | con (v : Val) | blt
structure Ct where
  N : List Str
  sc : Scope
  fnb : Str → Bool
  gl : List (Str × Gk)
  mu : List (Nat × Nat)
def Ct.inn (c : Ct) (scope : Scope) : Ct := ⟨c.N, relS scope c.sc, fun x => scope.names.lookup x == some .cell, c.gl, c.mu⟩
def okN (x : Str) : Bool := !(x == ("__debug__" : Str)) && !(x == ("__classdict__" : Str)) && decide (x ≠ ("__name__" : Str))
def slotOf (N : List Str) (x : Str) : Option Nat := if N[N.idxOf x]? = some x then some (N.idxOf x) else none
def visB (sc : Scope) (x : Str) : Bool := match sc.names.lookup x with
  | some .local => true
  | some .cell => true
  | some .free => true
  | _ => false
def gloB (sc : Scope) (x : Str) : Bool := match sc.names.lookup x with
  | some .globalImplicit => true
  | _ => false
def Ct.isMu (c : Ct) (p : Pos) : Bool := c.mu.contains (p.line, p.col)
def cB : Operator → Option Bop
  | .Add => some .add | .Sub => some .sub | .Mult => some .mul | .FloorDiv => some .fdiv | .Mod => some .mod | .Pow => some .pow | .BitAnd => some .band | .BitXor => some .bxor | .LShift => some .shl | .RShift => some .shr
  | _ => none
def cC : CmpOp → Option Cop
  | .Eq => some .eq | .NotEq => some .ne | .Lt => some .lt | .LtE => some .le | .Gt => some .gt | .GtE => some .ge | .Is => some .is | .IsNot => some .nis | .In => some .mem | .NotIn => some .nmem
def isIf : Expr → Bool
  | .IfExp .. => true
  | _ => false
def isCallE : Expr → Bool
  | .Call .. => true
  | _ => false
def isSl : Expr → Bool
  | .Slice .. => true
  | _ => false
def isComp : Expr → Bool
  | .ListComp .. | .SetComp .. | .DictComp .. => true
  | _ => false
def cK : Const → Option E
  | .none => some (.c .non)
  | .bool b => some (.c (.bl b))
  | .int i => some (.c (.int i))
  | .str x => some (.c (.str x))
  | _ => none
def Ct.isBlt (c : Ct) (x : Str) : Bool := okN x && gloB c.sc x && (match c.gl.lookup x with
  | some .blt => true
  | _ => false)
def cNm (c : Ct) (x : Str) : Option E := match okN x with
  | false => none
  | true => match visB c.sc x with
    | true => (slotOf c.N x).map .v
    | false => match gloB c.sc x with
      | true => match c.gl.lookup x with
        | some (.con v) => some (.c v)
        | _ => none
      | false => none
def cBl (f : Expr → Option E) (op : BoolOp) : List Expr → Option E
  | [] => none
  | e :: es => match es with
    | [] => f e
    | _ :: _ => (f e).bind fun a => (cBl f op es).map fun b => match op with
      | .And => .and a b
      | .Or => .or a b
def biTab : List (Str × Nat × Bi) := [("len", 1, .len), ("abs", 1, .abs), ("max", 2, .max2), ("min", 2, .min2), ("int", 1, .int), ("bool", 1, .bool), ("sum", 1, .sum), ("max", 1, .maxl), ("min", 1, .minl), ("any", 1, .any), ("all", 1, .all), ("sorted", 1, .sorted), ("tuple", 1, .tuple), ("list", 1, .list), ("dict", 1, .dict1)]
def biOf (x : Str) (k : Nat) : Option Bi := (biTab.find? fun p => decide (p.1 = x) && p.2.1 == k).map (·.2.2)
def tyTab : List (Str × Ty) := [("bool", .bool), ("int", .int), ("str", .str), ("list", .list), ("tuple", .tuple), ("dict", .dict)]
def tyOfN (x : Str) : Option Ty := (tyTab.find? fun p => decide (p.1 = x)).map (·.2)
def meTab : List (Str × Nat × Me) := [("append", 1, .append), ("pop", 0, .pop), ("extend", 1, .extend), ("index", 1, .index)]
def meOf (x : Str) (k : Nat) : Option Me := (meTab.find? fun p => decide (p.1 = x) && p.2.1 == k).map (·.2.2)
/-- a call of a built-in by its name, without keywords: its arguments -/
def bltCall (c : Ct) (x : Str) : Expr → Option (List Expr)
  | .Call f es kws _ => match f, kws with
    | .Name y _, [] => match decide (y = x) && c.isBlt x with
      | true => some es
      | false => none
    | _, _ => none
  | _ => none
/-- x(y(..)), two built-ins -/
def inCall (c : Ct) (nx ny : Str) (x : Str) (es : List Expr) : Option (List Expr) := match decide (x = nx) with
  | true => (match es with
    | [e] => bltCall c ny e
    | _ => none)
  | false => none
def cCall (f : Expr → Option E) (c : Ct) (x : Str) (es : List Expr) (pos : Pos) : Option E := match okN x && gloB c.sc x with
  | false => none
  | true => match c.gl.lookup x with
    | some (.fn i) => (optAll f es).map (.call i)
    | some .blt => match decide (x = ("isinstance" : Str)) with
      | true => (match es with
        | [e, t] => match t with
          | .Name y _ => match c.isBlt y with
            | true => (tyOfN y).bind fun t' => (f e).map fun e' => .isi e' t'
            | false => none
          | _ => none
        | _ => none)
      | false => match inCall c ("tuple" : Str) ("reversed" : Str) x es with
        | some rs => match rs with
          | [a] => (f a).map fun a' => .mat true false .rev [a']
          | _ => none
        | none => match inCall c ("len" : Str) ("set" : Str) x es with
          | some rs => match rs with
            | [a] => (f a).map .lset
            | _ => none
          | none => match (match decide (x = ("list" : Str)) || decide (x = ("tuple" : Str)) with
            | true => (match es with
              | [e] => bltCall c "range" e
              | _ => none)
            | false => none) with
            | some rs => match rs with
              | [a] => (f a).map fun a' => .mat (decide (x = ("tuple" : Str))) (c.isMu pos) .rng [a']
              | [a, b] => (f a).bind fun a' => (f b).map fun b' => .mat (decide (x = ("tuple" : Str))) (c.isMu pos) .rng [a', b']
              | [a, b, d] => (f a).bind fun a' => (f b).bind fun b' => (f d).map fun d' => .mat (decide (x = ("tuple" : Str))) (c.isMu pos) .rng [a', b', d']
              | _ => none
            | none => (biOf x es.length).bind fun b => (optAll f es).map (.bi b (c.isMu pos))
    | _ => none
/-- what is walked -/
def cI (f : Expr → Option E) (c : Ct) (e : Expr) : Option (Sk × List E) := match bltCall c "range" e with
  | some rs => match rs with
    | [a] => (f a).map fun a' => (.rng, [a'])
    | [a, b] => (f a).bind fun a' => (f b).map fun b' => (.rng, [a', b'])
    | [a, b, d] => (f a).bind fun a' => (f b).bind fun b' => (f d).map fun d' => (.rng, [a', b', d'])
    | _ => none
  | none => match bltCall c "reversed" e with
    | some rs => match rs with
      | [a] => (f a).map fun a' => (.rev, [a'])
      | _ => none
    | none => (f e).map fun e' => (.val, [e'])
/-- a name that is stored -/
def cSt (c : Ct) (x : Str) : Option Nat := match c.sc.names.lookup x with
  | some .local => slotOf c.N x
  | some .cell => match c.fnb x with
    | true => slotOf c.N x
    | false => none
  | _ => none
def cTg : Nat → Ct → Expr → Option Tg
  | 0, _, _ => none
  | n + 1, c, e => match e with
    | .Name x _ => (cSt c x).map .nm
    | .Tuple es _ _ => (optAll (cTg n c) es).map .tp
    | _ => none
def ownOf (N : List Str) (scope : Scope) : List (Str × Nat) := scope.names.filterMap fun y => match y.2 with
  | .local => (slotOf N y.1).map fun i => (y.1, i)
  | .cell => (slotOf N y.1).map fun i => (y.1, i)
  | _ => none
def cIfs (f : Expr → Option E) : List Expr → Option (List E)
  | [] => some []
  | e :: es => match es with
    | [] => match isIf e with
      | true => none
      | false => (f e).map fun e' => [e']
    | _ :: _ => none
/-- the entries of a dict that is written out -/
def cDsp (f : Expr → Option E) : List (Option Expr) → List Expr → Option (List E)
  | [], [] => some []
  | some k :: ks, v :: vs => match f k, f v, cDsp f ks vs with
    | some a, some b, some r => some (a :: b :: r)
    | _, _, _ => none
  | _, _ => none
def cE : Nat → Ct → Expr → Option E
  | 0, _, _ => none
  | n + 1, c, e => match e with
    | .Constant k _ _ => cK k
    | .Name x _ => cNm c x
    | .BinOp a op b pos => (cE n c a).bind fun a' => (cE n c b).bind fun b' => (cB op).map fun o => .bin o (c.isMu pos) a' b'
    | .UnaryOp op a _ => match isIf a with
      | true => none
      | false => (cE n c a).bind fun a' => match op with
        | .USub => some (.neg a')
        | .Not => some (.not a')
        | _ => none
    | .BoolOp op es _ => match es.any isIf with
      | true => none
      | false => cBl (cE n c) op es
    | .Compare a ops bs _ => match ops, bs with
      | [o], [b] => match behindInMarks o b with
        | true => none
        | false => (cE n c a).bind fun a' => (cE n c b).bind fun b' => (cC o).map fun o' => .cmp o' a' b'
      | [o, p], [b, d] => match lastMarks [o, p] [b, d] with
        | true => none
        | false => (cE n c a).bind fun a' => (cE n c b).bind fun b' => (cE n c d).bind fun d' => (cC o).bind fun o' => (cC p).map fun p' => .chn o' p' a' b' d'
      | _, _ => none
    | .IfExp t a b _ => match isIf t with
      | true => none
      | false => (cE n c t).bind fun t' => (cE n c a).bind fun a' => (cE n c b).map fun b' => .ite t' a' b'
    | .Tuple es _ _ => (optAll (cE n c) es).map .tup
    | .List es pos => (optAll (cE n c) es).map (.lst (c.isMu pos))
    | .Subscript a i pos => match i with
      | .Slice lo hi st _ => match st with
        | some _ => none
        | none => (cE n c a).bind fun a' => match lo, hi with
          | none, none => some (.slc (c.isMu pos) a' none none)
          | some l, none => (cE n c l).map fun l' => .slc (c.isMu pos) a' (some l') none
          | none, some u => (cE n c u).map fun u' => .slc (c.isMu pos) a' none (some u')
          | some l, some u => (cE n c l).bind fun l' => (cE n c u).map fun u' => .slc (c.isMu pos) a' (some l') (some u')
      | i => (cE n c a).bind fun a' => (cE n c i).map fun i' => .sub a' i'
    | .Call f es kws pos => match kws with
      | [] => match f with
        | .Name x _ => cCall (cE n c) c x es pos
        | .Attribute o nm ap => match isCallE o || !(ap.endLine == pos.line) with
          | true => none
          | false => match decide (nm = ("get" : Str)) with
            | true => match es with
              | [k, x] => (cE n c o).bind fun o' => (cE n c k).bind fun k' => (cE n c x).map fun x' => .dget o' k' x'
              | _ => none
            | false => (cE n c o).bind fun o' => (optAll (cE n c) es).bind fun es' => (meOf nm es.length).map fun k => .me o' k es'
        | _ => none
      | _ => none
    | .ListComp e gs scope pos => match blkC c.N c.sc scope (ownOf c.N scope) with
      | false => none
      | true => match gs with
        | [⟨tg, it, ifs, as⟩] => match as == 0 with
          | false => none
          | true => (cI (cE n c) c it).bind fun w => (cTg n (c.inn scope) tg).bind fun tg' => (cIfs (cE n (c.inn scope)) ifs).bind fun cs => (cE n (c.inn scope) e).bind fun e' =>
            match (slots tg').all fun j => ((ownOf c.N scope).map (·.2)).contains j with
            | true => some (.lc (c.isMu pos) ((ownOf c.N scope).map (·.2)) tg' w.1 w.2 cs e')
            | false => none
        | _ => none
    | .Dict ks vs pos => match ks, vs with
      | [], [] => some (.dnew (c.isMu pos))
      | ks, vs => match Nat.ble ks.length 15 with
        | true => (cDsp (cE n c) ks vs).map .disp
        | false => none
    | .DictComp kx vx gs scope pos => match blkC c.N c.sc scope (ownOf c.N scope) with
      | false => none
      | true => match gs with
        | [⟨tg, it, ifs, as⟩] => match as == 0 with
          | false => none
          | true => (cI (cE n c) c it).bind fun w => (cTg n (c.inn scope) tg).bind fun tg' => (cIfs (cE n (c.inn scope)) ifs).bind fun cs => (cE n (c.inn scope) kx).bind fun ke => (cE n (c.inn scope) vx).bind fun ve =>
            match (slots tg').all fun j => ((ownOf c.N scope).map (·.2)).contains j with
            | true => some (.dc ((ownOf c.N scope).map (·.2)) tg' w.1 w.2 cs ke ve)
            | false => none
        | _ => none
    | _ => none

/-! ### statements -/
def swN (sc : Scope) (ts vs : List Expr) : Option (Option (List Str)) :=
  if !(ts.length == 2 || ts.length == 3) || vs.length != ts.length then some none
  else if vs.any fun e => match e with
    | .Starred .. => true
    | _ => false then some none
  else
    let line := (ts.head?.map (·.pos.line)).getD 0
    let names := ts.filterMap fun e => match e with
      | .Name id pos => if sc.names.lookup id == some .local && pos.line == line then some id else none
      | _ => none
    if names.length != ts.length || names.eraseDups.length != names.length then some none
    else if vs.all (foldedForSure 8) then some none
    else if vs.all (constantsAlone 8) then none
    else some (some names)
def cAt : Nat → Ct → Expr → Option At
  | 0, _, _ => none
  | n + 1, c, e => match e with
    | .Name x _ => (cSt c x).map .nm
    | .Tuple es _ _ => (optAll (cAt n c) es).map .tp
    | .Subscript o i _ => match isSl i with
      | true => none
      | false => (cE n c o).bind fun o' => (cE n c i).map fun i' => .sb o' i'
    | _ => none
/-- does name = [..] store within the comprehension's frame -/
def swLc (c : Ct) (y : Str) (py : Pos) (scope : Scope) (pos : Pos) : Bool :=
  c.sc.names.lookup y == some .local && py.line == pos.line && !(scope.names.any fun x => x.1 == y && (x.2 == .local || x.2 == .cell))
def nmsOf : List Expr → Option (List Str)
  | [] => some []
  | e :: es => match e with
    | .Name x _ => (nmsOf es).map (x :: ·)
    | _ => none
def distinct : List Nat → Bool
  | [] => true
  | x :: xs => !xs.contains x && distinct xs
def cS : Nat → Ct → Stmt → Option S
  | 0, _, _ => none
  | n + 1, c, st => match st with
    | .Expr e _ => match e with
      | .Constant (.str _) _ _ => some .pass
      | e => match isComp e with
        | true => none
        | false => (cE n c e).map .ex
    | .Return e _ => match e with
      | none => some (.ret (.c .non))
      | some e => (cE n c e).map .ret
    | .If t a b _ => match isIf t with
      | true => none
      | false => (cE n c t).bind fun t' => (optAll (cS n c) a).bind fun a' => (optAll (cS n c) b).map fun b' => .ite t' a' b'
    | .While t b o _ => match isIf t || !o.isEmpty with
      | true => none
      | false => (cE n c t).bind fun t' => (optAll (cS n c) b).map fun b' => .whl t' b'
    | .For tg it b o _ => match o.isEmpty with
      | false => none
      | true => (cI (cE n c) c it).bind fun w => (cTg n c tg).bind fun tg' => (optAll (cS n c) b).map fun b' => .for_ tg' w.1 w.2 b'
    | .Assign ts e _ => match ts with
      | [t] => match t with
        | .Tuple ts' _ _ => match e with
          | .Tuple vs _ _ => match swN c.sc ts' vs with
            | none => none
            | some none => (cE n c e).bind fun e' => (cAt n c t).map fun t' => .asg t' e'
            | some (some xs) => match optAll (cSt c) xs, decide (nmsOf ts' = some xs), xs.all fun x => c.sc.names.lookup x == some .local with
              | some is, true, true => match distinct is with
                | true => (cE n c e).map fun e' => .asg (.tp (is.map .nm)) e'
                | false => none
              | _, _, _ => none
          | e => match isComp e with
            | true => none
            | false => (cE n c e).bind fun e' => (cAt n c t).map fun t' => .asg t' e'
        | t => (cE n c e).bind fun e' => (cAt n c t).map fun t' => .asg t' e'
      | _ => none
    | .AugAssign t op e _ => match op == .Add || op == .Sub with
      | false => none
      | true => match t with
        | .Name x _ => (cE n c e).bind fun e' => (cSt c x).bind fun i => (cB op).map fun o => .aug i o e'
        | .Subscript o i _ => match isSl i with
          | true => none
          | false => (cE n c o).bind fun o' => (cE n c i).bind fun i' => (cE n c e).bind fun e' => (cB op).map fun q => .augS o' i' q e'
        | _ => none
    | .Raise .. => some .never
    | .Delete ts _ => match ts with
      | [.Subscript o i _] => (cE n c o).bind fun o' => (cE n c i).map fun i' => .del o' i'
      | _ => none
    | .Pass _ => some .pass
    | .Break _ => some .brk
    | .Continue _ => some .cnt
    | _ => none
def cD (c : Ct) (b : List Stmt) : Option (List S) := optAll (cS 60 c) b
end Eng
/-! The compiled text does what the text does. -/
namespace Eng
open PySem L2

structure Sm (X X' : Cx) : Prop where
  prog : X'.prog = X.prog
  w : X'.w = X.w
  K : X'.K = X.K
  mg : X'.mg = X.mg
  base : X'.base = X.base
  A : X'.A = X.A
def rF (F : PySem.W.Frag) (cf : Nat → List Val → Hs → T (Val × Hs)) (i : Nat) : List V → Hp → VK → Prop := fun xs H Q => ∃ K al h vs, K.K = F ∧ RH K al h H ∧ RVs K al H vs xs ∧ (cf i vs h).All (Pt K al h H Q)
structure Gd (cf : Nat → List Val → Hs → T (Val × Hs)) (k : Nat) (c : Ct) (X : Cx) : Prop where
  hc : X.calm = true
  nd : X.N.Nodup
  N : X.N = c.N
  sc : X.env.scope = c.sc
  kind : c.sc.kind = .function
  fnb : ∀ x, c.fnb x = true → X.fn x = true
  room : Room k X.A
  nox : ∀ e s, ¬ X.xe e s
  blt : ∀ x, c.gl.lookup x = some .blt → X.mg x = none
  con : ∀ x v, c.gl.lookup x = some (.con v) → ∃ u w, X.mg x = some u ∧ L2.RelV w u ∧ ∀ K al H, K.K = X.K → RV K al H v w
  fn : ∀ x i, c.gl.lookup x = some (.fn i) → ∃ f, X.mg x = some (.ref f) ∧ PySem.W.keepIn X.K (.ref f) = true ∧ ∀ X', Sm X X' → CallR X' (.ref f) (rF X.K cf i)
section
variable {cf : Nat → List Val → Hs → T (Val × Hs)} {k : Nat} {c : Ct} {X : Cx}
theorem Gd.passes (g : Gd cf k c X) : PassesOwn (model X.prog X.w) X.A X.env X.xe := fun e s' h => absurd h (g.nox e s')
theorem Gd.blk (g : Gd cf k c X) {own : List (Str × Nat)} {scope : Scope} (b : blkC c.N c.sc scope own = true) (s : Shared) (H : Hp) (C : Addr) (cl : List (Str × Addr)) (fp : List Addr) : Gd cf k (c.inn scope) (X.blk s H scope (compEnvC scope cl C X.env) fp) := by
  refine ⟨g.hc, g.nd, g.N, ?_, ?_, fun x h => h, g.room, fun e s h => h, g.blt, g.con, fun x i e => ?_⟩
  · show relS scope X.env.scope = relS scope c.sc
    rw [g.sc]
  · exact (blkOk_by b).kind
  · obtain ⟨f, h1, h2, h3⟩ := g.fn x i e
    exact ⟨f, h1, h2, fun X' sm => h3 X' ⟨sm.prog, sm.w, sm.K, sm.mg, sm.base, sm.A⟩⟩
theorem okN_of {x : Str} (h : okN x = true) : (x == ("__debug__" : Str)) = false ∧ (x == ("__classdict__" : Str)) = false ∧ x ≠ ("__name__" : Str) := by
  unfold okN at h
  rw [Bool.and_eq_true, Bool.and_eq_true, decide_eq_true_eq, Bool.not_eq_true', Bool.not_eq_true'] at h
  exact ⟨h.1.1, h.1.2, h.2⟩
theorem slotOf_of {N : List Str} {x : Str} {i : Nat} (h : slotOf N x = some i) : N[i]? = some x := by
  unfold slotOf at h
  split at h
  · rename_i q
    cases h
    exact q
  · cases h
theorem visB_of {sc : Scope} {x : Str} (h : visB sc x = true) : Vis sc x := by
  unfold visB at h
  unfold Vis
  split at h
  · rename_i q; exact .inl q
  · rename_i q; exact .inr (.inl q)
  · rename_i q; exact .inr (.inr q)
  · cases h
theorem gloB_of {x : Str} (g : Gd cf k c X) (h : gloB c.sc x = true) : Gl X x := by
  unfold gloB at h
  show X.env.scope.names.lookup x = some .globalImplicit
  rw [g.sc]
  split at h
  · assumption
  · cases h
theorem isBlt_of {x : Str} (g : Gd cf k c X) (h : c.isBlt x = true) : Gl X x ∧ X.mg x = none ∧ (x == ("__debug__" : Str)) = false ∧ x ≠ ("__name__" : Str) := by
  unfold Ct.isBlt at h
  rw [Bool.and_eq_true, Bool.and_eq_true] at h
  obtain ⟨⟨h1, h2⟩, h3⟩ := h
  obtain ⟨z1, z2, z3⟩ := okN_of h1
  refine ⟨gloB_of g h2, ?_, z1, z3⟩
  split at h3
  · rename_i q
    exact g.blt x q
  · cases h3
/-! ### syntax -/
theorem st_cons {n : Nat} {e : Expr} {x : E} {es : List Expr} {env : PySem.Env} (h : cE n c e = some x) : starEach (e :: es) env = (false, eval e env) :: starEach es env := by
  cases n with
  | zero => simp [cE] at h
  | succ n => cases e <;> first | rfl | (simp [cE] at h)
theorem st_any {n : Nat} {pos : Pos} {env : PySem.Env} : ∀ {es : List Expr} {xs : List E}, optAll (cE n c) es = some xs → (backTo pos (starEach es env)).any (·.1) = false
  | [], xs, h => rfl
  | e :: es, xs, h => by
    unfold optAll at h
    cases q : cE n c e with
    | none => rw [q] at h; cases h
    | some y =>
      rw [q] at h
      simp only at h
      cases q2 : optAll (cE n c) es with
      | none => rw [q2] at h; cases h
      | some ys =>
        rw [st_cons q]
        have ih := st_any (pos := pos) (env := env) q2
        unfold backTo at ih ⊢
        rw [List.map_cons, List.any_cons, ih]
        rfl
theorem noset {n : Nat} {e : Expr} {x : E} (h : cE n c e = some x) (env : PySem.Env) (v : Value) : foldedSetIterable e env v = pure v := by
  cases n with
  | zero => simp [cE] at h
  | succ n => cases e <;> first | rfl | (simp [cE] at h)
theorem nosl {n : Nat} {e : Expr} {x : E} (h : cE n c e = some x) : PlainIx e := by
  cases n with
  | zero => simp [cE] at h
  | succ n => intro o i; cases e <;> first | rfl | (simp [cE] at h)
theorem nosl_is {n : Nat} {e : Expr} {x : E} (h : cE n c e = some x) : isSl e = false := by
  cases n with
  | zero => simp [cE] at h
  | succ n => cases e <;> first | rfl | (simp [cE] at h)
theorem plain_true {n : Nat} {e : Expr} {x : E} (h : cE n c e = some x) (h2 : isIf e = false) (h3 : ∀ op es p, e ≠ .BoolOp op es p) (h4 : ∀ a os bs p, e ≠ .Compare a os bs p) (h5 : ∀ a p, e ≠ .UnaryOp .Not a p) (env : PySem.Env) (whole : Sem Value) :
    PySem.isTrue e env whole = (do let v ← whole; standAt e.pos; holding [v] (truthy v)) := by
  cases e <;> first
    | rfl
    | (simp [isIf] at h2; done)
    | (exact absurd rfl (h3 _ _ _))
    | (exact absurd rfl (h4 _ _ _ _))
    | skip
  rename_i op a p
  cases op <;> first | rfl | exact absurd rfl (h5 _ _)
/-! ### calls of the text's defs -/
theorem pe_callF {x : Str} {p pos : Pos} {e : Expr} {es : List Expr} {f : Addr} {t : TA} {r : List V → Hp → VK → Prop} (F : CallR X (.ref f) r) (hg : Gl X x) (hm : X.mg x = some (.ref f)) (hk : PySem.W.keepIn X.K (.ref f) = true) (hd : (x == ("__debug__" : Str)) = false) (ha : PA X (e :: es) t)
    (h1 : starEach (e :: es) X.env = (false, eval e X.env) :: starEach es X.env) (h2 : (backTo pos (starEach es X.env)).any (·.1) = false) : PE X (.Call (.Name x p) (e :: es) [] pos) (tCB r t) := by
  constructor
  intro pins s σ H Q I hw
  apply wpAny_Call_Name_kw
  apply ld_glob I hg hm _ hd
  refine PySem.W.callWith_K (h₀ := X.base) I.ok.mod.kin hk (thn (ha.run pos pins s σ H _ I hw) ?_) h1 h2
  rintro us s1 ⟨vs, H1, I1, rv, q⟩
  exact ⟨I1.kIn, F pins s1 σ H1 vs us Q I1 rv q⟩
theorem pe_callF0 {x : Str} {p pos : Pos} {f : Addr} {r : List V → Hp → VK → Prop} (F : CallR X (.ref f) r) (hg : Gl X x) (hm : X.mg x = some (.ref f)) (hk : PySem.W.keepIn X.K (.ref f) = true) (hd : (x == ("__debug__" : Str)) = false) : PE X (.Call (.Name x p) [] [] pos) (tCB r tNil) := by
  constructor
  intro pins s σ H Q I hw
  apply wpAny_Call_Name_kw
  apply ld_glob I hg hm _ hd
  exact PySem.W.callWith_K0 I.kIn hk (F pins s σ H [] [] Q I .nil hw)
theorem biOf_of {x : Str} {m : Nat} {b : Bi} (h : biOf x m = some b) : bootBuiltins x = some (pyBi b) ∧ m ≠ 0 := by
  unfold biOf at h
  rw [Option.map_eq_some_iff] at h
  obtain ⟨p, h1, h2⟩ := h
  have q := List.find?_some h1
  rw [Bool.and_eq_true, decide_eq_true_eq, beq_iff_eq] at q
  have all : (biTab.all fun p => decide (bootBuiltins p.1 = some (pyBi p.2.2)) && p.2.1 != 0) = true := by decide +kernel
  have z := List.all_eq_true.mp all p (List.mem_of_find?_eq_some h1)
  rw [Bool.and_eq_true, decide_eq_true_eq, bne_iff_ne] at z
  rw [← h2, ← q.1, ← q.2]
  exact z
theorem tyOfN_of {x : Str} {t : Ty} (h : tyOfN x = some t) : bootBuiltins x = some (.type (pyT t)) := by
  unfold tyOfN at h
  rw [Option.map_eq_some_iff] at h
  obtain ⟨p, h1, h2⟩ := h
  have q := List.find?_some h1
  rw [decide_eq_true_eq] at q
  have all : (tyTab.all fun p => decide (bootBuiltins p.1 = some (.type (pyT p.2)))) = true := by decide +kernel
  have z := List.all_eq_true.mp all p (List.mem_of_find?_eq_some h1)
  rw [decide_eq_true_eq] at z
  rw [← h2, ← q]
  exact z
theorem boot_isi : bootBuiltins "isinstance" = some (.builtin "isinstance") := by decide +kernel
theorem meOf_of {x : Str} {m : Nat} {b : Me} (h : meOf x m = some b) : (x, m, b) ∈ meTab := by
  unfold meOf at h
  rw [Option.map_eq_some_iff] at h
  obtain ⟨p, h1, h2⟩ := h
  have q := List.find?_some h1
  rw [Bool.and_eq_true, decide_eq_true_eq, beq_iff_eq] at q
  have z := List.mem_of_find?_eq_some h1
  obtain ⟨p1, p2, p3⟩ := p
  simp only at q h2
  rw [← h2, ← q.1, ← q.2]
  exact z
end
end Eng
/-! Expressions. -/
namespace Eng
open PySem L2
section
variable {cf : Nat → List Val → Hs → T (Val × Hs)} {k : Nat}
def IH (cf : Nat → List Val → Hs → T (Val × Hs)) (k n : Nat) : Prop := ∀ (c : Ct) (e : Expr) (x : E) (X : Cx), cE n c e = some x → Gd cf k c X → PE X e (tE X.K (ev cf x)) ∧ (isIf e = false → PT X e (tT X.K (tst cf x)))
theorem opt_cons {A B : Type} {f : A → Option B} {x : A} {xs : List A} {ys : List B} (h : optAll f (x :: xs) = some ys) : ∃ y r, ys = y :: r ∧ f x = some y ∧ optAll f xs = some r := by
  unfold optAll at h
  cases q : f x with
  | none => rw [q] at h; cases h
  | some y =>
    rw [q] at h
    simp only at h
    cases q2 : optAll f xs with
    | none => rw [q2] at h; cases h
    | some r =>
      rw [q2] at h
      simp only at h
      cases h
      exact ⟨y, r, rfl, rfl, rfl⟩
theorem pa_ok {n : Nat} (ih : IH cf k n) {c : Ct} {X : Cx} (g : Gd cf k c X) : ∀ {es : List Expr} {xs : List E}, optAll (cE n c) es = some xs → PA X es (tA X.K (evs cf xs))
  | [], xs, h => by
    cases h
    exact PA.imp pa_nil fun σ H Q ⟨K, al, s, h, eK, rh, re, p⟩ => p al H [] Ext.refl rh .nil
  | e :: es, xs, h => by
    obtain ⟨y, r, e1, e2, e3⟩ := opt_cons h
    subst e1
    exact PA.imp (pa_cons (ih c e y X e2 g).1 (pa_ok ih g e3) (st_cons e2)) fun σ H Q w => imp_cons w
/-! ### tests -/
theorem imp_tand {F : PySem.W.Frag} {σ : St} {H : Hp} {a b : E} {Q : Bool → Hp → Prop} (w : tT F (tst cf (.and a b)) σ H Q) : tAnd (tT F (tst cf a)) (tT F (tst cf b)) σ H Q := by
  obtain ⟨K, al, s, h, rfl, rh, re, p⟩ := w
  unfold tst at p
  simp only [ev] at p
  rw [T.all_bind, T.all_bind] at p
  refine tT.seq rh re ?_
  unfold tst
  rw [T.all_bind]
  refine T.all_mono (fun q z => ?_) p
  obtain ⟨v, h1⟩ := q
  simp only at z ⊢
  split at z
  · intro al1 H1 e1 rh1 re1
    refine iteT ⟨K, al1, s, h1, rfl, rh1, re1, ?_⟩
    refine T.all_bind.mpr (T.all_mono (fun q2 z2 => ?_) z)
    split at z2
    · exact z2.trans e1
    · exact z2.elim
  · intro al1 H1 e1 rh1 re1
    exact iteF (z al1 H1 e1 rh1)
  · exact z.elim
theorem imp_tor {F : PySem.W.Frag} {σ : St} {H : Hp} {a b : E} {Q : Bool → Hp → Prop} (w : tT F (tst cf (.or a b)) σ H Q) : tOr (tT F (tst cf a)) (tT F (tst cf b)) σ H Q := by
  obtain ⟨K, al, s, h, rfl, rh, re, p⟩ := w
  unfold tst at p
  simp only [ev] at p
  rw [T.all_bind, T.all_bind] at p
  refine tT.seq rh re ?_
  unfold tst
  rw [T.all_bind]
  refine T.all_mono (fun q z => ?_) p
  obtain ⟨v, h1⟩ := q
  simp only at z ⊢
  split at z
  · intro al1 H1 e1 rh1 re1
    exact iteT (z al1 H1 e1 rh1)
  · intro al1 H1 e1 rh1 re1
    refine iteF ⟨K, al1, s, h1, rfl, rh1, re1, ?_⟩
    refine T.all_bind.mpr (T.all_mono (fun q2 z2 => ?_) z)
    split at z2
    · exact z2.trans e1
    · exact z2.elim
  · exact z.elim
theorem imp_tnot {F : PySem.W.Frag} {σ : St} {H : Hp} {a : E} {Q : Bool → Hp → Prop} (w : tT F (tst cf (.not a)) σ H Q) : tNot (tT F (tst cf a)) σ H Q := by
  obtain ⟨K, al, s, h, rfl, rh, re, p⟩ := w
  unfold tst at p
  simp only [ev] at p
  rw [T.all_bind, T.all_bind] at p
  refine tT.seq rh re ?_
  unfold tst
  rw [T.all_bind]
  refine T.all_mono (fun q z => ?_) p
  obtain ⟨v, h1⟩ := q
  simp only at z ⊢
  split at z
  · intro al1 H1 e1 rh1 re1
    exact z al1 H1 e1 rh1
  · exact z.elim
/-- every end that there is -/
def T.Sat {A : Type} (P : A → Prop) : T A → Prop
  | .ok a => P a
  | .no => True
  | .dr n k => ∀ i, (k i).Sat P
theorem T.sat_bind {A B : Type} {P : B → Prop} {f : A → T B} (h : ∀ a, (f a).Sat P) : ∀ {t : T A}, (t.bind f).Sat P
  | .ok a => h a
  | .no => trivial
  | .dr n k => fun i => T.sat_bind h
theorem T.all_sat {A : Type} {P R Q : A → Prop} (f : ∀ a, P a → R a → Q a) : ∀ {t : T A}, t.All P → t.Sat R → t.All Q
  | .ok a, p, r => f a p r
  | .no, p, r => p
  | .dr n k, p, r => fun i hi => T.all_sat f (p i hi) (r i)
theorem imp_tbl {F : PySem.W.Frag} {σ : St} {H : Hp} {a : E} {Q : Bool → Hp → Prop} (sat : ∀ s h, (ev cf a s h).Sat fun r => ∃ b, r.1 = .bl b) (w : tT F (tst cf a) σ H Q) : tE F (ev cf a) σ H fun x H' => ∃ b, x = .bl b ∧ Q b H' := by
  obtain ⟨K, al, s, h, rfl, rh, re, p⟩ := w
  unfold tst at p
  rw [T.all_bind] at p
  refine ⟨K, al, s, h, rfl, rh, re, T.all_sat (fun r z ⟨b, eb⟩ => ?_) p (sat s h)⟩
  intro al' H' u e rh' rv
  rw [eb] at z rv
  exact ⟨b, rv.bl_of, z al' H' e rh'⟩
theorem cmp_sat {op : Cop} {a b : E} (s : Env) (h : Hs) : (ev cf (.cmp op a b) s h).Sat fun r => ∃ k, r.1 = .bl k := by
  simp only [ev]
  refine T.sat_bind fun p => T.sat_bind fun q => ?_
  split
  · exact ⟨_, rfl⟩
  · trivial
theorem chn_sat {op op' : Cop} {a b d : E} (s : Env) (h : Hs) : (ev cf (.chn op op' a b d) s h).Sat fun r => ∃ k, r.1 = .bl k := by
  simp only [ev]
  refine T.sat_bind fun p => T.sat_bind fun q => ?_
  split
  · refine T.sat_bind fun r => ?_
    split
    · exact ⟨_, rfl⟩
    · trivial
  · exact ⟨_, rfl⟩
  · trivial
theorem imp_chn {F : PySem.W.Frag} {σ : St} {H : Hp} {o1 o2 : Cop} {a b d : E} {Q : V → Hp → Prop} (w : tE F (ev cf (.chn o1 o2 a b d)) σ H Q) : tChain (rC F (copV o1)) (rC F (copV o2)) (tE F (ev cf a)) (tE F (ev cf b)) (tE F (ev cf d)) σ H Q := by
  obtain ⟨K, al, s, h, rfl, rh, re, p⟩ := w
  simp only [ev] at p
  refine tE.seq rh re (T.all_mono (fun q z al1 H1 x e1 rh1 re1 rx => ?_) (T.all_bind.mp p))
  refine tE.seq rh1 re1 (T.all_mono (fun q2 z2 al2 H2 y e2 rh2 re2 ry => ?_) (T.all_bind.mp z))
  split at z2
  · rename_i ek
    refine ⟨K, al2, q2.2, q.1, q2.1, true, rfl, rh2, rx.mono e2.toKp, ry, ek, true, rfl, iteT ?_⟩
    refine tE.seq rh2 re2 (T.all_mono (fun q3 z3 al3 H3 y3 e3 rh3 re3 ry3 => ?_) (T.all_bind.mp z2))
    split at z3
    · rename_i k2 ek2
      exact ⟨K, al3, q3.2, q2.1, q3.1, k2, rfl, rh3, ry.mono e3.toKp, ry3, ek2, Pt.here (z3.trans (e1.trans (e2.trans e3))) rh3 (.bl _)⟩
    · exact z3.elim
  · rename_i ek
    exact ⟨K, al2, q2.2, q.1, q2.1, false, rfl, rh2, rx.mono e2.toKp, ry, ek, false, rfl, iteF (Pt.here (z2.trans (e1.trans e2)) rh2 (.bl _))⟩
  · exact z2.elim
theorem bool_ok {n : Nat} (ih : IH cf k n) {c : Ct} {X : Cx} (g : Gd cf k c X) {op : BoolOp} {pos : Pos} : ∀ {es : List Expr} {x : E}, cBl (cE n c) op es = some x → PE X (.BoolOp op es pos) (tE X.K (ev cf x)) ∧ ((∀ e ∈ es, isIf e = false) → PW X (.BoolOp op es pos) (tT X.K (tst cf x)))
  | [], x, h => by simp [cBl] at h
  | [e], x, h => by
    simp only [cBl] at h
    obtain ⟨h1, h2⟩ := ih c e x X h g
    refine ⟨pe_one h1, fun hi => ?_⟩
    have h3 := h2 (hi e (List.mem_singleton.mpr rfl))
    cases op with
    | And => exact pw_and1 h3
    | Or => exact pw_or1 h3
  | e :: e2 :: es, x, h => by
    unfold cBl at h
    simp only [Option.bind_eq_some_iff, Option.map_eq_some_iff] at h
    obtain ⟨a, ha, b, hb, hx⟩ := h
    obtain ⟨h1, h2⟩ := ih c e a X ha g
    obtain ⟨h3, h4⟩ := bool_ok ih g (pos := pos) hb
    subst hx
    cases op with
    | And =>
      refine ⟨PE.imp (pe_and h1 h3) fun σ H Q w => imp_and w, fun hi => ?_⟩
      exact PW.imp (pw_and (h2 (hi e List.mem_cons_self)) (h4 fun e' m => hi e' (List.mem_cons_of_mem _ m))) fun σ H Q w => imp_tand w
    | Or =>
      refine ⟨PE.imp (pe_or h1 h3) fun σ H Q w => imp_or w, fun hi => ?_⟩
      exact PW.imp (pw_or (h2 (hi e List.mem_cons_self)) (h4 fun e' m => hi e' (List.mem_cons_of_mem _ m))) fun σ H Q w => imp_tor w
end
end Eng
/-! Targets, what is walked, comprehensions, calls: expressions as a whole. -/
namespace Eng
open PySem L2
section
variable {cf : Nat → List Val → Hs → T (Val × Hs)} {k : Nat}
def tGs (F : PySem.W.Frag) (ts : List Tg) : TGs := fun vs σ H Q => ∃ K al s h xs s', K.K = F ∧ RH K al h H ∧ RE K al H s σ ∧ RVs K al H xs vs ∧ tgsS ts xs s = some s' ∧
  ∀ σ', RE K al H s' σ' → σ'.length = σ.length → (∀ j : Nat, j ∉ slotsL ts → σ'[j]? = σ[j]?) → Q σ' H
theorem cSt_of {c : Ct} {X : Cx} {x : Str} {i : Nat} (g : Gd cf k c X) (h : cSt c x = some i) : X.N[i]? = some x ∧ L2.Loc X.env.scope x ∧ (X.fn x = true ∨ X.env.scope.names.lookup x = some .local) := by
  unfold cSt at h
  rw [g.sc, g.N]
  split at h
  · rename_i q
    exact ⟨slotOf_of h, .inl q, .inr q⟩
  · rename_i q
    split at h
    · rename_i q2
      exact ⟨slotOf_of h, .inr q, .inl (g.fnb x q2)⟩
    · cases h
  · cases h
theorem tg_cons {n : Nat} {c : Ct} {e : Expr} {t : Tg} {es : List Expr} {env : PySem.Env} (h : cTg n c e = some t) : assignEach (e :: es) env = (false, assign e env) :: assignEach es env := by
  cases n with
  | zero => simp [cTg] at h
  | succ n => cases e <;> first | rfl | (simp [cTg] at h)
theorem tgs_len {n : Nat} {c : Ct} {env : PySem.Env} : ∀ {es : List Expr} {ts : List Tg}, optAll (cTg n c) es = some ts → (assignEach es env).length = ts.length ∧ (assignEach es env).findIdx? (·.1) = none
  | [], ts, h => by cases h; exact ⟨rfl, rfl⟩
  | e :: es, ts, h => by
    obtain ⟨y, r, e1, e2, e3⟩ := opt_cons h
    subst e1
    obtain ⟨h1, h2⟩ := tgs_len (env := env) e3
    rw [tg_cons e2]
    exact ⟨by simp [h1], by simp [List.findIdx?_cons, h2]⟩
theorem tgsS_len : ∀ {ts : List Tg} {xs : List Val} {s s' : Env}, tgsS ts xs s = some s' → xs.length = ts.length
  | [], [], s, s', h => rfl
  | [], x :: xs, s, s', h => by simp [tgsS] at h
  | t :: ts, [], s, s', h => by simp [tgsS] at h
  | t :: ts, x :: xs, s, s', h => by
    unfold tgsS at h
    split at h
    · simp [tgsS_len h]
    · cases h
theorem tg_ok (c : Ct) (X : Cx) (g : Gd cf k c X) : ∀ (n : Nat) (e : Expr) (t : Tg), cTg n c e = some t → PG X e (tG X.K t)
  | 0, e, t, h => by simp [cTg] at h
  | n + 1, e, t, h => by
    cases e with
    | Name x pos =>
      simp only [cTg, Option.map_eq_some_iff] at h
      obtain ⟨i, hi, et⟩ := h
      subst et
      obtain ⟨h1, h2, h3⟩ := cSt_of g hi
      refine PG.imp (pg_name g.nd h1 h2 h3) fun v σ H Q w => ?_
      obtain ⟨K, al, s, h, x', s', eK, rh, re, rx, et, q⟩ := w
      simp only [tgS, Option.some.injEq] at et
      subst et
      exact q _ (re.set rx) (by simp) fun j hj => by
        rw [List.getElem?_set_ne]
        intro z
        exact hj (by rw [← z]; simp [slots])
    | Tuple es kk pos =>
      simp only [cTg, Option.map_eq_some_iff] at h
      obtain ⟨ts, hts, et⟩ := h
      subst et
      have pgs : ∀ (es : List Expr) (ts : List Tg), optAll (cTg n c) es = some ts → PGs X es (tGs X.K ts) := by
        intro es
        induction es with
        | nil =>
          intro ts h
          cases h
          refine PGs.imp pgs_nil fun v σ H Q w => ?_
          obtain ⟨K, al, s, h, xs, s', eK, rh, re, rx, et, q⟩ := w
          cases xs with
          | nil =>
            simp only [tgsS, Option.some.injEq] at et
            subst et
            exact ⟨rx.none_of, q σ re rfl fun _ _ => rfl⟩
          | cons _ _ => simp [tgsS] at et
        | cons e es ihs =>
          intro ts h
          obtain ⟨y, r, e1, e2, e3⟩ := opt_cons h
          subst e1
          refine PGs.imp (pgs_cons (tg_ok c X g n e y e2) (ihs r e3) (by rw [tg_cons e2]; rfl)) fun v σ H Q w => ?_
          obtain ⟨K, al, s, h, xs, s', eK, rh, re, rx, et, q⟩ := w
          cases xs with
          | nil => simp [tgsS] at et
          | cons x xs =>
            unfold tgsS at et
            split at et
            · rename_i s1 hs1
              simp only [RVs] at rx
              obtain ⟨u, rest, ev', ru, rr⟩ := rx
              refine ⟨u, rest, ev', K, al, s, h, x, s1, eK, rh, re, ru, hs1, fun σ1 re1 hl1 ha1 => ?_⟩
              refine ⟨K, al, s1, h, xs, s', eK, rh, re1, rr, et, fun σ2 re2 hl2 ha2 => ?_⟩
              refine q σ2 re2 (hl2.trans hl1) fun j hj => ?_
              simp only [slotsL, List.mem_append, not_or] at hj
              exact (ha2 j hj.2).trans (ha1 j hj.1)
            · cases et
      obtain ⟨hl, hf⟩ := tgs_len (env := X.env) hts
      refine PG.imp (pg_tup g.hc (pgs es ts hts) hl hf) fun v σ H Q w => ?_
      obtain ⟨K, al, s, h, x, s', eK, rh, re, rx, et, q⟩ := w
      unfold tgS at et
      split at et
      · rename_i xs
        obtain ⟨a, us, ev', st, rs⟩ := rx.tup_of
        exact ⟨a, us, ev', eK ▸ st.sq, by rw [← rs.length]; exact tgsS_len et, K, al, s, h, xs, s', eK, rh, re, rs, et, fun σ' z1 z2 z3 => q σ' z1 z2 fun j hj => z3 j fun m => hj (by simpa [slots] using m)⟩
      · cases et
    | _ => simp [cTg] at h
/-! ### what is walked -/
theorem blt_call {c : Ct} {x : Str} {e : Expr} {rs : List Expr} (h : bltCall c x e = some rs) : ∃ p pos, e = .Call (.Name x p) rs [] pos ∧ c.isBlt x = true := by
  unfold bltCall at h
  split at h
  · split at h
    · split at h
      · rename_i q
        rw [Bool.and_eq_true, decide_eq_true_eq] at q
        obtain ⟨q1, q2⟩ := q
        subst q1
        cases h
        exact ⟨_, _, rfl, q2⟩
      · cases h
    · cases h
  · cases h
theorem cI_set {n : Nat} {c : Ct} {e : Expr} {w : Sk × List E} (h : cI (cE n c) c e = some w) (env : PySem.Env) (v : Value) : foldedSetIterable e env v = pure v := by
  unfold cI at h
  split at h
  · rename_i q
    obtain ⟨p, pos, ee, _⟩ := blt_call q
    subst ee
    rfl
  · split at h
    · rename_i q
      obtain ⟨p, pos, ee, _⟩ := blt_call q
      subst ee
      rfl
    · rw [Option.map_eq_some_iff] at h
      obtain ⟨e', h1, _⟩ := h
      exact noset h1 env v
theorem T.bind_assoc {A B C : Type} {f : A → T B} {g : B → T C} : ∀ {t : T A}, (t.bind f).bind g = t.bind fun a => (f a).bind g
  | .ok a => rfl
  | .no => rfl
  | .dr n k => by
    show T.dr n (fun i => ((k i).bind f).bind g) = T.dr n fun i => (k i).bind fun a => (f a).bind g
    congr 1
    funext i
    exact T.bind_assoc
theorem evs2 (a b : E) : evs cf [a, b] = fun s h => (ev cf a s h).bind fun p => (ev cf b s p.2).bind fun q => .ok ([p.1, q.1], q.2) := by
  funext s h
  simp only [evs, T.bind_assoc]
  rfl
theorem evs3 (a b d : E) : evs cf [a, b, d] = fun s h => (ev cf a s h).bind fun p => (ev cf b s p.2).bind fun q => (ev cf d s q.2).bind fun r => .ok ([p.1, q.1, r.1], r.2) := by
  funext s h
  simp only [evs, T.bind_assoc]
  rfl
theorem cI_ok {n : Nat} (ih : IH cf k n) {c : Ct} {X : Cx} (g : Gd cf k c X) {e tg : Expr} {w : Sk × List E} (h : cI (cE n c) c e = some w) : PI X tg e (tI X.K w.1 (evs cf w.2)) := by
  unfold cI at h
  split at h
  · rename_i rs q
    obtain ⟨p, pos, ee, hb⟩ := blt_call q
    obtain ⟨b1, b2, b3, b4⟩ := isBlt_of g hb
    subst ee
    split at h
    · rename_i a
      rw [Option.map_eq_some_iff] at h
      obtain ⟨a', ha, ew⟩ := h
      subst ew
      have hp : PA X [a] (tA X.K (evs cf [a'])) := pa_ok ih g (xs := [a']) (by simp [optAll, ha])
      exact PI.imp (pi_range1 b1 b2 hp (by rw [st_cons ha]; rfl)) fun σ H R w => imp_rng1 w
    · rename_i a b
      simp only [Option.bind_eq_some_iff, Option.map_eq_some_iff] at h
      obtain ⟨a', ha, b', hb', ew⟩ := h
      subst ew
      have hp : PA X [a, b] (tA X.K (evs cf [a', b'])) := pa_ok ih g (xs := [a', b']) (by simp [optAll, ha, hb'])
      rw [evs2] at hp ⊢
      exact PI.imp (pi_range2 b1 b2 hp (by rw [st_cons ha, st_cons hb']; rfl) (by rw [st_cons hb']; rfl)) fun σ H R w => imp_rng2 w
    · rename_i a b d
      simp only [Option.bind_eq_some_iff, Option.map_eq_some_iff] at h
      obtain ⟨a', ha, b', hb', d', hd', ew⟩ := h
      subst ew
      have hp : PA X [a, b, d] (tA X.K (evs cf [a', b', d'])) := pa_ok ih g (xs := [a', b', d']) (by simp [optAll, ha, hb', hd'])
      rw [evs3] at hp ⊢
      exact PI.imp (pi_range3 b1 b2 hp (by rw [st_cons ha]) (by rw [st_cons hb', st_cons hd']; rfl)) fun σ H R w => imp_rng3 w
    · cases h
  · split at h
    · rename_i rs q
      obtain ⟨p, pos, ee, hb⟩ := blt_call q
      obtain ⟨b1, b2, b3, b4⟩ := isBlt_of g hb
      subst ee
      match rs, h with
      | [a], h =>
        simp only [Option.map_eq_some_iff] at h
        obtain ⟨a', ha, ew⟩ := h
        subst ew
        exact PI.imp (RT.pi_revA b1 b2 (ih c a a' X ha g).1 (st_cons ha)) fun σ H R w => imp_rev w
      | [], h => cases h
      | _ :: _ :: _, h => cases h
    · rw [Option.map_eq_some_iff] at h
      obtain ⟨e', he, ew⟩ := h
      subst ew
      exact PI.imp (pi_seq (ih c e e' X he g).1) fun σ H R w => imp_val w
/-! ### comprehensions -/
theorem ifs_ok {n : Nat} (ih : IH cf k n) {c : Ct} {X : Cx} (g : Gd cf k c X) {es : List Expr} {cs : List E} (h : cIfs (cE n c) es = some cs) : PTs X es (tT X.K (evt cf cs)) := by
  match es, h with
  | [], h =>
    cases h
    exact PTs.imp pts_nil fun σ H Q ⟨K, al, s, h, eK, rh, re, p⟩ => p al H Ext.refl rh
  | [e], h =>
    unfold cIfs at h
    simp only at h
    cases q : isIf e with
    | true => rw [q] at h; cases h
    | false =>
      rw [q] at h
      simp only [Option.map_eq_some_iff] at h
      obtain ⟨e', he, ew⟩ := h
      subst ew
      exact PTs.imp (pts_one ((ih c e e' X he g).2 q)) fun σ H Q w => w
  | _ :: _ :: _, h => simp [cIfs] at h
theorem isVar_of {es : List E} (h : isVar es = true) : ∃ i, es = [.v i] := by
  unfold isVar at h
  split at h
  · exact ⟨_, rfl⟩
  · cases h
theorem src_lk {sk : Sk} {vs : List Val} {h : Hs} {xs : List Val} {l : Nat} (e : srcV sk vs h = some (xs, some l)) : ∃ ys, vs = [.ref l] ∧ h.get l = some (.lst ys) ∧ ∀ h' : Hs, h'.get l = some (.lst ys) → srcV sk [.ref l] h' = some (xs, some l) := by
  unfold srcV at e
  split at e
  · split at e
    · cases e
    · cases e
    · split at e
      · rename_i ys q
        cases e
        exact ⟨_, rfl, q, fun h' z => by simp only [srcV, z]⟩
      · cases e
    · cases e
  · split at e
    · cases e
    · cases e
    · split at e
      · rename_i ys q
        cases e
        exact ⟨_, rfl, q, fun h' z => by simp only [srcV, z]⟩
      · cases e
    · cases e
  · split at e <;> cases e
  · split at e <;> cases e
  · split at e <;> cases e
  · cases e
theorem evs_v {i : Nat} {s : Env} {h : Hs} {P : List Val × Hs → Prop} (p : (evs cf [.v i] s h).All P) : ∃ v, s[i]? = some (some v) ∧ P ([v], h) ∧ ∀ h, evs cf [.v i] s h = .ok ([v], h) := by
  simp only [evs, ev] at p
  split at p
  · rename_i v q
    exact ⟨v, q, p, fun h => by simp only [evs, ev, q]; rfl⟩
  · exact p.elim
/-- a comprehension with one for -/
theorem imp_lcA {F : PySem.W.Frag} {σ : St} {H : Hp} {m : Bool} {own : List Nat} {tg : Tg} {sk : Sk} {es cs : List E} {e : E} {Q : V → Hp → Prop} (hs : ∀ j ∈ slots tg, j ∈ own) (w : tE F (ev cf (.lc m own tg sk es cs e)) σ H Q) :
    (tLc (tI F sk (evs cf es)) (tG F tg) (tT F (evt cf cs)) (tE F (ev cf e)) own σ H Q) ∨ tLockE (tLc (tI F sk (evs cf es)) (tG F tg) (tT F (evt cf cs)) (tE F (ev cf e)) own) σ H Q := by
  obtain ⟨K, al, s, h, rfl, rh, re, p⟩ := w
  simp only [ev] at p
  cases hv : isVar es with
  | true =>
    obtain ⟨i, ei⟩ := isVar_of hv
    subst ei
    rw [T.all_bind] at p
    obtain ⟨v, hsl, p, hev⟩ := evs_v p
    simp only at p
    split at p
    · rename_i xs q
      split at p
      · rename_i sm
        left
        refine imp_lc (m := m) hs ⟨K, al, s, h, rfl, rh, re, ?_⟩
        rw [hev]
        exact ⟨xs, none, q, fun _ z => (by cases z), sm, p⟩
      · exact p.elim
    · rename_i xs l q
      split at p
      · rename_i sm
        rw [Bool.and_eq_true] at sm
        obtain ⟨ys, e1, e2, e3⟩ := src_lk q
        simp only [List.cons.injEq, and_true] at e1
        subst e1
        exact imp_lcL hs rfl rh re hev hsl e2 e3 sm.2 p
      · exact p.elim
    · exact p.elim
  | false =>
    left
    refine imp_lc (m := m) hs ⟨K, al, s, h, rfl, rh, re, T.all_mono (fun q z => ?_) (T.all_bind.mp p)⟩
    split at z
    · rename_i xs e1
      split at z
      · rename_i sm
        exact ⟨xs, none, e1, fun _ z => (by cases z), sm, z⟩
      · exact z.elim
    · rw [hv, Bool.false_and] at z
      exact z.elim
    · exact z.elim

/-! ### calls -/
theorem evs_len : ∀ {es : List E} {s : Env} {h : Hs}, (evs cf es s h).Sat fun p => p.1.length = es.length
  | [], s, h => rfl
  | e :: es, s, h => by
    simp only [evs]
    refine T.sat_bind fun p => ?_
    have ih := evs_len (es := es) (s := s) (h := p.2)
    revert ih
    generalize evs cf es s p.2 = t
    intro ih
    induction t with
    | ok a =>
      show (p.1 :: a.1).length = (e :: es).length
      have : a.1.length = es.length := ih
      simp [this]
    | no => trivial
    | dr n k ih' => exact fun i => ih' i (ih i)
theorem imp_isi {F : PySem.W.Frag} {σ : St} {H : Hp} {e : E} {t : Ty} {Q : V → Hp → Prop} (w : tE F (ev cf (.isi e t)) σ H Q) : tCB (rIs F t) (tCons (tE F (ev cf e)) (tCons (tC (.ty (pyT t))) tNil)) σ H Q := by
  obtain ⟨K, al, s, h, rfl, rh, re, p⟩ := w
  simp only [ev] at p
  refine tE.seq rh re (T.all_mono (fun q z al1 H1 x e1 rh1 re1 rx => ?_) (T.all_bind.mp p))
  split at z
  · rename_i k ek
    exact ⟨K, al1, q.2, q.1, x, k, rfl, rfl, rh1, rx, ek, Pt.here (z.trans e1) rh1 (.bl k)⟩
  · exact z.elim
theorem imp_me {F : PySem.W.Frag} {σ : St} {H : Hp} {o : E} {es : List E} {m : Me} {Q : V → Hp → Prop} (w : tE F (ev cf (.me o m es)) σ H Q) : tBM F "list" (rM F m) (tE F (ev cf o)) (tA F (evs cf es)) σ H Q := by
  obtain ⟨K, al, s, h, rfl, rh, re, p⟩ := w
  simp only [ev] at p
  refine tE.seq rh re (T.all_mono (fun q z al1 H1 x e1 rh1 re1 rx => ?_) (T.all_bind.mp p))
  split at z
  · rename_i ys ey
    obtain ⟨a, us, ea, sq, rs⟩ := itemsL_of rh1 ey rx
    refine ⟨?_, tA.seq rh1 re1 (T.all_mono (fun q2 z2 al2 H2 ys e2 rh2 re2 rys => ⟨K, al2, q2.2, q.1, q2.1, rfl, rh2, rx.mono e2.toKp, rys, T.all_mono (fun _ z3 => z3.trans (e1.trans e2)) z2⟩) (T.all_bind.mp z))⟩
    rw [ea]
    exact .inl ⟨rfl, us, sq⟩
  · exact z.elim
theorem imp_me0 {F : PySem.W.Frag} {σ : St} {H : Hp} {o : E} {m : Me} {Q : V → Hp → Prop} (w : tE F (ev cf (.me o m [])) σ H Q) : tBM0 F "list" (rM F m) (tE F (ev cf o)) σ H Q := by
  obtain ⟨K, al, s, h, rfl, rh, re, p⟩ := w
  simp only [ev] at p
  refine tE.seq rh re (T.all_mono (fun q z al1 H1 x e1 rh1 re1 rx => ?_) (T.all_bind.mp p))
  split at z
  · rename_i ys ey
    obtain ⟨a, us, ea, sq, rs⟩ := itemsL_of rh1 ey rx
    have z : (meA m q.1 [] q.2).All (Pt K al h H Q) := z
    refine ⟨?_, K, al1, q.2, q.1, [], rfl, rh1, rx, .nil, T.all_mono (fun _ z3 => z3.trans e1) z⟩
    rw [ea]
    exact .inl ⟨rfl, us, sq⟩
  · exact z.elim
/-- list(range(..)), tuple(range(..)) -/
def matOf (F : PySem.W.Frag) (t : Bool) (te : St → Hp → (Int → Int → Hp → Prop) → Prop) : TE := match t with
  | true => tTupRgD te
  | false => tLstRg te
theorem rgV_eq (a b : Int) : rgV a b = rngU a 1 (b - a).toNat := by
  unfold rgV rngU
  apply List.map_congr_left
  intro i _
  rw [Int.mul_one]
def matW (t : Bool) (a b : Int) (Q : V → Hp → Prop) (H : Hp) : Prop := match t with
  | true => newT (rgV a b) H Q
  | false => ∀ q, H q = none → Q (.ref q) (upd H q (.lst (rgV a b)))
theorem mat_end {K : Cn} {al : List Addr} {h : Hs} {H : Hp} {Q : V → Hp → Prop} {t m : Bool} {a b : Int} {xs : List Val} (rh : RH K al h H) (ex : xs = rngL a (b - a).toNat) (p : (matV t m xs h).All (Pt K al h H Q)) : matW t a b Q H := by
  have rs : RVs K al H xs (rgV a b) := by
    rw [rgV_eq, ex]
    exact rngL_rv a _
  cases t with
  | true => exact Pt.tup p rh rs
  | false => exact fun q nq => Pt.mk p rh rs nq
theorem imp_mat1 {F : PySem.W.Frag} {σ : St} {H : Hp} {t m : Bool} {a : E} {Q : V → Hp → Prop} (w : tE F (ev cf (.mat t m .rng [a])) σ H Q) : matOf F t (tRg1 (tE F (ev cf a))) σ H Q := by
  obtain ⟨K, al, s, h, rfl, rh, re, p⟩ := w
  simp only [ev, evs, T.bind_assoc] at p
  have go : tE K.K (ev cf a) σ H fun x H1 => ∃ n, x = .int n ∧ RgOk 0 n ∧ matW t 0 n Q H1 := by
    refine tE.seq rh re (T.all_mono (fun q z al1 H1 x e1 rh1 re1 rx => ?_) (T.all_bind.mp p))
    obtain ⟨v, h1⟩ := q
    simp only [T.bind] at z rx e1 rh1
    cases v with
    | int j =>
      simp only [srcV] at z
      by_cases b : (bd62 j && decide (j ≤ 1000000)) = true
      · rw [if_pos b] at z
        rw [Bool.and_eq_true, decide_eq_true_eq] at b
        obtain ⟨b1, b2⟩ := bd62_of b.1
        refine ⟨j, rx.int_of, ⟨by decide, by decide, b1, b2, by have := b.2; omega⟩, mat_end (m := m) (xs := rngL 0 j.toNat) rh1 (by rw [Int.sub_zero]) (T.all_mono (fun _ z3 => z3.trans e1) z)⟩
      · rw [if_neg b] at z
        exact z.elim
    | _ => exact z.elim
  cases t with
  | true =>
    refine (?_ : tTupRgD (tRg1 (tE K.K (ev cf a))) σ H Q)
    obtain ⟨K2, al2, s2, h2, e2, rh2, re2, p2⟩ := go
    exact ⟨K2, al2, s2, h2, e2, rh2, re2, T.all_mono (fun q z al' H' u e r rv => let ⟨n, en, ok, qq⟩ := z al' H' u e r rv; ⟨n, en, ok, qq⟩) p2⟩
  | false =>
    refine (?_ : tLstRg (tRg1 (tE K.K (ev cf a))) σ H Q)
    obtain ⟨K2, al2, s2, h2, e2, rh2, re2, p2⟩ := go
    exact ⟨K2, al2, s2, h2, e2, rh2, re2, T.all_mono (fun q z al' H' u e r rv => let ⟨n, en, ok, qq⟩ := z al' H' u e r rv; ⟨n, en, ok, qq⟩) p2⟩
theorem imp_mat2 {F : PySem.W.Frag} {σ : St} {H : Hp} {t m : Bool} {a b : E} {Q : V → Hp → Prop} (w : tE F (ev cf (.mat t m .rng [a, b])) σ H Q) : matOf F t (tRg2 (tE F (ev cf a)) (tE F (ev cf b))) σ H Q := by
  obtain ⟨K, al, s, h, rfl, rh, re, p⟩ := w
  simp only [ev, evs2, T.bind_assoc] at p
  have go : tE K.K (ev cf a) σ H fun x H1 => tE K.K (ev cf b) σ H1 fun y H2 => ∃ i j, x = .int i ∧ y = .int j ∧ RgOk i j ∧ matW t i j Q H2 := by
    refine tE.seq rh re (T.all_mono (fun q z al1 H1 x e1 rh1 re1 rx => ?_) (T.all_bind.mp p))
    refine tE.seq rh1 re1 (T.all_mono (fun q2 z al2 H2 y e2 rh2 re2 ry => ?_) (T.all_bind.mp z))
    obtain ⟨v, h1⟩ := q
    obtain ⟨v2, h2⟩ := q2
    simp only [T.bind] at z rx e1 rh1 ry e2 rh2
    cases v with
    | int i =>
      cases v2 with
      | int j =>
        simp only [srcV] at z
        by_cases b : (bd62 i && bd62 j && decide (j - i ≤ 1000000)) = true
        · rw [if_pos b] at z
          rw [Bool.and_eq_true, Bool.and_eq_true, decide_eq_true_eq] at b
          obtain ⟨b1, b2⟩ := bd62_of b.1.1
          obtain ⟨b3, b4⟩ := bd62_of b.1.2
          refine ⟨i, j, rx.int_of, ry.int_of, ⟨b1, b2, b3, b4, by have := b.2; omega⟩, mat_end (m := m) (xs := rngL i (j - i).toNat) rh2 rfl (T.all_mono (fun _ z3 => z3.trans (e1.trans e2)) z)⟩
        · rw [if_neg b] at z
          exact z.elim
      | _ => exact z.elim
    | _ => exact z.elim
  cases t with
  | true =>
    refine (?_ : tTupRgD (tRg2 (tE K.K (ev cf a)) (tE K.K (ev cf b))) σ H Q)
    obtain ⟨K2, al2, s2, h2, e2, rh2, re2, p2⟩ := go
    refine ⟨K2, al2, s2, h2, e2, rh2, re2, T.all_mono (fun q z al' H' u e r rv => ?_) p2⟩
    obtain ⟨K3, al3, s3, h3, e3, rh3, re3, p3⟩ := z al' H' u e r rv
    exact ⟨K3, al3, s3, h3, e3, rh3, re3, T.all_mono (fun q z al' H' u e r rv => let ⟨i, j, e1, e2, ok, qq⟩ := z al' H' u e r rv; ⟨i, j, e1, e2, ok, qq⟩) p3⟩
  | false =>
    refine (?_ : tLstRg (tRg2 (tE K.K (ev cf a)) (tE K.K (ev cf b))) σ H Q)
    obtain ⟨K2, al2, s2, h2, e2, rh2, re2, p2⟩ := go
    refine ⟨K2, al2, s2, h2, e2, rh2, re2, T.all_mono (fun q z al' H' u e r rv => ?_) p2⟩
    obtain ⟨K3, al3, s3, h3, e3, rh3, re3, p3⟩ := z al' H' u e r rv
    exact ⟨K3, al3, s3, h3, e3, rh3, re3, T.all_mono (fun q z al' H' u e r rv => let ⟨i, j, e1, e2, ok, qq⟩ := z al' H' u e r rv; ⟨i, j, e1, e2, ok, qq⟩) p3⟩
def matOf3 (F : PySem.W.Frag) (t : Bool) (te : L2.St → Hp → (Int → Int → Int → Nat → Hp → Prop) → Prop) : TE := match t with
  | true => tTupRg3D te
  | false => tLstRg3 te
theorem rgV3_eq (a c : Int) (n : Nat) : rgV3 a c n = rngU a c n := rfl
theorem src_rev {v : Val} {h : Hs} {xs : List Val} {o : Option Nat} (e : srcV .rev [v] h = some (xs, o)) : ∃ ys, items h v = some ys ∧ xs = ys.reverse := by
  cases v with
  | tup ys => cases e; exact ⟨ys, rfl, rfl⟩
  | tl ys => cases e; exact ⟨ys, rfl, rfl⟩
  | ref l =>
    simp only [srcV] at e
    split at e
    · rename_i ys q
      cases e
      exact ⟨ys, by simp only [items, q], rfl⟩
    · cases e
  | _ => cases e
theorem imp_matR {F : PySem.W.Frag} {σ : St} {H : Hp} {m : Bool} {a : E} {Q : V → Hp → Prop} (w : tE F (ev cf (.mat true m .rev [a])) σ H Q) : RT.tTupRevA F (tE F (ev cf a)) σ H Q := by
  obtain ⟨K, al, s, h, rfl, rh, re, p⟩ := w
  simp only [ev, evs, T.bind_assoc] at p
  refine tE.seq rh re (T.all_mono (fun q z al1 H1 x e1 rh1 re1 rx => ?_) (T.all_bind.mp p))
  obtain ⟨v, h1⟩ := q
  simp only [T.bind] at z rx e1 rh1
  split at z
  · rename_i xs o e
    obtain ⟨ys, ey, rfl⟩ := src_rev e
    obtain ⟨a, us, ea, sq, rs⟩ := items_of rh1 ey rx
    have z3 : Pt K al h H Q (Val.tup ys.reverse, h1) := z
    exact ⟨a, us, ea, sq, Pt.tup (xs := ys.reverse) (z3.trans e1) rh1 rs.reverse⟩
  · exact z.elim
theorem imp_lset {F : PySem.W.Frag} {σ : St} {H : Hp} {a : E} {Q : V → Hp → Prop} (w : tE F (ev cf (.lset a)) σ H Q) : tLenSetA F (tE F (ev cf a)) σ H Q := by
  obtain ⟨K, al, s, h, rfl, rh, re, p⟩ := w
  simp only [ev] at p
  refine tE.seq rh re (T.all_mono (fun q z al1 H1 x e1 rh1 re1 rx => ?_) (T.all_bind.mp p))
  split at z
  · rename_i xs ey
    split at z
    · rename_i ns en
      split at z
      · rename_i hl
        obtain ⟨a, us, ea, sq, rs⟩ := itemsL_of rh1 ey rx
        obtain ⟨z1, z2⟩ := rs.vints en
        subst z1
        have hl : ns.length < 64 := Nat.le_of_ble_eq_true hl
        have z3 : Pt K al h H Q (Val.int (distI ns), q.2) := z
        exact ⟨a, ns, ea, sq, hl, Pt.here (z3.trans e1) rh1 (.int _)⟩
      · exact z.elim
    · exact z.elim
  · exact z.elim
theorem imp_mat3 {F : PySem.W.Frag} {σ : St} {H : Hp} {t m : Bool} {a b d : E} {Q : V → Hp → Prop} (w : tE F (ev cf (.mat t m .rng [a, b, d])) σ H Q) : matOf3 F t (tRg3 (tA F (evs cf [a, b, d]))) σ H Q := by
  obtain ⟨K, al, s, h, rfl, rh, re, p⟩ := w
  simp only [ev] at p
  have go : tA K.K (evs cf [a, b, d]) σ H fun vs H1 => ∃ (i j c : Int) (n : Nat), vs = [.int i, .int j, .int c] ∧ RgC i j c n ∧ n ≤ 2 ^ 24 ∧ (match t with
      | true => newT (rgV3 i c n) H1 Q
      | false => ∀ q, H1 q = none → Q (.ref q) (upd H1 q (.lst (rgV3 i c n)))) := by
    refine tA.seq rh re (T.all_sat (fun q z hlen al1 H1 x e1 rh1 re1 rx => ?_) (T.all_bind.mp p) evs_len)
    obtain ⟨vs, h1⟩ := q
    simp only at z rx e1 rh1 hlen
    split at z
    · rename_i xs l es
      match vs, hlen, es, rx with
      | [.int i, .int j, .int c], _, es, rx =>
        simp only [srcV] at es
        split at es
        · rename_i b
          cases es
          simp only [Bool.and_eq_true, Nat.blt_eq, decide_eq_true_eq] at b
          obtain ⟨⟨⟨⟨b1, b2⟩, b3⟩, b4⟩, b5⟩ := b
          obtain ⟨c1, c2⟩ := bd62_of b1
          obtain ⟨c3, c4⟩ := bd62_of b2
          obtain ⟨u, u2, u3, ex, ru, ru2, ru3⟩ := rx.three_of
          rw [ru.int_of, ru2.int_of, ru3.int_of] at ex
          have b6 := Nat.le_of_ble_eq_true b5
          refine ⟨i, j, c, rgN i j c, ex, ⟨b3, by omega, rg_small c1 c2 c3 c4 b3 b4 b6, rgN_size b3⟩, by omega, ?_⟩
          have rs : RVs K al1 H1 (rngC i c (rgN i j c)) (rgV3 i c (rgN i j c)) := rngC_rv i c _
          cases t with
          | true => exact Pt.tup (z.trans e1) rh1 rs
          | false => exact fun q nq => Pt.mk (T.all_mono (fun _ z3 => z3.trans e1) z) rh1 rs nq
        · cases es
      | [.int _, .int _, .non], _, es, _ | [.int _, .int _, .bl _], _, es, _ | [.int _, .int _, .str _], _, es, _ | [.int _, .int _, .tup _], _, es, _ | [.int _, .int _, .tl _], _, es, _ | [.int _, .int _, .ref _], _, es, _
      | [.int _, .int _, .scr], _, es, _ | [.int _, .int _, .sl _ _], _, es, _ | [.int _, .int _, .fd _ _ _], _, es, _
      | [.int _, .non, _], _, es, _ | [.int _, .bl _, _], _, es, _ | [.int _, .str _, _], _, es, _ | [.int _, .tup _, _], _, es, _ | [.int _, .tl _, _], _, es, _ | [.int _, .ref _, _], _, es, _
      | [.int _, .scr, _], _, es, _ | [.int _, .sl _ _, _], _, es, _ | [.int _, .fd _ _ _, _], _, es, _
      | [.non, _, _], _, es, _ | [.bl _, _, _], _, es, _ | [.str _, _, _], _, es, _ | [.tup _, _, _], _, es, _ | [.tl _, _, _], _, es, _ | [.ref _, _, _], _, es, _
      | [.scr, _, _], _, es, _ | [.sl _ _, _, _], _, es, _ | [.fd _ _ _, _, _], _, es, _ => simp [srcV] at es
    · exact z.elim
  obtain ⟨K2, al2, s2, h2, e2, rh2, re2, p2⟩ := go
  cases t with
  | true => exact ⟨K2, al2, s2, h2, e2, rh2, re2, T.all_mono (fun q z al' H' u e r rv => let ⟨i, j, c, n, e1, rc, ok, qq⟩ := z al' H' u e r rv; ⟨i, j, c, n, e1, rc, ok, qq⟩) p2⟩
  | false => exact ⟨K2, al2, s2, h2, e2, rh2, re2, T.all_mono (fun q z al' H' u e r rv => let ⟨i, j, c, n, e1, rc, ok, qq⟩ := z al' H' u e r rv; ⟨i, j, c, n, e1, rc, ok, qq⟩) p2⟩
/-! ### dicts -/
theorem imp_dnewK {F : PySem.W.Frag} {σ : St} {H : Hp} {Q : V → Hp → Prop} (w : tE F (ev cf (.dnew false)) σ H Q) : tDNewK σ H Q := by
  obtain ⟨K, al, s, h, rfl, rh, re, p⟩ := w
  intro d nd
  exact new_dct (t := false) p rh nd
theorem imp_dnewT {F : PySem.W.Frag} {σ : St} {H : Hp} {Q : V → Hp → Prop} (w : tE F (ev cf (.dnew true)) σ H Q) : tDNewT σ H Q := by
  obtain ⟨K, al, s, h, rfl, rh, re, p⟩ := w
  intro d nd
  exact new_dct (t := true) p rh nd
theorem imp_dget {F : PySem.W.Frag} {σ : St} {H : Hp} {o k x : E} {Q : V → Hp → Prop} (w : tE F (ev cf (.dget o k x)) σ H Q) : tDGet2 (tE F (ev cf o)) (tE F (ev cf k)) (tE F (ev cf x)) σ H Q := by
  obtain ⟨K, al, s, h, rfl, rh, re, p⟩ := w
  simp only [ev] at p
  refine tE.seq rh re (T.all_mono (fun q z al1 H1 u e1 rh1 re1 ru => ?_) (T.all_bind.mp p))
  split at z
  · rename_i td ed
    obtain ⟨a, us, eu, rd, _⟩ := dic_of rh1 (t := td.1) (ks := td.2.1) (vs := td.2.2) ed ru
    refine ⟨a, eu, ?_, ?_⟩
    · unfold dHO at rd
      split at rd
      · exact .inr ⟨_, rd⟩
      · exact .inl ⟨_, rd⟩
    refine tE.seq rh1 re1 (T.all_mono (fun q2 z2 al2 H2 y e2 rh2 re2 ry => ?_) (T.all_bind.mp z))
    refine tE.seq rh2 re2 (T.all_mono (fun q3 z3 al3 H3 y3 e3 rh3 re3 ry3 => ?_) (T.all_bind.mp z2))
    split at z3
    · rename_i t ks vs ed3
      split at z3
      · rename_i kk ek
        obtain ⟨a', o', ea, g, m⟩ := dic_get rh3 ed3 (ru.mono (e2.trans e3).toKp) ek (ry.mono e3.toKp)
        rw [eu] at ea
        cases ea
        refine ⟨o', g, ?_⟩
        have z4 := z3.trans (e1.trans (e2.trans e3))
        split at m
        · rename_i w ew
          obtain ⟨zz, eo, rw'⟩ := m
          subst eo
          rw [ew] at z4
          exact Pt.here z4 rh3 rw'
        · rename_i ew
          subst m
          rw [ew] at z4
          exact Pt.here z4 rh3 ry3
      · exact z3.elim
    · exact z3.elim
  · exact z.elim
theorem imp_dcA {F : PySem.W.Frag} {σ : St} {H : Hp} {own : List Nat} {tg : Tg} {sk : Sk} {es cs : List E} {ke ve : E} {Q : V → Hp → Prop} (hs : ∀ j ∈ slots tg, j ∈ own) (w : tE F (ev cf (.dc own tg sk es cs ke ve)) σ H Q) :
    tDc (tI F sk (evs cf es)) (tG F tg) (tT F (evt cf cs)) (tE F (ev cf ke)) (tE F (ev cf ve)) own σ H Q := by
  obtain ⟨K, al, s, h, rfl, rh, re, p⟩ := w
  simp only [ev] at p
  refine imp_dc hs ⟨K, al, s, h, rfl, rh, re, T.all_mono (fun q z => ?_) (T.all_bind.mp p)⟩
  split at z
  · rename_i xs e1
    split at z
    · rename_i sm
      exact ⟨xs, none, e1, fun _ z => (by cases z), sm, z⟩
    · exact z.elim
  · exact z.elim
/-! a dict that is written out -/
def pairUp : List V → List (V × V)
  | x :: y :: r => (x, y) :: pairUp r
  | _ => []
def trsOf (F : PySem.W.Frag) : List E → List (TE × TE)
  | a :: b :: r => (tE F (ev cf a), tE F (ev cf b)) :: trsOf F r
  | _ => []
def evenL : List E → Prop
  | [] => True
  | _ :: _ :: r => evenL r
  | _ => False
theorem pairs_imp {K : Cn} {σ : St} {s : Env} : ∀ (es : List E) {al : List Addr} {h : Hs} {H : Hp} {Q : List (V × V) → Hp → Prop}, evenL es → RH K al h H → RE K al H s σ →
    ((evs cf es s h).All fun q => ∀ al' H' us, Ext al h H al' q.2 H' → RH K al' q.2 H' → RVs K al' H' q.1 us → Q (pairUp us) H') → tPairs (trsOf (cf := cf) K.K es) σ H Q
  | [], al, h, H, Q, _, rh, re, p => p al H [] Ext.refl rh .nil
  | [a], al, h, H, Q, e, rh, re, p => e.elim
  | a :: b :: r, al, h, H, Q, e, rh, re, p => by
    simp only [evs] at p
    refine tE.seq rh re (T.all_mono (fun q z al1 H1 u e1 rh1 re1 ru => ?_) (T.all_bind.mp p))
    refine tE.seq rh1 re1 (T.all_mono (fun q2 z2 al2 H2 u2 e2 rh2 re2 ru2 => ?_) (T.all_bind.mp (T.all_bind.mp z)))
    refine pairs_imp r (Q := fun ps H3 => Q ((u, u2) :: ps) H3) e rh2 re2 (T.all_mono (fun q3 z3 al3 H3 us e3 rh3 rs => ?_) (T.all_bind.mp z2))
    exact z3 al3 H3 (u :: u2 :: us) (e1.trans (e2.trans e3)) rh3 (.cons (ru.mono (e2.trans e3).toKp) (.cons (ru2.mono e3.toKp) rs))
theorem prK_ok {K : Cn} {al : List Addr} {H : Hp} : ∀ {xs : List Val} {ps : List (List L2.Key × Val)} {us : List V}, prK xs = some ps → RVs K al H xs us →
    ∃ kvs : List (L2.Key × V), pairUp us = kvs.map (fun kv => (kV kv.1, kv.2)) ∧ ps.map (·.1) = kvs.map (fun kv => [kv.1]) ∧ RVs K al H (ps.map (·.2)) (kvs.map (·.2)) ∧ kvs.length = ps.length
  | [], ps, us, e, r => by
    cases e
    simp only [RVs] at r
    subst r
    exact ⟨[], rfl, rfl, .nil, rfl⟩
  | [x], ps, us, e, r => by cases e
  | k :: v :: r, ps, us, e, rs => by
    unfold prK at e
    split at e
    · rename_i a q ea eq
      cases e
      simp only [RVs] at rs
      obtain ⟨u, w, e1, r1, u2, w2, e2, r2, r3⟩ := rs
      subst e1
      subst e2
      obtain ⟨kvs, p1, p2, p3, p4⟩ := prK_ok eq r3
      refine ⟨(a, u2) :: kvs, ?_, ?_, ?_, ?_⟩
      · show (u, u2) :: pairUp w2 = _
        rw [p1, atom_of ea r1]
        rfl
      · rw [List.map_cons, List.map_cons, p2]
      · rw [List.map_cons, List.map_cons]
        simp only [RVs]
        exact ⟨u2, _, rfl, r2, p3⟩
      · rw [List.length_cons, List.length_cons, p4]
    · cases e
theorem imp_disp {F : PySem.W.Frag} {σ : St} {H : Hp} {es : List E} {Q : V → Hp → Prop} (ev0 : evenL es) (w : tE F (ev cf (.disp es)) σ H Q) : tDisp (trsOf (cf := cf) F es) σ H Q := by
  obtain ⟨K, al, s, h, rfl, rh, re, p⟩ := w
  intro d nd
  simp only [ev] at p
  have x0 : RO K (al ++ [d]) h.lk (upd H d (.dK [])) h.n d (.dct false [] []) := ⟨[], by
    split
    · rename_i z
      exact absurd (rh.lkb _ z) (Nat.lt_irrefl _)
    · exact upd_same, ⟨rfl, fun _ _ m => absurd m (List.not_mem_nil), fun _ m => absurd m (List.not_mem_nil)⟩, .nil⟩
  have rh1 := rh.new nd x0
  have ex1 : Ext al h H (al ++ [d]) (h.new (.dct false [] [])) (upd H d (.dK [])) := Ext.new rh nd
  refine pairs_imp es ev0 rh1 (re.mono ex1.toKp) (T.all_mono (fun q z al2 H2 us e2 rh2 rs => ?_) (T.all_bind.mp p))
  unfold dispV at z
  split at z
  · rename_i eg
    split at z
    · rename_i ps ep
      split at z
      · rename_i hl
        have ea : (al ++ [d])[h.n]? = some d := by
          rw [List.getElem?_append_right (by rw [rh.len]; exact Nat.le_refl _), rh.len]
          simp
        have ea2 : al2[h.n]? = some d := e2.pre _ _ ea
        have nlk : q.2.lk.contains h.n = false := by
          rw [e2.lk]
          cases w : (h.new (.dct false [] [])).lk.contains h.n with
          | false => rfl
          | true => exact absurd (rh.lkb _ w) (Nat.lt_irrefl _)
        obtain ⟨us0, r0, _, r00⟩ := rh2.ob _ _ _ ea2 eg
        rw [nlk] at r0
        simp only [RVs] at r00
        subst r00
        have r0 : H2 d = some (.dK []) := r0
        obtain ⟨kvs, p1, p2, p3, p4⟩ := prK_ok ep rs
        obtain ⟨us', f1, f2, f3⟩ := dFill_ok (K := K) (al := al2) (H := H2) (ks := []) (vs := []) (us := []) p2 p3 ⟨rfl, fun _ _ m => absurd m (List.not_mem_nil), fun _ m => absurd m (List.not_mem_nil)⟩ .nil
        have f1 : mergeK [] kvs = _ := f1
        refine ⟨r0, kvs, p1, by rw [p4]; exact Nat.le_of_ble_eq_true hl, ?_⟩
        rw [f1]
        have nf : ∀ od u, H2 d ≠ some (.frz od u) := fun od u q => by rw [r0] at q; cases q
        have kp : Kp al2 H2 al2 (upd H2 d (.dK (((dFill ps [] []).1.map hk).zip us'))) := Kp.put rh2 ea2
        refine z al2 _ _ (ex1.trans (e2.trans (Ext.put rh2 ea2 nf))) (rh2.put ea2 ⟨us', ?_, f2, f3.mono kp⟩) ?_
        · rw [nlk]
          exact upd_same
        · simp only [RV]
          exact ⟨d, rfl, ea2⟩
      · exact z.elim
    · exact z.elim
  · exact z.elim
end
end Eng
/-! Expressions, all. -/
namespace Eng
open PySem L2
section
variable {cf : Nat → List Val → Hs → T (Val × Hs)} {k : Nat}
/-- the entries of a dict that is written out -/
theorem dsp_ok {n : Nat} (ih : IH cf k n) {c : Ct} {X : Cx} (g : Gd cf k c X) {pos : Pos} : ∀ {ks : List (Option Expr)} {vs : List Expr} {es : List E}, cDsp (cE n c) ks vs = some es →
    PPs X pos ks vs (trsOf (cf := cf) X.K es) ∧ ks.all (·.isSome) = true ∧ ks.length = vs.length ∧ evenL es
  | [], [], es, h => by
    cases h
    exact ⟨pps_nil, rfl, rfl, trivial⟩
  | some kx :: ks, v :: vs, es, h => by
    unfold cDsp at h
    split at h
    · rename_i a b r ha hb hr
      cases h
      obtain ⟨d1, d2, d3, d4⟩ := dsp_ok ih g (pos := pos) hr
      exact ⟨pps_cons (ih c kx a X ha g).1 (ih c v b X hb g).1 d1, by rw [List.all_cons, d2]; rfl, by rw [List.length_cons, List.length_cons, d3], d4⟩
    · cases h
  | [], _ :: _, es, h => by cases h
  | none :: _, _, es, h => by
    unfold cDsp at h
    cases h
  | some _ :: _, [], es, h => by
    unfold cDsp at h
    cases h
theorem inCall_of {c : Ct} {nx ny x : Str} {es rs : List Expr} (h : inCall c nx ny x es = some rs) : x = nx ∧ ∃ e, es = [e] ∧ bltCall c ny e = some rs := by
  unfold inCall at h
  split at h
  · rename_i q
    rw [decide_eq_true_eq] at q
    split at h
    · exact ⟨q, _, rfl, h⟩
    · cases h
  · cases h
theorem imp_slc {F : PySem.W.Frag} {σ : St} {H : Hp} {m : Bool} {ca : Env → Hs → T (Val × Hs)} {cl ch : Env → Hs → T (Option Int × Hs)} {Q : V → Hp → Prop}
    (w : tE F (fun s h => (ca s h).bind fun p => (cl s p.2).bind fun q => (ch s q.2).bind fun r => slcV m p.1 q.1 r.1 r.2) σ H Q) : tSl (rSl F m) (tE F ca) (tO F cl) (tO F ch) σ H Q := by
  obtain ⟨K, al, s, h, rfl, rh, re, p⟩ := w
  refine tE.seq rh re (T.all_mono (fun q z al1 H1 x e1 rh1 re1 rx => ?_) (T.all_bind.mp p))
  refine tO.seq rh1 re1 (T.all_mono (fun q2 z2 al2 H2 e2 rh2 re2 => ?_) (T.all_bind.mp z))
  refine tO.seq rh2 re2 (T.all_mono (fun q3 z3 al3 H3 e3 rh3 re3 => ?_) (T.all_bind.mp z2))
  exact ⟨K, al3, q3.2, q.1, rfl, rh3, rx.mono (e2.trans e3).toKp, T.all_mono (fun _ z4 => z4.trans (e1.trans (e2.trans e3))) z3⟩
theorem po_ok {n : Nat} (ih : IH cf k n) {c : Ct} {X : Cx} (g : Gd cf k c X) {e : Expr} {x : E} (h : cE n c e = some x) : PO X (some e) (tO X.K (evo cf (some x))) := by
  have hp := (ih c e x X h g).1
  refine ⟨fun pins s σ H Q I hw => (po_some hp).run pins s σ H Q I ?_⟩
  obtain ⟨K, al, s', h', eK, rh, re, p⟩ := hw
  rw [← eK]
  simp only [evo] at p
  refine tE.seq rh re (T.all_mono (fun q z al1 H1 y e1 rh1 re1 ry => ?_) (T.all_bind.mp p))
  split at z
  · rename_i i ei
    rw [ei] at ry
    exact ⟨i, ry.int_of, z al1 H1 e1 rh1⟩
  · exact z.elim
theorem po_no {X : Cx} : PO X none (tO X.K (evo cf none)) :=
  ⟨fun pins s σ H Q I hw => po_none.run pins s σ H Q I (let ⟨K, al, s', h', eK, rh, re, p⟩ := hw; p al H Ext.refl rh)⟩
theorem call_ok {n : Nat} (ih : IH cf k n) {c : Ct} {X : Cx} (g : Gd cf k c X) {x : Str} {es : List Expr} {pos p : Pos} {y : E} (h : cCall (cE n c) c x es pos = some y) : PE X (.Call (.Name x p) es [] pos) (tE X.K (ev cf y)) := by
  unfold cCall at h
  split at h
  · cases h
  · rename_i q0
    rw [Bool.and_eq_true] at q0
    obtain ⟨o1, o2, o3⟩ := okN_of q0.1
    have hg := gloB_of g q0.2
    split at h
    · -- a def of the text
      rename_i i q1
      rw [Option.map_eq_some_iff] at h
      obtain ⟨xs, hx, ey⟩ := h
      subst ey
      obtain ⟨f, f1, f2, f3⟩ := g.fn x i q1
      have F := f3 X ⟨rfl, rfl, rfl, rfl, rfl, rfl⟩
      have hp := pa_ok ih g hx
      have conv : ∀ σ H Q, tE X.K (ev cf (.call i xs)) σ H Q → tCB (rF X.K cf i) (tA X.K (evs cf xs)) σ H Q := fun σ H Q w =>
        imp_args (f := cf i) (fun K al h vs ys H Q eK rh rs p => ⟨K, al, h, vs, eK, rh, rs, p⟩) w
      cases es with
      | nil =>
        cases hx
        refine PE.imp (pe_callF0 F hg f1 f2 o1) fun σ H Q w => ?_
        obtain ⟨K, al, s, h, eK, rh, re, z⟩ := w
        exact ⟨K, al, h, [], eK, rh, .nil, z⟩
      | cons e es =>
        obtain ⟨y, r, e1, e2, e3⟩ := opt_cons hx
        exact PE.imp (pe_callF F hg f1 f2 o1 hp (st_cons e2) (st_any e3)) conv
    · rename_i q1
      have hm := g.blt x q1
      split at h
      · -- isinstance
        rename_i q2
        rw [decide_eq_true_eq] at q2
        subst q2
        match es, h with
        | [e, t], h =>
          simp only at h
          split at h
          · rename_i z py
            split at h
            · rename_i q3
              simp only [Option.bind_eq_some_iff, Option.map_eq_some_iff] at h
              obtain ⟨t', ht, e', he, ey⟩ := h
              subst ey
              obtain ⟨b1, b2, b3, b4⟩ := isBlt_of g q3
              have pt : PE X (.Name z py) (tC (.ty (pyT t'))) := pe_bltn b1 b2 (tyOfN_of ht) rfl b4 b3
              have hp : PA X [e, .Name z py] (tCons (tE X.K (ev cf e')) (tCons (tC (.ty (pyT t'))) tNil)) := pa_cons (ih c e e' X he g).1 (pa_cons pt pa_nil) (st_cons he)
              exact PE.imp (pe_callB (isi_ok t') hg hm boot_isi hp o3 o1 (st_cons he) (by rfl)) fun σ H Q w => imp_isi w
            · cases h
          · cases h
        | [], h => cases h
        | [_], h => cases h
        | _ :: _ :: _ :: _, h => cases h
      · split at h
        · -- tuple(reversed(..))
          rename_i rs q3
          obtain ⟨ex, e, ee, q3⟩ := inCall_of q3
          subst ex ee
          obtain ⟨p', pos', ee, hb⟩ := blt_call q3
          obtain ⟨b1, b2, b3, b4⟩ := isBlt_of g hb
          subst ee
          match rs, h with
          | [a], h =>
            simp only [Option.map_eq_some_iff] at h
            obtain ⟨a', ha, ey⟩ := h
            subst ey
            exact PE.imp (RT.pe_tupRevA g.hc hg hm b1 b2 (ih c a a' X ha g).1 (st_cons ha) rfl) fun σ H Q w => imp_matR w
          | [], h => cases h
          | _ :: _ :: _, h => cases h
        · split at h
          · -- len(set(..))
            rename_i rs q3
            obtain ⟨ex, e, ee, q3⟩ := inCall_of q3
            subst ex ee
            obtain ⟨p', pos', ee, hb⟩ := blt_call q3
            obtain ⟨b1, b2, b3, b4⟩ := isBlt_of g hb
            subst ee
            match rs, h with
            | [a], h =>
              simp only [Option.map_eq_some_iff] at h
              obtain ⟨a', ha, ey⟩ := h
              subst ey
              exact PE.imp (pe_lenSetA g.hc hg hm b1 b2 (ih c a a' X ha g).1 (st_cons ha)) fun σ H Q w => imp_lset w
            | [], h => cases h
            | _ :: _ :: _, h => cases h
          · split at h
            · -- list(range(..)), tuple(range(..))
              rename_i rs q3
              split at q3
              · rename_i q4
                match es, q3 with
                | [e], q3 =>
                  obtain ⟨p', pos', ee, hb⟩ := blt_call q3
                  obtain ⟨b1, b2, b3, b4⟩ := isBlt_of g hb
                  subst ee
                  have fin : ∀ {te : St → Hp → (Int → Int → Hp → Prop) → Prop}, PRg X (.Call (.Name "range" p') rs [] pos') te → PE X (.Call (.Name x p) [.Call (.Name "range" p') rs [] pos'] [] pos) (matOf X.K (decide (x = ("tuple" : Str))) te) := fun {te} pr => by
                    by_cases ex : x = ("tuple" : Str)
                    · subst ex
                      rw [decide_eq_true rfl]
                      exact pe_tupRgD g.hc hg hm pr rfl
                    · have el : x = ("list" : Str) := by
                        rw [Bool.or_eq_true, decide_eq_true_eq, decide_eq_true_eq] at q4
                        exact q4.resolve_right ex
                      subst el
                      rw [decide_eq_false ex]
                      exact pe_listRg g.hc hg hm pr rfl
                  match rs, h with
                  | [a], h =>
                    simp only [Option.map_eq_some_iff] at h
                    obtain ⟨a', ha, ey⟩ := h
                    subst ey
                    exact PE.imp (fin (prg_1 b1 b2 (ih c a a' X ha g).1 (st_cons ha))) fun σ H Q w => imp_mat1 w
                  | [a, b], h =>
                    simp only [Option.bind_eq_some_iff, Option.map_eq_some_iff] at h
                    obtain ⟨a', ha, b', hb', ey⟩ := h
                    subst ey
                    exact PE.imp (fin (prg_2 b1 b2 (ih c a a' X ha g).1 (ih c b b' X hb' g).1 (st_cons ha) (st_cons hb') (by rw [st_cons hb']; rfl))) fun σ H Q w => imp_mat2 w
                  | [a, b, d], h =>
                    simp only [Option.bind_eq_some_iff, Option.map_eq_some_iff] at h
                    obtain ⟨a', ha, b', hb', d', hd', ey⟩ := h
                    subst ey
                    have hp : PA X [a, b, d] (tA X.K (evs cf [a', b', d'])) := pa_ok ih g (xs := [a', b', d']) (by simp [optAll, ha, hb', hd'])
                    have pr := prg_3 (p := p') (pos := pos') b1 b2 hp (by rw [st_cons ha]) (by rw [st_cons hb', st_cons hd']; rfl)
                    have fin3 : PE X (.Call (.Name x p) [.Call (.Name "range" p') [a, b, d] [] pos'] [] pos) (matOf3 X.K (decide (x = ("tuple" : Str))) (tRg3 (tA X.K (evs cf [a', b', d'])))) := by
                      by_cases ex : x = ("tuple" : Str)
                      · subst ex
                        rw [decide_eq_true rfl]
                        exact pe_tupRg3D g.hc hg hm pr rfl
                      · have el : x = ("list" : Str) := by
                          rw [Bool.or_eq_true, decide_eq_true_eq, decide_eq_true_eq] at q4
                          exact q4.resolve_right ex
                        subst el
                        rw [decide_eq_false ex]
                        exact pe_listRg3 g.hc hg hm pr rfl
                    exact PE.imp fin3 fun σ H Q w => imp_mat3 w
                  | [], h => cases h
                  | _ :: _ :: _ :: _ :: _, h => cases h
                | [], q3 => cases q3
                | _ :: _ :: _, q3 => cases q3
              · cases q3
            · simp only [Option.bind_eq_some_iff, Option.map_eq_some_iff] at h
              obtain ⟨b, hb, xs, hx, ey⟩ := h
              subst ey
              obtain ⟨hb1, hb2⟩ := biOf_of hb
              have hp := pa_ok ih g hx
              have conv : ∀ σ H Q, tE X.K (ev cf (.bi b (c.isMu pos) xs)) σ H Q → tCB (rB X.K b (c.isMu pos)) (tA X.K (evs cf xs)) σ H Q := fun σ H Q w =>
                imp_args (f := biV b (c.isMu pos)) (fun K al h vs ys H Q eK rh rs p => ⟨K, al, h, vs, eK, rh, rs, p⟩) w
              cases es with
              | nil => exact absurd rfl hb2
              | cons e es =>
                obtain ⟨y, r, e1, e2, e3⟩ := opt_cons hx
                have cr := bi_ok (X := X) g.hc b (c.isMu pos)
                cases b <;> first
                  | exact PE.imp (pe_callB cr hg hm hb1 hp o3 o1 (st_cons e2) (st_any e3)) conv
                  | exact PE.imp (pe_callTy cr hg hm hb1 hp o3 o1 (st_cons e2) (st_any e3)) conv
    · cases h
theorem slot_of {nm : Str} {m : Nat} {b : Me} (h : (nm, m, b) ∈ meTab) : Slot "list" nm (pyM b) ∧ typeOf (.builtin (pyM b)) = pure (.type "method_descriptor") := by
  simp only [meTab, List.mem_cons, List.not_mem_nil, or_false, Prod.mk.injEq] at h
  rcases h with ⟨e1, e2, e3⟩ | ⟨e1, e2, e3⟩ | ⟨e1, e2, e3⟩ | ⟨e1, e2, e3⟩ <;> subst e1 e3
  · exact ⟨PySem.F.slot_list_append, PySem.F.type_list_append⟩
  · exact ⟨PySem.F.slot_list_pop, PySem.F.type_list_pop⟩
  · exact ⟨PySem.F.slot_list_extend, PySem.F.type_list_extend⟩
  · exact ⟨PySem.F.slot_list_index, PySem.F.type_list_index⟩
theorem me_len {nm : Str} {m : Nat} {b : Me} (h : (nm, m, b) ∈ meTab) : m < 2 := by
  simp only [meTab, List.mem_cons, List.not_mem_nil, or_false, Prod.mk.injEq] at h
  omega
theorem meth_ok {n : Nat} (ih : IH cf k n) {c : Ct} {X : Cx} (g : Gd cf k c X) {o : Expr} {nm : Str} {es : List Expr} {pos ap : Pos} {o' : E} {xs : List E} {b : Me} (h0 : isCallE o = false) (hl : (ap.endLine == pos.line) = true) (ho : cE n c o = some o') (hx : optAll (cE n c) es = some xs) (hb : meOf nm es.length = some b) :
    PE X (.Call (.Attribute o nm ap) es [] pos) (tE X.K (ev cf (.me o' b xs))) := by
  have hmem := meOf_of hb
  obtain ⟨s1, s2⟩ := slot_of hmem
  have po := (ih c o o' X ho g).1
  have hat : attributeBase o nm X.env (eval o X.env) = eval o X.env := by
    cases o <;> first | rfl | (simp [isCallE] at h0)
  match es, hx with
  | [], hx =>
    cases hx
    exact PE.imp (pe_bm0 PySem.F.plainAttrs_list s1 s2 (me_ok b) po hat hl) fun σ H Q w => imp_me0 w
  | [e], hx =>
    obtain ⟨y, r, e1, e2, e3⟩ := opt_cons hx
    refine PE.imp (pe_bm PySem.F.plainAttrs_list s1 s2 (me_ok b) po (pa_ok ih g hx) hat ?_ hl (st_cons e2) (by rfl)) fun σ H Q w => imp_me w
    rw [st_cons e2]
    rfl
  | _ :: _ :: _, hx =>
    have := me_len hmem
    simp only [List.length_cons] at this
    omega
theorem slots_of {t : Tg} {own : List Nat} (h : (slots t).all (fun j => own.contains j) = true) : ∀ j ∈ slots t, j ∈ own := fun j m => by
  have := List.all_eq_true.mp h j m
  simpa using this
theorem cE_ok : ∀ n, IH cf k n
  | 0 => fun c e x X h g => by simp [cE] at h
  | n + 1 => fun c e x X h g => by
    have ih : IH cf k n := cE_ok n
    have hset := h
    -- the test of an expression that is no and, or, not, comparison
    have plain : PE X e (tE X.K (ev cf x)) → (∀ op es p, e ≠ .BoolOp op es p) → (∀ a os bs p, e ≠ .Compare a os bs p) → (∀ a p, e ≠ .UnaryOp .Not a p) → PE X e (tE X.K (ev cf x)) ∧ (isIf e = false → PT X e (tT X.K (tst cf x))) := fun hp h3 h4 h5 =>
      ⟨hp, fun h2 => PT.imp (pt_truth hp fun whole => plain_true hset h2 h3 h4 h5 X.env whole) fun σ H Q w => imp_test w⟩
    cases e with
    | Constant kk kx pos =>
      refine plain ?_ (by intros; simp) (by intros; simp) (by intros; simp)
      simp only [cE] at h
      have fin : ∀ {v : Val} {w : V}, (∀ K al H, RV K al H v w) → PE X (.Constant kk kx pos) (tC w) → x = .c v → PE X (.Constant kk kx pos) (tE X.K (ev cf x)) := fun {v w} rv hp ex => by
        subst ex
        refine PE.imp hp fun σ H Q wq => ?_
        obtain ⟨K, al, s, h, eK, rh, re, z⟩ := wq
        exact Pt.here (v := v) z rh (rv K al H)
      cases kk <;> simp only [cK, Option.some.injEq, reduceCtorEq] at h <;> subst h
      · exact fin (fun _ _ _ => .non) pe_non rfl
      · exact fin (fun _ _ _ => .bl _) pe_bl rfl
      · exact fin (fun _ _ _ => .int _) pe_int rfl
      · exact fin (fun _ _ _ => .str _) pe_str rfl
    | Name y pos =>
      refine plain ?_ (by intros; simp) (by intros; simp) (by intros; simp)
      simp only [cE, cNm] at h
      split at h
      · cases h
      · rename_i q0
        obtain ⟨o1, o2, o3⟩ := okN_of q0
        split at h
        · rename_i q1
          rw [Option.map_eq_some_iff] at h
          obtain ⟨i, hi, ex⟩ := h
          subst ex
          have hv := visB_of q1
          rw [← g.sc] at hv
          have hN := slotOf_of hi
          rw [← g.N] at hN
          refine PE.imp (pe_var hN hv o1 o2) fun σ H Q w => ?_
          obtain ⟨K, al, s, h, eK, rh, re, z⟩ := w
          simp only [ev] at z
          split at z
          · rename_i v hv'
            obtain ⟨u, e1, e2⟩ := re.get i v hv'
            exact ⟨u, e1, Pt.here z rh e2⟩
          · exact z.elim
        · split at h
          · rename_i q2
            split at h
            · rename_i v q3
              cases h
              obtain ⟨u, w, hm, r, rv⟩ := g.con y v q3
              refine PE.imp (pe_glob (gloB_of g q2) hm r o1) fun σ H Q wq => ?_
              obtain ⟨K, al, s, h, eK, rh, re, z⟩ := wq
              exact Pt.here (v := v) z rh (rv K al H eK)
            · cases h
          · cases h
    | BinOp a op b pos =>
      refine plain ?_ (by intros; simp) (by intros; simp) (by intros; simp)
      simp only [cE, Option.bind_eq_some_iff, Option.map_eq_some_iff] at h
      obtain ⟨a', ha, b', hb, o, ho, ex⟩ := h
      subst ex
      have eo : op = pyB o := by cases op <;> simp only [cB, Option.some.injEq, reduceCtorEq] at ho <;> subst ho <;> rfl
      subst eo
      exact PE.imp (pe_op (or_bin o (c.isMu pos)) (ih c a a' X ha g).1 (ih c b b' X hb g).1) fun σ H Q w => imp_two w
    | UnaryOp op a pos =>
      simp only [cE] at h
      split at h
      · cases h
      · rename_i q0
        rw [Option.bind_eq_some_iff] at h
        obtain ⟨a', ha, h⟩ := h
        obtain ⟨h1, h2⟩ := ih c a a' X ha g
        cases op with
        | USub =>
          simp only [Option.some.injEq] at h
          subst h
          exact plain (PE.imp (pe_un un_negR h1) fun σ H Q w => imp_neg w) (by intros; simp) (by intros; simp) (by intros; simp)
        | Not =>
          simp only [Option.some.injEq] at h
          subst h
          exact ⟨PE.imp (pe_not h1) fun σ H Q w => imp_not w, fun _ => PT.imp (pt_not (h2 q0)) fun σ H Q w => imp_tnot w⟩
        | _ => cases h
    | BoolOp op es pos =>
      simp only [cE] at h
      split at h
      · cases h
      · rename_i q0
        obtain ⟨h1, h2⟩ := bool_ok ih g (pos := pos) h
        refine ⟨h1, fun _ => (h2 fun e m => ?_).pt⟩
        cases q : isIf e with
        | false => rfl
        | true =>
          have : es.any isIf = true := List.any_eq_true.mpr ⟨e, m, q⟩
          rw [q0] at this
          cases this
    | Compare a os bs pos =>
      simp only [cE] at h
      split at h
      · rename_i o b
        split at h
        · cases h
        · rename_i q0
          simp only [Option.bind_eq_some_iff, Option.map_eq_some_iff] at h
          obtain ⟨a', ha, b', hb, o', ho, ex⟩ := h
          subst ex
          have eo : o = pyC o' := by cases o <;> simp only [cC, Option.some.injEq, reduceCtorEq] at ho <;> subst ho <;> rfl
          subst eo
          refine ⟨PE.imp (pe_cmpR (or_cmp g.room o') (ih c a a' X ha g).1 (ih c b b' X hb g).1 q0) fun σ H Q w => imp_two_c w, fun _ => ?_⟩
          exact PT.imp (pt_cmpR (or_cmp g.room o') (ih c a a' X ha g).1 (ih c b b' X hb g).1 q0) fun σ H Q w => imp_two_c (imp_tbl (fun s h => cmp_sat s h) w)
      · rename_i o p b d
        split at h
        · cases h
        · rename_i q0
          simp only [Option.bind_eq_some_iff, Option.map_eq_some_iff] at h
          obtain ⟨a', ha, b', hb, d', hd, o', ho, p', hp, ex⟩ := h
          subst ex
          have eo : o = pyC o' := by cases o <;> simp only [cC, Option.some.injEq, reduceCtorEq] at ho <;> subst ho <;> rfl
          have ep : p = pyC p' := by cases p <;> simp only [cC, Option.some.injEq, reduceCtorEq] at hp <;> subst hp <;> rfl
          subst eo ep
          refine ⟨PE.imp (pe_chain (or_cmp g.room o') (or_cmp g.room p') (ih c a a' X ha g).1 (ih c b b' X hb g).1 (ih c d d' X hd g).1 q0) fun σ H Q w => imp_chn w, fun _ => ?_⟩
          exact PT.imp (pt_chain (or_cmp g.room o') (or_cmp g.room p') (ih c a a' X ha g).1 (ih c b b' X hb g).1 (ih c d d' X hd g).1 q0) fun σ H Q w => imp_chn (imp_tbl (fun s h => chn_sat s h) w)
      · cases h
    | IfExp t a b pos =>
      refine ⟨?_, fun z => by simp [isIf] at z⟩
      simp only [cE] at h
      split at h
      · cases h
      · rename_i q0
        simp only [Option.bind_eq_some_iff, Option.map_eq_some_iff] at h
        obtain ⟨t', ht, a', ha, b', hb, ex⟩ := h
        subst ex
        exact PE.imp (pe_ifExp ((ih c t t' X ht g).2 q0) (ih c a a' X ha g).1 (ih c b b' X hb g).1) fun σ H Q w => imp_ite w
    | Tuple es kk pos =>
      refine plain ?_ (by intros; simp) (by intros; simp) (by intros; simp)
      simp only [cE, Option.map_eq_some_iff] at h
      obtain ⟨xs, hx, ex⟩ := h
      subst ex
      exact PE.imp (pe_tupD (pa_ok ih g hx)) fun σ H Q w => imp_tup w
    | List es pos =>
      refine plain ?_ (by intros; simp) (by intros; simp) (by intros; simp)
      simp only [cE, Option.map_eq_some_iff] at h
      obtain ⟨xs, hx, ex⟩ := h
      subst ex
      exact PE.imp (pe_lst (pa_ok ih g hx)) fun σ H Q w => imp_lst w
    | Subscript a i pos =>
      refine plain ?_ (by intros; simp) (by intros; simp) (by intros; simp)
      have sub : ((cE n c a).bind fun a' => (cE n c i).map fun i' => E.sub a' i') = some x → PE X (.Subscript a i pos) (tE X.K (ev cf x)) := fun h => by
        simp only [Option.bind_eq_some_iff, Option.map_eq_some_iff] at h
        obtain ⟨a', ha, i', hi, ex⟩ := h
        subst ex
        exact PE.imp (pe_ix (ix_ok (hu_of g.room)) (ih c a a' X ha g).1 (ih c i i' X hi g).1 (nosl hi)) fun σ H Q w => imp_sub w
      cases i with
      | Slice lo hi st p2 =>
        simp only [cE] at h
        split at h
        · cases h
        · rw [Option.bind_eq_some_iff] at h
          obtain ⟨a', ha, h⟩ := h
          have pa := (ih c a a' X ha g).1
          split at h
          · cases h
            exact PE.imp (pe_slice (sl_ok (c.isMu pos)) pa po_no po_no) fun σ H Q w => imp_slc w
          · rename_i l
            rw [Option.map_eq_some_iff] at h
            obtain ⟨l', hl, ex⟩ := h
            subst ex
            exact PE.imp (pe_slice (sl_ok (c.isMu pos)) pa (po_ok ih g hl) po_no) fun σ H Q w => imp_slc w
          · rename_i u
            rw [Option.map_eq_some_iff] at h
            obtain ⟨u', hu, ex⟩ := h
            subst ex
            exact PE.imp (pe_slice (sl_ok (c.isMu pos)) pa po_no (po_ok ih g hu)) fun σ H Q w => imp_slc w
          · rename_i l u
            rw [Option.bind_eq_some_iff] at h
            obtain ⟨l', hl, h⟩ := h
            rw [Option.map_eq_some_iff] at h
            obtain ⟨u', hu, ex⟩ := h
            subst ex
            exact PE.imp (pe_slice (sl_ok (c.isMu pos)) pa (po_ok ih g hl) (po_ok ih g hu)) fun σ H Q w => imp_slc w
      | _ => exact sub (by simpa only [cE] using h)
    | Call f es kws pos =>
      refine plain ?_ (by intros; simp) (by intros; simp) (by intros; simp)
      simp only [cE] at h
      split at h
      · split at h
        · exact call_ok ih g h
        · rename_i o nm ap
          split at h
          · cases h
          · rename_i q0
            rw [Bool.or_eq_false_iff, Bool.not_eq_false'] at q0
            split at h
            · rename_i q1
              have en := of_decide_eq_true q1
              subst en
              split at h
              · rename_i kx xx
                simp only [Option.bind_eq_some_iff, Option.map_eq_some_iff] at h
                obtain ⟨o', ho, k', hk', x', hx', ex⟩ := h
                subst ex
                have po := (ih c o o' X ho g).1
                have hat : attributeBase o "get" X.env (eval o X.env) = eval o X.env := by
                  have h0 := q0.1
                  cases o <;> first | rfl | (simp [isCallE] at h0)
                have tr : backTo pos (starEach [kx, xx] X.env) = [(false, eval kx X.env), (false, eval xx X.env)] := by
                  rw [st_cons hk', st_cons hx']
                  rfl
                refine PE.imp (pe_dget2 (hu_of g.room) po (ih c kx k' X hk' g).1 (ih c xx x' X hx' g).1 ⟨hat, ?_, q0.2, tr⟩) fun σ H Q w => imp_dget w
                rw [tr]
                rfl
              · cases h
            · simp only [Option.bind_eq_some_iff, Option.map_eq_some_iff] at h
              obtain ⟨o', ho, xs, hx, b, hb, ex⟩ := h
              subst ex
              exact meth_ok ih g q0.1 q0.2 ho hx hb
        · cases h
      · cases h
    | ListComp e gs scope pos =>
      refine plain ?_ (by intros; simp) (by intros; simp) (by intros; simp)
      simp only [cE] at h
      split at h
      · cases h
      · rename_i q0
        split at h
        · rename_i tg it ifs as
          split at h
          · cases h
          · rename_i q1
            have ea : as = 0 := by simpa using q1
            subst ea
            simp only [Option.bind_eq_some_iff] at h
            obtain ⟨w, hw, tg', ht, cs, hc, e', he, h⟩ := h
            split at h
            · rename_i q2
              cases h
              have b : BlkOk X.N X.env.scope scope (ownOf c.N scope) := by
                rw [g.sc, g.N]
                exact blkOk_by q0
              have hsl := slots_of q2
              have lc : PE X (.ListComp e [⟨tg, it, ifs, 0⟩] scope pos) (tLc (tI X.K w.1 (evs cf w.2)) (tG X.K tg') (tT X.K (evt cf cs)) (tE X.K (ev cf e')) ((ownOf c.N scope).map (·.2))) := by
                refine pe_lc g.hc g.nd (cI_ok ih g hw) b (fun s H C cl fp => ?_) (fun s H C cl fp => ?_) (fun s H C cl fp => ?_) (cI_set hw X.env)
                · exact tg_ok (c.inn scope) _ (g.blk q0 (own := ownOf c.N scope) s H C cl fp) n tg tg' ht
                · exact ifs_ok ih (g.blk q0 (own := ownOf c.N scope) s H C cl fp) hc
                · exact (ih (c.inn scope) e e' _ he (g.blk q0 (own := ownOf c.N scope) s H C cl fp)).1
              exact PE.imp (PE.orr lc (pe_lock lc)) fun σ H Q w => imp_lcA hsl w
            · cases h
        · cases h
    | Dict ks vs pos =>
      refine plain ?_ (by intros; simp) (by intros; simp) (by intros; simp)
      simp only [cE] at h
      split at h
      · cases h
        cases c.isMu pos with
        | false => exact PE.imp pe_dnewK fun σ H Q w => imp_dnewK w
        | true => exact PE.imp pe_dnewT fun σ H Q w => imp_dnewT w
      · rename_i nn
        split at h
        · rename_i h15
          obtain ⟨es, h1, h2⟩ := Option.map_eq_some_iff.mp h
          subst h2
          obtain ⟨d1, d2, d3, d4⟩ := dsp_ok ih g (pos := pos) h1
          exact PE.imp (pe_disp d1 d2 d3 (fun z => nn z (by
            subst z
            cases vs with
            | nil => rfl
            | cons v vs => simp at d3)) (Nat.le_of_ble_eq_true h15)) fun σ H Q w => imp_disp d4 w
        · cases h
    | DictComp kx vx gs scope pos =>
      refine plain ?_ (by intros; simp) (by intros; simp) (by intros; simp)
      simp only [cE] at h
      split at h
      · cases h
      · rename_i q0
        split at h
        · rename_i tg it ifs as
          split at h
          · cases h
          · rename_i q1
            have ea : as = 0 := by simpa using q1
            subst ea
            simp only [Option.bind_eq_some_iff] at h
            obtain ⟨w, hw, tg', ht, cs, hc, ke, hke, ve, hve, h⟩ := h
            split at h
            · rename_i q2
              cases h
              have b : BlkOk X.N X.env.scope scope (ownOf c.N scope) := by
                rw [g.sc, g.N]
                exact blkOk_by q0
              have hsl := slots_of q2
              refine PE.imp (pe_dc g.hc g.nd (cI_ok ih g hw) b (fun s H C cl fp => ?_) (fun s H C cl fp => ?_) (fun s H C cl fp => ?_) (fun s H C cl fp => ?_) (cI_set hw X.env)) fun σ H Q w => imp_dcA hsl w
              · exact tg_ok (c.inn scope) _ (g.blk q0 (own := ownOf c.N scope) s H C cl fp) n tg tg' ht
              · exact ifs_ok ih (g.blk q0 (own := ownOf c.N scope) s H C cl fp) hc
              · exact (ih (c.inn scope) kx ke _ hke (g.blk q0 (own := ownOf c.N scope) s H C cl fp)).1
              · exact (ih (c.inn scope) vx ve _ hve (g.blk q0 (own := ownOf c.N scope) s H C cl fp)).1
            · cases h
        · cases h
    | _ => simp [cE] at h
end
end Eng
/-! Statements. -/
namespace Eng
open PySem L2
section
variable {cf : Nat → List Val → Hs → T (Val × Hs)} {k : Nat} {fu : Nat}
open PyProof PyProof.Rows in
theorem get_ok {X : Cx} (hu : X.A.units + 1 < cLine) : PGet X (rGet X.K) := by
  intro pins s σ H x y v u Q I r1 r2 hq
  obtain ⟨K, al, h, a, b, z, eK, rh, ra, rb, e, q⟩ := hq
  unfold subV at e
  split at e
  · rename_i t ks vs ed
    split at e
    · rename_i kk ek
      obtain ⟨c, o, e1, g, m⟩ := dic_get rh ed ra ek rb
      subst e1
      rw [e] at m
      obtain ⟨w, eo, rw'⟩ := m
      subst eo
      obtain rfl : v = Value.ref c := r1
      exact d_getItem hu I g r2 fun w' s3 I3 rw2 => ⟨w, H, I3, rw2, q w rw'⟩
    · cases e
  · split at e
    · rename_i kk
      have ey := rb.int_of
      subst ey
      split at e
      · rename_i xs q1
        split at e
        · rename_i j q2
          obtain ⟨c, us, e1, sq, rs⟩ := items_of rh q1 ra
          subst e1
          obtain ⟨w, hw, rw'⟩ := rs.get e
          have hat : atI us kk = some w := by
            unfold atI
            rw [← ixI_eq, ← rs.length, q2]
            exact hw
          cases r1
          obtain ⟨t, rfl⟩ := r2
          obtain ⟨j, h1, h2, h3, h4, h5⟩ := atI_get hat
          have hn := line63
          rcases sq with sq | sq
          · obtain ⟨its, r, pl, hz⟩ := I.list (eK ▸ sq)
            obtain ⟨w', ew, rw''⟩ := r.get h2
            have hl := r.length
            have fin : EP X pins σ Q w' s := ⟨w, H, I, rw'', q w rw'⟩
            by_cases h0 : 0 ≤ kk
            · have hj : kk.toNat = j := by
                rw [seqIndex_of h0 h5] at h1
                exact Option.some.inj h1
              exact wpAny_getItem_list pl.isList h0 (by omega) (by rw [hj]; simpa using ew) fin
            · have hj : (kk + (its.toArray.size : Int)).toNat = j := by
                rw [seqIndex_neg (by omega) h4] at h1
                rw [List.size_toArray, ← hl]
                exact Option.some.inj h1
              exact wpAny_getItem_list_neg pl.isList (by omega) (by rw [List.size_toArray] <;> omega) (by omega) (by rw [hj]; simpa using ew) fin
          · obtain ⟨its, r, pl, hz⟩ := I.tuple (eK ▸ sq)
            obtain ⟨w', ew, rw''⟩ := r.get h2
            have hl := r.length
            exact getItem_tuple (j := j) pl (by omega) (by omega) (by rw [List.size_toArray, ← hl]; exact h1) (by simpa using ew) ⟨w, H, I, rw'', q w rw'⟩
        · cases e
      · cases e
    · cases e
/-! ### targets -/
theorem at_cons {n : Nat} {c : Ct} {e : Expr} {t : At} {es : List Expr} {env : PySem.Env} (h : cAt n c e = some t) : assignEach (e :: es) env = (false, assign e env) :: assignEach es env := by
  cases n with
  | zero => simp [cAt] at h
  | succ n => cases e <;> first | rfl | (simp [cAt] at h)
theorem ats_len {n : Nat} {c : Ct} {env : PySem.Env} : ∀ {es : List Expr} {ts : List At}, optAll (cAt n c) es = some ts → (assignEach es env).length = ts.length ∧ (assignEach es env).findIdx? (·.1) = none
  | [], ts, h => by cases h; exact ⟨rfl, rfl⟩
  | e :: es, ts, h => by
    obtain ⟨y, r, e1, e2, e3⟩ := opt_cons h
    subst e1
    obtain ⟨h1, h2⟩ := ats_len (env := env) e3
    rw [at_cons e2]
    exact ⟨by simp [h1], by simp [List.findIdx?_cons, h2]⟩
theorem imp_ats_nil {F : PySem.W.Frag} {σ : St} {H : Hp} {v : List V} {Q : St → Hp → Prop} (w : tAts F (asgs cf []) v σ H Q) : gNil v σ H Q := by
  obtain ⟨K, al, s, h, x, rfl, rh, re, rx, p⟩ := w
  cases x with
  | nil =>
    simp only [asgs] at p
    exact ⟨rx, p al H σ Ext.refl rh re⟩
  | cons y ys =>
    simp only [asgs] at p
    exact p.elim
theorem imp_ats_cons {F : PySem.W.Frag} {σ : St} {H : Hp} {t : At} {ts : List At} {v : List V} {Q : St → Hp → Prop} (w : tAts F (asgs cf (t :: ts)) v σ H Q) : gCons (tAt F (asg cf t)) (tAts F (asgs cf ts)) v σ H Q := by
  obtain ⟨K, al, s, h, x, rfl, rh, re, rx, p⟩ := w
  cases x with
  | nil =>
    simp only [asgs] at p
    exact p.elim
  | cons y ys =>
    simp only [asgs] at p
    obtain ⟨u, r, e, r1, r2⟩ := rx
    refine ⟨u, r, e, K, al, s, h, y, rfl, rh, re, r1, T.all_mono (fun q z al1 H1 σ1 e1 rh1 re1 => ?_) (T.all_bind.mp p)⟩
    exact ⟨K, al1, q.1, q.2, ys, rfl, rh1, re1, r2.mono e1.toKp, T.all_mono (fun q2 z2 al2 H2 σ2 e2 rh2 re2 => z2 al2 H2 σ2 (e1.trans e2) rh2 re2) z⟩
theorem at_ok (c : Ct) (X : Cx) (g : Gd cf k c X) : ∀ (n : Nat) (e : Expr) (t : At), cAt n c e = some t → PG X e (tAt X.K (asg cf t))
  | 0, e, t, h => by simp [cAt] at h
  | n + 1, e, t, h => by
    cases e with
    | Name x pos =>
      simp only [cAt, Option.map_eq_some_iff] at h
      obtain ⟨i, hi, et⟩ := h
      subst et
      obtain ⟨h1, h2, h3⟩ := cSt_of g hi
      exact PG.imp (pg_name g.nd h1 h2 h3) fun v σ H Q w => imp_at_nm w
    | Tuple es kk pos =>
      simp only [cAt, Option.map_eq_some_iff] at h
      obtain ⟨ts, hts, et⟩ := h
      subst et
      obtain ⟨l1, l2⟩ := ats_len (env := X.env) hts
      have all : ∀ {es : List Expr} {ts : List At}, optAll (cAt n c) es = some ts → PGs X es (tAts X.K (asgs cf ts)) := by
        intro es
        induction es with
        | nil =>
          intro ts h
          cases h
          exact PGs.imp pgs_nil fun v σ H Q w => imp_ats_nil w
        | cons e es ihe =>
          intro ts h
          obtain ⟨y, r, e1, e2, e3⟩ := opt_cons h
          subst e1
          exact PGs.imp (pgs_cons (at_ok c X g n e y e2) (ihe e3) (by rw [at_cons e2]; rfl)) fun v σ H Q w => imp_ats_cons w
      exact PG.imp (pg_tup g.hc (all hts) l1 l2) fun v σ H Q w => imp_at_tp w
    | Subscript o i pos =>
      simp only [cAt] at h
      split at h
      · cases h
      · rename_i q
        simp only [Option.bind_eq_some_iff, Option.map_eq_some_iff] at h
        obtain ⟨o', ho, i', hi, et⟩ := h
        subst et
        exact PG.imp (pg_sub (cE_ok n c o o' X ho g).1 (cE_ok n c i i' X hi g).1 (set_ok (hu_of g.room)) (by cases i <;> first | (intro v; rfl) | (simp [isSl] at q))) fun v σ H Q w => imp_sb w
    | _ => simp [cAt] at h
/-! ### blocks -/
theorem imp_pass {F : PySem.W.Frag} {σ : St} {H : Hp} {D : Ends} (w : tS F (ex cf fu .pass) D σ H) : tNext D σ H := by
  obtain ⟨K, al, s, h, rfl, rh, re, p⟩ := w
  exact p al H σ Ext.refl rh re
theorem imp_brk {F : PySem.W.Frag} {σ : St} {H : Hp} {D : Ends} (w : tS F (ex cf fu .brk) D σ H) : tBreak D σ H := by
  obtain ⟨K, al, s, h, rfl, rh, re, p⟩ := w
  exact p al H σ Ext.refl rh re
theorem imp_cnt {F : PySem.W.Frag} {σ : St} {H : Hp} {D : Ends} (w : tS F (ex cf fu .cnt) D σ H) : tCont D σ H := by
  obtain ⟨K, al, s, h, rfl, rh, re, p⟩ := w
  exact p al H σ Ext.refl rh re
theorem imp_nil {F : PySem.W.Frag} {σ : St} {H : Hp} {D : Ends} (w : tS F (exs cf fu []) D σ H) : tNext D σ H := by
  obtain ⟨K, al, s, h, rfl, rh, re, p⟩ := w
  exact p al H σ Ext.refl rh re
theorem imp_retN {F : PySem.W.Frag} {σ : St} {H : Hp} {D : Ends} (w : tS F (ex cf fu (.ret (.c .non))) D σ H) : tRetN D σ H := by
  obtain ⟨K, al, s, h, rfl, rh, re, p⟩ := w
  exact p al H σ Ext.refl rh re .non .non
theorem imp_nev {F : PySem.W.Frag} {σ : St} {H : Hp} {D : Ends} (w : tS F (ex cf fu .never) D σ H) : tNever D σ H := by
  obtain ⟨K, al, s, h, rfl, rh, re, p⟩ := w
  exact p.elim
def IS (cf : Nat → List Val → Hs → T (Val × Hs)) (k fu n : Nat) : Prop := ∀ (c : Ct) (st : Stmt) (x : S) (X : Cx), cS n c st = some x → Gd cf k c X → PS X st (tS X.K (ex cf fu x))
theorem pss_ok {n : Nat} (ih : IS cf k fu n) {c : Ct} {X : Cx} (g : Gd cf k c X) : ∀ {es : List Stmt} {xs : List S}, optAll (cS n c) es = some xs → PSs X es (tS X.K (exs cf fu xs))
  | [], xs, h => by
    cases h
    exact PSs.imp pss_nil fun D σ H w => imp_nil w
  | e :: es, xs, h => by
    obtain ⟨y, r, e1, e2, e3⟩ := opt_cons h
    subst e1
    exact PSs.imp (pss_cons (ih c e y X e2 g) (pss_ok ih g e3)) fun D σ H w => imp_seq w
theorem imp_forA {F : PySem.W.Frag} {σ : St} {H : Hp} {tg : Tg} {sk : Sk} {es : List E} {b : List S} {D : Ends} (w : tS F (ex cf fu (.for_ tg sk es b)) D σ H) :
    tFor (tI F sk (evs cf es)) (tG F tg) (tS F (exs cf fu b)) D σ H ∨ tLock (tFor (tI F sk (evs cf es)) (tG F tg) (tS F (exs cf fu b))) D σ H := by
  obtain ⟨K, al, s, h, rfl, rh, re, p⟩ := w
  simp only [ex] at p
  cases hv : isVar es with
  | true =>
    obtain ⟨i, ei⟩ := isVar_of hv
    subst ei
    rw [T.all_bind] at p
    obtain ⟨v, hsl, p, hev⟩ := evs_v p
    simp only at p
    split at p
    · rename_i xs q
      left
      refine imp_for ⟨K, al, s, h, rfl, rh, re, ?_⟩
      rw [hev]
      exact ⟨xs, none, q, fun _ z => (by cases z), p⟩
    · rename_i xs l q
      obtain ⟨ys, e1, e2, e3⟩ := src_lk q
      simp only [List.cons.injEq, and_true] at e1
      subst e1
      exact imp_forL rfl rh re hev hsl e2 e3 p
    · exact p.elim
  | false =>
    left
    refine imp_for ⟨K, al, s, h, rfl, rh, re, T.all_mono (fun q z => ?_) (T.all_bind.mp p)⟩
    split at z
    · rename_i xs e1
      exact ⟨xs, none, e1, fun _ z => (by cases z), z⟩
    · rw [hv] at z
      exact z.elim
    · exact z.elim
theorem blk_of {c : Ct} {X : Cx} (g : Gd cf k c X) : X.env.blockKind = .function := by
  unfold PySem.Env.blockKind
  rw [g.sc, g.kind]
  rfl
theorem sw_stores {c : Ct} {X : Cx} (g : Gd cf k c X) {ts vs : List Expr} {kt kv : Nat} {pt pv : Pos} {r : Option (List Str)} (h : swN c.sc ts vs = some r) : swappedStores [.Tuple ts kt pt] (.Tuple vs kv pv) X.env = pure r := by
  have hb := blk_of g
  have hk : ∀ id, X.env.kindOf id = c.sc.names.lookup id := fun id => by rw [← g.sc]; rfl
  have hf : (X.env.blockKind != ScopeKind.function) = false := by rw [hb]; rfl
  unfold swN at h
  unfold swappedStores
  simp only [hf, hk, Bool.or_false]
  split at h
  · rename_i c1
    cases h
    exact (if_pos c1).trans rfl
  · rename_i c1
    refine (if_neg c1).trans ?_
    split at h
    · rename_i c2
      cases h
      exact (if_pos c2).trans rfl
    · rename_i c2
      refine (if_neg c2).trans ?_
      simp only at h
      split at h
      · rename_i c3
        cases h
        exact (if_pos c3).trans rfl
      · rename_i c3
        refine (if_neg c3).trans ?_
        split at h
        · rename_i c4
          cases h
          exact (if_pos c4).trans rfl
        · rename_i c4
          refine (if_neg c4).trans ?_
          split at h
          · cases h
          · rename_i c5
            cases h
            exact (if_neg c5).trans rfl
end
end Eng
/-! Statements, on. -/
namespace Eng
open PySem L2
section
variable {cf : Nat → List Val → Hs → T (Val × Hs)} {k : Nat} {fu : Nat}
theorem lc_parts {n : Nat} {c : Ct} {X : Cx} (g : Gd cf k c X) {e : Expr} {gs : List Comprehension} {scope : Scope} {pos : Pos} {x : E} (h : cE (n + 1) c (.ListComp e gs scope pos) = some x) :
    ∃ (tg it : Expr) (ifs : List Expr) (w : Sk × List E) (tg' : Tg) (cs : List E) (e' : E), gs = [⟨tg, it, ifs, 0⟩] ∧ x = .lc (c.isMu pos) ((ownOf c.N scope).map (·.2)) tg' w.1 w.2 cs e' ∧ (∀ j ∈ slots tg', j ∈ (ownOf c.N scope).map (·.2)) ∧
      PI X tg it (tI X.K w.1 (evs cf w.2)) ∧ BlkOk X.N X.env.scope scope (ownOf c.N scope) ∧
      (∀ (s : Shared) (H : Hp) (C : Addr) (cl : List (Str × Addr)) (fp : List Addr), PG (X.blk s H scope (compEnvC scope cl C X.env) fp) tg (tG X.K tg')) ∧
      (∀ (s : Shared) (H : Hp) (C : Addr) (cl : List (Str × Addr)) (fp : List Addr), PTs (X.blk s H scope (compEnvC scope cl C X.env) fp) ifs (tT X.K (evt cf cs))) ∧
      (∀ (s : Shared) (H : Hp) (C : Addr) (cl : List (Str × Addr)) (fp : List Addr), PE (X.blk s H scope (compEnvC scope cl C X.env) fp) e (tE X.K (ev cf e'))) ∧
      (∀ v, foldedSetIterable it X.env v = pure v) := by
  have ih : IH cf k n := cE_ok n
  simp only [cE] at h
  split at h
  · cases h
  · rename_i q0
    split at h
    · rename_i tg it ifs as
      split at h
      · cases h
      · rename_i q1
        have ea : as = 0 := by simpa using q1
        subst ea
        simp only [Option.bind_eq_some_iff] at h
        obtain ⟨w, hw, tg', ht, cs, hc, e', he, h⟩ := h
        split at h
        · rename_i q2
          cases h
          have b : BlkOk X.N X.env.scope scope (ownOf c.N scope) := by
            rw [g.sc, g.N]
            exact blkOk_by q0
          refine ⟨tg, it, ifs, w, tg', cs, e', rfl, rfl, slots_of q2, cI_ok ih g hw, b, fun s H C cl fp => ?_, fun s H C cl fp => ?_, fun s H C cl fp => ?_, cI_set hw X.env⟩
          · exact tg_ok (c.inn scope) _ (g.blk q0 (own := ownOf c.N scope) s H C cl fp) n tg tg' ht
          · exact ifs_ok ih (g.blk q0 (own := ownOf c.N scope) s H C cl fp) hc
          · exact (ih (c.inn scope) e e' _ he (g.blk q0 (own := ownOf c.N scope) s H C cl fp)).1
        · cases h
    · cases h
theorem dc_parts {n : Nat} {c : Ct} {X : Cx} (g : Gd cf k c X) {kx vx : Expr} {gs : List Comprehension} {scope : Scope} {pos : Pos} {x : E} (h : cE (n + 1) c (.DictComp kx vx gs scope pos) = some x) :
    ∃ (tg it : Expr) (ifs : List Expr) (w : Sk × List E) (tg' : Tg) (cs : List E) (ke ve : E), gs = [⟨tg, it, ifs, 0⟩] ∧ x = .dc ((ownOf c.N scope).map (·.2)) tg' w.1 w.2 cs ke ve ∧ (∀ j ∈ slots tg', j ∈ (ownOf c.N scope).map (·.2)) ∧
      PI X tg it (tI X.K w.1 (evs cf w.2)) ∧ BlkOk X.N X.env.scope scope (ownOf c.N scope) ∧
      (∀ (s : Shared) (H : Hp) (C : Addr) (cl : List (Str × Addr)) (fp : List Addr), PG (X.blk s H scope (compEnvC scope cl C X.env) fp) tg (tG X.K tg')) ∧
      (∀ (s : Shared) (H : Hp) (C : Addr) (cl : List (Str × Addr)) (fp : List Addr), PTs (X.blk s H scope (compEnvC scope cl C X.env) fp) ifs (tT X.K (evt cf cs))) ∧
      (∀ (s : Shared) (H : Hp) (C : Addr) (cl : List (Str × Addr)) (fp : List Addr), PE (X.blk s H scope (compEnvC scope cl C X.env) fp) kx (tE X.K (ev cf ke))) ∧
      (∀ (s : Shared) (H : Hp) (C : Addr) (cl : List (Str × Addr)) (fp : List Addr), PE (X.blk s H scope (compEnvC scope cl C X.env) fp) vx (tE X.K (ev cf ve))) ∧
      (∀ v, foldedSetIterable it X.env v = pure v) := by
  have ih : IH cf k n := cE_ok n
  simp only [cE] at h
  split at h
  · cases h
  · rename_i q0
    split at h
    · rename_i tg it ifs as
      split at h
      · cases h
      · rename_i q1
        have ea : as = 0 := by simpa using q1
        subst ea
        simp only [Option.bind_eq_some_iff] at h
        obtain ⟨w, hw, tg', ht, cs, hc, ke, hke, ve, hve, h⟩ := h
        split at h
        · rename_i q2
          cases h
          have b : BlkOk X.N X.env.scope scope (ownOf c.N scope) := by
            rw [g.sc, g.N]
            exact blkOk_by q0
          refine ⟨tg, it, ifs, w, tg', cs, ke, ve, rfl, rfl, slots_of q2, cI_ok ih g hw, b, fun s H C cl fp => ?_, fun s H C cl fp => ?_, fun s H C cl fp => ?_, fun s H C cl fp => ?_, cI_set hw X.env⟩
          · exact tg_ok (c.inn scope) _ (g.blk q0 (own := ownOf c.N scope) s H C cl fp) n tg tg' ht
          · exact ifs_ok ih (g.blk q0 (own := ownOf c.N scope) s H C cl fp) hc
          · exact (ih (c.inn scope) kx ke _ hke (g.blk q0 (own := ownOf c.N scope) s H C cl fp)).1
          · exact (ih (c.inn scope) vx ve _ hve (g.blk q0 (own := ownOf c.N scope) s H C cl fp)).1
        · cases h
    · cases h
theorem tE.post {F : PySem.W.Frag} {c : Env → Hs → T (Val × Hs)} {σ : L2.St} {H : Hp} {Q Q' : V → Hp → Prop} (i : ∀ v H, Q v H → Q' v H) (w : tE F c σ H Q) : tE F c σ H Q' := by
  obtain ⟨K, al, s, h, eK, rh, re, p⟩ := w
  exact ⟨K, al, s, h, eK, rh, re, T.all_mono (fun q z al1 H1 x e1 rh1 rx => i _ _ (z al1 H1 x e1 rh1 rx)) p⟩
/-- name = e -/
theorem set_name {n : Nat} {c : Ct} {X : Cx} (g : Gd cf k c X) {x : Str} {px pos : Pos} {i : Nat} {e : Expr} {e' : E} (hi : cSt c x = some i) (he : cE n c e = some e') : PS X (.Assign [.Name x px] e pos) (tS X.K (ex cf fu (.asg (.nm i) e'))) := by
  obtain ⟨h1, h2, h3⟩ := cSt_of g hi
  have conv : ∀ D σ H, tS X.K (ex cf fu (.asg (.nm i) e')) D σ H → tAsg (tE X.K (ev cf e')) (gName i) D σ H := fun D σ H w =>
    tE.post (fun v H1 z => imp_at_nm z) (imp_asg w)
  have plain : swapsWith e (some (.Name x px)) pos.line X.env = pure false → PS X (.Assign [.Name x px] e pos) (tS X.K (ex cf fu (.asg (.nm i) e'))) := fun hs =>
    PS.imp (ps_set g.nd h1 h2 (cE_ok n c e e' X he g).1 hs h3) conv
  cases e with
  | ListComp el gs scope p =>
    cases n with
    | zero => simp [cE] at he
    | succ n =>
      cases hB : (X.env.blockKind == .function && X.env.kindOf x == some .local && px.line == p.line && !(scope.names.any fun (n, k) => n == x && (k == .local || k == .cell))) with
      | false =>
        refine plain ?_
        show pure (X.env.blockKind == .function && X.env.kindOf x == some .local && px.line == p.line && !(scope.names.any fun (n, k) => n == x && (k == .local || k == .cell))) = pure false
        rw [hB]
      | true =>
        obtain ⟨tg, it, ifs, w, tg', cs, el', rfl, rfl, hsl, hI, hb, hg, ht, hel, hset⟩ := lc_parts g he
        have hsw : swapsWith (.ListComp el [⟨tg, it, ifs, 0⟩] scope p) (some (.Name x px)) pos.line X.env = pure true := by
          show pure (X.env.blockKind == .function && X.env.kindOf x == some .local && px.line == p.line && !(scope.names.any fun (n, k) => n == x && (k == .local || k == .cell))) = pure true
          rw [hB]
        have hl : X.env.scope.names.lookup x = some .local := by
          simp only [Bool.and_eq_true] at hB
          exact eq_of_beq hB.1.1.2
        have s1 := ps_setLc g.hc g.nd h1 hl hsw hI hb hg ht hel hset
        exact PS.imp (PS.orr s1 (ps_lock s1)) fun D σ H w => imp_lcA hsl (conv D σ H w)
  | SetComp a b d f => cases n <;> simp [cE] at he
  | DictComp kx vx gs scope p =>
    cases n with
    | zero => simp [cE] at he
    | succ n =>
      cases hB : (X.env.blockKind == .function && X.env.kindOf x == some .local && px.line == p.line && !(scope.names.any fun (n, k) => n == x && (k == .local || k == .cell))) with
      | false =>
        refine plain ?_
        show pure (X.env.blockKind == .function && X.env.kindOf x == some .local && px.line == p.line && !(scope.names.any fun (n, k) => n == x && (k == .local || k == .cell))) = pure false
        rw [hB]
      | true =>
        obtain ⟨tg, it, ifs, w, tg', cs, ke, ve, rfl, rfl, hsl, hI, hb, hg, ht, hk, hv, hset⟩ := dc_parts g he
        have hsw : swapsWith (.DictComp kx vx [⟨tg, it, ifs, 0⟩] scope p) (some (.Name x px)) pos.line X.env = pure true := by
          show pure (X.env.blockKind == .function && X.env.kindOf x == some .local && px.line == p.line && !(scope.names.any fun (n, k) => n == x && (k == .local || k == .cell))) = pure true
          rw [hB]
        have hl : X.env.scope.names.lookup x = some .local := by
          simp only [Bool.and_eq_true] at hB
          exact eq_of_beq hB.1.1.2
        exact PS.imp (ps_setDc g.hc g.nd h1 hl hsw hI hb hg ht hk hv hset) fun D σ H w => imp_dcA hsl (conv D σ H w)
  | _ => exact plain rfl

/-! ### a, b = x, y -/
theorem nms_of : ∀ {es : List Expr} {xs : List Str}, nmsOf es = some xs → es.length = xs.length ∧ ∀ (i : Nat) x, xs[i]? = some x → ∃ p, es[i]? = some (.Name x p)
  | [], xs, h => by
    cases h
    exact ⟨rfl, fun i x e => by simp at e⟩
  | e :: es, xs, h => by
    unfold nmsOf at h
    split at h
    · rename_i y p
      rw [Option.map_eq_some_iff] at h
      obtain ⟨r, hr, ex⟩ := h
      subst ex
      obtain ⟨h1, h2⟩ := nms_of hr
      refine ⟨by simp [h1], fun i x e => ?_⟩
      cases i with
      | zero =>
        simp only [List.getElem?_cons_zero, Option.some.injEq] at e
        subst e
        exact ⟨p, rfl⟩
      | succ i =>
        simp only [List.getElem?_cons_succ] at e ⊢
        exact h2 i x e
    · cases h
theorem loc_of {c : Ct} {X : Cx} (g : Gd cf k c X) {x : Str} (h : (c.sc.names.lookup x == some .local) = true) : X.env.scope.names.lookup x = some .local := by
  rw [g.sc]
  exact eq_of_beq h
theorem sw_len {sc : Scope} {ts vs : List Expr} {xs : List Str} (h : swN sc ts vs = some (some xs)) : (ts.length = 2 ∨ ts.length = 3) ∧ vs.length = ts.length := by
  unfold swN at h
  split at h
  · cases h
  · rename_i q
    simp only [Bool.or_eq_true, Bool.not_eq_true', Bool.or_eq_false_iff, beq_eq_false_iff_ne, bne_iff_ne] at q
    constructor
    · by_cases h2 : ts.length = 2
      · exact .inl h2
      · by_cases h3 : ts.length = 3
        · exact .inr h3
        · exact absurd (.inl ⟨h2, h3⟩) q
    · exact Classical.byContradiction fun hn => q (.inr hn)
theorem imp_par {F : PySem.W.Frag} {σ : L2.St} {H : Hp} {D : Ends} {i j : Nat} {a b : E} (w : tS F (ex cf fu (.asg (.tp [.nm i, .nm j]) (.tup [a, b]))) D σ H) : tPar i j (tA F (evs cf [a, b])) D σ H := by
  obtain ⟨K, al, s, h, rfl, rh, re, p⟩ := w
  simp only [ex] at p
  rw [T.all_bind] at p
  simp only [ev] at p
  rw [T.all_bind] at p
  refine tA.seq rh re (T.all_mono (fun q z al1 H1 us e1 rh1 re1 rx => ?_) p)
  obtain ⟨vs, h1⟩ := q
  match vs, z, rx with
  | [v1, v2], z, rx =>
    obtain ⟨u1, r, e2, r1, rx⟩ := rx
    obtain ⟨u2, r', e3, r2, rx⟩ := rx
    cases rx
    subst e3 e2
    exact ⟨u1, u2, rfl, z al1 H1 _ e1 rh1 ((re1.set r1).set r2)⟩
  | [], z, rx => exact z.elim
  | [_], z, rx => exact z.elim
  | _ :: _ :: _ :: _, z, rx =>
    split at z
    · exact z.elim
    · exact z.elim
theorem imp_par3 {F : PySem.W.Frag} {σ : L2.St} {H : Hp} {D : Ends} {i j l : Nat} {a b c : E} (w : tS F (ex cf fu (.asg (.tp [.nm i, .nm j, .nm l]) (.tup [a, b, c]))) D σ H) : tPar3 i j l (tA F (evs cf [a, b, c])) D σ H := by
  obtain ⟨K, al, s, h, rfl, rh, re, p⟩ := w
  simp only [ex] at p
  rw [T.all_bind] at p
  simp only [ev] at p
  rw [T.all_bind] at p
  refine tA.seq rh re (T.all_mono (fun q z al1 H1 us e1 rh1 re1 rx => ?_) p)
  obtain ⟨vs, h1⟩ := q
  match vs, z, rx with
  | [v1, v2, v3], z, rx =>
    obtain ⟨u1, r, e2, r1, rx⟩ := rx
    obtain ⟨u2, r', e3, r2, rx⟩ := rx
    obtain ⟨u3, r'', e4, r3, rx⟩ := rx
    cases rx
    subst e4 e3 e2
    exact ⟨u1, u2, u3, rfl, z al1 H1 _ e1 rh1 (((re1.set r1).set r2).set r3)⟩
  | [], z, rx => exact z.elim
  | [_], z, rx => exact z.elim
  | [_, _], z, rx => exact z.elim
  | _ :: _ :: _ :: _ :: _, z, rx =>
    split at z
    · exact z.elim
    · exact z.elim
theorem dist_of : ∀ {xs : List Nat}, distinct xs = true → xs.Nodup
  | [], _ => List.nodup_nil
  | x :: xs, h => by
    unfold distinct at h
    rw [Bool.and_eq_true, Bool.not_eq_true'] at h
    refine List.nodup_cons.mpr ⟨fun m => ?_, dist_of h.2⟩
    have := h.1
    rw [List.contains_iff_mem.mpr m] at this
    cases this
theorem par_ok {n : Nat} {c : Ct} {X : Cx} (g : Gd cf k c X) {ts vs : List Expr} {kt kv : Nat} {pt pv pos : Pos} {xs : List Str} {is : List Nat} {e' : E} (h : swN c.sc ts vs = some (some xs)) (hi : optAll (cSt c) xs = some is) (hn : nmsOf ts = some xs)
    (hl : (xs.all fun x => c.sc.names.lookup x == some .local) = true) (hd : distinct is = true) (he : cE n c (.Tuple vs kv pv) = some e') :
    PS X (.Assign [.Tuple ts kt pt] (.Tuple vs kv pv) pos) (tS X.K (ex cf fu (.asg (.tp (is.map .nm)) e'))) := by
  have hw := sw_stores (kt := kt) (kv := kv) (pt := pt) (pv := pv) g h
  obtain ⟨l1, l2⟩ := sw_len h
  obtain ⟨l3, hg⟩ := nms_of hn
  cases n with
  | zero => simp [cE] at he
  | succ n =>
    simp only [cE, Option.map_eq_some_iff] at he
    obtain ⟨es, hes, ee⟩ := he
    subst ee
    have pa := pa_ok (cE_ok n) g hes
    have nd := dist_of hd
    match ts, l1, l2, l3, hg, hw with
    | [t1, t2], _, l2, l3, hg, hw =>
      match vs, l2, hes, hw, pa with
      | [a, b], _, hes, hw, pa =>
        match xs, l3, hg, hi, hw, hl with
        | [x, y], _, hg, hi, hw, hl =>
          obtain ⟨p1, e1⟩ := hg 0 x rfl
          obtain ⟨p2, e2⟩ := hg 1 y rfl
          cases e1
          cases e2
          obtain ⟨i, r, ei, hi1, hi⟩ := opt_cons hi
          obtain ⟨j, r, ej, hj1, hi⟩ := opt_cons hi
          cases hi
          subst ej ei
          obtain ⟨a', r, ea, _, hes⟩ := opt_cons hes
          obtain ⟨b', r', eb, _, hes⟩ := opt_cons hes
          cases hes
          subst eb ea
          have n1 := (cSt_of g hi1).1
          have n2 := (cSt_of g hj1).1
          simp only [List.all_cons, List.all_nil, Bool.and_true, Bool.and_eq_true] at hl
          simp only [List.nodup_cons, List.mem_singleton] at nd
          exact PS.imp (ps_par g.hc g.nd n1 n2 nd.1 (loc_of g hl.1) (loc_of g hl.2) pa hw rfl) fun D σ H w => imp_par w
    | [t1, t2, t3], _, l2, l3, hg, hw =>
      match vs, l2, hes, hw, pa with
      | [a, b, d], _, hes, hw, pa =>
        match xs, l3, hg, hi, hw, hl with
        | [x, y, z], _, hg, hi, hw, hl =>
          obtain ⟨p1, e1⟩ := hg 0 x rfl
          obtain ⟨p2, e2⟩ := hg 1 y rfl
          obtain ⟨p3, e3⟩ := hg 2 z rfl
          cases e1
          cases e2
          cases e3
          obtain ⟨i, r, ei, hi1, hi⟩ := opt_cons hi
          obtain ⟨j, r, ej, hj1, hi⟩ := opt_cons hi
          obtain ⟨l, r, el, hl1, hi⟩ := opt_cons hi
          cases hi
          subst el ej ei
          obtain ⟨a', r, ea, _, hes⟩ := opt_cons hes
          obtain ⟨b', r', eb, _, hes⟩ := opt_cons hes
          obtain ⟨d', r'', ed, _, hes⟩ := opt_cons hes
          cases hes
          subst ed eb ea
          have n1 := (cSt_of g hi1).1
          have n2 := (cSt_of g hj1).1
          have n3 := (cSt_of g hl1).1
          simp only [List.all_cons, List.all_nil, Bool.and_true, Bool.and_eq_true] at hl
          simp only [List.nodup_cons, List.mem_cons, List.mem_singleton, not_or, List.not_mem_nil, not_false_eq_true, and_true] at nd
          exact PS.imp (ps_par3 g.hc g.nd n1 n2 n3 nd.1.1 nd.1.2 nd.2.1 (loc_of g hl.1) (loc_of g hl.2.1) (loc_of g hl.2.2) pa hw rfl) fun D σ H w => imp_par3 w
    | [], q, _, _, _, _ => simp at q
    | [_], q, _, _, _, _ => simp at q
    | _ :: _ :: _ :: _ :: _, q, _, _, _, _ => simp at q
end
end Eng
/-! Statements, the whole. -/
namespace Eng
open PySem L2
section
variable {cf : Nat → List Val → Hs → T (Val × Hs)} {k : Nat} {fu : Nat}
theorem asg_ok {n : Nat} {c : Ct} {X : Cx} (g : Gd cf k c X) {t e : Expr} {t' : At} {e' : E} {pos : Pos} (ht : cAt n c t = some t') (he : cE n c e = some e') (hs : swapsWithSole [t] e pos.line X.env = pure false) (hw : swappedStores [t] e X.env = pure none) :
    PS X (.Assign [t] e pos) (tS X.K (ex cf fu (.asg t' e'))) :=
  PS.imp (ps_asg (cE_ok n c e e' X he g).1 (at_ok c X g n t t' ht) hs hw (by rw [at_cons ht]; rfl)) fun D σ H w => imp_asg w
theorem comp_sw {e : Expr} {t : Option Expr} {l : Nat} {env : PySem.Env} (h : isComp e = false) : swapsWith e t l env = pure false := by
  cases e <;> first | rfl | (simp [isComp] at h)
theorem cS_ok : ∀ n, IS cf k fu n
  | 0 => fun c st x X h g => by simp [cS] at h
  | n + 1 => fun c st x X h g => by
    have ih : IS cf k fu n := cS_ok n
    have ihE : IH cf k n := cE_ok n
    cases st with
    | Expr e pos =>
      simp only [cS] at h
      split at h
      · cases h
        exact PS.imp ps_doc fun D σ H w => imp_pass w
      · split at h
        · cases h
        · rename_i q
          rw [Option.map_eq_some_iff] at h
          obtain ⟨e', he, ex⟩ := h
          subst ex
          exact PS.imp (ps_expr (ihE c e e' X he g).1 (comp_sw q)) fun D σ H w => imp_ex w
    | Return e pos =>
      cases e with
      | none =>
        simp only [cS, Option.some.injEq] at h
        subst h
        exact PS.imp ps_retN fun D σ H w => imp_retN w
      | some e =>
        simp only [cS, Option.map_eq_some_iff] at h
        obtain ⟨e', he, ex⟩ := h
        subst ex
        exact PS.imp (ps_ret (ihE c e e' X he g).1) fun D σ H w => imp_ret w
    | If t a b pos =>
      simp only [cS] at h
      split at h
      · cases h
      · rename_i q
        simp only [Option.bind_eq_some_iff, Option.map_eq_some_iff] at h
        obtain ⟨t', ht, a', ha, b', hb, ex⟩ := h
        subst ex
        exact PS.imp (ps_if ((ihE c t t' X ht g).2 q) (pss_ok ih g ha) (pss_ok ih g hb)) fun D σ H w => imp_ifs w
    | While t b o pos =>
      simp only [cS] at h
      split at h
      · cases h
      · rename_i q
        simp only [Option.bind_eq_some_iff, Option.map_eq_some_iff] at h
        obtain ⟨t', ht, b', hb, ex⟩ := h
        subst ex
        rw [Bool.or_eq_false_iff, Bool.not_eq_false'] at q
        have eo : o = [] := List.isEmpty_iff.mp q.2
        subst eo
        exact PS.imp (ps_while g.passes ((ihE c t t' X ht g).2 q.1) (pss_ok ih g hb)) fun D σ H w => imp_whl w
    | For tg it b o pos =>
      simp only [cS] at h
      split at h
      · cases h
      · rename_i q
        simp only [Option.bind_eq_some_iff, Option.map_eq_some_iff] at h
        obtain ⟨w, hw, tg', ht, b', hb, ex⟩ := h
        subst ex
        have eo : o = [] := List.isEmpty_iff.mp q
        subst eo
        have f := ps_for (pos := pos) g.passes g.hc (cI_ok ihE g hw) (tg_ok c X g n tg tg' ht) (pss_ok ih g hb) (cI_set hw X.env)
        exact PS.imp (PS.orr f (ps_lock f)) fun D σ H w => imp_forA w
    | Assign ts e pos =>
      simp only [cS] at h
      split at h
      · rename_i t
        split at h
        · rename_i ts' kt pt
          split at h
          · rename_i vs kv pv
            split at h
            · cases h
            · rename_i q
              simp only [Option.bind_eq_some_iff, Option.map_eq_some_iff] at h
              obtain ⟨e', he, t', ht, ex⟩ := h
              subst ex
              exact asg_ok g ht he rfl (sw_stores g q)
            · rename_i xs q
              split at h
              · rename_i is q1 q2 q3
                split at h
                · rename_i q4
                  rw [Option.map_eq_some_iff] at h
                  obtain ⟨e', he, ex⟩ := h
                  subst ex
                  exact par_ok g q q1 (of_decide_eq_true q2) q3 q4 he
                · cases h
              · cases h
          · rename_i hne
            split at h
            · cases h
            · rename_i q
              simp only [Option.bind_eq_some_iff, Option.map_eq_some_iff] at h
              obtain ⟨e', he, t', ht, ex⟩ := h
              subst ex
              exact asg_ok g ht he (by cases e <;> first | rfl | (simp [isComp] at q)) (by cases e <;> first | rfl | exact absurd rfl (hne _ _ _))
        · rename_i hne
          simp only [Option.bind_eq_some_iff, Option.map_eq_some_iff] at h
          obtain ⟨e', he, t', ht, ex⟩ := h
          subst ex
          cases n with
          | zero => simp [cAt] at ht
          | succ m =>
            cases t with
            | Name x px =>
              simp only [cAt, Option.map_eq_some_iff] at ht
              obtain ⟨i, hi, et⟩ := ht
              subst et
              exact set_name g hi he
            | Tuple a b c => exact absurd rfl (hne _ _ _)
            | Subscript o i p => exact asg_ok g ht he (by cases e <;> rfl) (by cases e <;> rfl)
            | _ => simp [cAt] at ht
      · cases h
    | AugAssign t op e pos =>
      simp only [cS] at h
      split at h
      · cases h
      · rename_i q
        split at h
        · rename_i x px
          simp only [Option.bind_eq_some_iff, Option.map_eq_some_iff] at h
          obtain ⟨e', he, i, hi, o, ho, ex⟩ := h
          subst ex
          obtain ⟨h1, h2, h3⟩ := cSt_of g hi
          have eo : pyB o = op := by cases op <;> simp only [cB, Option.some.injEq, reduceCtorEq] at ho <;> subst ho <;> rfl
          subst eo
          exact PS.imp (ps_aug g.nd h1 h2 (ihE c e e' X he g).1 (ip_ok o) h3) fun D σ H w => imp_aug w
        · rename_i o i p
          split at h
          · cases h
          · rename_i q2
            simp only [Option.bind_eq_some_iff, Option.map_eq_some_iff] at h
            obtain ⟨o', ho, i', hi, e', he, b, hb, ex⟩ := h
            subst ex
            have eo : pyB b = op := by cases op <;> simp only [cB, Option.some.injEq, reduceCtorEq] at hb <;> subst hb <;> rfl
            subst eo
            exact PS.imp (ps_augS (ihE c o o' X ho g).1 (ihE c i i' X hi g).1 (get_ok (hu_of g.room)) (ihE c e e' X he g).1 (ip_ok b) (set_ok (hu_of g.room)) (by cases i <;> first | (intros; rfl) | (simp [isSl] at q2))) fun D σ H w => imp_augS w
        · cases h
    | Raise a b p =>
      simp only [cS, Option.some.injEq] at h
      subst h
      exact PS.imp ps_never fun D σ H w => imp_nev w
    | Delete ts p =>
      simp only [cS] at h
      split at h
      · simp only [Option.bind_eq_some_iff, Option.map_eq_some_iff] at h
        obtain ⟨o', ho, i', hi, ex⟩ := h
        subst ex
        exact PS.imp (ps_ddel (ihE c _ o' X ho g).1 (ihE c _ i' X hi g).1) fun D σ H w => imp_del (by simpa only [ex] using w)
      · cases h
    | Pass p =>
      simp only [cS, Option.some.injEq] at h
      subst h
      exact PS.imp ps_pass fun D σ H w => imp_pass w
    | Break p =>
      simp only [cS, Option.some.injEq] at h
      subst h
      exact PS.imp ps_break fun D σ H w => imp_brk w
    | Continue p =>
      simp only [cS, Option.some.injEq] at h
      subst h
      exact PS.imp ps_continue fun D σ H w => imp_cnt w
    | _ => simp [cS] at h
theorem cD_ok {c : Ct} {X : Cx} (g : Gd cf k c X) {b : List Stmt} {xs : List S} (h : cD c b = some xs) : PSs X b (tS X.K (exs cf fu xs)) := pss_ok (cS_ok 60) g h
end
end Eng
/-! Functions of the text. -/
namespace Eng
open PySem L2
/-! ### behind a call: what was made within becomes a value -/
section
variable {K : Cn} {al al' : List Addr} {H H' H0 : Hp}
theorem Own.shr (sub : ∀ a, a ∈ al → a ∈ al') {a : Addr} {o : HO} (h : Own K al' H' a o) : Own K al H' a o := ⟨h.1, fun m => h.2.1 (sub a m), h.2.2⟩
theorem StT.shr (sub : ∀ a, a ∈ al → a ∈ al') {a : Addr} {us : List V} (h : StT K al' H' a us) : StT K al H' a us := h.imp (fun ⟨o, d, h⟩ => ⟨o, d, Own.shr sub h⟩) id
theorem StL.shr (sub : ∀ a, a ∈ al → a ∈ al') {a : Addr} {us : List V} (h : StL K al' H' a us) : StL K al H' a us :=
  h.imp (fun z => ⟨z.1, fun m => z.2.1 (sub a m), z.2.2⟩) id
mutual
theorem RV.shr (sub : ∀ a, a ∈ al → a ∈ al') (pre : ∀ (l : Nat) a, al[l]? = some a → al'[l]? = some a) : ∀ {v : Val} {u0 u : V}, RV K al H0 v u0 → RV K al' H' v u → RV K al H' v u
  | .non, _, _, _, h => by simp only [RV] at h ⊢; exact h
  | .bl b, _, _, _, h => by simp only [RV] at h ⊢; exact h
  | .int i, _, _, _, h => by simp only [RV] at h ⊢; exact h
  | .str x, _, _, _, h => by simp only [RV] at h ⊢; exact h
  | .tup xs, _, _, h0, h => by
    simp only [RV] at h0 h ⊢
    obtain ⟨a, us, e, s, r⟩ := h
    obtain ⟨_, us0, _, _, r0⟩ := h0
    exact ⟨a, us, e, s.shr sub, RVs.shr sub pre r0 r⟩
  | .tl xs, _, _, h0, h => by
    simp only [RV] at h0 h ⊢
    obtain ⟨a, us, e, s, r⟩ := h
    obtain ⟨_, us0, _, _, r0⟩ := h0
    exact ⟨a, us, e, ⟨s.1, fun m => s.2.1 (sub a m), s.2.2⟩, RVs.shr sub pre r0 r⟩
  | .ref l, _, _, h0, h => by
    simp only [RV] at h0 h ⊢
    obtain ⟨a, e, q⟩ := h
    obtain ⟨a0, e0, q0⟩ := h0
    have := pre l a0 q0
    rw [q] at this
    cases this
    exact ⟨a, e, q0⟩
  | .scr, _, _, h0, h => by
    simp only [RV] at h ⊢
    obtain ⟨a, ns, e, s, r⟩ := h
    exact ⟨a, ns, e, s.shr sub, r⟩
  | .sl a ns, _, _, h0, h => by
    simp only [RV] at h ⊢
    exact ⟨h.1, h.2.shr sub⟩
  | .fd t ks vs, _, _, h0, h => by
    simp only [RV] at h0 h ⊢
    obtain ⟨a, us, e, s, l, r⟩ := h
    obtain ⟨_, us0, _, _, _, r0⟩ := h0
    exact ⟨a, us, e, s.shr sub, l, RVs.shr sub pre r0 r⟩
theorem RVs.shr (sub : ∀ a, a ∈ al → a ∈ al') (pre : ∀ (l : Nat) a, al[l]? = some a → al'[l]? = some a) : ∀ {v : List Val} {u0 u : List V}, RVs K al H0 v u0 → RVs K al' H' v u → RVs K al H' v u
  | [], _, _, _, h => by simp only [RVs] at h ⊢; exact h
  | x :: xs, _, _, h0, h => by
    simp only [RVs] at h0 h ⊢
    obtain ⟨u, r, e, h1, h2⟩ := h
    obtain ⟨u0, r0, e0, h01, h02⟩ := h0
    exact ⟨u, r, e, RV.shr sub pre h01 h1, RVs.shr sub pre h02 h2⟩
end
theorem fz_ok {h' : Hs} (rh : RH K al' h' H') (sub : ∀ a, a ∈ al → a ∈ al') (pre : ∀ (l : Nat) a, al[l]? = some a → al'[l]? = some a) (lk : ∀ l, h'.lk.contains l = true → l < al.length) :
    ∀ (k : Nat) {v v' : Val} {u : V}, fzV h' al.length k v = some v' → RV K al' H' v u → RV K al H' v' u
  | 0, v, v', u, e, r => by simp [fzV] at e
  | k + 1, v, v', u, e, r => by
    have rows : ∀ {xs ys : List Val} {us : List V}, optAll (fzV h' al.length k) xs = some ys → RVs K al' H' xs us → RVs K al H' ys us := by
      intro xs
      induction xs with
      | nil =>
        intro ys us e r
        cases e
        simp only [RVs] at r ⊢
        exact r
      | cons x xs ih =>
        intro ys us e r
        obtain ⟨y, w, e1, e2, e3⟩ := opt_cons e
        subst e1
        simp only [RVs] at r ⊢
        obtain ⟨u, us', e, r1, r2⟩ := r
        exact ⟨u, us', e, fz_ok rh sub pre lk k e2 r1, ih e3 r2⟩
    cases v with
    | non => cases e; simp only [RV] at r ⊢; exact r
    | bl b => cases e; simp only [RV] at r ⊢; exact r
    | int b => cases e; simp only [RV] at r ⊢; exact r
    | str b => cases e; simp only [RV] at r ⊢; exact r
    | scr =>
      cases e
      simp only [RV] at r ⊢
      obtain ⟨a, ns, e, s, r⟩ := r
      exact ⟨a, ns, e, s.shr sub, r⟩
    | fd t ks xs =>
      simp only [fzV, Option.map_eq_some_iff] at e
      obtain ⟨ys, e, ev⟩ := e
      subst ev
      simp only [RV] at r ⊢
      obtain ⟨a, us, e', s, l, r⟩ := r
      have r2 := rows e r
      exact ⟨a, us, e', s.shr sub, by rw [r2.length, ← r.length]; exact l, r2⟩
    | sl a ns =>
      cases e
      simp only [RV] at r ⊢
      exact ⟨r.1, r.2.shr sub⟩
    | tup xs =>
      simp only [fzV, Option.map_eq_some_iff] at e
      obtain ⟨ys, e, ev⟩ := e
      subst ev
      simp only [RV] at r ⊢
      obtain ⟨a, us, e', s, r⟩ := r
      exact ⟨a, us, e', s.shr sub, rows e r⟩
    | tl xs =>
      simp only [fzV, Option.map_eq_some_iff] at e
      obtain ⟨ys, e, ev⟩ := e
      subst ev
      simp only [RV] at r ⊢
      obtain ⟨a, us, e', s, r⟩ := r
      exact ⟨a, us, e', ⟨s.1, fun m => s.2.1 (sub a m), s.2.2⟩, rows e r⟩
    | ref l =>
      simp only [RV] at r
      obtain ⟨a, eu, ea⟩ := r
      simp only [fzV] at e
      split at e
      · rename_i hl
        cases e
        have hl : l < al.length := Nat.blt_eq.mp hl
        simp only [RV]
        refine ⟨a, eu, ?_⟩
        have := pre l al[l] (List.getElem?_eq_getElem hl)
        rw [ea] at this
        cases this
        exact List.getElem?_eq_getElem hl
      · rename_i hl
        have hl : ¬ l < al.length := fun z => hl (Nat.blt_eq.mpr z)
        split at e
        · rename_i xs hx
          rw [Option.map_eq_some_iff] at e
          obtain ⟨ys, e, ev⟩ := e
          subst ev
          obtain ⟨us, q, rs⟩ := rh.ob l a _ ea hx
          have nk : h'.lk.contains l = false := by
            cases q : h'.lk.contains l with
            | false => rfl
            | true => exact absurd (lk l q) hl
          rw [nk, if_neg Bool.false_ne_true] at q
          simp only [RV]
          have ma : a ∈ al' := List.mem_of_getElem? ea
          refine ⟨a, us, eu, ⟨q, fun m => ?_, fun m => (rh.fb a m).1 ma⟩, rows e rs⟩
          obtain ⟨j, hj, ej⟩ := List.mem_iff_getElem.mp m
          have e1 := pre j a (by rw [List.getElem?_eq_getElem hj, ej])
          have := rh.inj e1 ea
          omega
        · rename_i t ks xs hx
          rw [Option.map_eq_some_iff] at e
          obtain ⟨ys, e, ev⟩ := e
          subst ev
          obtain ⟨us, q, ll, rs⟩ := rh.ob l a _ ea hx
          have nk : h'.lk.contains l = false := by
            cases q : h'.lk.contains l with
            | false => rfl
            | true => exact absurd (lk l q) hl
          rw [nk, if_neg Bool.false_ne_true] at q
          simp only [RV]
          have ma : a ∈ al' := List.mem_of_getElem? ea
          have r2 := rows e rs
          refine ⟨a, us, eu, ⟨q, fun m => ?_, fun m => (rh.fb a m).1 ma⟩, by rw [r2.length, ← rs.length]; exact ll, r2⟩
          obtain ⟨j, hj, ej⟩ := List.mem_iff_getElem.mp m
          have e1 := pre j a (by rw [List.getElem?_eq_getElem hj, ej])
          have := rh.inj e1 ea
          omega
        · cases e
/-- the heap behind a call that wrote nothing -/
theorem RH.past {h h' : Hs} (rh : RH K al h H) (rh' : RH K al' h' H') (e : Ext al ⟨h.os, h.n, h.n, h.lk⟩ H al' h' H') (lo : h.n ≤ h'.lo) : RH K al h H' ∧ Ext al h H al h H' := by
  have sub : ∀ a, a ∈ al → a ∈ al' := fun a m => by
    obtain ⟨j, hj, ej⟩ := List.mem_iff_getElem.mp m
    exact List.mem_of_getElem? (e.pre j a (by rw [List.getElem?_eq_getElem hj, ej]))
  refine ⟨⟨rh.len, rh.os, rh.nd, rh.lkb, fun a m => ⟨(rh.fb a m).1, (rh'.fb a m).2⟩, fun l a o ea eo => ?_⟩, { pre := fun _ _ z => z, keep := fun a o n z => ⟨(e.keep a o n z).1, n⟩, frz := e.frz, lo := Nat.le_refl _, sm := fun _ _ _ => rfl, n := Nat.le_refl _, lk := rfl }⟩
  have hl : l < h.n := Hs.get_lt eo
  have eo' : h'.get l = some o := (e.sm l (Nat.lt_of_lt_of_le hl lo) hl).trans eo
  have x0 := rh.ob l a o ea eo
  have x := rh'.ob l a o (e.pre l a ea) eo'
  have elk : h'.lk = h.lk := e.lk
  rw [elk] at x
  cases o with
  | lst xs =>
    obtain ⟨us0, q0, r0⟩ := x0
    obtain ⟨us, q, r⟩ := x
    exact ⟨us, q, r0.shr sub e.pre r⟩
  | dct t ks xs =>
    obtain ⟨us0, q0, l0, r0⟩ := x0
    obtain ⟨us, q, l, r⟩ := x
    exact ⟨us, q, l, r0.shr sub e.pre r⟩
  | tape =>
    obtain ⟨sa, ns, p, b, s, q, sq, rest⟩ := x
    exact ⟨sa, ns, p, b, s, q, sq.shr sub, rest⟩
end
section
variable {cf : Nat → List Val → Hs → T (Val × Hs)} {fu : Nat}
theorem start_ok {K : Cn} {al : List Addr} {H : Hp} {vs : List Val} {us : List V} {N : List Str} (r : RVs K al H vs us) : RE K al H (vs.map some ++ List.replicate (N.length - vs.length) none) (L2.start N us) := by
  have hl := r.length
  refine ⟨by simp [L2.start, hl], fun i v e => ?_⟩
  by_cases hi : i < vs.length
  · rw [List.getElem?_append_left (by simpa using hi), List.getElem?_map] at e
    cases q : vs[i]? with
    | none => rw [q] at e; cases e
    | some w =>
      rw [q] at e
      cases e
      obtain ⟨u, hu, ru⟩ := r.get q
      refine ⟨u, ?_, ru⟩
      unfold L2.start
      rw [List.getElem?_append_left (by simp; omega), List.getElem?_map, hu]
      rfl
  · rw [List.getElem?_append_right (by simpa using hi), List.getElem?_replicate] at e
    split at e <;> cases e
theorem run_ok {F : PySem.W.Frag} {K : Cn} {al : List Addr} {h : Hs} {H : Hp} {Q : VK} {vs : List Val} {us : List V} {N : List Str} {body : List S} {fz : Bool} (eK : K.K = F) (rh : RH K al h H) (rs : RVs K al H vs us)
    (p : (runF cf fu N.length body fz vs h).All (Pt K al h H Q)) : tS F (exs cf fu body) { nx := fun _ H' => Q .non H', rt := Q } (L2.start N us) H := by
  have hn : h.n = al.length := rh.len.symm
  have rh0 : RH K al ⟨h.os, h.n, h.n, h.lk⟩ H := ⟨rh.len, rh.os, rh.nd, rh.lkb, rh.fb, fun l a o e1 e2 => rh.ob l a o e1 e2⟩
  refine ⟨K, al, _, ⟨h.os, h.n, h.n, h.lk⟩, eK, rh0, start_ok rs, T.all_mono (fun r z al1 H1 σ1 e1 rh1 re1 => ?_) (T.all_bind.mp p)⟩
  obtain ⟨fl, s1, h1⟩ := r
  have go : ∀ {v : Val} {u : V}, RV K al1 H1 v u → (match fz && Nat.ble h.n h1.lo, fzV h1 h.n 12 v with
      | true, some v' => T.ok (v', h)
      | _, _ => .ok (v, ⟨h1.os, h1.n, min h.lo h1.lo, h.lk⟩)).All (Pt K al h H Q) → Q u H1 := fun {v u} rv z => by
    split at z
    · rename_i v' c1 c2
      rw [Bool.and_eq_true] at c1
      have lo := Nat.ble_eq.mp c1.2
      have e1 : Ext al ⟨h.os, h.n, h.n, h.lk⟩ H al1 h1 H1 := e1
      have rh1 : RH K al1 h1 H1 := rh1
      obtain ⟨b1, b2⟩ := rh.past rh1 e1 lo
      have sub : ∀ a, a ∈ al → a ∈ al1 := fun a m => by
        obtain ⟨j, hj, ej⟩ := List.mem_iff_getElem.mp m
        exact List.mem_of_getElem? (e1.pre j a (by rw [List.getElem?_eq_getElem hj, ej]))
      have elk : h1.lk = h.lk := e1.lk
      rw [hn] at c2
      exact z al H1 u b2 b1 (fz_ok rh1 sub e1.pre (fun l q => by rw [elk] at q; rw [← hn]; exact rh.lkb l q) 12 c2 rv)
    · have elk : h1.lk = h.lk := e1.lk
      refine z al1 H1 u { pre := e1.pre, keep := e1.keep, frz := e1.frz, lo := Nat.min_le_left _ _, sm := fun l q1 q2 => e1.sm l (Nat.lt_of_lt_of_le q1 (Nat.min_le_right _ _)) q2, n := e1.n, lk := rfl } ⟨rh1.len, rh1.os, rh1.nd, fun l q => ?_, rh1.fb, fun l a o q1 q2 => ?_⟩ rv
      · exact rh1.lkb l (by show h1.lk.contains l = true; rw [elk]; exact q)
      · have q2 : h1.get l = some o := q2
        have := rh1.ob l a o q1 q2
        rw [elk] at this
        exact this
  cases fl with
  | nx => exact go .non z
  | bk => exact z.elim
  | ct => exact z.elim
  | rt v => exact fun u ru => go ru z
end
end Eng
/-! All functions of the text. -/
namespace Eng
open PySem L2
def rP (F : PySem.W.Frag) (g : List Val → Hs → T (Val × Hs)) : List V → Hp → VK → Prop := fun xs H Q => ∃ K al h vs, K.K = F ∧ RH K al h H ∧ RVs K al H vs xs ∧ (g vs h).All (Pt K al h H Q)
def startV (vs : List Val) (h : Hs) : T (Val × Hs) := match vs with
  | [.scr] => .ok (.ref h.n, h.new .tape)
  | _ => .no
structure EnvOk (K : PySem.W.Frag) (mg : Str → Option Value) (gl : List (Str × Gk)) (adr : List Addr) : Prop where
  blt : ∀ x, gl.lookup x = some .blt → mg x = none
  con : ∀ x v, gl.lookup x = some (.con v) → ∃ u w, mg x = some u ∧ L2.RelV w u ∧ ∀ K' al H, K'.K = K → RV K' al H v w
  fn : ∀ x i, gl.lookup x = some (.fn i) → ∃ f, adr[i]? = some f ∧ mg x = some (.ref f) ∧ PySem.W.keepIn K (.ref f) = true
/-- a constant of the module that is a tuple -/
theorem kt_rv {K : PySem.W.Frag} {K' : Cn} {al : List Addr} {H : Hp} (e : K'.K = K) (kc : kcase = true) {a : Addr} {its : Array Value} {n : Nat} {sl : Array (Option Value)} {xs : List Val} {us : List V}
    (l : K.lookup a = some ⟨.type "tuple", none, .seq its n, sl⟩) (hz : its.size ≤ 100) (vs : Vals us its.toList) (r : RVs K' al H xs us) : RV K' al H (.tup xs) (.ref a) := by
  simp only [RV]
  exact ⟨a, us, rfl, .inr ⟨kc, _, its, n, by rw [e]; exact l, rfl, rfl, rfl, by rw [sizeLine_eq]; omega, vs⟩, r⟩
/-- a def of the text, and what the compiler makes of it -/
structure CodeOk (K : PySem.W.Frag) (gl : List (Str × Gk)) (mu : List (Nat × Nat)) (f : Addr) (np nN : Nat) (body : List S) : Prop where
  ex : ∃ (x qual : Str) (st : Stmt) (fd : FuncData) (N ps : List Str), Fun K x qual st f fd ∧ FnScope N ps (defScope st) ∧ N.length = nN ∧ ps.length = np ∧ cD ⟨N, defScope st, fun _ => true, gl, mu⟩ (defBody st) = some body ∧
    ∀ (kV doc pm : Value) (an : Option Addr) (cdv ct : Value) (us : List Value), us.length = ps.length → bindArgs (PySem.W.fnOf x qual (defArgs st) (defBody st) (defScope st) .none kV doc pm an cdv ct) ⟨us, []⟩ = pure (ps.zip us)
structure StarOk (K : PySem.W.Frag) (gl : List (Str × Gk)) (mu : List (Nat × Nat)) (f : Addr) (np nN : Nat) (body : List S) : Prop where
  ex : ∃ (x qual : Str) (st : Stmt) (fd : FuncData) (N ps : List Str) (pv : Str), Fun K x qual st f fd ∧ FnScope N (ps ++ [pv]) (defScope st) ∧ N.length = nN ∧ ps.length + 1 = np ∧ cD ⟨N, defScope st, fun _ => true, gl, mu⟩ (defBody st) = some body ∧
    ∀ (kV doc pm : Value) (an : Option Addr) (cdv ct : Value) (us rest : List Value), us.length = ps.length → bindArgs (PySem.W.fnOf x qual (defArgs st) (defBody st) (defScope st) .none kV doc pm an cdv ct) ⟨us ++ rest, []⟩ = (newTuple rest >>= fun t => pure (ps.zip us ++ [(pv, t)]))
def PrimOk (P : Program) (w : World) (K : PySem.W.Frag) (mg : Str → Option Value) (base : Heap) (f : Addr) (g : List Val → Hs → T (Val × Hs)) : Prop := ∀ k, FnR P w K mg base CX0 (k + 1) f (fun vs H Q E => rP K g vs H Q)
def EntOk (P : Program) (w : World) (K : PySem.W.Frag) (mg : Str → Option Value) (base : Heap) (gl : List (Str × Gk)) (mu : List (Nat × Nat)) (f : Addr) : Fn → Prop
  | .code np va nN body fz => match va with
    | false => CodeOk K gl mu f np nN body
    | true => StarOk K gl mu f np nN body
  | .start => PrimOk P w K mg base f startV
  | .pick => PrimOk P w K mg base f pickV
  | .next => PrimOk P w K mg base f nextV
section
variable {P : Program} {w : World} {K : PySem.W.Frag} {mg : Str → Option Value} {base : Heap} {gl : List (Str × Gk)} {mu : List (Nat × Nat)} {adr : List Addr} {tab : List Fn} {fu : Nat}
theorem good_of {d : Nat} (hE : EnvOk K mg gl adr) (ih : ∀ (i : Nat) (f : Addr), adr[i]? = some f → FnR P w K mg base CX0 d f (fun vs H Q E => rF K (callN tab fu d) i vs H Q)) {N ps : List Str} {qual : Str} {scope : Scope} (S : FnScope N ps scope) {f : Addr} {cdv : Value} {A : Around} {outer : List PySem.Env} {s : Shared} {H : Hp} {E : XK}
    (hr : Room d (A.deeper (PyProof.Rows.envOfC qual scope s.heap.objs.size f cdv))) : Gd (callN tab fu d) d ⟨N, scope, fun _ => true, gl, mu⟩ (cxOf CX0 P w K mg base N qual scope f cdv A outer s H E).nox := by
  refine ⟨rfl, S.nd, rfl, rfl, S.kind, fun x h => rfl, hr, fun e s h => h, hE.blt, hE.con, fun x i e => ?_⟩
  obtain ⟨g, h1, h2, h3⟩ := hE.fn x i e
  refine ⟨g, h2, h3, fun X' sm pins s' σ H' xs us Q I r q => ?_⟩
  have F := ih i g h1
  have e1 : X'.prog = P := sm.prog
  have e2 : X'.w = w := sm.w
  have e3 : X'.K = K := sm.K
  have e4 : X'.mg = mg := sm.mg
  have e5 : X'.base = base := sm.base
  have e6 : X'.A = A.deeper (PyProof.Rows.envOfC qual scope s.heap.objs.size f cdv) := sm.A
  rw [← e1, ← e2, ← e3, ← e4, ← e5] at F
  exact wpAny_call (run_fnR F (by rw [e6]; exact hr) pass0 I r (by rw [e3]; exact q))
theorem all_ok (hE : EnvOk K mg gl adr) (hT : ∀ (i : Nat) (f : Addr), adr[i]? = some f → ∃ fn, tab[i]? = some fn ∧ EntOk P w K mg base gl mu f fn) : ∀ (d i : Nat) (f : Addr), adr[i]? = some f → FnR P w K mg base CX0 d f (fun vs H Q E => rF K (callN tab fu d) i vs H Q)
  | 0, i, f, ha => by
    intro A outer s H us vs Q E hr e0 r hs
    obtain ⟨K', al, h, xs, eK, rh, rs, p⟩ := hs
    exact p.elim
  | d + 1, i, f, ha => by
    have ih := all_ok hE hT d
    obtain ⟨fn, ht, he⟩ := hT i f ha
    cases fn with
    | start =>
      refine FnR.imp (he d) fun vs H Q E ⟨K', al, h, xs, eK, rh, rs, p⟩ => ⟨K', al, h, xs, eK, rh, rs, ?_⟩
      unfold callN at p
      rw [ht] at p
      exact p
    | pick =>
      refine FnR.imp (he d) fun vs H Q E ⟨K', al, h, xs, eK, rh, rs, p⟩ => ⟨K', al, h, xs, eK, rh, rs, ?_⟩
      unfold callN at p
      rw [ht] at p
      exact p
    | next =>
      refine FnR.imp (he d) fun vs H Q E ⟨K', al, h, xs, eK, rh, rs, p⟩ => ⟨K', al, h, xs, eK, rh, rs, ?_⟩
      unfold callN at p
      rw [ht] at p
      exact p
    | code np va nN body fz =>
      cases va with
      | false =>
        obtain ⟨x, qual, st, fd, N, ps, F, S, eN, ep, hc, hb⟩ := CodeOk.ex he
        subst eN ep
        have G : FnOk P w K mg base CX0 (d + 1) f fd ps fun vs H Q E => vs.length = ps.length ∧ rP K (runF (callN tab fu d) fu N.length body fz) vs H Q := by
          refine F.ok S (fun vs H Q E h => h.1) fun cdv A outer s H vs Q E hr hsp => ?_
          obtain ⟨hl, K', al, h, xs, eK, rh, rs, p⟩ := hsp
          exact ⟨_, cD_ok (good_of hE ih S hr) hc, run_ok eK rh rs p⟩
        refine FnR.imp (FnOk.raw G (F.binds hb) .nil) fun vs H Q E ⟨K', al, h, xs, eK, rh, rs, p⟩ => ?_
        rw [List.append_nil]
        unfold callN at p
        rw [ht] at p
        simp only at p
        split at p
        · rename_i hl
          exact ⟨by rw [← rs.length]; exact eq_of_beq hl, K', al, h, xs, eK, rh, rs, p⟩
        · exact p.elim
      | true =>
        obtain ⟨x, qual, st, fd, N, ps, pv, F, S, eN, ep, hc, hb⟩ := StarOk.ex he
        subst eN ep
        obtain ⟨oc, od, kV, doc, pm, an, cdv, ct, osl, rfl, lk, hcd⟩ := F.ex
        refine FnR.imp (StX.fn_star lk hcd S StX.cxUp_none (fun us rest hl => hb kV doc pm an cdv ct us rest hl) (sp := fun vs H Q E => rP K (runF (callN tab fu d) fu N.length body fz) vs H Q) fun A outer s H vs Q E hr hsp => ?_) fun vs H Q E ⟨K', al, h, xs, eK, rh, rs, p⟩ => ?_
        · obtain ⟨K', al, h, xs, eK, rh, rs, p⟩ := hsp
          exact ⟨_, (cD_ok (good_of hE ih S hr) hc).nox, run_ok eK rh rs p⟩
        · unfold callN at p
          rw [ht] at p
          simp only at p
          split at p
          · rename_i hl
            rw [Bool.and_eq_true, Bool.and_eq_true, Bool.and_eq_true, Nat.ble_eq] at hl
            obtain ⟨hl, hn, hf⟩ := hl
            have hs := small_lt hl.2
            have el := rs.length
            refine ⟨vs.take ps.length, vs.drop ps.length, (List.take_append_drop _ _).symm, by rw [List.length_take]; omega, by rw [List.length_drop]; omega, fun a fr => ?_⟩
            have k := Kp.free rh fr (o := .tup (vs.drop ps.length))
            have rh1 := rh.freeU fr (o := .tup (vs.drop ps.length))
            have x1 := Ext.freeU rh fr (o := .tup (vs.drop ps.length))
            refine ⟨K', al, h, _, eK, rh1, ?_, T.all_mono (fun q z al' H' u e r v => z al' H' u (x1.trans e) r v) p⟩
            refine RVs.append ((rs.mono k).take _) (.one ?_)
            simp only [RV]
            have hr : (vs.drop ps.length).isEmpty = false := by
              cases q : vs.drop ps.length with
              | nil =>
                have e2 : xs.drop ps.length = [] := List.eq_nil_of_length_eq_zero (by rw [List.length_drop, el, ← List.length_drop, q]; rfl)
                have hn : (!(xs.drop ps.length).isEmpty) = true := hn
                rw [e2] at hn
                cases hn
              | cons _ _ => rfl
            have f : fne (vs.drop ps.length) = true := fne_of (fun z => by rw [z] at hr; cases hr) ((rs.drop ps.length).flat hf)
            refine ⟨a, _, rfl, .inl ⟨{ cls := .none, data := .fields #[] }, rfl, ?_, rh.free fr, rh.nfb fr⟩, (rs.mono k).drop _⟩
            unfold tcl
            rw [show ps.length + 1 - 1 = ps.length from rfl, f]
            exact upd_same
          · exact p.elim
end
end Eng
/-! The draws from the script. -/
namespace Eng
open PySem L2
def ci (i : Int) : E := .c (.int i)
def sv (i : Int) : E := .sub (.v 0) (ci i)
def pickB : List S := [
  .ite (.and (.cmp .eq (sv 2) (ci 0)) (.cmp .lt (sv 1) (.bi .len false [sv 0])))
    [.asg (.nm 2) (.bi .abs false [.sub (sv 0) (sv 1)]),
      .asg (.sb (.v 0) (ci 1)) (.bin .add false (sv 1) (ci 1)),
      .ite (.cmp .ge (.v 2) (.bin .pow false (ci 10) (ci 18)))
        [.asg (.sb (.v 0) (ci 2)) (.v 2)]
        [.asg (.sb (.v 0) (ci 3)) (.bin .add false (.bin .mod false (.bi .int false [.bin .add false (.bin .mul false (sv 3) (ci 48271)) (.v 2)]) (ci 2147483646)) (ci 1))]] [],
  .ite (.cmp .gt (sv 2) (ci 0))
    [.asg (.nm 3) (.bin .mod false (.bi .int false [sv 2]) (.v 1)),
      .asg (.sb (.v 0) (ci 2)) (.bin .fdiv false (sv 2) (.v 1)),
      .ret (.v 3)] [],
  .asg (.sb (.v 0) (ci 3)) (.bin .mod false (.bi .int false [.bin .mul false (sv 3) (ci 48271)]) (ci 2147483647)),
  .ret (.bin .mod false (.bi .int false [.bin .add false (.bin .fdiv false (sv 3) (ci 5)) (.bin .mod false (.bi .int false [.bin .mul false (sv 3) (sv 3)]) (ci 2147483629))]) (.v 1))]
section
variable {cf : Nat → List Val → Hs → T (Val × Hs)} {fu : Nat} {sa : Addr} {ns : List Int} {lo : Nat} {p b s n : Int} {e : Env}
def tpH (sa : Addr) (ns : List Int) (lo : Nat) (p b s : Int) : Hs := ⟨[.lst [.sl sa ns, .int p, .int b, .int s]], 1, lo, []⟩
theorem ev_s0 : ev cf (sv 0) (some (.ref 0) :: e) (tpH sa ns lo p b s) = .ok (.sl sa ns, tpH sa ns lo p b s) := rfl
theorem ev_s1 : ev cf (sv 1) (some (.ref 0) :: e) (tpH sa ns lo p b s) = .ok (.int p, tpH sa ns lo p b s) := rfl
theorem ev_s2 : ev cf (sv 2) (some (.ref 0) :: e) (tpH sa ns lo p b s) = .ok (.int b, tpH sa ns lo p b s) := rfl
theorem ev_s3 : ev cf (sv 3) (some (.ref 0) :: e) (tpH sa ns lo p b s) = .ok (.int s, tpH sa ns lo p b s) := rfl
theorem ev_ci {i : Int} {h : Hs} : ev cf (ci i) e h = .ok (.int i, h) := rfl
theorem ev_st {h : Hs} : ev cf (.v 0) (some (.ref 0) :: e) h = .ok (.ref 0, h) := rfl
theorem set1 {x : Int} : setV (.ref 0) (.int 1) (.int x) (tpH sa ns lo p b s) = .ok (tpH sa ns (min lo 0) x b s) := rfl
theorem set2 {x : Int} : setV (.ref 0) (.int 2) (.int x) (tpH sa ns lo p b s) = .ok (tpH sa ns (min lo 0) p x s) := rfl
theorem set3 {x : Int} : setV (.ref 0) (.int 3) (.int x) (tpH sa ns lo p b s) = .ok (tpH sa ns (min lo 0) p b x) := rfl
theorem pick_len : ev cf (.bi .len false [sv 0]) (some (.ref 0) :: e) (tpH sa ns lo p b s) = .ok (.int (ns.length : Int), tpH sa ns lo p b s) := by
  simp only [ev, evs, ev_s0, T.bind, biV, items, List.length_map]
theorem pick_cell {c : Int} (h0 : 0 ≤ p) (hc : ns[p.toNat]? = some c) : ev cf (.sub (sv 0) (sv 1)) (some (.ref 0) :: e) (tpH sa ns lo p b s) = .ok (.int c, tpH sa ns lo p b s) := by
  have hl : p < ns.length := by
    have := (List.getElem?_eq_some_iff.mp hc).1
    omega
  simp only [ev, ev_s0, ev_s1, T.bind, subV, dicOf, items, ixI, List.length_map, h0, hl, decide_true, if_true, List.getElem?_map, hc, Option.map_some]

def PkP (sa : Addr) (ns : List Int) (n : Int) (r : Rs) : Prop := ∃ i p b s lo, r.1 = Fl.rt (.int i) ∧ r.2.2 = tpH sa ns lo p b s ∧ 0 ≤ i ∧ i < n ∧ 0 ≤ p ∧ p ≤ 63 ∧ 0 ≤ b ∧ 0 ≤ s ∧ s ≤ 2147483647
theorem log2_lt {i : Int} {k m : Nat} (h : i.natAbs < 2 ^ k) (h2 : k ≤ m) (h3 : 0 < m) : Nat.blt i.natAbs.log2 m = true := by
  rw [Nat.blt_eq]
  by_cases e : i.natAbs = 0
  · rw [e]
    exact h3
  · exact Nat.lt_of_lt_of_le ((Nat.log2_lt e).mpr h) h2
theorem bop_mulS {i j : Int} (h1 : i.natAbs < 2 ^ 64) (h2 : j.natAbs < 2 ^ 64) : bopI .mul i j = some (i * j) := by
  simp only [bopI, log2_lt h1 (by decide : 64 ≤ 400000) (by decide), log2_lt h2 (by decide : 64 ≤ 400000) (by decide), Bool.and_self, if_true]
theorem bop_modS {i j : Int} (h : 0 < j) : bopI .mod i j = some (i % j) := by
  simp only [bopI, h, decide_true, if_true]
theorem bop_divS {i j : Int} (h : 0 < j) (h2 : j.natAbs < 2 ^ 64) : bopI .fdiv i j = some (i / j) := by
  simp only [bopI, h, decide_true, log2_lt h2 (by decide : 64 ≤ 9000) (by decide), Bool.and_self, if_true]
section
variable {h h1 h2 : Hs} {st : Env} {a c : E} {i j k : Int}
theorem evBin {op : Bop} (e1 : ev cf a st h = .ok (.int i, h1)) (e2 : ev cf c st h1 = .ok (.int j, h2)) (e3 : bopI op i j = some k) : ev cf (.bin op false a c) st h = .ok (.int k, h2) := by
  simp only [ev, e1, e2, T.bind, bopV, e3, T.of]
theorem evAdd (e1 : ev cf a st h = .ok (.int i, h1)) (e2 : ev cf c st h1 = .ok (.int j, h2)) : ev cf (.bin .add false a c) st h = .ok (.int (i + j), h2) := evBin e1 e2 rfl
theorem evInt (e1 : ev cf a st h = .ok (.int i, h1)) : ev cf (.bi .int false [a]) st h = .ok (.int i, h1) := by
  simp only [ev, evs, e1, T.bind, biV]
theorem evAbs (e1 : ev cf a st h = .ok (.int i, h1)) : ev cf (.bi .abs false [a]) st h = .ok (.int (if decide (i < 0) then -i else i), h1) := by
  simp only [ev, evs, e1, T.bind, biV]
theorem evCmp {op : Cop} {q : Bool} (e1 : ev cf a st h = .ok (.int i, h1)) (e2 : ev cf c st h1 = .ok (.int j, h2)) (e3 : copI op i j = some q) : ev cf (.cmp op a c) st h = .ok (.bl q, h2) := by
  simp only [ev, e1, e2, T.bind, copV, e3]
theorem evAndT {q : Bool} (e1 : ev cf a st h = .ok (.bl true, h1)) (e2 : ev cf c st h1 = .ok (.bl q, h2)) : ev cf (.and a c) st h = .ok (.bl q, h2) := by
  simp only [ev, e1, e2, T.bind]
theorem evAndF (e1 : ev cf a st h = .ok (.bl false, h1)) : ev cf (.and a c) st h = .ok (.bl false, h1) := by
  simp only [ev, e1, T.bind]
theorem exNm {v : Val} {x : Nat} (e1 : ev cf a st h = .ok (v, h1)) : ex cf fu (.asg (.nm x) a) st h = .ok (.nx, st.set x (some v), h1) := by
  simp only [ex, e1, T.bind, asg]
theorem exSb {v ov iv : Val} {h3 h4 : Hs} {o x : E} (e1 : ev cf a st h = .ok (v, h1)) (e2 : ev cf o st h1 = .ok (ov, h2)) (e3 : ev cf x st h2 = .ok (iv, h3)) (e4 : setV ov iv v h3 = .ok h4) : ex cf fu (.asg (.sb o x) a) st h = .ok (.nx, st, h4) := by
  simp only [ex, e1, T.bind, asg, e2, e3, e4]
theorem exRet {v : Val} (e1 : ev cf a st h = .ok (v, h1)) : ex cf fu (.ret a) st h = .ok (.rt v, st, h1) := by
  simp only [ex, e1, T.bind]
theorem exIf {q : Bool} {x y : List S} (e1 : ev cf a st h = .ok (.bl q, h1)) : ex cf fu (.ite a x y) st h = if q then exs cf fu x st h1 else exs cf fu y st h1 := by
  cases q <;> simp [ex, tst, e1, T.bind, truth]
theorem exsN {t : S} {ts : List S} {st' : Env} (e1 : ex cf fu t st h = .ok (.nx, st', h1)) : exs cf fu (t :: ts) st h = exs cf fu ts st' h1 := by
  simp only [exs, e1, T.bind]
theorem exsR {t : S} {ts : List S} {st' : Env} {v : Val} (e1 : ex cf fu t st h = .ok (.rt v, st', h1)) : exs cf fu (t :: ts) st h = .ok (.rt v, st', h1) := by
  simp only [exs, e1, T.bind]
end
theorem pick_end {x y : Option Val} (hn : 0 < n) (h0 : 0 ≤ p) (h1 : p ≤ 63) (h2 : 0 ≤ b) (h3 : 0 ≤ s) (h4 : s ≤ 2147483647) :
    (exs cf fu (pickB.drop 2) [some (.ref 0), some (.int n), x, y] (tpH sa ns lo p b s)).All (PkP sa ns n) := by
  have m1 : bopI .mul s 48271 = some (s * 48271) := bop_mulS (by omega) (by decide)
  have m2 : bopI .mod (s * 48271) 2147483647 = some (s * 48271 % 2147483647) := bop_modS (by decide)
  have q1 := Int.emod_nonneg (s * 48271) (b := 2147483647) (by decide)
  have q2 := Int.emod_lt_of_pos (s * 48271) (b := 2147483647) (by decide)
  generalize hs : s * 48271 % 2147483647 = t at m2 q1 q2
  have m3 : bopI .fdiv t 5 = some (t / 5) := bop_divS (by decide) (by decide)
  have m4 : bopI .mul t t = some (t * t) := bop_mulS (by omega) (by omega)
  have m5 : bopI .mod (t * t) 2147483629 = some (t * t % 2147483629) := bop_modS (by decide)
  have m6 : bopI .mod (t / 5 + t * t % 2147483629) n = some ((t / 5 + t * t % 2147483629) % n) := bop_modS hn
  have en : ∀ {h : Hs}, ev cf (.v 1) [some (.ref 0), some (.int n), x, y] h = .ok (.int n, h) := rfl
  have st1 : ex cf fu (.asg (.sb (.v 0) (ci 3)) (.bin .mod false (.bi .int false [.bin .mul false (sv 3) (ci 48271)]) (ci 2147483647))) [some (.ref 0), some (.int n), x, y] (tpH sa ns lo p b s) = .ok (.nx, [some (.ref 0), some (.int n), x, y], tpH sa ns (min lo 0) p b t) :=
    exSb (evBin (evInt (evBin ev_s3 ev_ci m1)) ev_ci m2) ev_st ev_ci set3
  have st2 := exRet (fu := fu) (evBin (cf := cf) (evInt (evAdd (evBin (ev_s3 (cf := cf) (sa := sa) (ns := ns) (lo := min lo 0) (p := p) (b := b) (s := t) (e := [some (.int n), x, y])) ev_ci m3) (evBin (evInt (evBin ev_s3 ev_s3 m4)) ev_ci m5))) en m6)
  show (exs cf fu (_ :: _ :: []) _ _).All _
  rw [exsN st1, exsR st2]
  exact ⟨_, p, b, t, _, rfl, rfl, Int.emod_nonneg _ (by omega), Int.emod_lt_of_pos _ hn, h0, h1, h2, q1, by omega⟩
theorem pick_mid {x y : Option Val} (hn : 0 < n) (hn2 : n ≤ 1000000000000000000) (h0 : 0 ≤ p) (h1 : p ≤ 63) (h2 : 0 ≤ b) (h3 : 0 ≤ s) (h4 : s ≤ 2147483647) :
    (exs cf fu (pickB.drop 1) [some (.ref 0), some (.int n), x, y] (tpH sa ns lo p b s)).All (PkP sa ns n) := by
  have en : ∀ {h : Hs} {z : Option Val}, ev cf (.v 1) [some (.ref 0), some (.int n), x, z] h = .ok (.int n, h) := rfl
  have t1 : ev cf (.cmp .gt (sv 2) (ci 0)) [some (.ref 0), some (.int n), x, y] (tpH sa ns lo p b s) = .ok (.bl (decide (b > 0)), tpH sa ns lo p b s) := evCmp ev_s2 ev_ci (by rfl)
  by_cases hb : b > 0
  · rw [decide_eq_true hb] at t1
    have s1 := exNm (fu := fu) (x := 3) (evBin (evInt (ev_s2 (cf := cf) (sa := sa) (ns := ns) (lo := lo) (p := p) (b := b) (s := s) (e := [some (.int n), x, y]))) en (bop_modS (i := b) hn))
    have s2 := exSb (fu := fu) (evBin (ev_s2 (cf := cf) (sa := sa) (ns := ns) (lo := lo) (p := p) (b := b) (s := s) (e := [some (.int n), x, some (.int (b % n))])) en (bop_divS (i := b) hn (by omega))) ev_st ev_ci set2
    have s3 : ex cf fu (.ret (.v 3)) [some (.ref 0), some (.int n), x, some (.int (b % n))] (tpH sa ns (min lo 0) p (b / n) s) = .ok (.rt (.int (b % n)), [some (.ref 0), some (.int n), x, some (.int (b % n))], tpH sa ns (min lo 0) p (b / n) s) := exRet rfl
    have s4 := exIf (fu := fu) (x := [.asg (.nm 3) (.bin .mod false (.bi .int false [sv 2]) (.v 1)), .asg (.sb (.v 0) (ci 2)) (.bin .fdiv false (sv 2) (.v 1)), .ret (.v 3)]) (y := []) t1
    rw [if_pos rfl, exsN s1] at s4
    have s5 := s4.trans ((exsN s2).trans (exsR s3))
    show (exs cf fu (_ :: _) _ _).All _
    rw [exsR s5]
    exact ⟨_, p, b / n, s, _, rfl, rfl, Int.emod_nonneg _ (by omega), Int.emod_lt_of_pos _ hn, h0, h1, Int.ediv_nonneg h2 (by omega), h3, h4⟩
  · rw [decide_eq_false hb] at t1
    have s4 := exIf (fu := fu) (x := [.asg (.nm 3) (.bin .mod false (.bi .int false [sv 2]) (.v 1)), .asg (.sb (.v 0) (ci 2)) (.bin .fdiv false (sv 2) (.v 1)), .ret (.v 3)]) (y := []) t1
    rw [if_neg Bool.false_ne_true] at s4
    show (exs cf fu (_ :: _) _ _).All _
    rw [exsN (s4.trans rfl)]
    exact pick_end hn h0 h1 h2 h3 h4
theorem pick_run (hl : ns.length ≤ 63) {x y : Option Val} (hn : 0 < n) (hn2 : n ≤ 1000000000000000000) (h0 : 0 ≤ p) (h1 : p ≤ 63) (h2 : 0 ≤ b) (h3 : 0 ≤ s) (h4 : s ≤ 2147483647) :
    (exs cf fu pickB [some (.ref 0), some (.int n), x, y] (tpH sa ns lo p b s)).All (PkP sa ns n) := by
  have ta : ev cf (.cmp .eq (sv 2) (ci 0)) [some (.ref 0), some (.int n), x, y] (tpH sa ns lo p b s) = .ok (.bl (decide (b = 0)), tpH sa ns lo p b s) := evCmp ev_s2 ev_ci (by rfl)
  have tb : ev cf (.cmp .lt (sv 1) (.bi .len false [sv 0])) [some (.ref 0), some (.int n), x, y] (tpH sa ns lo p b s) = .ok (.bl (decide (p < ns.length)), tpH sa ns lo p b s) := evCmp ev_s1 pick_len (by rfl)
  have skip : ev cf (.and (.cmp .eq (sv 2) (ci 0)) (.cmp .lt (sv 1) (.bi .len false [sv 0]))) [some (.ref 0), some (.int n), x, y] (tpH sa ns lo p b s) = .ok (.bl false, tpH sa ns lo p b s) → (exs cf fu pickB [some (.ref 0), some (.int n), x, y] (tpH sa ns lo p b s)).All (PkP sa ns n) := fun t => by
    have s4 := exIf (fu := fu) (x := [.asg (.nm 2) (.bi .abs false [.sub (sv 0) (sv 1)]),
      .asg (.sb (.v 0) (ci 1)) (.bin .add false (sv 1) (ci 1)),
      .ite (.cmp .ge (.v 2) (.bin .pow false (ci 10) (ci 18)))
        [.asg (.sb (.v 0) (ci 2)) (.v 2)]
        [.asg (.sb (.v 0) (ci 3)) (.bin .add false (.bin .mod false (.bi .int false [.bin .add false (.bin .mul false (sv 3) (ci 48271)) (.v 2)]) (ci 2147483646)) (ci 1))]]) (y := []) t
    rw [if_neg Bool.false_ne_true] at s4
    show (exs cf fu (_ :: _) _ _).All _
    rw [exsN (s4.trans rfl)]
    exact pick_mid hn hn2 h0 h1 h2 h3 h4
  by_cases hb : b = 0
  · rw [decide_eq_true hb] at ta
    by_cases hp : p < ns.length
    · rw [decide_eq_true hp] at tb
      obtain ⟨c, hc⟩ : ∃ c, ns[p.toNat]? = some c := ⟨_, List.getElem?_eq_getElem (by omega)⟩
      have t := evAndT ta tb
      generalize hC : (if decide (c < 0) then -c else c) = C
      have C0 : 0 ≤ C := by
        rw [← hC]
        by_cases q : c < 0
        · rw [decide_eq_true q, if_pos rfl]; omega
        · rw [decide_eq_false q, if_neg Bool.false_ne_true]; omega
      have a1 := exNm (fu := fu) (x := 2) (evAbs (pick_cell (cf := cf) (sa := sa) (lo := lo) (b := b) (s := s) (e := [some (.int n), x, y]) h0 hc))
      rw [hC] at a1
      have a2 := exSb (fu := fu) (evAdd (ev_s1 (cf := cf) (sa := sa) (ns := ns) (lo := lo) (p := p) (b := b) (s := s) (e := [some (.int n), some (.int C), y])) (ev_ci (i := 1))) ev_st ev_ci set1
      have pw : ev cf (.bin .pow false (ci 10) (ci 18)) [some (.ref 0), some (.int n), some (.int C), y] (tpH sa ns (min lo 0) (p + 1) b s) = .ok (.int 1000000000000000000, tpH sa ns (min lo 0) (p + 1) b s) := evBin ev_ci ev_ci (by decide +kernel)
      have ec : ∀ {h : Hs}, ev cf (.v 2) [some (.ref 0), some (.int n), some (.int C), y] h = .ok (.int C, h) := rfl
      have a3 : ev cf (.cmp .ge (.v 2) (.bin .pow false (ci 10) (ci 18))) [some (.ref 0), some (.int n), some (.int C), y] (tpH sa ns (min lo 0) (p + 1) b s) = .ok (.bl (decide (C ≥ 1000000000000000000)), tpH sa ns (min lo 0) (p + 1) b s) := evCmp ec pw (by rfl)
      have a4 := exIf (fu := fu) (x := [.asg (.sb (.v 0) (ci 2)) (.v 2)]) (y := [.asg (.sb (.v 0) (ci 3)) (.bin .add false (.bin .mod false (.bi .int false [.bin .add false (.bin .mul false (sv 3) (ci 48271)) (.v 2)]) (ci 2147483646)) (ci 1))]) a3
      have s4 := exIf (fu := fu) (x := [.asg (.nm 2) (.bi .abs false [.sub (sv 0) (sv 1)]),
        .asg (.sb (.v 0) (ci 1)) (.bin .add false (sv 1) (ci 1)),
        .ite (.cmp .ge (.v 2) (.bin .pow false (ci 10) (ci 18)))
          [.asg (.sb (.v 0) (ci 2)) (.v 2)]
          [.asg (.sb (.v 0) (ci 3)) (.bin .add false (.bin .mod false (.bi .int false [.bin .add false (.bin .mul false (sv 3) (ci 48271)) (.v 2)]) (ci 2147483646)) (ci 1))]]) (y := []) t
      rw [if_pos rfl, exsN a1] at s4
      have s5 := s4.trans (exsN a2)
      show (exs cf fu (_ :: _) _ _).All _
      by_cases hC2 : C ≥ 1000000000000000000
      · rw [decide_eq_true hC2, if_pos rfl, exsN (exSb ec ev_st ev_ci set2)] at a4
        rw [exsN (s5.trans ((exsN (a4.trans rfl)).trans rfl))]
        exact pick_mid hn hn2 (by omega) (by omega) (by omega) h3 h4
      · have m1 : bopI .mul s 48271 = some (s * 48271) := bop_mulS (by omega) (by decide)
        have q1 := Int.emod_nonneg (s * 48271 + C) (b := 2147483646) (by decide)
        have q2 := Int.emod_lt_of_pos (s * 48271 + C) (b := 2147483646) (by decide)
        rw [decide_eq_false hC2, if_neg Bool.false_ne_true, exsN (exSb (evAdd (evBin (evInt (evAdd (evBin ev_s3 ev_ci m1) ec)) ev_ci (bop_modS (by decide))) ev_ci) ev_st ev_ci set3)] at a4
        rw [exsN (s5.trans ((exsN (a4.trans rfl)).trans rfl))]
        exact pick_mid hn hn2 (by omega) (by omega) h2 (by omega) (by omega)
    · rw [decide_eq_false hp] at tb
      exact skip (evAndT ta tb)
  · rw [decide_eq_false hb] at ta
    exact skip (evAndF ta)
end
end Eng
/-! The draws: start and pick. -/
namespace Eng
open PySem L2
section
variable {P : Program} {w : World} {K : PySem.W.Frag} {mg : Str → Option Value} {base : Heap} {gl : List (Str × Gk)} {mu : List (Nat × Nat)} {adr : List Addr}
theorem callN_nil {fu d i : Nat} {vs : List Val} {h : Hs} : callN [] fu d i vs h = .no := by
  cases d <;> rfl
theorem prim_of {f : Addr} {np nN : Nat} {body : List S} {g : List Val → Hs → T (Val × Hs)} (hE : EnvOk K mg gl adr) (hC : CodeOk K gl mu f np nN body)
    (run : ∀ (cf : Nat → List Val → Hs → T (Val × Hs)) (N : List Str) (us : List V) (H : Hp) (Q : VK), N.length = nN → rP K g us H Q → us.length = np ∧ tS K (exs cf 0 body) { nx := fun _ H' => Q .non H', rt := Q } (L2.start N us) H) : PrimOk P w K mg base f g := by
  intro k
  obtain ⟨x, qual, st, fd, N, ps, F, S, eN, ep, hc, hb⟩ := hC.ex
  subst ep
  have ih : ∀ (i : Nat) (f : Addr), adr[i]? = some f → FnR P w K mg base CX0 k f (fun vs H Q E => rF K (callN [] 0 k) i vs H Q) := fun i f _ A outer s H us vs Q E hr e0 r hs => by
    obtain ⟨K', al, h, xs, eK, rh, rs, p⟩ := hs
    rw [callN_nil] at p
    exact p.elim
  have G : FnOk P w K mg base CX0 (k + 1) f fd ps fun vs H Q E => rP K g vs H Q := by
    refine F.ok S (fun us H Q E h => (run (callN [] 0 k) N us H Q eN h).1) fun cdv A outer s H vs Q E hr hsp => ?_
    exact ⟨_, cD_ok (good_of hE ih S hr) hc, (run (callN [] 0 k) N vs H Q eN hsp).2⟩
  refine FnR.imp (FnOk.raw G (F.binds hb) .nil) fun vs H Q E h => ?_
  rw [List.append_nil]
  exact h
end
def startB (n : Int) : List S := [.ret (.lst true [.v 0, ci 0, ci 0, ci n])]
theorem tapeOk_of {K : Cn} {al : List Addr} {H : Hp} {a sa : Addr} {ns : List Int} {us : List V} {p b s : Int} (hl : ns.length ≤ 63) (e : H a = some (.lst us)) (r : RVs K al H [.sl sa ns, .int p, .int b, .int s] us) (h0 : 0 ≤ p) (h1 : p ≤ 63) (h2 : 0 ≤ b) (h3 : 0 ≤ s) (h4 : s ≤ 2147483647) : TapeOk K al H a ∧ us = [.ref sa, .int p, .int b, .int s] := by
  simp only [RVs, RV] at r
  obtain ⟨_, _, e1, ⟨e2, st⟩, _, _, e3, e4, _, _, e5, e6, _, _, e7, e8, e9⟩ := r
  subst e9 e8 e7 e6 e5 e4 e3 e2 e1
  exact ⟨⟨sa, ns, p, b, s, e, st, hl, h0, h1, h2, h3, h4⟩, rfl⟩
theorem start_run {K : PySem.W.Frag} {n : Int} (h0 : 0 ≤ n) (h1 : n ≤ 2147483647) (cf : Nat → List Val → Hs → T (Val × Hs)) (N : List Str) (us : List V) (H : Hp) (Q : VK) (eN : N.length = 1) (q : rP K startV us H Q) :
    us.length = 1 ∧ tS K (exs cf 0 (startB n)) { nx := fun _ H' => Q .non H', rt := Q } (L2.start N us) H := by
  obtain ⟨K', al, h, vs, eK, rh, rs, p⟩ := q
  unfold startV at p
  split at p
  · obtain ⟨u, eu, ru⟩ := rs.one_of
    subst eu
    obtain ⟨sa, ns, e1, st, hl⟩ := ru.scr_of
    subst e1
    have rs' : RVs K' al H [.sl sa ns] [.ref sa] := .one (by simp only [RV]; exact ⟨trivial, st⟩)
    refine ⟨rfl, K', al, _, h, eK, rh, start_ok rs', ?_⟩
    rw [eN]
    show Pd K' al h H _ (.rt (.ref h.n), _, h.new (.lst [.sl sa ns, .int 0, .int 0, .int n]))
    intro al' H' σ' e rh' re' u ru'
    have hos := rh.os
    obtain ⟨a, eu, ea⟩ := ru'.ref_of
    have g0 : (h.new (.lst [.sl sa ns, .int 0, .int 0, .int n])).get h.n = some (.lst [.sl sa ns, .int 0, .int 0, .int n]) := by
      rw [Hs.get_new _ _ hos, if_pos rfl]
    obtain ⟨us, q1, q2⟩ := rh'.ob h.n a _ ea g0
    have nk : (h.new (.lst [.sl sa ns, .int 0, .int 0, .int n])).lk.contains h.n = false := by
      cases z : h.lk.contains h.n with
      | false => exact z
      | true => exact absurd (rh.lkb _ z) (Nat.lt_irrefl _)
    rw [nk, if_neg Bool.false_ne_true] at q1
    refine p al' H' u { e with sm := fun l l1 l2 => ?_ } ⟨rh'.len, ?_, rh'.nd, rh'.lkb, rh'.fb, fun l b o e1 e2 => ?_⟩ ru'
    · rw [Hs.get_new _ _ hos, if_neg (Nat.ne_of_lt l2)]
    · show _ = h.n + 1
      rw [← hos]; rfl
    · rw [Hs.get_new _ _ hos] at e2
      by_cases z : l = h.n
      · rw [if_pos z] at e2
        cases e2
        subst z
        rw [ea] at e1
        cases e1
        exact (tapeOk_of hl q1 q2 (by omega) (by omega) (by omega) h0 h1).1
      · rw [if_neg z] at e2
        exact rh'.ob l b o e1 (by rw [Hs.get_new _ _ hos, if_neg z]; exact e2)
  · exact p.elim
theorem pick_ok {K : PySem.W.Frag} (cf : Nat → List Val → Hs → T (Val × Hs)) (N : List Str) (us : List V) (H : Hp) (Q : VK) (eN : N.length = 4) (q : rP K pickV us H Q) :
    us.length = 2 ∧ tS K (exs cf 0 pickB) { nx := fun _ H' => Q .non H', rt := Q } (L2.start N us) H := by
  obtain ⟨K', al, h, vs, eK, rh, rs, p⟩ := q
  unfold pickV at p
  split at p
  · rename_i l n
    split at p
    · rename_i q1
      split at p
      · rename_i q2
        rw [Bool.and_eq_true, decide_eq_true_eq, decide_eq_true_eq] at q2
        simp only [RVs] at rs
        obtain ⟨u1, r1, e1, ru1, u2, r2, e2, ru2, e3⟩ := rs
        subst e3 e2 e1
        obtain ⟨a, eu, ea⟩ := ru1.ref_of
        have e4 := ru2.int_of
        subst eu e4
        obtain ⟨sa, ns, pp, b, s, eH, st, hl, i1, i2, i3, i4, i5⟩ := rh.ob l a _ ea q1
        have ne : sa ≠ a ∨ ∃ (o : Obj) (its : Array Value) (n : Nat), K'.K.lookup sa = some o ∧ o.cls = .type "list" ∧ o.dict = none ∧ o.data = .seq its n ∧ its.size ≤ sizeLine ∧ Vals (ns.map V.int) its.toList := by
          rcases st with st | st
          · exact .inl fun z => st.2.1 (z ▸ List.mem_of_getElem? ea)
          · exact .inr st
        have st2 : StL ⟨K'.K, []⟩ [a] H sa (ns.map V.int) := by
          rcases st with st | st
          · refine .inl ⟨st.1, fun m => ?_, by simp⟩
            rw [List.mem_singleton] at m
            exact st.2.1 (m ▸ List.mem_of_getElem? ea)
          · exact .inr st
        have rsl : RVs ⟨K'.K, []⟩ [a] H [.sl sa ns, .int pp, .int b, .int s] [.ref sa, .int pp, .int b, .int s] := by
          simp only [RVs, RV]
          exact ⟨_, _, rfl, ⟨rfl, st2⟩, _, _, rfl, rfl, _, _, rfl, rfl, _, _, rfl, rfl, rfl⟩
        have rh2 : RH ⟨K'.K, []⟩ [a] (tpH sa ns 1 pp b s) H := by
          refine ⟨rfl, rfl, by simp, fun l z => (by cases z), fun x m => (by cases m), fun l x o e1 e2 => ?_⟩
          cases l with
          | succ l => simp at e1
          | zero =>
            cases e1
            cases e2
            exact ⟨_, by rw [if_neg (by show ¬ (([] : List Nat).contains 0 = true); decide)]; exact eH, rsl⟩
        have rs2 : RVs ⟨K'.K, []⟩ [a] H [.ref 0, .int n] [.ref a, .int n] := by
          simp only [RVs, RV]
          exact ⟨_, _, rfl, ⟨a, rfl, rfl⟩, _, _, rfl, rfl, rfl⟩
        refine ⟨rfl, ⟨K'.K, []⟩, [a], _, tpH sa ns 1 pp b s, eK, rh2, start_ok rs2, ?_⟩
        rw [eN]
        refine T.all_mono (fun r z => ?_) (pick_run (cf := cf) (fu := 0) (lo := 1) (sa := sa) (x := none) (y := none) hl q2.1 q2.2 i1 i2 i3 i4 i5)
        obtain ⟨fl, s1, h1⟩ := r
        obtain ⟨i, p', b', s', lo', z1, z2, z3, z4, z5, z6, z7, z8, z9⟩ := z
        simp only at z1 z2
        subst z1 z2
        intro al' H' σ' e rh' re' u ru'
        have eu := ru'.int_of
        subst eu
        have ea' : al'[0]? = some a := e.pre 0 a rfl
        obtain ⟨us, y1, y2⟩ := rh'.ob 0 a _ ea' rfl
        rw [if_neg (by show ¬ (([] : List Nat).contains 0 = true); decide)] at y1
        obtain ⟨⟨sa', ns', p2, b2, s2, yH, yst, yl, y3⟩, y4⟩ := tapeOk_of hl y1 y2 z5 z6 z7 z8 z9
        have keep : ∀ x o, x ≠ a → H x = some o → H' x = some o := fun x o hx hq => (e.keep x o (by simpa using hx) hq).1
        have kp : Kp al H al H' := ⟨fun _ _ z => z, fun x o nx hq => ⟨keep x o (fun z => nx (z ▸ List.mem_of_getElem? ea)) hq, nx⟩⟩
        have ex : Ext al h H al h H' := { kp with frz := fun x o u hq => keep x _ (fun z => by rw [z, eH] at hq; cases hq) hq, lo := Nat.le_refl _, sm := fun _ _ _ => rfl, n := Nat.le_refl _, lk := rfl }
        have z := p i.toNat (by omega) al H' (.int i) ex ⟨rh.len, rh.os, rh.nd, rh.lkb, fun x m => ?_, fun m x o e1 e2 => ?_⟩ (by simp only [RV]; rw [Int.toNat_of_nonneg z3])
        · exact z
        · obtain ⟨m1, o, m2, nt⟩ := rh.fb x m
          exact ⟨m1, o, keep x o (fun z => m1 (z ▸ List.mem_of_getElem? ea)) m2, nt⟩
        · by_cases hm : m = l
          · subst hm
            rw [ea] at e1
            cases e1
            rw [q1] at e2
            cases e2
            have : us = [.ref sa', .int p2, .int b2, .int s2] := by
              rw [y1] at yH
              cases yH
              rfl
            rw [this] at y4
            cases y4
            exact ⟨sa, ns, p', b', s', yH, (st.mono kp), hl, z5, z6, z7, z8, z9⟩
          · have hx : x ≠ a := fun z => hm (rh.inj e1 (z ▸ ea))
            obtain ⟨o2, ho2⟩ := rh.has (List.mem_of_getElem? e1)
            exact (rh.ob m x o e1 e2).mono kp (by rw [ho2]; exact keep x o2 hx ho2)
      · exact p.elim
    · exact p.elim
  · exact p.elim
end Eng
/-! The draws: next. -/
namespace Eng
open PySem L2
def nextI : List S := [.asg (.nm 2) (.v 3),
  .ite (.cmp .lt (.v 3) (.bin .pow false (ci 10) (ci 18)))
    [.asg (.sb (.v 0) (ci 3)) (.bin .mod false (.bi .int false [.bin .add false (.bin .add false (.bin .mul false (sv 3) (ci 69621)) (.bin .mul false (.v 3) (ci 40692))) (ci 17)]) (ci 2147483647)),
      .ret (.bin .mod false (.bin .mod false (.bi .int false [.bin .mul false (.bi .int false [.bin .fdiv false (sv 3) (ci 5)]) (ci 48271)]) (ci 2147483647)) (.v 1))] []]
def nextB : List S := [.asg (.nm 2) (sv 2),
  .ite (.cmp .eq (.v 2) (ci 0))
    (.asg (.nm 3) (ci 0) ::
      .ite (.cmp .lt (sv 1) (.bi .len false [sv 0]))
        [.asg (.nm 3) (.bi .abs false [.bi .int false [.sub (sv 0) (sv 1)]]),
          .asg (.sb (.v 0) (ci 1)) (.bin .add false (sv 1) (ci 1))] [] :: nextI) [],
  .asg (.sb (.v 0) (ci 2)) (.bin .fdiv false (.v 2) (.v 1)),
  .ret (.bin .mod false (.bi .int false [.v 2]) (.v 1))]
section
variable {cf : Nat → List Val → Hs → T (Val × Hs)} {fu : Nat} {sa : Addr} {ns : List Int} {lo : Nat} {p b s n : Int} {e : Env}
theorem next_end {r : Int} {y : Option Val} (hn : 0 < n) (hn2 : n ≤ 1000000000000000000) (h0 : 0 ≤ p) (h1 : p ≤ 63) (hr : 0 ≤ r) (h3 : 0 ≤ s) (h4 : s ≤ 2147483647) :
    (exs cf fu (nextB.drop 2) [some (.ref 0), some (.int n), some (.int r), y] (tpH sa ns lo p b s)).All (PkP sa ns n) := by
  have en : ∀ {h : Hs}, ev cf (.v 1) [some (.ref 0), some (.int n), some (.int r), y] h = .ok (.int n, h) := rfl
  have er : ∀ {h : Hs}, ev cf (.v 2) [some (.ref 0), some (.int n), some (.int r), y] h = .ok (.int r, h) := rfl
  have s1 := exSb (fu := fu) (evBin (er (h := tpH sa ns lo p b s)) en (bop_divS (i := r) hn (by omega))) ev_st ev_ci set2
  have s2 := exRet (fu := fu) (evBin (evInt (er (h := tpH sa ns (min lo 0) p (r / n) s))) en (bop_modS (i := r) hn))
  show (exs cf fu (_ :: _ :: []) _ _).All _
  rw [exsN s1, exsR s2]
  exact ⟨_, p, r / n, s, _, rfl, rfl, Int.emod_nonneg _ (by omega), Int.emod_lt_of_pos _ hn, h0, h1, Int.ediv_nonneg hr (by omega), h3, h4⟩
theorem next_in {C : Int} {x : Option Val} (hn : 0 < n) (hn2 : n ≤ 1000000000000000000) (h0 : 0 ≤ p) (h1 : p ≤ 63) (h2 : 0 ≤ b) (hC : 0 ≤ C) (h3 : 0 ≤ s) (h4 : s ≤ 2147483647) :
    (∃ i t, exs cf fu nextI [some (.ref 0), some (.int n), x, some (.int C)] (tpH sa ns lo p b s) = .ok (.rt (.int i), [some (.ref 0), some (.int n), some (.int C), some (.int C)], tpH sa ns (min lo 0) p b t) ∧ 0 ≤ i ∧ i < n ∧ 0 ≤ t ∧ t ≤ 2147483647) ∨
    exs cf fu nextI [some (.ref 0), some (.int n), x, some (.int C)] (tpH sa ns lo p b s) = .ok (.nx, [some (.ref 0), some (.int n), some (.int C), some (.int C)], tpH sa ns lo p b s) := by
  have e0 : ∀ {h : Hs}, ev cf (.v 3) [some (.ref 0), some (.int n), x, some (.int C)] h = .ok (.int C, h) := rfl
  have a1 := exNm (fu := fu) (x := 2) (e0 (h := tpH sa ns lo p b s))
  have en : ∀ {h : Hs}, ev cf (.v 1) [some (.ref 0), some (.int n), some (.int C), some (.int C)] h = .ok (.int n, h) := rfl
  have ec : ∀ {h : Hs}, ev cf (.v 3) [some (.ref 0), some (.int n), some (.int C), some (.int C)] h = .ok (.int C, h) := rfl
  have pw : ev cf (.bin .pow false (ci 10) (ci 18)) [some (.ref 0), some (.int n), some (.int C), some (.int C)] (tpH sa ns lo p b s) = .ok (.int 1000000000000000000, tpH sa ns lo p b s) := evBin ev_ci ev_ci (by decide +kernel)
  have t1 : ev cf (.cmp .lt (.v 3) (.bin .pow false (ci 10) (ci 18))) [some (.ref 0), some (.int n), some (.int C), some (.int C)] (tpH sa ns lo p b s) = .ok (.bl (decide (C < 1000000000000000000)), tpH sa ns lo p b s) := evCmp ec pw (by rfl)
  have i1 := exIf (fu := fu) (x := [.asg (.sb (.v 0) (ci 3)) (.bin .mod false (.bi .int false [.bin .add false (.bin .add false (.bin .mul false (sv 3) (ci 69621)) (.bin .mul false (.v 3) (ci 40692))) (ci 17)]) (ci 2147483647)),
      .ret (.bin .mod false (.bin .mod false (.bi .int false [.bin .mul false (.bi .int false [.bin .fdiv false (sv 3) (ci 5)]) (ci 48271)]) (ci 2147483647)) (.v 1))]) (y := []) t1
  by_cases hlt : C < 1000000000000000000
  · left
    rw [decide_eq_true hlt, if_pos rfl] at i1
    have m1 : bopI .mul s 69621 = some (s * 69621) := bop_mulS (by omega) (by decide)
    have m2 : bopI .mul C 40692 = some (C * 40692) := bop_mulS (by omega) (by decide)
    have m3 : bopI .mod (s * 69621 + C * 40692 + 17) 2147483647 = some ((s * 69621 + C * 40692 + 17) % 2147483647) := bop_modS (by decide)
    have q1 := Int.emod_nonneg (s * 69621 + C * 40692 + 17) (b := 2147483647) (by decide)
    have q2 := Int.emod_lt_of_pos (s * 69621 + C * 40692 + 17) (b := 2147483647) (by decide)
    generalize ht : (s * 69621 + C * 40692 + 17) % 2147483647 = t at m3 q1 q2
    have m4 : bopI .fdiv t 5 = some (t / 5) := bop_divS (by decide) (by decide)
    have m5 : bopI .mul (t / 5) 48271 = some (t / 5 * 48271) := bop_mulS (by omega) (by decide)
    have m6 : bopI .mod (t / 5 * 48271) 2147483647 = some (t / 5 * 48271 % 2147483647) := bop_modS (by decide)
    have m7 : bopI .mod (t / 5 * 48271 % 2147483647) n = some (t / 5 * 48271 % 2147483647 % n) := bop_modS hn
    have s1 := exSb (fu := fu) (evBin (evInt (evAdd (evAdd (evBin (ev_s3 (cf := cf) (sa := sa) (ns := ns) (lo := lo) (p := p) (b := b) (s := s) (e := [some (.int n), some (.int C), some (.int C)])) (ev_ci (i := 69621)) m1) (evBin ec (ev_ci (i := 40692)) m2)) (ev_ci (i := 17)))) (ev_ci (i := 2147483647)) m3) ev_st ev_ci set3
    have s2 := exRet (fu := fu) (evBin (evBin (evInt (evBin (evInt (evBin (ev_s3 (cf := cf) (sa := sa) (ns := ns) (lo := min lo 0) (p := p) (b := b) (s := t) (e := [some (.int n), some (.int C), some (.int C)])) (ev_ci (i := 5)) m4)) (ev_ci (i := 48271)) m5)) (ev_ci (i := 2147483647)) m6) en m7)
    refine ⟨t / 5 * 48271 % 2147483647 % n, t, ?_, Int.emod_nonneg _ (by omega), Int.emod_lt_of_pos _ hn, q1, by omega⟩
    exact (exsN a1).trans (exsR (i1.trans ((exsN s1).trans (exsR s2))))
  · right
    rw [decide_eq_false hlt, if_neg Bool.false_ne_true] at i1
    exact (exsN a1).trans (exsN (i1.trans rfl))
theorem next_run (hl : ns.length ≤ 63) {x y : Option Val} (hn : 0 < n) (hn2 : n ≤ 1000000000000000000) (h0 : 0 ≤ p) (h1 : p ≤ 63) (h2 : 0 ≤ b) (h3 : 0 ≤ s) (h4 : s ≤ 2147483647) :
    (exs cf fu nextB [some (.ref 0), some (.int n), x, y] (tpH sa ns lo p b s)).All (PkP sa ns n) := by
  have a1 := exNm (fu := fu) (x := 2) (ev_s2 (cf := cf) (sa := sa) (ns := ns) (lo := lo) (p := p) (b := b) (s := s) (e := [some (.int n), x, y]))
  have e2 : ∀ {h : Hs}, ev cf (.v 2) [some (.ref 0), some (.int n), some (.int b), y] h = .ok (.int b, h) := rfl
  have ta : ev cf (.cmp .eq (.v 2) (ci 0)) [some (.ref 0), some (.int n), some (.int b), y] (tpH sa ns lo p b s) = .ok (.bl (decide (b = 0)), tpH sa ns lo p b s) := evCmp e2 ev_ci (by rfl)
  have i1 := exIf (fu := fu) (x := .asg (.nm 3) (ci 0) ::
      .ite (.cmp .lt (sv 1) (.bi .len false [sv 0]))
        [.asg (.nm 3) (.bi .abs false [.bi .int false [.sub (sv 0) (sv 1)]]),
          .asg (.sb (.v 0) (ci 1)) (.bin .add false (sv 1) (ci 1))] [] :: nextI) (y := []) ta
  show (exs cf fu (_ :: _) _ _).All _
  rw [exsN a1]
  show (exs cf fu (_ :: _) [some (.ref 0), some (.int n), some (.int b), y] _).All _
  by_cases hb : b = 0
  · rw [decide_eq_true hb, if_pos rfl] at i1
    have c0 := exNm (fu := fu) (x := 3) (ev_ci (cf := cf) (e := [some (.ref 0), some (.int n), some (.int b), y]) (i := 0) (h := tpH sa ns lo p b s))
    have tb : ev cf (.cmp .lt (sv 1) (.bi .len false [sv 0])) [some (.ref 0), some (.int n), some (.int b), some (.int 0)] (tpH sa ns lo p b s) = .ok (.bl (decide (p < ns.length)), tpH sa ns lo p b s) := evCmp ev_s1 pick_len (by rfl)
    have i2 := exIf (fu := fu) (x := [.asg (.nm 3) (.bi .abs false [.bi .int false [.sub (sv 0) (sv 1)]]),
          .asg (.sb (.v 0) (ci 1)) (.bin .add false (sv 1) (ci 1))]) (y := []) tb
    have fin : ∀ {C p' : Int} {lo' : Nat}, 0 ≤ C → 0 ≤ p' → p' ≤ 63 → exs cf fu (.asg (.nm 3) (ci 0) ::
      .ite (.cmp .lt (sv 1) (.bi .len false [sv 0]))
        [.asg (.nm 3) (.bi .abs false [.bi .int false [.sub (sv 0) (sv 1)]]),
          .asg (.sb (.v 0) (ci 1)) (.bin .add false (sv 1) (ci 1))] [] :: nextI) [some (.ref 0), some (.int n), some (.int b), y] (tpH sa ns lo p b s) = exs cf fu nextI [some (.ref 0), some (.int n), some (.int b), some (.int C)] (tpH sa ns lo' p' b s) →
        (exs cf fu (_ :: nextB.drop 2) [some (.ref 0), some (.int n), some (.int b), y] (tpH sa ns lo p b s)).All (PkP sa ns n) := fun {C p' lo'} hC hp0 hp1 he => by
      rw [he] at i1
      rcases next_in (cf := cf) (fu := fu) (sa := sa) (ns := ns) (lo := lo') (x := some (.int b)) hn hn2 hp0 hp1 h2 hC h3 h4 with ⟨i, t, ee, z1, z2, z3, z4⟩ | ee
      · rw [exsR (i1.trans ee)]
        exact ⟨i, p', b, t, _, rfl, rfl, z1, z2, hp0, hp1, h2, z3, z4⟩
      · rw [exsN (i1.trans ee)]
        exact next_end hn hn2 hp0 hp1 hC h3 h4
    by_cases hp : p < ns.length
    · obtain ⟨c, hc⟩ : ∃ c, ns[p.toNat]? = some c := ⟨_, List.getElem?_eq_getElem (by omega)⟩
      generalize hC : (if decide (c < 0) then -c else c) = C
      have C0 : 0 ≤ C := by
        rw [← hC]
        by_cases q : c < 0
        · rw [decide_eq_true q, if_pos rfl]; omega
        · rw [decide_eq_false q, if_neg Bool.false_ne_true]; omega
      rw [decide_eq_true hp, if_pos rfl] at i2
      have a3 := exNm (fu := fu) (x := 3) (evAbs (evInt (pick_cell (cf := cf) (sa := sa) (lo := lo) (b := b) (s := s) (e := [some (.int n), some (.int b), some (.int 0)]) h0 hc)))
      rw [hC] at a3
      have a4 := exSb (fu := fu) (evAdd (ev_s1 (cf := cf) (sa := sa) (ns := ns) (lo := lo) (p := p) (b := b) (s := s) (e := [some (.int n), some (.int b), some (.int C)])) (ev_ci (i := 1))) ev_st ev_ci set1
      exact fin (C := C) (p' := p + 1) (lo' := min lo 0) C0 (by omega) (by omega) ((exsN c0).trans (exsN (i2.trans ((exsN a3).trans ((exsN a4).trans rfl)))))
    · rw [decide_eq_false hp, if_neg Bool.false_ne_true] at i2
      exact fin (C := 0) (p' := p) (lo' := lo) (Int.le_refl _) h0 h1 ((exsN c0).trans (exsN (i2.trans rfl)))
  · rw [decide_eq_false hb, if_neg Bool.false_ne_true] at i1
    rw [exsN (i1.trans rfl)]
    exact next_end hn hn2 h0 h1 h2 h3 h4
end
/-- a draw from a list of draws, whatever its body is -/
theorem draw_ok {K : PySem.W.Frag} {cf : Nat → List Val → Hs → T (Val × Hs)} {B : List S} (N : List Str) (us : List V) (H : Hp) (Q : VK) (eN : N.length = 4)
    (run : ∀ {sa : Addr} {ns : List Int} {n p b s : Int}, ns.length ≤ 63 → 0 < n → n ≤ 1000000000000000000 → 0 ≤ p → p ≤ 63 → 0 ≤ b → 0 ≤ s → s ≤ 2147483647 → (exs cf 0 B [some (.ref 0), some (.int n), none, none] (tpH sa ns 1 p b s)).All (PkP sa ns n))
    {K' : Cn} {al : List Addr} {h : Hs} {l : Nat} {n : Int} (eK : K'.K = K) (rh : RH K' al h H) (rs : RVs K' al H [.ref l, .int n] us) (q1 : h.get l = some .tape) (hn : 0 < n) (hn2 : n ≤ 1000000000000000000) {al0 : List Addr} {h0 : Hs} {H0 : Hp} (e0 : Ext al0 h0 H0 al h H)
    (p : ∀ i : Nat, i < n.toNat → Pt K' al0 h0 H0 Q (.int (i : Int), h)) :
    us.length = 2 ∧ tS K (exs cf 0 B) { nx := fun _ H' => Q .non H', rt := Q } (L2.start N us) H := by
  have p : ∀ i : Nat, i < n.toNat → Pt K' al h H Q (.int (i : Int), h) := fun i hi => (p i hi).trans e0
  simp only [RVs] at rs
  obtain ⟨u1, r1, e1, ru1, u2, r2, e2, ru2, e3⟩ := rs
  subst e3 e2 e1
  obtain ⟨a, eu, ea⟩ := ru1.ref_of
  have e4 := ru2.int_of
  subst eu e4
  obtain ⟨sa, ns, pp, b, s, eH, st, hl, i1, i2, i3, i4, i5⟩ := rh.ob l a _ ea q1
  have st2 : StL ⟨K'.K, []⟩ [a] H sa (ns.map V.int) := by
    rcases st with st | st
    · refine .inl ⟨st.1, fun m => ?_, by simp⟩
      rw [List.mem_singleton] at m
      exact st.2.1 (m ▸ List.mem_of_getElem? ea)
    · exact .inr st
  have rsl : RVs ⟨K'.K, []⟩ [a] H [.sl sa ns, .int pp, .int b, .int s] [.ref sa, .int pp, .int b, .int s] := by
    simp only [RVs, RV]
    exact ⟨_, _, rfl, ⟨rfl, st2⟩, _, _, rfl, rfl, _, _, rfl, rfl, _, _, rfl, rfl, rfl⟩
  have rh2 : RH ⟨K'.K, []⟩ [a] (tpH sa ns 1 pp b s) H := by
    refine ⟨rfl, rfl, by simp, fun l z => (by cases z), fun x m => (by cases m), fun l x o e1 e2 => ?_⟩
    cases l with
    | succ l => simp at e1
    | zero =>
      cases e1
      cases e2
      exact ⟨_, by rw [if_neg (by show ¬ (([] : List Nat).contains 0 = true); decide)]; exact eH, rsl⟩
  have rs2 : RVs ⟨K'.K, []⟩ [a] H [.ref 0, .int n] [.ref a, .int n] := by
    simp only [RVs, RV]
    exact ⟨_, _, rfl, ⟨a, rfl, rfl⟩, _, _, rfl, rfl, rfl⟩
  refine ⟨rfl, ⟨K'.K, []⟩, [a], _, tpH sa ns 1 pp b s, eK, rh2, start_ok rs2, ?_⟩
  rw [eN]
  refine T.all_mono (fun r z => ?_) (run (sa := sa) (ns := ns) hl hn hn2 i1 i2 i3 i4 i5)
  obtain ⟨fl, s1, h1⟩ := r
  obtain ⟨i, p', b', s', lo', z1, z2, z3, z4, z5, z6, z7, z8, z9⟩ := z
  simp only at z1 z2
  subst z1 z2
  intro al' H' σ' e rh' re' u ru'
  have eu := ru'.int_of
  subst eu
  have ea' : al'[0]? = some a := e.pre 0 a rfl
  obtain ⟨us, y1, y2⟩ := rh'.ob 0 a _ ea' rfl
  rw [if_neg (by show ¬ (([] : List Nat).contains 0 = true); decide)] at y1
  obtain ⟨⟨sa', ns', p2, b2, s2, yH, yst, yl, y3⟩, y4⟩ := tapeOk_of hl y1 y2 z5 z6 z7 z8 z9
  have keep : ∀ x o, x ≠ a → H x = some o → H' x = some o := fun x o hx hq => (e.keep x o (by simpa using hx) hq).1
  have kp : Kp al H al H' := ⟨fun _ _ z => z, fun x o nx hq => ⟨keep x o (fun z => nx (z ▸ List.mem_of_getElem? ea)) hq, nx⟩⟩
  have ex : Ext al h H al h H' := { kp with frz := fun x o u hq => keep x _ (fun z => by rw [z, eH] at hq; cases hq) hq, lo := Nat.le_refl _, sm := fun _ _ _ => rfl, n := Nat.le_refl _, lk := rfl }
  have z := p i.toNat (by omega) al H' (.int i) ex ⟨rh.len, rh.os, rh.nd, rh.lkb, fun x m => ?_, fun m x o e1 e2 => ?_⟩ (by simp only [RV]; rw [Int.toNat_of_nonneg z3])
  · exact z
  · obtain ⟨m1, o, m2, nt⟩ := rh.fb x m
    exact ⟨m1, o, keep x o (fun z => m1 (z ▸ List.mem_of_getElem? ea)) m2, nt⟩
  · by_cases hm : m = l
    · subst hm
      rw [ea] at e1
      cases e1
      rw [q1] at e2
      cases e2
      have : us = [.ref sa', .int p2, .int b2, .int s2] := by
        rw [y1] at yH
        cases yH
        rfl
      rw [this] at y4
      cases y4
      exact ⟨sa, ns, p', b', s', yH, (st.mono kp), hl, z5, z6, z7, z8, z9⟩
    · have hx : x ≠ a := fun z => hm (rh.inj e1 (z ▸ ea))
      obtain ⟨o2, ho2⟩ := rh.has (List.mem_of_getElem? e1)
      exact (rh.ob m x o e1 e2).mono kp (by rw [ho2]; exact keep x o2 hx ho2)
/-- a list of draws that is written out, taken for one -/
theorem tape_of {K : Cn} {al : List Addr} {h : Hs} {H : Hp} {l : Nat} {a : Addr} {xs : List Val} (rh : RH K al h H) (ea : al[l]? = some a) (g : h.get l = some (.lst xs)) (t : tapeL xs = true) (lk : h.lk.contains l = false) : RH K al (h.put l .tape) H ∧ Ext al h H al (h.put l .tape) H := by
  have hl : l < h.n := by rw [← rh.len]; exact (List.getElem?_eq_some_iff.mp ea).1
  have tk : TapeOk K al H a := by
    obtain ⟨us, q, r⟩ := rh.ob l a _ ea g
    rw [lk, if_neg Bool.false_ne_true] at q
    unfold tapeL at t
    split at t
    · rename_i p b s
      simp only [Bool.and_eq_true, decide_eq_true_eq] at t
      simp only [RVs, RV] at r
      obtain ⟨_, _, e1, ⟨sa, ns, e2, st, hl2⟩, _, _, e3, e4, _, _, e5, e6, _, _, e7, e8, e9⟩ := r
      subst e9 e8 e7 e6 e5 e4 e3 e2 e1
      exact ⟨sa, ns, p, b, s, q, st, hl2, t.1.1.1.1, t.1.1.1.2, t.1.1.2, t.1.2, t.2⟩
    · cases t
  refine ⟨⟨rh.len, by simp [Hs.put, rh.os], rh.nd, rh.lkb, rh.fb, fun m b o e1 e2 => ?_⟩, { Kp.refl with frz := fun _ _ _ e => e, lo := Nat.min_le_left _ _, sm := fun m e1 e2 => ?_, n := Nat.le_refl _, lk := rfl }⟩
  · rw [Hs.get_put h .tape rh.os hl] at e2
    by_cases em : m = l
    · subst em
      rw [if_pos rfl] at e2
      cases e2
      rw [ea] at e1
      cases e1
      exact tk
    · rw [if_neg em] at e2
      exact rh.ob m b o e1 e2
  · rw [Hs.get_put h .tape rh.os hl, if_neg]
    have : (h.put l .tape).lo = min h.lo l := rfl
    rw [this] at e1
    omega
theorem next_ok {K : PySem.W.Frag} (cf : Nat → List Val → Hs → T (Val × Hs)) (N : List Str) (us : List V) (H : Hp) (Q : VK) (eN : N.length = 4) (q : rP K nextV us H Q) :
    us.length = 2 ∧ tS K (exs cf 0 nextB) { nx := fun _ H' => Q .non H', rt := Q } (L2.start N us) H := by
  obtain ⟨K', al, h, vs, eK, rh, rs, p⟩ := q
  unfold nextV at p
  split at p
  · rename_i l n
    split at p
    · rename_i q2
      rw [Bool.and_eq_true, decide_eq_true_eq, decide_eq_true_eq] at q2
      split at p
      · rename_i q1
        exact draw_ok N us H Q eN (fun hl hn hn2 i1 i2 i3 i4 i5 => next_run (lo := 1) hl hn hn2 i1 i2 i3 i4 i5) eK rh rs q1 q2.1 q2.2 Ext.refl p
      · rename_i xs q1
        split at p
        · rename_i q3
          rw [Bool.and_eq_true, Bool.not_eq_true'] at q3
          have rs0 := rs
          simp only [RVs] at rs0
          obtain ⟨u1, r1, e1, ru1, u2, r2, e2, ru2, e3⟩ := rs0
          obtain ⟨a, eu, ea⟩ := ru1.ref_of
          obtain ⟨rh2, ex2⟩ := tape_of rh ea q1 q3.1 q3.2
          have hl : l < h.n := by rw [← rh.len]; exact (List.getElem?_eq_some_iff.mp ea).1
          have g2 : (h.put l .tape).get l = some .tape := by rw [Hs.get_put h .tape rh.os hl, if_pos rfl]
          exact draw_ok N us H Q eN (fun hl hn hn2 i1 i2 i3 i4 i5 => next_run (lo := 1) hl hn hn2 i1 i2 i3 i4 i5) eK rh2 (rs.mono ex2.toKp) g2 q2.1 q2.2 ex2 p
        · exact p.elim
      · exact p.elim
    · exact p.elim
  · exact p.elim
end Eng
/-! The law's def, the head. -/
namespace Eng
open PySem L2
def h00 : Hs := ⟨[], 0, 0, []⟩
def spL (K : PySem.W.Frag) (cf : Nat → List Val → Hs → T (Val × Hs)) (fu nN : Nat) (body : List S) : Sp := fun vs H Q _ => vs.length = 1 ∧ rP K (runF cf fu nN body false) vs H Q
section
variable {P : Program} {w : World} {K : PySem.W.Frag} {mg : Str → Option Value} {base : Heap} {gl : List (Str × Gk)} {mu : List (Nat × Nat)} {adr : List Addr} {tab : List Fn} {fu : Nat}
theorem law_ok (d : Nat) (hE : EnvOk K mg gl adr) (hT : ∀ (i : Nat) (f : Addr), adr[i]? = some f → ∃ fn, tab[i]? = some fn ∧ EntOk P w K mg base gl mu f fn) {x qual : Str} {st : Stmt} {f : Addr} {fd : FuncData} {N : List Str} {body : List S}
    (F : Fun K x qual st f fd) (S : FnScope N ["script"] (defScope st)) (hc : cD ⟨N, defScope st, fun _ => true, gl, mu⟩ (defBody st) = some body) : FnOk P w K mg base CX0 (d + 1) f fd ["script"] (spL K (callN tab fu d) fu N.length body) := by
  refine F.ok S (fun vs H Q E h => h.1) fun cdv A outer s H vs Q E hr hsp => ?_
  obtain ⟨hl, K', al, h, xs, eK, rh, rs, p⟩ := hsp
  exact ⟨_, cD_ok (good_of hE (all_ok hE hT d) S hr) hc, run_ok eK rh rs p⟩
theorem sp_law {cf : Nat → List Val → Hs → T (Val × Hs)} {nN : Nat} {body : List S} (p : (runF cf fu nN body false [.scr] h00).All fun r => r.1 = .bl true) {H : Hp} {a : Addr} {ns : List Int} (hl : ns.length ≤ 63) (hS : SqL K H a (ns.map V.int)) :
    spL K cf fu nN body [.ref a] H (fun v _ => v = .bl true) fun _ _ _ => False := by
  refine ⟨rfl, ⟨K, []⟩, [], h00, [.scr], rfl, ⟨rfl, rfl, by simp, fun l z => (by cases z), fun x m => (by cases m), fun l x o e => (by simp at e)⟩, .one ?_, T.all_mono (fun r z al' H' u e rh ru => ?_) p⟩
  · simp only [RV]
    refine ⟨a, ns, rfl, ?_, hl⟩
    rcases hS with hS | hS
    · exact .inl ⟨hS, by simp, by simp⟩
    · exact .inr hS
  · rw [z] at ru
    exact ru.bl_of
end
/-- at all draws the law says True -/
structure LawTrue (cf : Nat → List Val → Hs → T (Val × Hs)) (fu nN : Nat) (body : List S) : Prop where
  all : (runF cf fu nN body false [.scr] h00).All fun r => r.1 = .bl true
theorem walk {l : PySem.W.OpenLaw} {q : Program} {loose : List Str} {XP : (Str → Option Value) → Heap → Prop} {YP : World → Heap → Prop} {d : DefRec} {K : Params → PySem.W.Frag} {k : Nat} {cf : Nat → List Val → Hs → T (Val × Hs)} {fu nN : Nat} {body : List S} (hn : l.most = some 63) (hdf : d.params.defaults = []) (hr : Room k callerA)
    (hY : ∀ (w : World) (h : Heap), YP w h → (K w.params).In h)
    (p : LawTrue cf fu nN body)
    (F : ∀ (w : World) (mg : Str → Option Value) (fa : Addr) (h : Heap), (K w.params).In h → h.Ns mainGlobals mg → mg d.name = some (.ref fa) →
      ∃ fd : FuncData, (∀ (s : Shared) (u : Value), BindsTo s fd ⟨[u], []⟩ [("script", u)]) ∧ ∀ base : Heap, (K w.params).In base → base.Ns mainGlobals mg → FnOk l.prog w (K w.params) mg base CX0 k fa fd ["script"] (spL (K w.params) cf fu nN body)) :
    PySem.W.WalkO q loose XP YP l.row.toRowW d [] (fun f vs => PySem.call f vs) :=
  L2.walk_of (n := 63) (k := k) (x := "script") (CX := fun _ => CX0) (sp := fun w => spL (K w.params) cf fu nN body) hn (by decide) hdf hr hY F (fun _ _ a ns hl _ hS => sp_law p.all hl hS) fun _ _ _ _ _ z => z
end Eng
/-! Words to run the evaluator by simp. -/
namespace Eng
open PySem L2
@[simp] theorem T.bind_ok {A B : Type} {a : A} {f : A → T B} : (T.ok a).bind f = f a := rfl
@[simp] theorem T.bind_no {A B : Type} {f : A → T B} : (T.no : T A).bind f = .no := rfl
@[simp] theorem T.all_ok {A : Type} {a : A} {P : A → Prop} : (T.ok a).All P ↔ P a := Iff.rfl
@[simp] theorem T.of_some {A : Type} {a : A} : T.of (some a) = .ok a := rfl
section
variable {cf : Nat → List Val → Hs → T (Val × Hs)} {fu : Nat} {s : Env} {h : Hs}
@[simp] theorem q_c {v : Val} : ev cf (.c v) s h = .ok (v, h) := rfl
@[simp] theorem q_v {i : Nat} : ev cf (.v i) s h = (match s[i]? with
    | some (some v) => .ok (v, h)
    | _ => .no) := rfl
@[simp] theorem q_bin {op : Bop} {m : Bool} {a b : E} : ev cf (.bin op m a b) s h = (ev cf a s h).bind fun p => (ev cf b s p.2).bind fun q => bopV op m p.1 q.1 q.2 := rfl
@[simp] theorem q_neg {a : E} : ev cf (.neg a) s h = (ev cf a s h).bind fun p => match p.1 with
    | .int i => .ok (.int (-i), p.2)
    | _ => .no := rfl
@[simp] theorem q_cmp {op : Cop} {a b : E} : ev cf (.cmp op a b) s h = (ev cf a s h).bind fun p => (ev cf b s p.2).bind fun q => match copV op p.1 q.1 q.2 with
    | some k => .ok (.bl k, q.2)
    | none => .no := rfl
@[simp] theorem q_chn {o1 o2 : Cop} {a b c : E} : ev cf (.chn o1 o2 a b c) s h = (ev cf a s h).bind fun p => (ev cf b s p.2).bind fun q => match copV o1 p.1 q.1 q.2 with
    | some true => (ev cf c s q.2).bind fun r => match copV o2 q.1 r.1 r.2 with
      | some k => .ok (.bl k, r.2)
      | none => .no
    | some false => .ok (.bl false, q.2)
    | none => .no := rfl
@[simp] theorem q_and {a b : E} : ev cf (.and a b) s h = (ev cf a s h).bind fun p => match p.1 with
    | .bl true => ev cf b s p.2
    | .bl false => .ok (.bl false, p.2)
    | _ => .no := rfl
@[simp] theorem q_or {a b : E} : ev cf (.or a b) s h = (ev cf a s h).bind fun p => match p.1 with
    | .bl true => .ok (.bl true, p.2)
    | .bl false => ev cf b s p.2
    | _ => .no := rfl
@[simp] theorem q_not {a : E} : ev cf (.not a) s h = (ev cf a s h).bind fun p => match p.1 with
    | .bl k => .ok (.bl (!k), p.2)
    | _ => .no := rfl
@[simp] theorem q_ite {c a b : E} : ev cf (.ite c a b) s h = (tst cf c s h).bind fun p => match p.1 with
    | true => ev cf a s p.2
    | false => ev cf b s p.2 := rfl
@[simp] theorem q_tup {es : List E} : ev cf (.tup es) s h = (evs cf es s h).bind fun p => if small p.1.length then .ok (.tup p.1, p.2) else .no := rfl
@[simp] theorem q_lst {m : Bool} {es : List E} : ev cf (.lst m es) s h = (evs cf es s h).bind fun p => if small p.1.length then mkL m p.1 p.2 else .no := rfl
@[simp] theorem q_sub {a i : E} : ev cf (.sub a i) s h = (ev cf a s h).bind fun p => (ev cf i s p.2).bind fun q => match subV p.1 q.1 q.2 with
    | some v => .ok (v, q.2)
    | none => .no := rfl
@[simp] theorem q_slc {m : Bool} {a : E} {lo hi : Option E} : ev cf (.slc m a lo hi) s h = (ev cf a s h).bind fun p => (evo cf lo s p.2).bind fun q => (evo cf hi s q.2).bind fun r => slcV m p.1 q.1 r.1 r.2 := rfl
@[simp] theorem q_call {f : Nat} {es : List E} : ev cf (.call f es) s h = (evs cf es s h).bind fun p => cf f p.1 p.2 := rfl
@[simp] theorem q_bi {b : Bi} {m : Bool} {es : List E} : ev cf (.bi b m es) s h = (evs cf es s h).bind fun p => biV b m p.1 p.2 := rfl
@[simp] theorem q_isi {e : E} {t : Ty} : ev cf (.isi e t) s h = (ev cf e s h).bind fun p => match isiV p.2 p.1 t with
    | some k => .ok (.bl k, p.2)
    | none => .no := rfl
@[simp] theorem q_me {o : E} {k : Me} {es : List E} : ev cf (.me o k es) s h = (ev cf o s h).bind fun p => match itemsL p.2 p.1 with
    | some _ => (evs cf es s p.2).bind fun q => meA k p.1 q.1 q.2
    | none => .no := rfl
@[simp] theorem q_disp {es : List E} : ev cf (.disp es) s h = (evs cf es s (h.new (.dct false [] []))).bind fun p => dispV h.n p := rfl
@[simp] theorem q_lset {a : E} : ev cf (.lset a) s h = (ev cf a s h).bind fun p => match itemsL p.2 p.1 with
    | some xs => match optAll vint xs with
      | some ns => if Nat.blt ns.length 64 then .ok (.int (distI ns), p.2) else .no
      | none => .no
    | none => .no := rfl
@[simp] theorem q_mat {t m : Bool} {sk : Sk} {es : List E} : ev cf (.mat t m sk es) s h = (evs cf es s h).bind fun p => match srcV sk p.1 p.2 with
    | some (xs, _) => matV t m xs p.2
    | none => .no := rfl
theorem q_lc {m : Bool} {own : List Nat} {tg : Tg} {sk : Sk} {es cs : List E} {e : E} : ev cf (.lc m own tg sk es cs e) s h = (evs cf es s h).bind fun p => match srcV sk p.1 p.2 with
    | some (xs, none) => if small xs.length then (lcL (fun x => tgS tg x (wipeE s own)) (evt cf cs) (ev cf e) xs p.2).bind fun r => mkL m r.1 r.2 else .no
    | some (xs, some l) => match isVar es && small xs.length with
      | true => (lcL (fun x => tgS tg x (wipeE s own)) (evt cf cs) (ev cf e) xs (p.2.lock l)).bind fun r => mkL m r.1 (r.2.unlock p.2.lk)
      | false => .no
    | none => .no := rfl
@[simp] theorem q_nil : evs cf [] s h = .ok ([], h) := rfl
@[simp] theorem q_cons {e : E} {es : List E} : evs cf (e :: es) s h = (ev cf e s h).bind fun p => (evs cf es s p.2).bind fun q => .ok (p.1 :: q.1, q.2) := rfl
@[simp] theorem q_on : evo cf none s h = .ok (none, h) := rfl
@[simp] theorem q_os {e : E} : evo cf (some e) s h = (ev cf e s h).bind fun p => match p.1 with
    | .int i => .ok (some i, p.2)
    | _ => .no := rfl
@[simp] theorem q_tn : evt cf [] s h = .ok (true, h) := rfl
@[simp] theorem q_t1 {e : E} : evt cf [e] s h = tst cf e s h := rfl
@[simp] theorem q_tst {e : E} : tst cf e s h = (ev cf e s h).bind fun p => match truth p.2 p.1 with
  | some k => .ok (k, p.2)
  | none => .no := rfl
@[simp] theorem meA_app {o : Val} {vs : List Val} : meA .append o vs h = meV .append o vs h := rfl
@[simp] theorem meA_pop {o : Val} {vs : List Val} : meA .pop o vs h = meV .pop o vs h := rfl
@[simp] theorem meA_ext {o : Val} {vs : List Val} : meA .extend o vs h = meV .extend o vs h := rfl
@[simp] theorem q_dnew {t : Bool} : ev cf (.dnew t) s h = .ok (.ref h.n, h.new (.dct t [] [])) := rfl
@[simp] theorem q_dget {o k x : E} : ev cf (.dget o k x) s h = (ev cf o s h).bind fun p => match dicOf p.2 p.1 with
    | some _ => (ev cf k s p.2).bind fun q => (ev cf x s q.2).bind fun r => match dicOf r.2 p.1 with
      | some (t, ks, vs) => match keyOf t q.1 with
        | some y => .ok ((dGet ks vs y).getD r.1, r.2)
        | none => .no
      | none => .no
    | none => .no := rfl
theorem q_dc {own : List Nat} {tg : Tg} {sk : Sk} {es cs : List E} {ke ve : E} : ev cf (.dc own tg sk es cs ke ve) s h = (evs cf es s h).bind fun p => match srcV sk p.1 p.2 with
    | some (xs, none) => if small xs.length then (dcL (fun x => tgS tg x (wipeE s own)) (evt cf cs) (ev cf ke) (ev cf ve) xs [] [] p.2).bind fun r => .ok (.ref r.2.n, r.2.new (.dct false r.1.1 r.1.2)) else .no
    | _ => .no := rfl
/-! statements -/
@[simp] theorem q_del {o i : E} : ex cf fu (.del o i) s h = (ev cf o s h).bind fun p => (ev cf i s p.2).bind fun q => (delV p.1 q.1 q.2).bind fun h' => .ok (.nx, s, h') := rfl
@[simp] theorem q_ex {e : E} : ex cf fu (.ex e) s h = (ev cf e s h).bind fun p => .ok (.nx, s, p.2) := rfl
@[simp] theorem q_asg {t : At} {e : E} : ex cf fu (.asg t e) s h = (ev cf e s h).bind fun p => (asg cf t p.1 s p.2).bind fun r => .ok (.nx, r.1, r.2) := rfl
@[simp] theorem q_aug {i : Nat} {op : Bop} {e : E} : ex cf fu (.aug i op e) s h = (match s[i]? with
    | some (some x) => (ev cf e s h).bind fun p => (ipV op x p.1 p.2).bind fun q => .ok (.nx, s.set i (some q.1), q.2)
    | _ => .no) := rfl
@[simp] theorem q_ret {e : E} : ex cf fu (.ret e) s h = (ev cf e s h).bind fun p => .ok (.rt p.1, s, p.2) := rfl
@[simp] theorem q_if {c : E} {a b : List S} : ex cf fu (.ite c a b) s h = (tst cf c s h).bind fun p => match p.1 with
    | true => exs cf fu a s p.2
    | false => exs cf fu b s p.2 := rfl
theorem q_whl {c : E} {b : List S} : ex cf fu (.whl c b) s h = whlL (tst cf c) (exs cf fu b) fu s h := rfl
theorem q_for {tg : Tg} {sk : Sk} {es : List E} {b : List S} : ex cf fu (.for_ tg sk es b) s h = (evs cf es s h).bind fun p => match srcV sk p.1 p.2 with
    | some (xs, none) => forL (tgS tg) (exs cf fu b) xs s p.2
    | some (xs, some l) => match isVar es with
      | true => (forL (tgS tg) (exs cf fu b) xs s (p.2.lock l)).bind fun r => .ok (r.1, r.2.1, r.2.2.unlock p.2.lk)
      | false => .no
    | none => .no := rfl
@[simp] theorem q_pass : ex cf fu .pass s h = .ok (.nx, s, h) := rfl
@[simp] theorem q_brk : ex cf fu .brk s h = .ok (.bk, s, h) := rfl
@[simp] theorem q_cnt : ex cf fu .cnt s h = .ok (.ct, s, h) := rfl
@[simp] theorem q_exsn : exs cf fu [] s h = .ok (.nx, s, h) := rfl
@[simp] theorem q_exsc {t : S} {ts : List S} : exs cf fu (t :: ts) s h = (ex cf fu t s h).bind fun r => match r.1 with
    | .nx => exs cf fu ts r.2.1 r.2.2
    | _ => .ok r := rfl
@[simp] theorem q_nm {i : Nat} {v : Val} : asg cf (.nm i) v s h = .ok (s.set i (some v), h) := rfl
@[simp] theorem q_tp {ts : List At} {xs : List Val} : asg cf (.tp ts) (.tup xs) s h = if xs.length == ts.length then asgs cf ts xs s h else .no := rfl
@[simp] theorem q_asn : asgs cf [] [] s h = .ok (s, h) := rfl
@[simp] theorem q_asc {t : At} {ts : List At} {x : Val} {xs : List Val} : asgs cf (t :: ts) (x :: xs) s h = (asg cf t x s h).bind fun r => asgs cf ts xs r.1 r.2 := rfl
@[simp] theorem q_sb {o i : E} {v : Val} : asg cf (.sb o i) v s h = (ev cf o s h).bind fun p => (ev cf i s p.2).bind fun q => (setV p.1 q.1 v q.2).bind fun h' => .ok (s, h') := rfl
/-! loops -/
@[simp] theorem q_forn {bd : Val → Env → Option Env} {body : Env → Hs → T Rs} : forL bd body [] s h = .ok (.nx, s, h) := rfl
theorem q_forc {bd : Val → Env → Option Env} {body : Env → Hs → T Rs} {x : Val} {xs : List Val} : forL bd body (x :: xs) s h = (match bd x s with
    | none => .no
    | some s1 => (body s1 h).bind fun r => match r.1 with
      | .nx => forL bd body xs r.2.1 r.2.2
      | .ct => forL bd body xs r.2.1 r.2.2
      | .bk => .ok (.nx, r.2.1, r.2.2)
      | .rt v => .ok (.rt v, r.2.1, r.2.2)) := rfl
@[simp] theorem q_lcn {bd : Val → Option Env} {t : Env → Hs → T (Bool × Hs)} {elt : Env → Hs → T (Val × Hs)} : lcL bd t elt [] h = .ok ([], h) := rfl
theorem q_lcc {bd : Val → Option Env} {t : Env → Hs → T (Bool × Hs)} {elt : Env → Hs → T (Val × Hs)} {x : Val} {xs : List Val} : lcL bd t elt (x :: xs) h = (match bd x with
    | none => .no
    | some s => (t s h).bind fun r => match r.1 with
      | true => (elt s r.2).bind fun q => (lcL bd t elt xs q.2).bind fun w => .ok (q.1 :: w.1, w.2)
      | false => lcL bd t elt xs r.2) := rfl
/-! values -/
@[simp] theorem q_tgnm {i : Nat} {v : Val} : tgS (.nm i) v s = some (s.set i (some v)) := rfl
@[simp] theorem q_add {i j : Int} {m : Bool} : bopV .add m (.int i) (.int j) h = .ok (.int (i + j), h) := rfl
@[simp] theorem q_subI {i j : Int} {m : Bool} : bopV .sub m (.int i) (.int j) h = .ok (.int (i - j), h) := rfl
@[simp] theorem q_catT {xs ys : List Val} {m : Bool} : bopV .add m (.tup xs) (.tup ys) h = if small (xs.length + ys.length) then .ok (.tup (xs ++ ys), h) else .no := rfl
theorem q_mul {i j : Int} {m : Bool} (h1 : i.natAbs < 2 ^ 64) (h2 : j.natAbs < 2 ^ 64) : bopV .mul m (.int i) (.int j) h = .ok (.int (i * j), h) := by
  simp only [bopV, bop_mulS h1 h2, T.of_some, T.bind_ok]
@[simp] theorem q_cmpI {op : Cop} {i j : Int} : copV op (.int i) (.int j) h = copI op i j := rfl
@[simp] theorem q_eq {i j : Int} : copI .eq i j = some (decide (i = j)) := rfl
@[simp] theorem q_ne {i j : Int} : copI .ne i j = some (!decide (i = j)) := rfl
@[simp] theorem q_lt {i j : Int} : copI .lt i j = some (decide (i < j)) := rfl
@[simp] theorem q_le {i j : Int} : copI .le i j = some (decide (i ≤ j)) := rfl
@[simp] theorem q_gt {i j : Int} : copI .gt i j = some (decide (j < i)) := rfl
@[simp] theorem q_ge {i j : Int} : copI .ge i j = some (decide (j ≤ i)) := rfl
@[simp] theorem q_trb {b : Bool} : truth h (.bl b) = some b := rfl
@[simp] theorem q_lenT {xs : List Val} {m : Bool} : biV .len m [.tup xs] h = .ok (.int xs.length, h) := rfl
@[simp] theorem q_lenL {xs : List Val} {m : Bool} : biV .len m [.tl xs] h = .ok (.int xs.length, h) := rfl
@[simp] theorem q_tupL {xs : List Val} {m : Bool} : biV .tuple m [.tl xs] h = .ok (.tup xs, h) := rfl
@[simp] theorem q_tupT {xs : List Val} {m : Bool} : biV .tuple m [.tup xs] h = .ok (.tup xs, h) := rfl
@[simp] theorem q_mkF {xs : List Val} : mkL false xs h = .ok (.tl xs, h) := rfl
@[simp] theorem q_listT {xs : List Val} : biV .list false [.tup xs] h = .ok (.tl xs, h) := rfl
@[simp] theorem q_srcT {xs : List Val} : srcV .val [.tup xs] h = some (xs, none) := rfl
@[simp] theorem q_srcL {xs : List Val} : srcV .val [.tl xs] h = some (xs, none) := rfl
@[simp] theorem q_revT {xs : List Val} : srcV .rev [.tup xs] h = some (xs.reverse, none) := rfl
@[simp] theorem q_revL {xs : List Val} : srcV .rev [.tl xs] h = some (xs.reverse, none) := rfl
end
theorem sm_of {n : Nat} (h : n ≤ 1048576) : small n = true := Nat.ble_eq.mpr h
/-- words of numbers -/
def iv (xs : List Int) : List Val := xs.map .int
@[simp] theorem iv_len (xs : List Int) : (iv xs).length = xs.length := List.length_map _
@[simp] theorem iv_nil : iv [] = [] := rfl
@[simp] theorem iv_cons (x : Int) (xs : List Int) : iv (x :: xs) = .int x :: iv xs := rfl
@[simp] theorem iv_app (xs ys : List Int) : iv xs ++ iv ys = iv (xs ++ ys) := List.map_append.symm
@[simp] theorem iv_rev (xs : List Int) : (iv xs).reverse = iv xs.reverse := List.map_reverse.symm
@[simp] theorem iv_dl (xs : List Int) : (iv xs).dropLast = iv xs.dropLast := List.map_dropLast.symm
@[simp] theorem iv_get (xs : List Int) (i : Nat) : (iv xs)[i]? = xs[i]?.map .int := List.getElem?_map
@[simp] theorem iv_take (xs : List Int) (n : Nat) : (iv xs).take n = iv (xs.take n) := List.map_take.symm
@[simp] theorem iv_drop (xs : List Int) (n : Nat) : (iv xs).drop n = iv (xs.drop n) := List.map_drop.symm
/-- a list just made -/
def hl (h : Hs) (xs : List Val) : Hs := ⟨.lst xs :: h.os, h.n + 1, h.n, h.lk⟩
section
variable {h : Hs} {xs ys : List Val}
@[simp] theorem hl_get : (hl h xs).get h.n = some (.lst xs) := by simp [hl, Hs.get]
theorem hl_wl (k : h.lk.contains h.n = false) : (hl h xs).wl h.n = some xs := by
  unfold Hs.wl
  rw [hl_get]
  have : (hl h xs).lk.contains h.n = false := k
  simp only [this, Bool.false_eq_true, if_false]
@[simp] theorem hl_put : (hl h xs).put h.n (.lst ys) = hl h ys := by simp [hl, Hs.put]
@[simp] theorem hl_lk : (hl h xs).lk = h.lk := rfl
@[simp] theorem hl_n : (hl h xs).n = h.n + 1 := rfl
@[simp] theorem hl_lo : (hl h xs).lo = h.n := rfl
@[simp] theorem hl_mk : mkL true xs ⟨h.os, h.n, h.n, h.lk⟩ = .ok (.ref h.n, hl h xs) := rfl
@[simp] theorem hl_len {m : Bool} : biV .len m [.ref h.n] (hl h xs) = .ok (.int xs.length, hl h xs) := by simp only [biV, items, hl_get]
@[simp] theorem hl_tup {m : Bool} : biV .tuple m [.ref h.n] (hl h xs) = .ok (.tup xs, hl h xs) := by simp only [biV, itemsL, hl_get]
@[simp] theorem hl_itemsL : itemsL (hl h xs) (.ref h.n) = some xs := by simp only [itemsL, hl_get]
theorem hl_app {v : Val} (k : h.lk.contains h.n = false) (hs : xs.length ≤ 1048576) : meV .append (.ref h.n) [v] (hl h xs) = .ok (.non, hl h (xs ++ [v])) := by
  simp only [meV, hl_wl k, sm_of hs, if_true, hl_put]
theorem hl_pop {v : Val} (k : h.lk.contains h.n = false) : meV .pop (.ref h.n) [] (hl h (xs ++ [v])) = .ok (v, hl h xs) := by
  simp [meV, hl_wl k]
theorem hl_last {v : Val} : subV (.ref h.n) (.int (-1)) (hl h (xs ++ [v])) = some v := by
  have : ixI (xs ++ [v]).length (-1) = some xs.length := by
    unfold ixI
    rw [List.length_append, List.length_singleton]
    simp
    omega
  simp only [subV, dicOf, items, hl_get, this]
  simp
theorem subT_nat {i : Nat} {v : Val} (e : xs[i]? = some v) : subV (.tup xs) (.int (i : Int)) h = some v := by
  have hl := (List.getElem?_eq_some_iff.mp e).1
  have : ixI xs.length (i : Int) = some i := by
    unfold ixI
    simp [hl]
  simp only [subV, dicOf, items, this, e]
theorem subL_nat {i : Nat} {v : Val} (e : xs[i]? = some v) : subV (.tl xs) (.int (i : Int)) h = some v := by
  have hl := (List.getElem?_eq_some_iff.mp e).1
  have : ixI xs.length (i : Int) = some i := by
    unfold ixI
    simp [hl]
  simp only [subV, dicOf, items, this, e]
end
/-- the run of a function, its end seen -/
theorem runF_of {cf : Nat → List Val → Hs → T (Val × Hs)} {fu nN : Nat} {body : List S} {vs : List Val} {h h1 : Hs} {s1 : Env} {v v' : Val} (e : exs cf fu body (vs.map some ++ List.replicate (nN - vs.length) none) ⟨h.os, h.n, h.n, h.lk⟩ = .ok (.rt v, s1, h1))
    (lo : h.n ≤ h1.lo) (fz : fzV h1 h.n 12 v = some v') : runF cf fu nN body true vs h = .ok (v', h) := by
  unfold runF
  rw [e, T.bind_ok]
  simp only [Bool.true_and, Nat.ble_eq.mpr lo, fz]
theorem fz_int {h : Hs} {n k : Nat} {i : Int} : fzV h n (k + 1) (.int i) = some (.int i) := rfl
theorem fz_bl {h : Hs} {n k : Nat} {i : Bool} : fzV h n (k + 1) (.bl i) = some (.bl i) := rfl
theorem fz_non {h : Hs} {n k : Nat} : fzV h n (k + 1) .non = some .non := rfl
theorem fz_ivs {h : Hs} {n k : Nat} : ∀ xs : List Int, optAll (fzV h n (k + 1)) (iv xs) = some (iv xs)
  | [] => rfl
  | x :: xs => by
    rw [iv_cons]
    unfold optAll
    rw [fz_int]
    simp only [fz_ivs xs]
theorem fz_iv {h : Hs} {n k : Nat} {xs : List Int} : fzV h n (k + 2) (.tup (iv xs)) = some (.tup (iv xs)) := by
  show (optAll (fzV h n (k + 1)) (iv xs)).map Val.tup = _
  rw [fz_ivs]
  rfl
theorem gl_mem {A B : Type} [BEq A] [LawfulBEq A] {x : A} {v : B} : ∀ {l : List (A × B)}, l.lookup x = some v → (x, v) ∈ l
  | [], h => by simp at h
  | (y, w) :: l, h => by
    rw [List.lookup_cons] at h
    split at h
    · rename_i e
      cases h
      rw [eq_of_beq e]
      exact List.mem_cons_self
    · exact List.mem_cons_of_mem _ (gl_mem h)
end Eng
/-! A typed layer over the evaluator: types, rows of slots. -/
namespace Eng
open PySem L2

/-- a type of values: never written, of bounded depth -/
class Inj (α : Type) where
  inj : α → Val
  dp : Nat
  fz : ∀ (h : Hs) (n k : Nat) (a : α), dp < k → fzV h n k (inj a) = some (inj a)
open Inj (inj)
theorem optAll_id {A : Type} {f : A → Option A} : ∀ {xs : List A}, (∀ x ∈ xs, f x = some x) → optAll f xs = some xs
  | [], _ => rfl
  | x :: xs, H => by
    unfold optAll
    rw [H x List.mem_cons_self]
    simp only [optAll_id fun y m => H y (List.mem_cons_of_mem _ m)]
instance : Inj Int := ⟨.int, 0, fun h n k a hk => by cases k with | zero => omega | succ k => rfl⟩
instance : Inj Bool := ⟨.bl, 0, fun h n k a hk => by cases k with | zero => omega | succ k => rfl⟩
instance : Inj Str := ⟨.str, 0, fun h n k a hk => by cases k with | zero => omega | succ k => rfl⟩
instance : Inj Unit := ⟨fun _ => .non, 0, fun h n k a hk => by cases k with | zero => omega | succ k => rfl⟩
instance {α : Type} [Inj α] : Inj (Option α) := ⟨fun a => match a with | none => .non | some a => inj a, Inj.dp α, fun h n k a hk => by
  cases a with
  | none => cases k with | zero => omega | succ k => rfl
  | some a => exact Inj.fz h n k a hk⟩
/-- a tuple of things of one type -/
structure Tp (α : Type) where
  l : List α
instance {α : Type} [Inj α] : Inj (Tp α) := ⟨fun t => .tup (t.l.map inj), Inj.dp α + 1, fun h n k a hk => by
  cases k with
  | zero => omega
  | succ k =>
    unfold fzV
    rw [optAll_id fun x hx => by
      obtain ⟨y, _, rfl⟩ := List.mem_map.mp hx
      exact Inj.fz h n k y (by omega)]
    rfl⟩
instance {α : Type} [Inj α] : Inj (List α) := ⟨fun t => .tl (t.map inj), Inj.dp α + 1, fun h n k a hk => by
  cases k with
  | zero => omega
  | succ k =>
    unfold fzV
    rw [optAll_id fun x hx => by
      obtain ⟨y, _, rfl⟩ := List.mem_map.mp hx
      exact Inj.fz h n k y (by omega)]
    rfl⟩
class InjR (τ : Type) where
  injR : τ → List Val
  dp : Nat
  fz : ∀ (h : Hs) (n k : Nat) (a : τ), dp < k → ∀ x ∈ injR a, fzV h n k x = some x
open InjR (injR)
instance : InjR Unit := ⟨fun _ => [], 0, fun h n k a hk x m => absurd m (List.not_mem_nil)⟩
instance {α τ : Type} [Inj α] [InjR τ] : InjR (α × τ) := ⟨fun p => inj p.1 :: injR p.2, max (Inj.dp α) (InjR.dp τ), fun h n k a hk x m => by
  rcases List.mem_cons.mp m with e | m
  · rw [e]
    exact Inj.fz h n k a.1 (by omega)
  · exact InjR.fz h n k a.2 (by omega) x m⟩
/-- a tuple of things of told types -/
structure Tu (τ : Type) where
  t : τ
instance {τ : Type} [InjR τ] : Inj (Tu τ) := ⟨fun t => .tup (injR t.t), InjR.dp τ + 1, fun h n k a hk => by
  cases k with
  | zero => omega
  | succ k =>
    unfold fzV
    rw [optAll_id fun x hx => InjR.fz h n k a.t (by omega) x hx]
    rfl⟩
/-- the list of draws -/
structure Tape where
instance : Inj Unit := inferInstance
/-- any value that is no object -/
def pureV : Nat → Val → Bool
  | 0, _ => false
  | _ + 1, .non => true
  | _ + 1, .bl _ => true
  | _ + 1, .int _ => true
  | _ + 1, .str _ => true
  | k + 1, .tup xs => xs.all (pureV k)
  | k + 1, .tl xs => xs.all (pureV k)
  | _ + 1, _ => false
structure Any where
  v : Val
  ok : pureV 6 v = true
theorem fz_pure {h : Hs} {n : Nat} : ∀ (d k : Nat) (v : Val), d ≤ k → pureV d v = true → fzV h n k v = some v
  | 0, k, v, _, p => by simp [pureV] at p
  | d + 1, 0, v, hk, p => by omega
  | d + 1, k + 1, v, hk, p => by
    cases v with
    | non => rfl
    | bl b => rfl
    | int i => rfl
    | str x => rfl
    | tup xs =>
      simp only [pureV, List.all_eq_true] at p
      unfold fzV
      rw [optAll_id fun x hx => fz_pure d k x (by omega) (p x hx)]
      rfl
    | tl xs =>
      simp only [pureV, List.all_eq_true] at p
      unfold fzV
      rw [optAll_id fun x hx => fz_pure d k x (by omega) (p x hx)]
      rfl
    | _ => simp [pureV] at p
instance : Inj Any := ⟨fun a => a.v, 5, fun h n k a hk => fz_pure 6 k a.v (by omega) a.ok⟩

/-! ### rows of slots -/
class Row (Γ : Type) where
  rel : Γ → Env → Hs → List Nat → Prop
  mono : ∀ {γ s h h' A}, rel γ s h A → (∀ l ∈ A, h'.get l = h.get l) → rel γ s h' A
  /-- what is lent: places below, and what stands there -/
  bw : List (Nat × Ob)
open Row (rel)
instance : Row Unit := ⟨fun _ _ _ A => A = [], fun r _ => r, []⟩
/-- nothing is lent -/
class NB (Γ : Type) [Row Γ] : Prop where
  nb : Row.bw Γ = []
instance : NB Unit := ⟨rfl⟩
/-- a slot: nothing known, or a value -/
instance {α Γ : Type} [Inj α] [Row Γ] : Row (Option α × Γ) := ⟨fun γ s h A => ∃ x s', s = x :: s' ∧ (∀ v, γ.1 = some v → x = some (inj v)) ∧ rel γ.2 s' h A,
  fun ⟨x, s', e, q, r⟩ k => ⟨x, s', e, q, Row.mono r k⟩, Row.bw Γ⟩
instance {α Γ : Type} [Inj α] [Row Γ] [N : NB Γ] : NB (Option α × Γ) := ⟨N.nb⟩
/-- a slot with a list of its own -/
structure Ow (α : Type) where
  l : Option (List α)
instance {α Γ : Type} [Inj α] [Row Γ] : Row (Ow α × Γ) := ⟨fun γ s h A => ∃ x s', s = x :: s' ∧ match γ.1.l with
    | none => rel γ.2 s' h A
    | some xs => ∃ l A', A = l :: A' ∧ x = some (.ref l) ∧ h.get l = some (.lst (xs.map inj)) ∧ rel γ.2 s' h A', fun {γ s h h' A} ⟨x, s', e, r⟩ k => by
  refine ⟨x, s', e, ?_⟩
  split
  · rename_i q
    rw [q] at r
    exact Row.mono r k
  · rename_i xs q
    rw [q] at r
    obtain ⟨l, A', e1, e2, e3, r⟩ := r
    subst e1
    exact ⟨l, A', rfl, e2, (k l List.mem_cons_self).trans e3, Row.mono r fun m hm => k m (List.mem_cons_of_mem _ hm)⟩, Row.bw Γ⟩
instance {α Γ : Type} [Inj α] [Row Γ] [N : NB Γ] : NB (Ow α × Γ) := ⟨N.nb⟩
/-- the slot of the list of draws -/
instance {Γ : Type} [Row Γ] : Row (Tape × Γ) := ⟨fun γ s h A => ∃ s', s = some (.ref 0) :: s' ∧ rel γ.2 s' h A, fun ⟨s', e, r⟩ k => ⟨s', e, Row.mono r k⟩, Row.bw Γ⟩
instance {Γ : Type} [Row Γ] [N : NB Γ] : NB (Tape × Γ) := ⟨N.nb⟩
structure WH (h : Hs) : Prop where
  os : h.os.length = h.n
  lk : h.lk = []
  tp : h.get 0 = some .tape
/-- the state of a def's run: what stood before n0 stands -/
def Rg {Γ : Type} [Row Γ] (n0 : Nat) (γ : Γ) (s : Env) (h : Hs) : Prop := ∃ A, rel γ s h A ∧ A.Nodup ∧ (∀ l ∈ A, n0 ≤ l ∧ l < h.n ∧ h.lk.contains l = false) ∧ WH h ∧ n0 ≤ h.n ∧ n0 ≤ h.lo ∧ ∀ p ∈ Row.bw Γ, p.1 < n0 ∧ h.get p.1 = some p.2

/-- the slot i holds values of type α -/
class Slot (Γ : Type) [Row Γ] (i : Nat) (α : outParam Type) (I : outParam (Inj α)) where
  get : Γ → Option α
  set : Option α → Γ → Γ
  rget : ∀ {γ s h A a}, rel γ s h A → get γ = some a → s[i]? = some (some (inj a))
  rset : ∀ {γ s h A} {a : α}, rel γ s h A → rel (set (some a) γ) (s.set i (some (inj a))) h A
  rnone : ∀ {γ s h A}, rel γ s h A → rel (set none γ) (s.set i none) h A
  lt : ∀ {γ : Γ} {s : Env} {h : Hs} {A : List Nat}, rel γ s h A → i < s.length
instance {α Γ : Type} [I : Inj α] [Row Γ] : Slot (Option α × Γ) 0 α I := {
  get := fun γ => γ.1
  set := fun a γ => (a, γ.2)
  rget := fun ⟨x, s', e, q, r⟩ g => by subst e; rw [q _ g]; rfl
  rset := fun {γ s h A a} ⟨x, s', e, q, r⟩ => by subst e; exact ⟨_, s', rfl, fun v z => by cases z; rfl, r⟩
  rnone := fun ⟨x, s', e, q, r⟩ => by subst e; exact ⟨none, s', rfl, fun v z => (by cases z), r⟩
  lt := fun ⟨x, s', e, q, r⟩ => by subst e; exact Nat.succ_pos _ }
instance {α β Γ : Type} [Inj α] [Row Γ] {i : Nat} {J : Inj β} [S : Slot Γ i β J] : Slot (Option α × Γ) (i + 1) β J := {
  get := fun γ => S.get γ.2
  set := fun a γ => (γ.1, S.set a γ.2)
  rget := fun ⟨x, s', e, q, r⟩ g => by subst e; rw [List.getElem?_cons_succ]; exact S.rget r g
  rset := fun ⟨x, s', e, q, r⟩ => by subst e; exact ⟨x, _, rfl, q, S.rset r⟩
  rnone := fun ⟨x, s', e, q, r⟩ => by subst e; exact ⟨x, _, rfl, q, S.rnone r⟩
  lt := fun ⟨x, s', e, q, r⟩ => by subst e; exact Nat.succ_lt_succ (S.lt r) }
instance {α β Γ : Type} [Inj α] [Row Γ] {i : Nat} {J : Inj β} [S : Slot Γ i β J] : Slot (Ow α × Γ) (i + 1) β J := {
  get := fun γ => S.get γ.2
  set := fun a γ => (γ.1, S.set a γ.2)
  rget := fun {γ s h A a} ⟨x, s', e, r⟩ g => by
    subst e
    rw [List.getElem?_cons_succ]
    split at r
    · exact S.rget r g
    · obtain ⟨l, A', e1, e2, e3, r⟩ := r
      exact S.rget r g
  rset := fun {γ s h A a} ⟨x, s', e, r⟩ => by
    subst e
    refine ⟨x, _, rfl, ?_⟩
    split <;> rename_i q <;> rw [q] at r
    · exact S.rset r
    · obtain ⟨l, A', e1, e2, e3, r⟩ := r
      exact ⟨l, A', e1, e2, e3, S.rset r⟩
  rnone := fun {γ s h A} ⟨x, s', e, r⟩ => by
    subst e
    refine ⟨x, _, rfl, ?_⟩
    split <;> rename_i q <;> rw [q] at r
    · exact S.rnone r
    · obtain ⟨l, A', e1, e2, e3, r⟩ := r
      exact ⟨l, A', e1, e2, e3, S.rnone r⟩
  lt := fun {γ s h A} ⟨x, s', e, r⟩ => by
    subst e
    split at r
    · exact Nat.succ_lt_succ (S.lt r)
    · obtain ⟨l, A', e1, e2, e3, r⟩ := r
      exact Nat.succ_lt_succ (S.lt r) }
instance {β Γ : Type} [Row Γ] {i : Nat} {J : Inj β} [S : Slot Γ i β J] : Slot (Tape × Γ) (i + 1) β J := {
  get := fun γ => S.get γ.2
  set := fun a γ => (γ.1, S.set a γ.2)
  rget := fun ⟨s', e, r⟩ g => by subst e; rw [List.getElem?_cons_succ]; exact S.rget r g
  rset := fun ⟨s', e, r⟩ => by subst e; exact ⟨_, rfl, S.rset r⟩
  rnone := fun ⟨s', e, r⟩ => by subst e; exact ⟨_, rfl, S.rnone r⟩
  lt := fun ⟨s', e, r⟩ => by subst e; exact Nat.succ_lt_succ (S.lt r) }
/-- the slot i holds a list of its own -/
class OSlot (Γ : Type) [Row Γ] (i : Nat) (α : outParam Type) (I : outParam (Inj α)) where
  get : Γ → Option (List α)
  set : List α → Γ → Γ
  rget : ∀ {γ s h A xs}, rel γ s h A → get γ = some xs → ∃ l ∈ A, s[i]? = some (some (.ref l)) ∧ h.get l = some (.lst (xs.map inj))
  rnew : ∀ {γ s h A} {ys : List α} {h' : Hs} {l : Nat}, rel γ s h A → A.Nodup → l ∉ A → h'.get l = some (.lst (ys.map inj)) → (∀ m ∈ A, h'.get m = h.get m) → ∃ A', rel (set ys γ) (s.set i (some (.ref l))) h' A' ∧ A'.Nodup ∧ ∀ m ∈ A', m = l ∨ m ∈ A
  rupd : ∀ {γ s h A xs} {ys : List α} {h' : Hs} {l : Nat}, rel γ s h A → A.Nodup → get γ = some xs → s[i]? = some (some (.ref l)) → h'.get l = some (.lst (ys.map inj)) → (∀ m ∈ A, m ≠ l → h'.get m = h.get m) → rel (set ys γ) s h' A
instance {α Γ : Type} [I : Inj α] [Row Γ] : OSlot (Ow α × Γ) 0 α I := {
  get := fun γ => γ.1.l
  set := fun xs γ => (⟨some xs⟩, γ.2)
  rget := fun {γ s h A xs} ⟨x, s', e, r⟩ g => by
    subst e
    rw [g] at r
    obtain ⟨l, A', e1, e2, e3, r⟩ := r
    subst e1 e2
    exact ⟨l, List.mem_cons_self, rfl, e3⟩
  rnew := fun {γ s h A ys h' l} ⟨x, s', e, r⟩ nd nl hl hk => by
    subst e
    split at r
    · exact ⟨l :: A, ⟨_, s', rfl, l, A, rfl, rfl, hl, Row.mono r hk⟩, List.nodup_cons.mpr ⟨nl, nd⟩, fun m hm => List.mem_cons.mp hm⟩
    · obtain ⟨l0, A', e1, e2, e3, r⟩ := r
      subst e1
      exact ⟨l :: A', ⟨_, s', rfl, l, A', rfl, rfl, hl, Row.mono r fun m hm => hk m (List.mem_cons_of_mem _ hm)⟩, List.nodup_cons.mpr ⟨fun m => nl (List.mem_cons_of_mem _ m), (List.nodup_cons.mp nd).2⟩, fun m hm => (List.mem_cons.mp hm).elim .inl fun z => .inr (List.mem_cons_of_mem _ z)⟩
  rupd := fun {γ s h A xs ys h' l} ⟨x, s', e, r⟩ nd g hi hl hk => by
    subst e
    rw [g] at r
    obtain ⟨l0, A', e1, e2, e3, r⟩ := r
    subst e1 e2
    rw [List.getElem?_cons_zero] at hi
    cases hi
    refine ⟨_, s', rfl, l, A', rfl, rfl, hl, Row.mono r fun m hm => hk m (List.mem_cons_of_mem _ hm) fun z => ?_⟩
    subst z
    exact (List.nodup_cons.mp nd).1 hm }
instance {α β Γ : Type} [Inj α] [Row Γ] {i : Nat} {J : Inj β} [S : OSlot Γ i β J] : OSlot (Option α × Γ) (i + 1) β J := {
  get := fun γ => S.get γ.2
  set := fun a γ => (γ.1, S.set a γ.2)
  rget := fun ⟨x, s', e, q, r⟩ g => by subst e; simp only [List.getElem?_cons_succ]; exact S.rget r g
  rnew := fun ⟨x, s', e, q, r⟩ nd nl hl hk => by
    subst e
    obtain ⟨A', r', z⟩ := S.rnew r nd nl hl hk
    exact ⟨A', ⟨x, _, rfl, q, r'⟩, z⟩
  rupd := fun ⟨x, s', e, q, r⟩ nd g hi hl hk => by
    subst e
    rw [List.getElem?_cons_succ] at hi
    exact ⟨x, _, rfl, q, S.rupd r nd g hi hl hk⟩ }
instance {β Γ : Type} [Row Γ] {i : Nat} {J : Inj β} [S : OSlot Γ i β J] : OSlot (Tape × Γ) (i + 1) β J := {
  get := fun γ => S.get γ.2
  set := fun a γ => (γ.1, S.set a γ.2)
  rget := fun ⟨s', e, r⟩ g => by subst e; simp only [List.getElem?_cons_succ]; exact S.rget r g
  rnew := fun ⟨s', e, r⟩ nd nl hl hk => by
    subst e
    obtain ⟨A', r', z⟩ := S.rnew r nd nl hl hk
    exact ⟨A', ⟨_, rfl, r'⟩, z⟩
  rupd := fun ⟨s', e, r⟩ nd g hi hl hk => by
    subst e
    rw [List.getElem?_cons_succ] at hi
    exact ⟨_, rfl, S.rupd r nd g hi hl hk⟩ }
instance {α β Γ : Type} [Inj α] [Row Γ] {i : Nat} {J : Inj β} [S : OSlot Γ i β J] : OSlot (Ow α × Γ) (i + 1) β J := {
  get := fun γ => S.get γ.2
  set := fun a γ => (γ.1, S.set a γ.2)
  rget := fun {γ s h A xs} ⟨x, s', e, r⟩ g => by
    subst e
    simp only [List.getElem?_cons_succ]
    split at r
    · exact S.rget r g
    · obtain ⟨l, A', e1, e2, e3, r⟩ := r
      subst e1
      obtain ⟨m, hm, z⟩ := S.rget r g
      exact ⟨m, List.mem_cons_of_mem _ hm, z⟩
  rnew := fun {γ s h A ys h' l} ⟨x, s', e, r⟩ nd nl hl hk => by
    subst e
    split at r
    · rename_i q
      obtain ⟨A', r', z⟩ := S.rnew r nd nl hl hk
      exact ⟨A', ⟨x, _, rfl, by simp only [q]; exact r'⟩, z⟩
    · rename_i xs q
      obtain ⟨l0, A0, e1, e2, e3, r⟩ := r
      subst e1
      obtain ⟨n1, n2⟩ := List.nodup_cons.mp nd
      obtain ⟨A', r', z1, z2⟩ := S.rnew r n2 (fun m => nl (List.mem_cons_of_mem _ m)) hl fun m hm => hk m (List.mem_cons_of_mem _ hm)
      refine ⟨l0 :: A', ⟨x, _, rfl, by simp only [q]; exact ⟨l0, A', rfl, e2, (hk l0 List.mem_cons_self).trans e3, r'⟩⟩, List.nodup_cons.mpr ⟨fun m => ?_, z1⟩, fun m hm => ?_⟩
      · rcases z2 l0 m with z | z
        · exact nl (z ▸ List.mem_cons_self)
        · exact n1 z
      · rcases List.mem_cons.mp hm with z | z
        · exact .inr (z ▸ List.mem_cons_self)
        · exact (z2 m z).elim .inl fun z => .inr (List.mem_cons_of_mem _ z)
  rupd := fun {γ s h A xs ys h' l} ⟨x, s', e, r⟩ nd g hi hl hk => by
    subst e
    rw [List.getElem?_cons_succ] at hi
    split at r
    · rename_i q
      exact ⟨x, _, rfl, by simp only [q]; exact S.rupd r nd g hi hl hk⟩
    · rename_i zs q
      obtain ⟨l0, A0, e1, e2, e3, r⟩ := r
      subst e1
      obtain ⟨n1, n2⟩ := List.nodup_cons.mp nd
      obtain ⟨m, hm, z, _⟩ := S.rget r g
      have ne : l0 ≠ l := fun z2 => by
        rw [z] at hi
        cases hi
        exact n1 (z2 ▸ hm)
      exact ⟨x, _, rfl, by simp only [q]; exact ⟨l0, A0, rfl, e2, (hk l0 List.mem_cons_self ne).trans e3, S.rupd r n2 g hi hl fun m hm => hk m (List.mem_cons_of_mem _ hm)⟩⟩ }
/-! ### lists that are lent -/
/-- the slot of a list that a caller lent: it never names another one -/
structure Lt (α : Type) where
  l : List α
/-- the place of the lent list, and what the caller keeps -/
class Frm where
  a : Nat
  L : List Nat
  g : Nat → Option Ob
instance {α Γ : Type} [Frm] [Inj α] [Row Γ] : Row (Lt α × Γ) := ⟨fun γ s h A => ∃ s' A', s = some (.ref Frm.a) :: s' ∧ A = Frm.a :: A' ∧ h.get Frm.a = some (.lst (γ.1.l.map inj)) ∧ rel γ.2 s' h A', fun ⟨s', A', e1, e2, e3, r⟩ k => by
  subst e2
  exact ⟨s', A', e1, rfl, (k _ List.mem_cons_self).trans e3, Row.mono r fun m hm => k m (List.mem_cons_of_mem _ hm)⟩, Row.bw Γ⟩
/-- what a caller keeps -/
structure Fr where
instance [Frm] : Row Fr := ⟨fun _ _ h A => A = Frm.L ∧ ∀ m ∈ Frm.L, h.get m = Frm.g m, fun ⟨e, r⟩ k => by
  subst e
  exact ⟨rfl, fun m hm => (k m hm).trans (r m hm)⟩, []⟩
instance {α β Γ : Type} [Frm] [Inj α] [Row Γ] {i : Nat} {J : Inj β} [S : Slot Γ i β J] : Slot (Lt α × Γ) (i + 1) β J := {
  get := fun γ => S.get γ.2
  set := fun a γ => (γ.1, S.set a γ.2)
  rget := fun ⟨s', A', e1, e2, e3, r⟩ g => by subst e1; rw [List.getElem?_cons_succ]; exact S.rget r g
  rset := fun ⟨s', A', e1, e2, e3, r⟩ => by subst e1; exact ⟨_, A', rfl, e2, e3, S.rset r⟩
  rnone := fun ⟨s', A', e1, e2, e3, r⟩ => by subst e1; exact ⟨_, A', rfl, e2, e3, S.rnone r⟩
  lt := fun ⟨s', A', e1, e2, e3, r⟩ => by subst e1; exact Nat.succ_lt_succ (S.lt r) }
instance {α β Γ : Type} [Frm] [Inj α] [Row Γ] {i : Nat} {J : Inj β} [S : OSlot Γ i β J] : OSlot (Lt α × Γ) (i + 1) β J := {
  get := fun γ => S.get γ.2
  set := fun a γ => (γ.1, S.set a γ.2)
  rget := fun {γ s h A xs} ⟨s', A', e1, e2, e3, r⟩ g => by
    subst e1 e2
    simp only [List.getElem?_cons_succ]
    obtain ⟨m, hm, z⟩ := S.rget r g
    exact ⟨m, List.mem_cons_of_mem _ hm, z⟩
  rnew := fun {γ s h A ys h' l} ⟨s', A0, e1, e2, e3, r⟩ nd nl hl hk => by
    subst e1 e2
    obtain ⟨n1, n2⟩ := List.nodup_cons.mp nd
    obtain ⟨A', r', z1, z2⟩ := S.rnew r n2 (fun m => nl (List.mem_cons_of_mem _ m)) hl fun m hm => hk m (List.mem_cons_of_mem _ hm)
    refine ⟨Frm.a :: A', ⟨_, A', rfl, rfl, (hk _ List.mem_cons_self).trans e3, r'⟩, List.nodup_cons.mpr ⟨fun m => ?_, z1⟩, fun m hm => ?_⟩
    · rcases z2 _ m with z | z
      · exact nl (z ▸ List.mem_cons_self)
      · exact n1 z
    · rcases List.mem_cons.mp hm with z | z
      · exact .inr (z ▸ List.mem_cons_self)
      · exact (z2 m z).elim .inl fun z => .inr (List.mem_cons_of_mem _ z)
  rupd := fun {γ s h A xs ys h' l} ⟨s', A0, e1, e2, e3, r⟩ nd g hi hl hk => by
    subst e1 e2
    rw [List.getElem?_cons_succ] at hi
    obtain ⟨n1, n2⟩ := List.nodup_cons.mp nd
    obtain ⟨m, hm, z, _⟩ := S.rget r g
    have ne : Frm.a ≠ l := fun z2 => by
      rw [z] at hi
      cases hi
      exact n1 (z2 ▸ hm)
    exact ⟨_, A0, rfl, rfl, (hk _ List.mem_cons_self ne).trans e3, S.rupd r n2 g hi hl fun m hm => hk m (List.mem_cons_of_mem _ hm)⟩ }
/-- the slot i holds a list of its own, or a lent one: it is read and written -/
class USlot (Γ : Type) [Row Γ] (i : Nat) (α : outParam Type) (I : outParam (Inj α)) where
  get : Γ → Option (List α)
  set : List α → Γ → Γ
  rget : ∀ {γ s h A xs}, rel γ s h A → get γ = some xs → ∃ l ∈ A, s[i]? = some (some (.ref l)) ∧ h.get l = some (.lst (xs.map inj))
  rupd : ∀ {γ s h A xs} {ys : List α} {h' : Hs} {l : Nat}, rel γ s h A → A.Nodup → get γ = some xs → s[i]? = some (some (.ref l)) → h'.get l = some (.lst (ys.map inj)) → (∀ m ∈ A, m ≠ l → h'.get m = h.get m) → rel (set ys γ) s h' A
instance {α Γ : Type} {i : Nat} {I : Inj α} [Row Γ] [S : OSlot Γ i α I] : USlot Γ i α I := ⟨S.get, S.set, S.rget, S.rupd⟩
instance {α Γ : Type} [Frm] [I : Inj α] [Row Γ] : USlot (Lt α × Γ) 0 α I := {
  get := fun γ => some γ.1.l
  set := fun xs γ => (⟨xs⟩, γ.2)
  rget := fun {γ s h A xs} ⟨s', A', e1, e2, e3, r⟩ g => by
    cases g
    subst e1 e2
    exact ⟨_, List.mem_cons_self, rfl, e3⟩
  rupd := fun {γ s h A xs ys h' l} ⟨s', A', e1, e2, e3, r⟩ nd g hi hl hk => by
    subst e1 e2
    rw [List.getElem?_cons_zero] at hi
    cases hi
    refine ⟨_, A', rfl, rfl, hl, Row.mono r fun m hm => hk m (List.mem_cons_of_mem _ hm) fun z => ?_⟩
    subst z
    exact (List.nodup_cons.mp nd).1 hm }
instance (priority := low) {α β Γ : Type} [Inj α] [Row Γ] {i : Nat} {J : Inj β} [S : USlot Γ i β J] : USlot (Option α × Γ) (i + 1) β J := {
  get := fun γ => S.get γ.2
  set := fun a γ => (γ.1, S.set a γ.2)
  rget := fun ⟨x, s', e, q, r⟩ g => by subst e; simp only [List.getElem?_cons_succ]; exact S.rget r g
  rupd := fun ⟨x, s', e, q, r⟩ nd g hi hl hk => by
    subst e
    rw [List.getElem?_cons_succ] at hi
    exact ⟨x, _, rfl, q, S.rupd r nd g hi hl hk⟩ }
end Eng
/-! The typed layer: expressions. -/
namespace Eng
open PySem L2
open Inj (inj)
open InjR (injR)
open Row (rel)
section
variable (cf : Nat → List Val → Hs → T (Val × Hs))
/-- e's run is f's -/
class EC (Γ : Type) [Row Γ] (e : E) (α : outParam Type) (I : outParam (Inj α)) (f : outParam (Γ → T α)) : Prop where
  run : ∀ {n0 γ s h} {P : α → Prop}, Rg n0 γ s h → (f γ).All P → (ev cf e s h).All fun r => r.2 = h ∧ ∃ a, r.1 = inj a ∧ P a
/-- e is a sequence -/
class SE (Γ : Type) [Row Γ] (e : E) (α : outParam Type) (I : outParam (Inj α)) (f : outParam (Γ → T (List α))) : Prop where
  run : ∀ {n0 γ s h} {P : List α → Prop}, Rg n0 γ s h → (f γ).All P → (ev cf e s h).All fun r => r.2 = h ∧ ∃ a, P a ∧ items h r.1 = some (a.map inj) ∧ dicOf h r.1 = none
/-- e is a list -/
class LE (Γ : Type) [Row Γ] (e : E) (α : outParam Type) (I : outParam (Inj α)) (f : outParam (Γ → T (List α))) : Prop where
  run : ∀ {n0 γ s h} {P : List α → Prop}, Rg n0 γ s h → (f γ).All P → (ev cf e s h).All fun r => r.2 = h ∧ ∃ a, P a ∧ itemsL h r.1 = some (a.map inj) ∧ items h r.1 = some (a.map inj) ∧ dicOf h r.1 = none
/-- arguments, elements -/
class EsC (Γ : Type) [Row Γ] (es : List E) (τ : outParam Type) (I : outParam (InjR τ)) (f : outParam (Γ → T τ)) : Prop where
  run : ∀ {n0 γ s h} {P : τ → Prop}, Rg n0 γ s h → (f γ).All P → (evs cf es s h).All fun r => r.2 = h ∧ ∃ a, r.1 = injR a ∧ P a
/-- elements of one type -/
class EsH (Γ : Type) [Row Γ] (es : List E) (α : outParam Type) (I : outParam (Inj α)) (f : outParam (Γ → T (List α))) : Prop where
  run : ∀ {n0 γ s h} {P : List α → Prop}, Rg n0 γ s h → (f γ).All P → (evs cf es s h).All fun r => r.2 = h ∧ ∃ a : List α, r.1 = a.map inj ∧ P a
end
/-- one type's values as another's -/
class Cv (α β : Type) [Inj α] [Inj β] where
  cv : α → β
  ok : ∀ a, inj (cv a) = inj a
instance (priority := high) {α : Type} [Inj α] : Cv α α := ⟨id, fun _ => rfl⟩
instance {α : Type} [Inj α] : Cv (Tu Unit) (Tp α) := ⟨fun _ => ⟨[]⟩, fun _ => rfl⟩
instance {α β : Type} [Inj α] [Inj β] [C : Cv α β] : Cv (Tu (α × Unit)) (Tp β) := ⟨fun t => ⟨[C.cv t.t.1]⟩, fun t => by
  show Val.tup [inj (C.cv t.t.1)] = Val.tup [inj t.t.1]
  rw [C.ok]⟩
instance {α β τ : Type} [Inj α] [Inj β] [InjR τ] [C : Cv α β] [D : Cv (Tu τ) (Tp β)] : Cv (Tu (α × τ)) (Tp β) := ⟨fun t => ⟨C.cv t.t.1 :: (D.cv ⟨t.t.2⟩).l⟩, fun t => by
  have h := D.ok ⟨t.t.2⟩
  show Val.tup (inj (C.cv t.t.1) :: (D.cv ⟨t.t.2⟩).l.map inj) = Val.tup (inj t.t.1 :: injR t.t.2)
  have h2 : (D.cv ⟨t.t.2⟩).l.map inj = injR t.t.2 := Val.tup.inj h
  rw [C.ok, h2]⟩
instance {α β : Type} [Inj α] [Inj β] [C : Cv α β] : Cv α (Option β) := ⟨fun a => some (C.cv a), fun a => C.ok a⟩
instance {α : Type} [Inj α] : Cv Unit (Option α) := ⟨fun _ => none, fun _ => rfl⟩
/-- a value of one type taken as one of another one, if it is -/
class Pv (α β : Type) [Inj α] [Inj β] where
  pv : α → Option β
  ok : ∀ {a b}, pv a = some b → inj b = inj a
instance (priority := high) {α β : Type} [Inj α] [Inj β] [C : Cv α β] : Pv α β := ⟨fun a => some (C.cv a), fun {a b} e => by cases e; exact C.ok a⟩
instance {α β : Type} [Inj α] [Inj β] [C : Pv α β] : Pv (Option α) β := ⟨fun a => match a with
  | some a => C.pv a
  | none => none, fun {a b} e => by
  cases a with
  | none => cases e
  | some a => exact C.ok (a := a) e⟩
theorem optAll_pv {α β : Type} [Inj α] [Inj β] [C : Pv α β] : ∀ {xs : List α} {ys : List β}, optAll C.pv xs = some ys → ys.map inj = xs.map inj
  | [], ys, e => by cases e; rfl
  | x :: xs, ys, e => by
    unfold optAll at e
    split at e
    · cases e
    · rename_i y e1
      split at e
      · cases e
      · rename_i zs e2
        cases e
        rw [List.map_cons, List.map_cons, C.ok e1, optAll_pv e2]
instance {α β : Type} [Inj α] [Inj β] [C : Pv α β] : Pv (Tp α) (Tp β) := ⟨fun t => (optAll C.pv t.l).map Tp.mk, fun {a b} e => by
  obtain ⟨ys, e1, e2⟩ := Option.map_eq_some_iff.mp e
  subst e2
  show Val.tup (ys.map inj) = Val.tup (a.l.map inj)
  rw [optAll_pv e1]⟩
instance {α β : Type} [Inj α] [Inj β] [C : Pv α β] : Pv (List α) (List β) := ⟨fun t => optAll C.pv t, fun {a b} e => by
  show Val.tl (b.map inj) = Val.tl (a.map inj)
  rw [optAll_pv e]⟩
class PvR (τ σ : Type) [InjR τ] [InjR σ] where
  pv : τ → Option σ
  ok : ∀ {a b}, pv a = some b → injR b = injR a
instance : PvR Unit Unit := ⟨fun _ => some (), fun e => by cases e; rfl⟩
instance {α β τ σ : Type} [Inj α] [Inj β] [InjR τ] [InjR σ] [C : Pv α β] [D : PvR τ σ] : PvR (α × τ) (β × σ) := ⟨fun t => match C.pv t.1 with
  | some a => match D.pv t.2 with
    | some b => some (a, b)
    | none => none
  | none => none, fun {a b} e => by
  split at e
  · rename_i x e1
    split at e
    · rename_i y e2
      cases e
      show inj x :: injR y = inj a.1 :: injR a.2
      rw [C.ok e1, D.ok e2]
    · cases e
  · cases e⟩
instance {τ σ : Type} [InjR τ] [InjR σ] [D : PvR τ σ] : Pv (Tu τ) (Tu σ) := ⟨fun t => match D.pv t.t with
  | some a => some ⟨a⟩
  | none => none, fun {a b} e => by
  split at e
  · rename_i x e1
    cases e
    show Val.tup (injR x) = Val.tup (injR a.t)
    rw [D.ok e1]
  · cases e⟩
/-- the parts of a written-out tuple, all of one type -/
class HomC (τ : Type) [InjR τ] (α : outParam Type) (I : outParam (Inj α)) where
  l : τ → List α
  ok : ∀ a, (l a).map inj = injR a
instance {α : Type} [I : Inj α] : HomC (α × Unit) α I := ⟨fun a => [a.1], fun _ => rfl⟩
instance {α τ : Type} {I : Inj α} [InjR τ] [C : HomC τ α I] : HomC (α × τ) α I := ⟨fun a => a.1 :: C.l a.2, fun a => by
  show inj a.1 :: (C.l a.2).map inj = inj a.1 :: injR a.2
  rw [C.ok]⟩
section
variable {cf : Nat → List Val → Hs → T (Val × Hs)} {Γ : Type} [Row Γ]
theorem T.of_some' {A : Type} {o : Option A} {P : A → Prop} (h : (T.of o).All P) : ∃ a, o = some a ∧ P a := T.of_all h
/-- a step, and the rest -/
theorem EC.bind {e : E} {α : Type} {I : Inj α} {f : Γ → T α} (E1 : EC cf Γ e α I f) {n0 : Nat} {γ : Γ} {s : Env} {h : Hs} {B : Type} {k : α → T B} {Q : B → Prop} {C : Type} {g : Val × Hs → T C} {R : C → Prop} (rg : Rg n0 γ s h)
    (p : ((f γ).bind k).All Q) (st : ∀ a, (k a).All Q → (g (inj a, h)).All R) : ((ev cf e s h).bind g).All R := by
  rw [T.all_bind] at p ⊢
  refine T.all_mono (fun r z => ?_) (E1.run rg p)
  obtain ⟨v, h'⟩ := r
  obtain ⟨z1, a, z2, z3⟩ := z
  simp only at z1 z2
  subst z1 z2
  exact st a z3
theorem EsC.bind {es : List E} {τ : Type} {I : InjR τ} {f : Γ → T τ} (E1 : EsC cf Γ es τ I f) {n0 : Nat} {γ : Γ} {s : Env} {h : Hs} {B : Type} {k : τ → T B} {Q : B → Prop} {C : Type} {g : List Val × Hs → T C} {R : C → Prop} (rg : Rg n0 γ s h)
    (p : ((f γ).bind k).All Q) (st : ∀ a, (k a).All Q → (g (injR a, h)).All R) : ((evs cf es s h).bind g).All R := by
  rw [T.all_bind] at p ⊢
  refine T.all_mono (fun r z => ?_) (E1.run rg p)
  obtain ⟨v, h'⟩ := r
  obtain ⟨z1, a, z2, z3⟩ := z
  simp only at z1 z2
  subst z1 z2
  exact st a z3
theorem EsH.bind {es : List E} {α : Type} {I : Inj α} {f : Γ → T (List α)} (E1 : EsH cf Γ es α I f) {n0 : Nat} {γ : Γ} {s : Env} {h : Hs} {B : Type} {k : List α → T B} {Q : B → Prop} {C : Type} {g : List Val × Hs → T C} {R : C → Prop} (rg : Rg n0 γ s h)
    (p : ((f γ).bind k).All Q) (st : ∀ a : List α, (k a).All Q → (g (a.map inj, h)).All R) : ((evs cf es s h).bind g).All R := by
  rw [T.all_bind] at p ⊢
  refine T.all_mono (fun r z => ?_) (E1.run rg p)
  obtain ⟨v, h'⟩ := r
  obtain ⟨z1, a, z2, z3⟩ := z
  simp only at z1 z2
  subst z1 z2
  exact st a z3
theorem SE.bind {e : E} {α : Type} {I : Inj α} {f : Γ → T (List α)} (E1 : SE cf Γ e α I f) {n0 : Nat} {γ : Γ} {s : Env} {h : Hs} {B : Type} {k : List α → T B} {Q : B → Prop} {C : Type} {g : Val × Hs → T C} {R : C → Prop} (rg : Rg n0 γ s h)
    (p : ((f γ).bind k).All Q) (st : ∀ a v, (k a).All Q → items h v = some (a.map inj) → dicOf h v = none → (g (v, h)).All R) : ((ev cf e s h).bind g).All R := by
  rw [T.all_bind] at p ⊢
  refine T.all_mono (fun r z => ?_) (E1.run rg p)
  obtain ⟨v, h'⟩ := r
  obtain ⟨z1, a, z2, z3, z4⟩ := z
  simp only at z1 z3 z4
  subst z1
  exact st a v z2 z3 z4
theorem LE.bind {e : E} {α : Type} {I : Inj α} {f : Γ → T (List α)} (E1 : LE cf Γ e α I f) {n0 : Nat} {γ : Γ} {s : Env} {h : Hs} {B : Type} {k : List α → T B} {Q : B → Prop} {C : Type} {g : Val × Hs → T C} {R : C → Prop} (rg : Rg n0 γ s h)
    (p : ((f γ).bind k).All Q) (st : ∀ a v, (k a).All Q → itemsL h v = some (a.map inj) → items h v = some (a.map inj) → dicOf h v = none → (g (v, h)).All R) : ((ev cf e s h).bind g).All R := by
  rw [T.all_bind] at p ⊢
  refine T.all_mono (fun r z => ?_) (E1.run rg p)
  obtain ⟨v, h'⟩ := r
  obtain ⟨z1, a, z2, z3, z4, z5⟩ := z
  simp only at z1 z3 z4 z5
  subst z1
  exact st a v z2 z3 z4 z5
theorem ok_all {α : Type} {I : Inj α} {h : Hs} {P : α → Prop} {a : α} (p : P a) : (T.ok (inj a, h)).All fun r => r.2 = h ∧ ∃ a, r.1 = inj a ∧ P a := ⟨rfl, a, rfl, p⟩
/-! names, constants -/
instance EC.v {i : Nat} {α : Type} {I : Inj α} [S : Slot Γ i α I] : EC cf Γ (.v i) α I (fun γ => T.of (S.get γ)) := ⟨fun {n0 γ s h P} rg p => by
  obtain ⟨a, e, q⟩ := T.of_some' p
  obtain ⟨A, r, _⟩ := rg
  rw [q_v, S.rget r e]
  exact ok_all q⟩
instance EC.cI {n : Int} : EC cf Γ (.c (.int n)) Int inferInstance (fun _ => .ok n) := ⟨fun rg p => ⟨rfl, n, rfl, p⟩⟩
instance EC.cB {n : Bool} : EC cf Γ (.c (.bl n)) Bool inferInstance (fun _ => .ok n) := ⟨fun rg p => ⟨rfl, n, rfl, p⟩⟩
instance EC.cS {n : Str} : EC cf Γ (.c (.str n)) Str inferInstance (fun _ => .ok n) := ⟨fun rg p => ⟨rfl, n, rfl, p⟩⟩
instance EC.cN : EC cf Γ (.c .non) Unit inferInstance (fun _ => .ok ()) := ⟨fun rg p => ⟨rfl, (), rfl, p⟩⟩
instance SE.ofTp {e : E} {α : Type} {I : Inj α} {f : Γ → T (Tp α)} [E1 : EC cf Γ e (Tp α) inferInstance f] : SE cf Γ e α I (fun γ => (f γ).bind fun t => .ok t.l) := ⟨fun {n0 γ s h P} rg p => by
  rw [T.all_bind] at p
  refine T.all_mono (fun r z => ?_) (E1.run rg p)
  obtain ⟨z1, a, z2, z3⟩ := z
  refine ⟨z1, a.l, z3, ?_, ?_⟩ <;> rw [z2] <;> rfl⟩
instance LE.ofL {e : E} {α : Type} {I : Inj α} {f : Γ → T (List α)} [E1 : EC cf Γ e (List α) inferInstance f] : LE cf Γ e α I f := ⟨fun {n0 γ s h P} rg p => by
  refine T.all_mono (fun r z => ?_) (E1.run rg p)
  obtain ⟨z1, a, z2, z3⟩ := z
  refine ⟨z1, a, z3, ?_, ?_, ?_⟩ <;> rw [z2] <;> rfl⟩
instance LE.ofO {i : Nat} {α : Type} {I : Inj α} [S : USlot Γ i α I] : LE cf Γ (.v i) α I (fun γ => T.of (S.get γ)) := ⟨fun {n0 γ s h P} rg p => by
  obtain ⟨a, e, q⟩ := T.of_some' p
  obtain ⟨A, r, _⟩ := rg
  obtain ⟨l, _, e1, e2⟩ := S.rget r e
  rw [q_v, e1]
  refine ⟨rfl, a, q, ?_, ?_, ?_⟩
  · simp only [itemsL, e2]
  · simp only [items, e2]
  · simp only [dicOf, e2]⟩
instance SE.ofLE {e : E} {α : Type} {I : Inj α} {f : Γ → T (List α)} [E1 : LE cf Γ e α I f] : SE cf Γ e α I f := ⟨fun {n0 γ s h P} rg p =>
  T.all_mono (fun r ⟨z1, a, z2, z3, z4, z5⟩ => ⟨z1, a, z2, z4, z5⟩) (E1.run rg p)⟩
/-! numbers -/
instance EC.binI {op : Bop} {m : Bool} {a b : E} {fa fb : Γ → T Int} [E1 : EC cf Γ a Int inferInstance fa] [E2 : EC cf Γ b Int inferInstance fb] : EC cf Γ (.bin op m a b) Int inferInstance (fun γ => (fa γ).bind fun x => (fb γ).bind fun y => T.of (bopI op x y)) := ⟨fun {n0 γ s h P} rg p => by
  rw [q_bin]
  refine E1.bind rg p fun x p => E2.bind rg p fun y p => ?_
  obtain ⟨k, e, q⟩ := T.of_some' p
  show (bopV op m (.int x) (.int y) h).All _
  simp only [bopV, e, T.of, T.bind]
  exact ok_all (I := inferInstance) q⟩
instance EC.neg {a : E} {fa : Γ → T Int} [E1 : EC cf Γ a Int inferInstance fa] : EC cf Γ (.neg a) Int inferInstance (fun γ => (fa γ).bind fun x => .ok (-x)) := ⟨fun {n0 γ s h P} rg p => by
  rw [q_neg]
  exact E1.bind rg p fun x p => ok_all (I := inferInstance) p⟩
instance (priority := high) EC.cmpI {op : Cop} {a b : E} {fa fb : Γ → T Int} [E1 : EC cf Γ a Int inferInstance fa] [E2 : EC cf Γ b Int inferInstance fb] : EC cf Γ (.cmp op a b) Bool inferInstance (fun γ => (fa γ).bind fun x => (fb γ).bind fun y => T.of (copI op x y)) := ⟨fun {n0 γ s h P} rg p => by
  rw [q_cmp]
  refine E1.bind rg p fun x p => E2.bind rg p fun y p => ?_
  obtain ⟨k, e, q⟩ := T.of_some' p
  show (match copV op (.int x) (.int y) h with
    | some k => T.ok (Val.bl k, h)
    | none => .no).All _
  rw [q_cmpI, e]
  exact ok_all (I := inferInstance) q⟩
instance EC.chnI {o1 o2 : Cop} {a b c : E} {fa fb fc : Γ → T Int} [E1 : EC cf Γ a Int inferInstance fa] [E2 : EC cf Γ b Int inferInstance fb] [E3 : EC cf Γ c Int inferInstance fc] :
    EC cf Γ (.chn o1 o2 a b c) Bool inferInstance (fun γ => (fa γ).bind fun x => (fb γ).bind fun y => (T.of (copI o1 x y)).bind fun k => match k with
      | true => (fc γ).bind fun z => T.of (copI o2 y z)
      | false => .ok false) := ⟨fun {n0 γ s h P} rg p => by
  rw [q_chn]
  refine E1.bind rg p fun x p => E2.bind rg p fun y p => ?_
  rw [T.all_bind] at p
  obtain ⟨k, e, p⟩ := T.of_some' p
  have e' : copV o1 (inj x) (inj y) h = some k := e
  simp only [e']
  cases k with
  | false => exact ⟨rfl, false, rfl, p⟩
  | true =>
    refine E3.bind (k := fun z => T.of (copI o2 y z)) rg p fun z p => ?_
    obtain ⟨k, e, q⟩ := T.of_some' p
    have e' : copV o2 (inj y) (inj z) h = some k := e
    simp only [e']
    exact ⟨rfl, k, rfl, q⟩⟩
/-! truth values -/
instance EC.and {a b : E} {fa fb : Γ → T Bool} [E1 : EC cf Γ a Bool inferInstance fa] [E2 : EC cf Γ b Bool inferInstance fb] : EC cf Γ (.and a b) Bool inferInstance (fun γ => (fa γ).bind fun x => match x with
    | true => fb γ
    | false => .ok false) := ⟨fun {n0 γ s h P} rg p => by
  rw [q_and]
  refine E1.bind rg p fun x p => ?_
  cases x with
  | true => exact E2.run rg p
  | false => exact ok_all (I := inferInstance) p⟩
instance EC.or {a b : E} {fa fb : Γ → T Bool} [E1 : EC cf Γ a Bool inferInstance fa] [E2 : EC cf Γ b Bool inferInstance fb] : EC cf Γ (.or a b) Bool inferInstance (fun γ => (fa γ).bind fun x => match x with
    | true => .ok true
    | false => fb γ) := ⟨fun {n0 γ s h P} rg p => by
  rw [q_or]
  refine E1.bind rg p fun x p => ?_
  cases x with
  | false => exact E2.run rg p
  | true => exact ok_all (I := inferInstance) p⟩
instance EC.not {a : E} {fa : Γ → T Bool} [E1 : EC cf Γ a Bool inferInstance fa] : EC cf Γ (.not a) Bool inferInstance (fun γ => (fa γ).bind fun x => .ok (!x)) := ⟨fun {n0 γ s h P} rg p => by
  rw [q_not]
  exact E1.bind rg p fun x p => ok_all (I := inferInstance) p⟩
instance EC.ite {c a b : E} {α : Type} {I : Inj α} {fc : Γ → T Bool} {fa fb : Γ → T α} [E0 : EC cf Γ c Bool inferInstance fc] [E1 : EC cf Γ a α I fa] [E2 : EC cf Γ b α I fb] : EC cf Γ (.ite c a b) α I (fun γ => (fc γ).bind fun x => match x with
    | true => fa γ
    | false => fb γ) := ⟨fun {n0 γ s h P} rg p => by
  rw [q_ite, q_tst, T.bind_assoc]
  refine E0.bind rg p fun x p => ?_
  cases x with
  | true => exact E1.run rg p
  | false => exact E2.run rg p⟩
/-! rows of expressions -/
instance EsC.nil : EsC cf Γ [] Unit inferInstance (fun _ => .ok ()) := ⟨fun rg p => ⟨rfl, (), rfl, p⟩⟩
instance EsC.cons {e : E} {es : List E} {α τ : Type} {I : Inj α} {J : InjR τ} {f : Γ → T α} {g : Γ → T τ} [E1 : EC cf Γ e α I f] [E2 : EsC cf Γ es τ J g] : EsC cf Γ (e :: es) (α × τ) inferInstance (fun γ => (f γ).bind fun x => (g γ).bind fun y => .ok (x, y)) := ⟨fun {n0 γ s h P} rg p => by
  rw [q_cons]
  exact E1.bind rg p fun x p => E2.bind rg p fun y p => ⟨rfl, (x, y), rfl, p⟩⟩
instance EsH.one {e : E} {α : Type} {I : Inj α} {f : Γ → T α} [E1 : EC cf Γ e α I f] : EsH cf Γ [e] α I (fun γ => (f γ).bind fun x => .ok [x]) := ⟨fun {n0 γ s h P} rg p => by
  rw [q_cons]
  exact E1.bind rg p fun x p => ⟨rfl, [x], rfl, p⟩⟩
instance EsH.cons {e e2 : E} {es : List E} {α : Type} {I : Inj α} {f : Γ → T α} {g : Γ → T (List α)} [E1 : EC cf Γ e α I f] [E2 : EsH cf Γ (e2 :: es) α I g] : EsH cf Γ (e :: e2 :: es) α I (fun γ => (f γ).bind fun x => (g γ).bind fun y => .ok (x :: y)) := ⟨fun {n0 γ s h P} rg p => by
  rw [q_cons]
  exact E1.bind rg p fun x p => E2.bind rg p fun y p => ⟨rfl, x :: y, rfl, p⟩⟩
instance EC.tup {es : List E} {τ : Type} {J : InjR τ} {g : Γ → T τ} [E1 : EsC cf Γ es τ J g] : EC cf Γ (.tup es) (Tu τ) inferInstance (fun γ => (g γ).bind fun x => if small (injR x).length then .ok ⟨x⟩ else .no) := ⟨fun {n0 γ s h P} rg p => by
  rw [q_tup]
  refine E1.bind rg p fun x p => ?_
  split at p
  · rename_i q
    simp only [q, if_true]
    exact ⟨rfl, ⟨x⟩, rfl, p⟩
  · exact p.elim⟩
instance EC.lst {e : E} {es : List E} {α : Type} {I : Inj α} {g : Γ → T (List α)} [E1 : EsH cf Γ (e :: es) α I g] : EC cf Γ (.lst false (e :: es)) (List α) inferInstance (fun γ => (g γ).bind fun x => if small x.length then .ok x else .no) := ⟨fun {n0 γ s h P} rg p => by
  rw [q_lst]
  refine E1.bind rg p fun x p => ?_
  split at p
  · rename_i q
    simp only [List.length_map, q, if_true]
    exact ⟨rfl, x, rfl, p⟩
  · exact p.elim⟩
/-! sequences -/
instance EC.len {e : E} {m : Bool} {α : Type} {I : Inj α} {f : Γ → T (List α)} [E1 : SE cf Γ e α I f] : EC cf Γ (.bi .len m [e]) Int inferInstance (fun γ => (f γ).bind fun x => .ok (x.length : Int)) := ⟨fun {n0 γ s h P} rg p => by
  rw [q_bi, q_cons, T.bind_assoc]
  refine E1.bind rg p fun x v p h1 h2 => ?_
  show (biV .len m [v] h).All _
  simp only [biV, h1, List.length_map]
  exact ⟨rfl, _, rfl, p⟩⟩
def getI {α : Type} (xs : List α) (k : Int) : Option α := match ixI xs.length k with
  | some j => xs[j]?
  | none => none
instance EC.sub {a i : E} {α : Type} {I : Inj α} {f : Γ → T (List α)} {g : Γ → T Int} [E1 : SE cf Γ a α I f] [E2 : EC cf Γ i Int inferInstance g] : EC cf Γ (.sub a i) α I (fun γ => (f γ).bind fun x => (g γ).bind fun k => T.of (getI x k)) := ⟨fun {n0 γ s h P} rg p => by
  rw [q_sub]
  refine E1.bind rg p fun x v p h1 h2 => E2.bind rg p fun k p => ?_
  obtain ⟨y, e, q⟩ := T.of_some' p
  show (match subV v (.int k) h with
    | some v => T.ok (v, h)
    | none => .no).All _
  have : subV v (.int k) h = some (inj y) := by
    unfold getI at e
    unfold subV
    simp only [h2, h1, List.length_map]
    split at e
    · rename_i j ej
      simp only [ej, List.getElem?_map, e, Option.map_some]
    · cases e
  rw [this]
  exact ⟨rfl, y, rfl, q⟩⟩
instance EC.catT {m : Bool} {a b : E} {α : Type} {I : Inj α} {fa fb : Γ → T (Tp α)} [E1 : EC cf Γ a (Tp α) inferInstance fa] [E2 : EC cf Γ b (Tp α) inferInstance fb] : EC cf Γ (.bin .add m a b) (Tp α) inferInstance (fun γ => (fa γ).bind fun x => (fb γ).bind fun y => if small (x.l.length + y.l.length) then .ok ⟨x.l ++ y.l⟩ else .no) := ⟨fun {n0 γ s h P} rg p => by
  rw [q_bin]
  refine E1.bind rg p fun x p => E2.bind rg p fun y p => ?_
  split at p
  · rename_i q
    show (bopV .add m (.tup (x.l.map inj)) (.tup (y.l.map inj)) h).All _
    simp only [q_catT, List.length_map, q, if_true]
    exact ⟨rfl, ⟨x.l ++ y.l⟩, by show _ = Val.tup _; rw [List.map_append], p⟩
  · exact p.elim⟩
instance EC.catTu {m : Bool} {a b : E} {α τ : Type} {I : Inj α} {J : InjR τ} {fa : Γ → T (Tp α)} {fb : Γ → T (Tu τ)} [E1 : EC cf Γ a (Tp α) inferInstance fa] [E2 : EC cf Γ b (Tu τ) inferInstance fb] [C : Cv (Tu τ) (Tp α)] : EC cf Γ (.bin .add m a b) (Tp α) inferInstance (fun γ => (fa γ).bind fun x => (fb γ).bind fun y => if small (x.l.length + (C.cv y).l.length) then .ok ⟨x.l ++ (C.cv y).l⟩ else .no) := ⟨fun {n0 γ s h P} rg p => by
  rw [q_bin]
  refine E1.bind rg p fun x p => E2.bind rg p fun y p => ?_
  split at p
  · rename_i q
    have e : inj y = Val.tup ((C.cv y).l.map inj) := (C.ok y).symm
    rw [e]
    show (bopV .add m (.tup (x.l.map inj)) (.tup ((C.cv y).l.map inj)) h).All _
    simp only [q_catT, List.length_map, q, if_true]
    exact ⟨rfl, ⟨x.l ++ (C.cv y).l⟩, by show _ = Val.tup _; rw [List.map_append], p⟩
  · exact p.elim⟩
instance EC.catuT {m : Bool} {a b : E} {α τ : Type} {I : Inj α} {J : InjR τ} {fa : Γ → T (Tu τ)} {fb : Γ → T (Tp α)} [E1 : EC cf Γ a (Tu τ) inferInstance fa] [E2 : EC cf Γ b (Tp α) inferInstance fb] [C : Cv (Tu τ) (Tp α)] : EC cf Γ (.bin .add m a b) (Tp α) inferInstance (fun γ => (fa γ).bind fun x => (fb γ).bind fun y => if small ((C.cv x).l.length + y.l.length) then .ok ⟨(C.cv x).l ++ y.l⟩ else .no) := ⟨fun {n0 γ s h P} rg p => by
  rw [q_bin]
  refine E1.bind rg p fun x p => E2.bind rg p fun y p => ?_
  split at p
  · rename_i q
    have e : inj x = Val.tup ((C.cv x).l.map inj) := (C.ok x).symm
    rw [e]
    show (bopV .add m (.tup ((C.cv x).l.map inj)) (.tup (y.l.map inj)) h).All _
    simp only [q_catT, List.length_map, q, if_true]
    exact ⟨rfl, ⟨(C.cv x).l ++ y.l⟩, by show _ = Val.tup _; rw [List.map_append], p⟩
  · exact p.elim⟩
instance EC.catL {a b : E} {α : Type} {I : Inj α} {fa fb : Γ → T (List α)} [E1 : EC cf Γ a (List α) inferInstance fa] [E2 : EC cf Γ b (List α) inferInstance fb] : EC cf Γ (.bin .add false a b) (List α) inferInstance (fun γ => (fa γ).bind fun x => (fb γ).bind fun y => if small (x.length + y.length) then .ok (x ++ y) else .no) := ⟨fun {n0 γ s h P} rg p => by
  rw [q_bin]
  refine E1.bind rg p fun x p => E2.bind rg p fun y p => ?_
  split at p
  · rename_i q
    show (bopV .add false (.tl (x.map inj)) (.tl (y.map inj)) h).All _
    simp only [bopV, itemsW, List.length_map, q, if_true, mkL]
    exact ⟨rfl, x ++ y, by show _ = Val.tl _; rw [List.map_append], p⟩
  · exact p.elim⟩
instance EC.repL {a b : E} {α : Type} {I : Inj α} {fa : Γ → T (List α)} {fb : Γ → T Int} [E1 : EC cf Γ a (List α) inferInstance fa] [E2 : EC cf Γ b Int inferInstance fb] : EC cf Γ (.bin .mul false a b) (List α) inferInstance (fun γ => (fa γ).bind fun x => (fb γ).bind fun k => if decide (0 ≤ k) && decide (k ≤ 100000) && small (x.length * k.toNat) then .ok (List.replicate k.toNat x).flatten else .no) := ⟨fun {n0 γ s h P} rg p => by
  rw [q_bin]
  refine E1.bind rg p fun x p => E2.bind rg p fun k p => ?_
  split at p
  · rename_i q
    show (bopV .mul false (.tl (x.map inj)) (.int k) h).All _
    simp only [bopV, itemsW, List.length_map, q, if_true, mkL]
    refine ⟨rfl, (List.replicate k.toNat x).flatten, ?_, p⟩
    show _ = Val.tl _
    rw [List.map_flatten, List.map_replicate]
  · exact p.elim⟩
instance EC.abs {m : Bool} {a : E} {fa : Γ → T Int} [E1 : EC cf Γ a Int inferInstance fa] : EC cf Γ (.bi .abs m [a]) Int inferInstance (fun γ => (fa γ).bind fun x => .ok (if decide (x < 0) then -x else x)) := ⟨fun {n0 γ s h P} rg p => by
  rw [q_bi, q_cons, T.bind_assoc]
  exact E1.bind rg p fun x p => ⟨rfl, _, rfl, p⟩⟩
instance EC.intI {m : Bool} {a : E} {fa : Γ → T Int} [E1 : EC cf Γ a Int inferInstance fa] : EC cf Γ (.bi .int m [a]) Int inferInstance fa := ⟨fun {n0 γ s h P} rg p => by
  rw [q_bi, q_cons, T.bind_assoc, T.all_bind]
  refine T.all_mono (fun r z => ?_) (E1.run rg p)
  obtain ⟨v, h'⟩ := r
  obtain ⟨z1, a, z2, z3⟩ := z
  simp only at z1 z2
  subst z1 z2
  exact ⟨rfl, _, rfl, z3⟩⟩
instance EC.intB {m : Bool} {a : E} {fa : Γ → T Bool} [E1 : EC cf Γ a Bool inferInstance fa] : EC cf Γ (.bi .int m [a]) Int inferInstance (fun γ => (fa γ).bind fun x => .ok (if x then 1 else 0)) := ⟨fun {n0 γ s h P} rg p => by
  rw [q_bi, q_cons, T.bind_assoc]
  exact E1.bind rg p fun x p => ⟨rfl, _, rfl, p⟩⟩
instance EC.min2 {m : Bool} {a b : E} {fa fb : Γ → T Int} [E1 : EC cf Γ a Int inferInstance fa] [E2 : EC cf Γ b Int inferInstance fb] : EC cf Γ (.bi .min2 m [a, b]) Int inferInstance (fun γ => (fa γ).bind fun x => (fb γ).bind fun y => .ok (if decide (y < x) then y else x)) := ⟨fun {n0 γ s h P} rg p => by
  rw [q_bi, q_cons, T.bind_assoc]
  refine E1.bind rg p fun x p => ?_
  rw [q_cons, T.bind_assoc, T.bind_assoc]
  exact E2.bind rg p fun y p => ⟨rfl, _, rfl, p⟩⟩
instance EC.max2 {m : Bool} {a b : E} {fa fb : Γ → T Int} [E1 : EC cf Γ a Int inferInstance fa] [E2 : EC cf Γ b Int inferInstance fb] : EC cf Γ (.bi .max2 m [a, b]) Int inferInstance (fun γ => (fa γ).bind fun x => (fb γ).bind fun y => .ok (if decide (y > x) then y else x)) := ⟨fun {n0 γ s h P} rg p => by
  rw [q_bi, q_cons, T.bind_assoc]
  refine E1.bind rg p fun x p => ?_
  rw [q_cons, T.bind_assoc, T.bind_assoc]
  exact E2.bind rg p fun y p => ⟨rfl, _, rfl, p⟩⟩
end
end Eng
/-! The typed layer: targets, comprehensions, calls, further expressions. -/
namespace Eng
open PySem L2
open Inj (inj)
open InjR (injR)
open Row (rel)
theorem Rg.cong {Γ : Type} [Row Γ] {n0 : Nat} {γ γ' : Γ} {s s' : Env} {h : Hs} (r : Rg n0 γ s h) (k : ∀ A, rel γ s h A → rel γ' s' h A) : Rg n0 γ' s' h := by
  obtain ⟨A, r, z⟩ := r
  exact ⟨A, k A r, z⟩
/-- a target takes a value -/
class TgC (Γ : Type) [Row Γ] (tg : Tg) (α : Type) [Inj α] (st : outParam (α → Γ → Γ)) : Prop where
  run : ∀ {n0 γ s h} (a : α), Rg n0 γ s h → ∃ s', tgS tg (inj a) s = some s' ∧ Rg n0 (st a γ) s' h
class TgsC (Γ : Type) [Row Γ] (ts : List Tg) (τ : Type) [InjR τ] (st : outParam (τ → Γ → Γ)) : Prop where
  run : ∀ {n0 γ s h} (a : τ), Rg n0 γ s h → ∃ s', tgsS ts (injR a) s = some s' ∧ Rg n0 (st a γ) s' h
/-- slots are forgotten -/
class WpC (Γ : Type) [Row Γ] (own : List Nat) (w : outParam (Γ → Γ)) : Prop where
  run : ∀ {n0 γ s h}, Rg n0 γ s h → Rg n0 (w γ) (wipeE s own) h
section
variable {Γ : Type} [Row Γ]
instance TgC.nm {i : Nat} {α β : Type} [Inj α] {J : Inj β} [S : Slot Γ i β J] [C : Cv α β] : TgC Γ (.nm i) α (fun a γ => S.set (some (C.cv a)) γ) := ⟨fun {n0 γ s h} a rg => ⟨_, rfl, rg.cong fun A r => by rw [← C.ok a]; exact S.rset r⟩⟩
instance TgsC.nil : TgsC Γ [] Unit (fun _ γ => γ) := ⟨fun a rg => ⟨_, rfl, rg⟩⟩
instance TgsC.cons {t : Tg} {ts : List Tg} {α τ : Type} [Inj α] [InjR τ] {st : α → Γ → Γ} {sts : τ → Γ → Γ} [T1 : TgC Γ t α st] [T2 : TgsC Γ ts τ sts] : TgsC Γ (t :: ts) (α × τ) (fun a γ => sts a.2 (st a.1 γ)) := ⟨fun {n0 γ s h} a rg => by
  obtain ⟨s1, e1, r1⟩ := T1.run a.1 rg
  obtain ⟨s2, e2, r2⟩ := T2.run a.2 r1
  refine ⟨s2, ?_, r2⟩
  show tgsS (t :: ts) (inj a.1 :: injR a.2) s = _
  simp only [tgsS, e1, e2]⟩
instance TgC.tp {ts : List Tg} {τ : Type} [InjR τ] {st : τ → Γ → Γ} [T1 : TgsC Γ ts τ st] : TgC Γ (.tp ts) (Tu τ) (fun a γ => st a.t γ) := ⟨fun {n0 γ s h} a rg => by
  obtain ⟨s1, e1, r1⟩ := T1.run a.t rg
  refine ⟨s1, ?_, r1⟩
  show tgS (.tp ts) (.tup (injR a.t)) s = _
  simp only [tgS, e1]⟩
instance WpC.nil : WpC Γ [] (fun γ => γ) := ⟨fun rg => rg⟩
instance WpC.cons {v : Nat} {vs : List Nat} {α : Type} {I : Inj α} {w : Γ → Γ} [S : Slot Γ v α I] [W : WpC Γ vs w] : WpC Γ (v :: vs) (fun γ => S.set none (w γ)) := ⟨fun {n0 γ s h} rg => (W.run rg).cong fun A r => S.rnone r⟩
end
/-! ### what is walked -/
class SrcC (cf : Nat → List Val → Hs → T (Val × Hs)) (Γ : Type) [Row Γ] (sk : Sk) (es : List E) (α : outParam Type) (I : outParam (Inj α)) (f : outParam (Γ → T (List α))) : Prop where
  run : ∀ {n0 γ s h} {P : List α → Prop}, Rg n0 γ s h → (f γ).All P → (evs cf es s h).All fun r => r.2 = h ∧ ∃ xs, P xs ∧ srcV sk r.1 h = some (xs.map inj, none)
def rngI (lo : Int) : Nat → List Int
  | 0 => []
  | n + 1 => lo :: rngI (lo + 1) n
def rngCI (lo c : Int) : Nat → List Int
  | 0 => []
  | n + 1 => lo :: rngCI (lo + c) c n
theorem rngI_map : ∀ (n : Nat) (lo : Int), rngL lo n = (rngI lo n).map (inj : Int → Val)
  | 0, _ => rfl
  | n + 1, lo => by
    show Val.int lo :: rngL (lo + 1) n = _
    rw [rngI_map n]
    rfl
theorem rngCI_map {c : Int} : ∀ (n : Nat) (lo : Int), rngC lo c n = (rngCI lo c n).map (inj : Int → Val)
  | 0, _ => rfl
  | n + 1, lo => by
    show Val.int lo :: rngC (lo + c) c n = _
    rw [rngCI_map n]
    rfl
def rg1 (j : Int) : Option (List Int) := if bd62 j && decide (j ≤ 1000000) then some (rngI 0 j.toNat) else none
def rg2 (i j : Int) : Option (List Int) := if bd62 i && bd62 j && decide (j - i ≤ 1000000) then some (rngI i (j - i).toNat) else none
def rg3 (i j c : Int) : Option (List Int) := if bd62 i && bd62 j && decide (c ≠ 0) && Nat.blt c.natAbs 1000000 && Nat.ble (rgN i j c) 1000000 then some (rngCI i c (rgN i j c)) else none
section
variable {cf : Nat → List Val → Hs → T (Val × Hs)} {Γ : Type} [Row Γ]
instance SrcC.tp {e : E} {α : Type} {I : Inj α} {f : Γ → T (Tp α)} [E1 : EC cf Γ e (Tp α) inferInstance f] : SrcC cf Γ .val [e] α I (fun γ => (f γ).bind fun t => .ok t.l) := ⟨fun {n0 γ s h P} rg p => by
  rw [q_cons]
  exact E1.bind rg p fun x p => ⟨rfl, x.l, p, rfl⟩⟩
instance SrcC.l {e : E} {α : Type} {I : Inj α} {f : Γ → T (List α)} [E1 : EC cf Γ e (List α) inferInstance f] : SrcC cf Γ .val [e] α I f := ⟨fun {n0 γ s h P} rg p => by
  rw [q_cons, T.all_bind]
  refine T.all_mono (fun r z => ?_) (E1.run rg p)
  obtain ⟨v, h'⟩ := r
  obtain ⟨z1, a, z2, z3⟩ := z
  simp only at z1 z2
  subst z1 z2
  exact ⟨rfl, a, z3, rfl⟩⟩
instance SrcC.tu {e : E} {α τ : Type} [InjR τ] {I : Inj α} {f : Γ → T (Tu τ)} [E1 : EC cf Γ e (Tu τ) inferInstance f] [C : HomC τ α I] : SrcC cf Γ .val [e] α I (fun γ => (f γ).bind fun t => .ok (C.l t.t)) := ⟨fun {n0 γ s h P} rg p => by
  rw [q_cons]
  refine E1.bind rg p fun x p => ⟨rfl, C.l x.t, p, ?_⟩
  rw [C.ok]
  rfl⟩
instance SrcC.revTp {e : E} {α : Type} {I : Inj α} {f : Γ → T (Tp α)} [E1 : EC cf Γ e (Tp α) inferInstance f] : SrcC cf Γ .rev [e] α I (fun γ => (f γ).bind fun t => .ok t.l.reverse) := ⟨fun {n0 γ s h P} rg p => by
  rw [q_cons]
  refine E1.bind rg p fun x p => ⟨rfl, x.l.reverse, p, ?_⟩
  rw [List.map_reverse]
  rfl⟩
instance SrcC.revL {e : E} {α : Type} {I : Inj α} {f : Γ → T (List α)} [E1 : EC cf Γ e (List α) inferInstance f] : SrcC cf Γ .rev [e] α I (fun γ => (f γ).bind fun t => .ok t.reverse) := ⟨fun {n0 γ s h P} rg p => by
  rw [q_cons]
  refine E1.bind rg p fun x p => ⟨rfl, x.reverse, p, ?_⟩
  rw [List.map_reverse]
  rfl⟩
instance SrcC.rng1 {a : E} {f : Γ → T Int} [E1 : EC cf Γ a Int inferInstance f] : SrcC cf Γ .rng [a] Int inferInstance (fun γ => (f γ).bind fun j => T.of (rg1 j)) := ⟨fun {n0 γ s h P} rg p => by
  rw [q_cons]
  refine E1.bind rg p fun x p => ?_
  obtain ⟨y, e, q⟩ := T.of_some' p
  refine ⟨rfl, y, q, ?_⟩
  unfold rg1 at e
  show srcV .rng [.int x] h = _
  unfold srcV
  split at e
  · rename_i q2
    cases e
    simp only [q2, if_true, rngI_map]
  · cases e⟩
instance SrcC.rng2 {a b : E} {f g : Γ → T Int} [E1 : EC cf Γ a Int inferInstance f] [E2 : EC cf Γ b Int inferInstance g] : SrcC cf Γ .rng [a, b] Int inferInstance (fun γ => (f γ).bind fun i => (g γ).bind fun j => T.of (rg2 i j)) := ⟨fun {n0 γ s h P} rg p => by
  rw [q_cons]
  refine E1.bind rg p fun x p => ?_
  rw [q_cons, T.bind_assoc]
  refine E2.bind rg p fun z p => ?_
  obtain ⟨y, e, q⟩ := T.of_some' p
  refine ⟨rfl, y, q, ?_⟩
  unfold rg2 at e
  show srcV .rng [.int x, .int z] h = _
  unfold srcV
  split at e
  · rename_i q2
    cases e
    simp only [q2, if_true, rngI_map]
  · cases e⟩
instance SrcC.rng3 {a b c : E} {f g k : Γ → T Int} [E1 : EC cf Γ a Int inferInstance f] [E2 : EC cf Γ b Int inferInstance g] [E3 : EC cf Γ c Int inferInstance k] : SrcC cf Γ .rng [a, b, c] Int inferInstance (fun γ => (f γ).bind fun i => (g γ).bind fun j => (k γ).bind fun c => T.of (rg3 i j c)) := ⟨fun {n0 γ s h P} rg p => by
  rw [q_cons]
  refine E1.bind rg p fun x p => ?_
  rw [q_cons, T.bind_assoc]
  refine E2.bind rg p fun z p => ?_
  rw [q_cons, T.bind_assoc, T.bind_assoc]
  refine E3.bind rg p fun w p => ?_
  obtain ⟨y, e, q⟩ := T.of_some' p
  refine ⟨rfl, y, q, ?_⟩
  unfold rg3 at e
  show srcV .rng [.int x, .int z, .int w] h = _
  unfold srcV
  split at e
  · rename_i q2
    cases e
    simp only [q2, if_true, rngCI_map]
  · cases e⟩
/-! ### comprehensions -/
class TsC (cf : Nat → List Val → Hs → T (Val × Hs)) (Γ : Type) [Row Γ] (cs : List E) (f : outParam (Γ → T Bool)) : Prop where
  run : ∀ {n0 γ s h} {P : Bool → Prop}, Rg n0 γ s h → (f γ).All P → (evt cf cs s h).All fun r => r.2 = h ∧ P r.1
instance TsC.nil : TsC cf Γ [] (fun _ => .ok true) := ⟨fun rg p => ⟨rfl, p⟩⟩
instance TsC.one {e : E} {f : Γ → T Bool} [E1 : EC cf Γ e Bool inferInstance f] : TsC cf Γ [e] f := ⟨fun {n0 γ s h P} rg p => by
  rw [q_t1, q_tst, T.all_bind]
  refine T.all_mono (fun r z => ?_) (E1.run rg p)
  obtain ⟨v, h'⟩ := r
  obtain ⟨z1, a, z2, z3⟩ := z
  simp only at z1 z2
  subst z1 z2
  exact ⟨rfl, z3⟩⟩
end
def lcF {Γ α β : Type} (st : α → Γ) (tst : Γ → T Bool) (el : Γ → T β) : List α → T (List β)
  | [] => .ok []
  | x :: xs => (tst (st x)).bind fun b => match b with
    | true => (el (st x)).bind fun y => (lcF st tst el xs).bind fun ys => .ok (y :: ys)
    | false => lcF st tst el xs
section
variable {cf : Nat → List Val → Hs → T (Val × Hs)} {Γ : Type} [Row Γ]
theorem lc_run {own : List Nat} {tg : Tg} {cs : List E} {e : E} {α β : Type} [Inj α] {J : Inj β} {w : Γ → Γ} {st : α → Γ → Γ} {tst : Γ → T Bool} {el : Γ → T β} [T1 : TgC Γ tg α st] [W : WpC Γ own w] [C : TsC cf Γ cs tst] [E1 : EC cf Γ e β J el] {n0 : Nat} {γ : Γ} {s : Env} {h : Hs} (rg : Rg n0 γ s h) :
    ∀ (xs : List α) {P : List β → Prop}, (lcF (fun x => st x (w γ)) tst el xs).All P → (lcL (fun x => tgS tg x (wipeE s own)) (evt cf cs) (ev cf e) (xs.map inj) h).All fun r => r.2 = h ∧ ∃ ys : List β, r.1 = ys.map inj ∧ P ys
  | [], P, p => ⟨rfl, [], rfl, p⟩
  | x :: xs, P, p => by
    rw [List.map_cons, q_lcc]
    obtain ⟨s1, e1, r1⟩ := T1.run x (W.run rg)
    simp only [e1]
    unfold lcF at p
    rw [T.all_bind] at p ⊢
    refine T.all_mono (fun r z => ?_) (C.run r1 p)
    obtain ⟨b, h'⟩ := r
    obtain ⟨z1, z2⟩ := z
    simp only at z1 z2
    subst z1
    cases b with
    | false => exact lc_run rg xs z2
    | true =>
      refine E1.bind (k := fun y => (lcF (fun x => st x (w γ)) tst el xs).bind fun ys => .ok (y :: ys)) r1 z2 fun y p => ?_
      rw [T.all_bind] at p ⊢
      refine T.all_mono (fun r z => ?_) (lc_run rg xs p)
      obtain ⟨v, h'⟩ := r
      obtain ⟨z1, ys, z2, z3⟩ := z
      simp only at z1 z2
      subst z1 z2
      exact ⟨rfl, y :: ys, rfl, z3⟩
instance EC.lc {own : List Nat} {tg : Tg} {sk : Sk} {es cs : List E} {e : E} {α β : Type} {I : Inj α} {J : Inj β} {w : Γ → Γ} {st : α → Γ → Γ} {src : Γ → T (List α)} {tst : Γ → T Bool} {el : Γ → T β} [S : SrcC cf Γ sk es α I src] [W : WpC Γ own w] [T1 : TgC Γ tg α st] [C : TsC cf Γ cs tst] [E1 : EC cf Γ e β J el] :
    EC cf Γ (.lc false own tg sk es cs e) (List β) inferInstance (fun γ => (src γ).bind fun xs => if small xs.length then lcF (fun x => st x (w γ)) tst el xs else .no) := ⟨fun {n0 γ s h P} rg p => by
  rw [q_lc]
  rw [T.all_bind] at p ⊢
  refine T.all_mono (fun r z => ?_) (S.run rg p)
  obtain ⟨v, h'⟩ := r
  obtain ⟨z1, xs, z2, z3⟩ := z
  simp only at z1 z3
  subst z1
  simp only [z3, List.length_map]
  split at z2
  · rename_i q
    simp only [q, if_true]
    rw [T.all_bind]
    refine T.all_mono (fun r y => ?_) (lc_run (own := own) (tg := tg) (cs := cs) (e := e) (cf := cf) rg xs z2)
    obtain ⟨v', h2⟩ := r
    obtain ⟨y1, ys, y2, y3⟩ := y
    simp only at y1 y2
    subst y1 y2
    exact ⟨rfl, ys, rfl, y3⟩
  · exact z2.elim⟩
instance EC.matL {sk : Sk} {es : List E} {α : Type} {I : Inj α} {f : Γ → T (List α)} [S : SrcC cf Γ sk es α I f] : EC cf Γ (.mat false false sk es) (List α) inferInstance f := ⟨fun {n0 γ s h P} rg p => by
  rw [q_mat, T.all_bind]
  refine T.all_mono (fun r z => ?_) (S.run rg p)
  obtain ⟨v, h'⟩ := r
  obtain ⟨z1, xs, z2, z3⟩ := z
  simp only at z1 z3
  subst z1
  simp only [z3]
  exact ⟨rfl, xs, rfl, z2⟩⟩
instance EC.matT {m : Bool} {sk : Sk} {es : List E} {α : Type} {I : Inj α} {f : Γ → T (List α)} [S : SrcC cf Γ sk es α I f] : EC cf Γ (.mat true m sk es) (Tp α) inferInstance (fun γ => (f γ).bind fun x => .ok ⟨x⟩) := ⟨fun {n0 γ s h P} rg p => by
  rw [q_mat]
  rw [T.all_bind] at p ⊢
  refine T.all_mono (fun r z => ?_) (S.run rg p)
  obtain ⟨v, h'⟩ := r
  obtain ⟨z1, xs, z2, z3⟩ := z
  simp only at z1 z3
  subst z1
  simp only [z3]
  exact ⟨rfl, ⟨xs⟩, rfl, z2⟩⟩
/-! ### tuples and lists of sequences -/
instance EC.tupL {m : Bool} {e : E} {α : Type} {I : Inj α} {f : Γ → T (List α)} [E1 : LE cf Γ e α I f] : EC cf Γ (.bi .tuple m [e]) (Tp α) inferInstance (fun γ => (f γ).bind fun x => .ok ⟨x⟩) := ⟨fun {n0 γ s h P} rg p => by
  rw [q_bi, q_cons, T.bind_assoc]
  refine E1.bind rg p fun x v p h1 h2 h3 => ?_
  show (biV .tuple m [v] h).All _
  have : biV .tuple m [v] h = .ok (.tup (x.map inj), h) := by
    unfold biV
    simp only
    cases v <;> simp only [h1]
    cases h1
  rw [this]
  exact ⟨rfl, ⟨x⟩, rfl, p⟩⟩
instance EC.tupT {m : Bool} {e : E} {α : Type} {I : Inj α} {f : Γ → T (Tp α)} [E1 : EC cf Γ e (Tp α) inferInstance f] : EC cf Γ (.bi .tuple m [e]) (Tp α) inferInstance f := ⟨fun {n0 γ s h P} rg p => by
  rw [q_bi, q_cons, T.bind_assoc, T.all_bind]
  refine T.all_mono (fun r z => ?_) (E1.run rg p)
  obtain ⟨v, h'⟩ := r
  obtain ⟨z1, a, z2, z3⟩ := z
  simp only at z1 z2
  subst z1 z2
  exact ⟨rfl, a, rfl, z3⟩⟩
instance EC.listS {e : E} {α : Type} {I : Inj α} {f : Γ → T (List α)} [E1 : SE cf Γ e α I f] : EC cf Γ (.bi .list false [e]) (List α) inferInstance f := ⟨fun {n0 γ s h P} rg p => by
  rw [q_bi, q_cons, T.bind_assoc, T.all_bind]
  refine T.all_mono (fun r z => ?_) (E1.run rg p)
  obtain ⟨v, h'⟩ := r
  obtain ⟨z1, a, z2, z3, z4⟩ := z
  simp only at z1 z3 z4
  subst z1
  show (biV .list false [v] h').All _
  have : biV .list false [v] h' = .ok (.tl (a.map inj), h') := by
    unfold biV
    simp only
    cases v <;> simp only [z3, mkL]
    cases z3
  rw [this]
  exact ⟨rfl, a, rfl, z2⟩⟩
/-! ### slices -/
class OC (cf : Nat → List Val → Hs → T (Val × Hs)) (Γ : Type) [Row Γ] (e : Option E) (f : outParam (Γ → T (Option Int))) : Prop where
  run : ∀ {n0 γ s h} {P : Option Int → Prop}, Rg n0 γ s h → (f γ).All P → (evo cf e s h).All fun r => r.2 = h ∧ P r.1
instance OC.no : OC cf Γ none (fun _ => .ok none) := ⟨fun rg p => ⟨rfl, p⟩⟩
instance OC.so {e : E} {f : Γ → T Int} [E1 : EC cf Γ e Int inferInstance f] : OC cf Γ (some e) (fun γ => (f γ).bind fun x => .ok (some x)) := ⟨fun {n0 γ s h P} rg p => by
  rw [q_os]
  exact E1.bind rg p fun x p => ⟨rfl, p⟩⟩
theorem OC.bind {e : Option E} {f : Γ → T (Option Int)} (E1 : OC cf Γ e f) {n0 : Nat} {γ : Γ} {s : Env} {h : Hs} {B : Type} {k : Option Int → T B} {Q : B → Prop} {C : Type} {g : Option Int × Hs → T C} {R : C → Prop} (rg : Rg n0 γ s h)
    (p : ((f γ).bind k).All Q) (st : ∀ a, (k a).All Q → (g (a, h)).All R) : ((evo cf e s h).bind g).All R := by
  rw [T.all_bind] at p ⊢
  refine T.all_mono (fun r z => ?_) (E1.run rg p)
  obtain ⟨v, h'⟩ := r
  obtain ⟨z1, z2⟩ := z
  simp only at z1 z2
  subst z1
  exact st v z2
theorem cut_map {α β : Type} (g : α → β) (xs : List α) (lo hi : Option Int) : cutL (xs.map g) lo hi = (cutL xs lo hi).map g := by
  unfold cutL
  rw [List.length_map, List.map_take, List.map_drop]
instance EC.slcT {m : Bool} {a : E} {lo hi : Option E} {α : Type} {I : Inj α} {f : Γ → T (Tp α)} {g k : Γ → T (Option Int)} [E1 : EC cf Γ a (Tp α) inferInstance f] [O1 : OC cf Γ lo g] [O2 : OC cf Γ hi k] : EC cf Γ (.slc m a lo hi) (Tp α) inferInstance (fun γ => (f γ).bind fun x => (g γ).bind fun l => (k γ).bind fun u => .ok ⟨cutL x.l l u⟩) := ⟨fun {n0 γ s h P} rg p => by
  rw [q_slc]
  refine E1.bind rg p fun x p => O1.bind rg p fun l p => O2.bind rg p fun u p => ?_
  refine ⟨rfl, ⟨cutL x.l l u⟩, ?_, p⟩
  show Val.tup (cutL (x.l.map inj) l u) = Val.tup _
  rw [cut_map]⟩
instance EC.slcL {a : E} {lo hi : Option E} {α : Type} {I : Inj α} {f : Γ → T (List α)} {g k : Γ → T (Option Int)} [E1 : EC cf Γ a (List α) inferInstance f] [O1 : OC cf Γ lo g] [O2 : OC cf Γ hi k] : EC cf Γ (.slc false a lo hi) (List α) inferInstance (fun γ => (f γ).bind fun x => (g γ).bind fun l => (k γ).bind fun u => .ok (cutL x l u)) := ⟨fun {n0 γ s h P} rg p => by
  rw [q_slc]
  refine E1.bind rg p fun x p => O1.bind rg p fun l p => O2.bind rg p fun u p => ?_
  refine ⟨rfl, cutL x l u, ?_, p⟩
  show Val.tl (cutL (x.map inj) l u) = Val.tl _
  rw [cut_map]⟩
end
/-! ### calls -/
class ArgR (τ : Type) where
  args : τ → List Val
instance : ArgR Unit := ⟨fun _ => []⟩
instance {α τ : Type} [Inj α] [ArgR τ] : ArgR (α × τ) := ⟨fun p => inj p.1 :: ArgR.args p.2⟩
instance {τ : Type} [ArgR τ] : ArgR (Tape × τ) := ⟨fun p => .ref 0 :: ArgR.args p.2⟩
/-- the def f with arguments of these types runs as F -/
class FC (cf : Nat → List Val → Hs → T (Val × Hs)) (f : Nat) (τ : outParam Type) (A : outParam (ArgR τ)) (ρ : outParam Type) (I : outParam (Inj ρ)) (F : outParam (τ → T ρ)) : Prop where
  run : ∀ {h} {a : τ} {P : ρ → Prop}, WH h → (F a).All P → (cf f (ArgR.args a) h).All fun r => r.2 = h ∧ ∃ x, r.1 = inj x ∧ P x
/-- arguments of a call, of the types wanted -/
class AC (cf : Nat → List Val → Hs → T (Val × Hs)) (Γ : Type) [Row Γ] (es : List E) (τ : Type) [ArgR τ] (f : outParam (Γ → T τ)) : Prop where
  run : ∀ {n0 γ s h} {P : τ → Prop}, Rg n0 γ s h → (f γ).All P → (evs cf es s h).All fun r => r.2 = h ∧ ∃ a, r.1 = ArgR.args a ∧ P a
/-- the slot of the list of draws -/
class TSlot (Γ : Type) [Row Γ] (i : Nat) : Prop where
  get : ∀ {γ : Γ} {s h A}, rel γ s h A → s[i]? = some (some (.ref 0))
section
variable {cf : Nat → List Val → Hs → T (Val × Hs)} {Γ : Type} [Row Γ]
instance : TSlot (Tape × Γ) 0 := ⟨fun ⟨s', e, r⟩ => by subst e; rfl⟩
instance {α : Type} [Frm] [Inj α] {i : Nat} [S : TSlot Γ i] : TSlot (Lt α × Γ) (i + 1) := ⟨fun ⟨s', A', e1, e2, e3, r⟩ => by subst e1; rw [List.getElem?_cons_succ]; exact S.get r⟩
instance {i : Nat} [S : TSlot Γ i] : TSlot (Tape × Γ) (i + 1) := ⟨fun ⟨s', e, r⟩ => by subst e; rw [List.getElem?_cons_succ]; exact S.get r⟩
instance {α : Type} [Inj α] {i : Nat} [S : TSlot Γ i] : TSlot (Option α × Γ) (i + 1) := ⟨fun ⟨x, s', e, q, r⟩ => by subst e; rw [List.getElem?_cons_succ]; exact S.get r⟩
instance {α : Type} [Inj α] {i : Nat} [S : TSlot Γ i] : TSlot (Ow α × Γ) (i + 1) := ⟨fun {γ s h A} ⟨x, s', e, r⟩ => by
  subst e
  rw [List.getElem?_cons_succ]
  split at r
  · exact S.get r
  · obtain ⟨l, A', _, _, _, r⟩ := r
    exact S.get r⟩
instance AC.nil : AC cf Γ [] Unit (fun _ => .ok ()) := ⟨fun rg p => ⟨rfl, (), rfl, p⟩⟩
instance AC.cons {e : E} {es : List E} {α β τ : Type} {I : Inj α} [J : Inj β] [ArgR τ] {f : Γ → T α} {g : Γ → T τ} [E1 : EC cf Γ e α I f] [C : Cv α β] [E2 : AC cf Γ es τ g] : AC cf Γ (e :: es) (β × τ) (fun γ => (f γ).bind fun x => (g γ).bind fun y => .ok (C.cv x, y)) := ⟨fun {n0 γ s h P} rg p => by
  rw [q_cons]
  refine E1.bind rg p fun x p => ?_
  rw [T.all_bind] at p ⊢
  refine T.all_mono (fun r z => ?_) (E2.run rg p)
  obtain ⟨v, h'⟩ := r
  obtain ⟨z1, a, z2, z3⟩ := z
  simp only at z1 z2
  subst z1 z2
  refine ⟨rfl, (C.cv x, a), ?_, z3⟩
  show inj x :: ArgR.args a = inj (C.cv x) :: ArgR.args a
  rw [C.ok]⟩
instance (priority := low) AC.consP {e : E} {es : List E} {α β τ : Type} {I : Inj α} [J : Inj β] [ArgR τ] {f : Γ → T α} {g : Γ → T τ} [E1 : EC cf Γ e α I f] [C : Pv α β] [E2 : AC cf Γ es τ g] : AC cf Γ (e :: es) (β × τ) (fun γ => (f γ).bind fun x => (T.of (C.pv x)).bind fun x => (g γ).bind fun y => .ok (x, y)) := ⟨fun {n0 γ s h P} rg p => by
  rw [q_cons]
  refine E1.bind rg p fun x p => ?_
  rw [T.all_bind] at p
  obtain ⟨x', e', p⟩ := T.of_some' p
  rw [T.all_bind] at p ⊢
  refine T.all_mono (fun r z => ?_) (E2.run rg p)
  obtain ⟨v, h'⟩ := r
  obtain ⟨z1, a, z2, z3⟩ := z
  simp only at z1 z2
  subst z1 z2
  refine ⟨rfl, (x', a), ?_, z3⟩
  show _ = inj x' :: ArgR.args a
  rw [C.ok e']⟩
instance AC.tape {i : Nat} {es : List E} {τ : Type} [ArgR τ] {g : Γ → T τ} [S : TSlot Γ i] [E2 : AC cf Γ es τ g] : AC cf Γ (.v i :: es) (Tape × τ) (fun γ => (g γ).bind fun y => .ok (⟨⟩, y)) := ⟨fun {n0 γ s h P} rg p => by
  have e0 : s[i]? = some (some (.ref 0)) := by
    obtain ⟨A, r, _⟩ := rg
    exact S.get r
  rw [q_cons, q_v, e0]
  rw [T.all_bind] at p
  show ((evs cf es s h).bind _).All _
  rw [T.all_bind]
  refine T.all_mono (fun r z => ?_) (E2.run rg p)
  obtain ⟨v, h'⟩ := r
  obtain ⟨z1, a, z2, z3⟩ := z
  simp only at z1 z2
  subst z1 z2
  exact ⟨rfl, (⟨⟩, a), rfl, z3⟩⟩
theorem Rg.wh {n0 : Nat} {γ : Γ} {s : Env} {h : Hs} (r : Rg n0 γ s h) : WH h := by
  obtain ⟨A, _, _, _, w, _⟩ := r
  exact w
instance EC.call {i : Nat} {es : List E} {τ ρ : Type} {A : ArgR τ} {I : Inj ρ} {F : τ → T ρ} {g : Γ → T τ} [F1 : FC cf i τ A ρ I F] [E1 : AC cf Γ es τ g] : EC cf Γ (.call i es) ρ I (fun γ => (g γ).bind F) := ⟨fun {n0 γ s h P} rg p => by
  rw [q_call]
  rw [T.all_bind] at p ⊢
  refine T.all_mono (fun r z => ?_) (E1.run rg p)
  obtain ⟨v, h'⟩ := r
  obtain ⟨z1, a, z2, z3⟩ := z
  simp only at z1 z2
  subst z1 z2
  exact F1.run rg.wh z3⟩
end
end Eng
/-! The typed layer: statements, defs. -/
namespace Eng
open PySem L2
open Inj (inj)
open InjR (injR)
open Row (rel)
/-! ### new lists -/
structure NewL (h h' : Hs) (l : Nat) (xs : List Val) : Prop where
  get : h'.get l = some (.lst xs)
  ge : h.n ≤ l
  lt : l < h'.n
  old : ∀ m, m < h.n → h'.get m = h.get m
  lo : h.lo ≤ h'.lo
  lk : h'.lk = h.lk
  os : h'.os.length = h'.n
theorem NewL.n {h h' : Hs} {l : Nat} {xs : List Val} (w : NewL h h' l xs) : h.n ≤ h'.n := Nat.le_of_lt (Nat.lt_of_le_of_lt w.ge w.lt)
theorem newL_mk {h : Hs} (w : h.os.length = h.n) (xs : List Val) : NewL h (h.new (.lst xs)) h.n xs := by
  refine ⟨?_, Nat.le_refl _, Nat.lt_succ_self _, fun m hm => ?_, Nat.le_refl _, rfl, by simp [Hs.new, w]⟩
  · rw [Hs.get_new _ _ w, if_pos rfl]
  · rw [Hs.get_new _ _ w, if_neg (Nat.ne_of_lt hm)]
/-- a state behind new objects -/
structure Later (h h' : Hs) : Prop where
  old : ∀ m, m < h.n → h'.get m = h.get m
  lo : h.lo ≤ h'.lo
  lk : h'.lk = h.lk
  os : h'.os.length = h'.n
  n : h.n ≤ h'.n
theorem NewL.later {h h' : Hs} {l : Nat} {xs : List Val} (w : NewL h h' l xs) : Later h h' := ⟨w.old, w.lo, w.lk, w.os, w.n⟩
theorem NewL.trans {h h1 h2 : Hs} {l : Nat} {xs : List Val} (a : Later h h1) (b : NewL h1 h2 l xs) : NewL h h2 l xs :=
  ⟨b.get, Nat.le_trans a.n b.ge, b.lt, fun m hm => (b.old m (Nat.lt_of_lt_of_le hm a.n)).trans (a.old m hm), Nat.le_trans a.lo b.lo, b.lk.trans a.lk, b.os⟩
theorem Hs.get_lt' {h : Hs} {l : Nat} {o : Ob} (e : h.get l = some o) : l < h.n := Hs.get_lt e
theorem Rg.later {Γ : Type} [Row Γ] {n0 : Nat} {γ : Γ} {s : Env} {h h' : Hs} (r : Rg n0 γ s h) (k : Later h h') : Rg n0 γ s h' := by
  obtain ⟨A, r, nd, a, w, b, c, bb⟩ := r
  have z0 := Hs.get_lt w.tp
  refine ⟨A, Row.mono r fun l hl => k.old l (a l hl).2.1, nd, fun l hl => ⟨(a l hl).1, Nat.lt_of_lt_of_le (a l hl).2.1 k.n, by rw [k.lk]; exact (a l hl).2.2⟩, ⟨k.os, k.lk.trans w.lk, (k.old 0 z0).trans w.tp⟩, Nat.le_trans b k.n, Nat.le_trans c k.lo, fun p hp => ⟨(bb p hp).1, (k.old p.1 (Nat.lt_of_lt_of_le (bb p hp).1 b)).trans (bb p hp).2⟩⟩
theorem Rg.newO {Γ : Type} [Row Γ] {n0 : Nat} {γ : Γ} {s : Env} {h h' : Hs} {i l : Nat} {α : Type} {I : Inj α} {xs : List α} (S : OSlot Γ i α I) (r : Rg n0 γ s h) (k : NewL h h' l (xs.map inj)) : Rg n0 (S.set xs γ) (s.set i (some (.ref l))) h' := by
  obtain ⟨A, r, nd, a, w, b, c, bb⟩ := r
  have z0 := Hs.get_lt w.tp
  have nl : l ∉ A := fun m => by have := (a l m).2.1; have := k.ge; omega
  obtain ⟨A', r', nd', h2⟩ := S.rnew r nd nl k.get fun m hm => k.old m (a m hm).2.1
  have lkl : h'.lk.contains l = false := by
    rw [k.lk, w.lk]
    rfl
  refine ⟨A', r', nd', fun m hm => ?_, ⟨k.os, k.lk.trans w.lk, (k.old 0 z0).trans w.tp⟩, Nat.le_trans b k.n, Nat.le_trans c k.lo, fun p hp => ⟨(bb p hp).1, (k.old p.1 (Nat.lt_of_lt_of_le (bb p hp).1 b)).trans (bb p hp).2⟩⟩
  · rcases h2 m hm with e | e
    · subst e
      exact ⟨Nat.le_trans b k.ge, k.lt, lkl⟩
    · exact ⟨(a m e).1, Nat.lt_of_lt_of_le (a m e).2.1 k.n, by rw [k.lk]; exact (a m e).2.2⟩
/-- a list of its own is written -/
theorem Rg.updO {Γ : Type} [Row Γ] {n0 : Nat} {γ : Γ} {s : Env} {h : Hs} {i : Nat} {α : Type} {I : Inj α} {xs : List α} (S : USlot Γ i α I) (r : Rg n0 γ s h) (g : S.get γ = some xs) :
    ∃ l, s[i]? = some (some (.ref l)) ∧ h.wl l = some (xs.map inj) ∧ ∀ ys : List α, Rg n0 (S.set ys γ) s (h.put l (.lst (ys.map inj))) := by
  obtain ⟨A, r, nd, a, w, b, c, bb⟩ := r
  obtain ⟨l, hl, e1, e2⟩ := S.rget r g
  obtain ⟨a1, a2, a3⟩ := a l hl
  refine ⟨l, e1, ?_, fun ys => ?_⟩
  · unfold Hs.wl
    rw [e2]
    simp only [a3, Bool.false_eq_true, if_false]
  · have gp := fun m => Hs.get_put h (.lst (ys.map inj)) w.os a2 (m := m)
    refine ⟨A, S.rupd r nd g e1 (by rw [gp, if_pos rfl]) fun m hm ne => by rw [gp, if_neg ne], nd, fun m hm => a m hm, ⟨by simp [Hs.put, w.os], w.lk, ?_⟩, b, ?_, fun p hp => ⟨(bb p hp).1, by rw [gp, if_neg (fun z => by have := (bb p hp).1; omega)]; exact (bb p hp).2⟩⟩
    · rw [gp, if_neg]
      · exact w.tp
      · intro z
        rw [← z] at e2
        rw [w.tp] at e2
        cases e2
    · show n0 ≤ min h.lo l
      omega
section
variable (cf : Nat → List Val → Hs → T (Val × Hs))
/-- e makes a new list -/
class NC (Γ : Type) [Row Γ] (e : E) (α : Type) [Inj α] (f : outParam (Γ → T (List α))) : Prop where
  run : ∀ {n0 γ s h} {P : List α → Prop}, Rg n0 γ s h → (f γ).All P → (ev cf e s h).All fun r => ∃ xs l, P xs ∧ r.1 = .ref l ∧ NewL h r.2 l (xs.map inj)
end
section
variable {cf : Nat → List Val → Hs → T (Val × Hs)} {Γ : Type} [Row Γ]
instance NC.nil {α : Type} [Inj α] : NC cf Γ (.lst true []) α (fun _ => .ok []) := ⟨fun {n0 γ s h P} rg p => ⟨[], h.n, p, rfl, newL_mk rg.wh.os _⟩⟩
instance NC.lst {e : E} {es : List E} {α β : Type} {I : Inj α} [J : Inj β] {g : Γ → T (List α)} [E1 : EsH cf Γ (e :: es) α I g] [C : Cv α β] : NC cf Γ (.lst true (e :: es)) β (fun γ => (g γ).bind fun x => if small x.length then .ok (x.map C.cv) else .no) := ⟨fun {n0 γ s h P} rg p => by
  rw [q_lst]
  refine E1.bind rg p fun x p => ?_
  split at p
  · rename_i q
    simp only [List.length_map, q, if_true]
    refine ⟨x.map C.cv, h.n, p, rfl, ?_⟩
    rw [List.map_map]
    have : (inj ∘ C.cv : α → Val) = inj := funext C.ok
    rw [this]
    exact newL_mk rg.wh.os _
  · exact p.elim⟩
instance NC.lc {own : List Nat} {tg : Tg} {sk : Sk} {es cs : List E} {e : E} {α β ε : Type} {I : Inj α} {J : Inj β} [Inj ε] {w : Γ → Γ} {st : α → Γ → Γ} {src : Γ → T (List α)} {tst : Γ → T Bool} {el : Γ → T β} [S : SrcC cf Γ sk es α I src] [W : WpC Γ own w] [T1 : TgC Γ tg α st] [C : TsC cf Γ cs tst] [E1 : EC cf Γ e β J el] [D : Cv β ε] :
    NC cf Γ (.lc true own tg sk es cs e) ε (fun γ => (src γ).bind fun xs => if small xs.length then (lcF (fun x => st x (w γ)) tst el xs).bind fun ys => .ok (ys.map D.cv) else .no) := ⟨fun {n0 γ s h P} rg p => by
  rw [q_lc]
  rw [T.all_bind] at p ⊢
  refine T.all_mono (fun r z => ?_) (S.run rg p)
  obtain ⟨v, h'⟩ := r
  obtain ⟨z1, xs, z2, z3⟩ := z
  simp only at z1 z3
  subst z1
  simp only [z3, List.length_map]
  split at z2
  · rename_i q
    simp only [q, if_true]
    rw [T.all_bind] at z2 ⊢
    refine T.all_mono (fun r y => ?_) (lc_run (own := own) (tg := tg) (cs := cs) (e := e) (cf := cf) rg xs z2)
    obtain ⟨v', h2⟩ := r
    obtain ⟨y1, ys, y2, y3⟩ := y
    simp only at y1 y2
    subst y1 y2
    refine ⟨ys.map D.cv, h2.n, y3, rfl, ?_⟩
    rw [List.map_map]
    have : (inj ∘ D.cv : β → Val) = inj := funext D.ok
    rw [this]
    exact newL_mk rg.wh.os _
  · exact z2.elim⟩
instance NC.mat {sk : Sk} {es : List E} {α : Type} {I : Inj α} {f : Γ → T (List α)} [S : SrcC cf Γ sk es α I f] : NC cf Γ (.mat false true sk es) α f := ⟨fun {n0 γ s h P} rg p => by
  rw [q_mat, T.all_bind]
  refine T.all_mono (fun r z => ?_) (S.run rg p)
  obtain ⟨v, h'⟩ := r
  obtain ⟨z1, xs, z2, z3⟩ := z
  simp only at z1 z3
  subst z1
  simp only [z3]
  exact ⟨xs, h'.n, z2, rfl, newL_mk rg.wh.os _⟩⟩
instance NC.list {e : E} {α : Type} {I : Inj α} {f : Γ → T (List α)} [E1 : SE cf Γ e α I f] : NC cf Γ (.bi .list true [e]) α f := ⟨fun {n0 γ s h P} rg p => by
  rw [q_bi, q_cons, T.bind_assoc, T.all_bind]
  refine T.all_mono (fun r z => ?_) (E1.run rg p)
  obtain ⟨v, h'⟩ := r
  obtain ⟨z1, a, z2, z3, z4⟩ := z
  simp only at z1 z3 z4
  subst z1
  show (biV .list true [v] h').All _
  have : biV .list true [v] h' = mkL true (a.map inj) h' := by
    unfold biV
    simp only
    cases v <;> simp only [z3]
    cases z3
  rw [this]
  exact ⟨a, h'.n, z2, rfl, newL_mk rg.wh.os _⟩⟩
theorem wl_of {h : Hs} {l : Nat} {xs : List Val} (w : WH h) {h' : Hs} (k : NewL h h' l xs) : h'.wl l = some xs := by
  unfold Hs.wl
  rw [k.get]
  have : h'.lk.contains l = false := by
    rw [k.lk, w.lk]
    rfl
  simp only [this, Bool.false_eq_true, if_false]
instance NC.rep {a b : E} {α : Type} [I : Inj α] {fa : Γ → T (List α)} {fb : Γ → T Int} [E1 : NC cf Γ a α fa] [E2 : EC cf Γ b Int inferInstance fb] : NC cf Γ (.bin .mul true a b) α (fun γ => (fa γ).bind fun x => (fb γ).bind fun k => if decide (0 ≤ k) && decide (k ≤ 100000) && small (x.length * k.toNat) then .ok (List.replicate k.toNat x).flatten else .no) := ⟨fun {n0 γ s h P} rg p => by
  rw [q_bin]
  rw [T.all_bind] at p ⊢
  refine T.all_mono (fun r z => ?_) (E1.run rg p)
  obtain ⟨v, h1⟩ := r
  obtain ⟨x, l, p, z2, z3⟩ := z
  simp only at z2 z3
  subst z2
  refine E2.bind (rg.later z3.later) p fun k p => ?_
  split at p
  · rename_i q
    show (bopV .mul true (.ref l) (.int k) h1).All _
    simp only [bopV, itemsW, wl_of rg.wh z3, List.length_map, q, if_true, mkL]
    refine ⟨(List.replicate k.toNat x).flatten, h1.n, p, rfl, ?_⟩
    rw [List.map_flatten, List.map_replicate]
    exact NewL.trans z3.later (newL_mk z3.os _)
  · exact p.elim⟩
instance NC.add {a b : E} {α : Type} [I : Inj α] {fa fb : Γ → T (List α)} [E1 : NC cf Γ a α fa] [E2 : NC cf Γ b α fb] : NC cf Γ (.bin .add true a b) α (fun γ => (fa γ).bind fun x => (fb γ).bind fun y => if small (x.length + y.length) then .ok (x ++ y) else .no) := ⟨fun {n0 γ s h P} rg p => by
  rw [q_bin]
  rw [T.all_bind] at p ⊢
  refine T.all_mono (fun r z => ?_) (E1.run rg p)
  obtain ⟨v, h1⟩ := r
  obtain ⟨x, l, p, z2, z3⟩ := z
  simp only at z2 z3
  subst z2
  have rg1 := rg.later z3.later
  rw [T.all_bind] at p ⊢
  refine T.all_mono (fun r z => ?_) (E2.run rg1 p)
  obtain ⟨v, h2⟩ := r
  obtain ⟨y, m, p, y2, y3⟩ := z
  simp only at y2 y3
  subst y2
  split at p
  · rename_i q
    have w1 : h2.wl l = some (x.map inj) := by
      have g : h2.get l = some (.lst (x.map inj)) := (y3.old l z3.lt).trans z3.get
      have w0 := wl_of rg.wh z3
      unfold Hs.wl at w0 ⊢
      rw [z3.get] at w0
      rw [g, y3.lk]
      exact w0
    show (bopV .add true (.ref l) (.ref m) h2).All _
    simp only [bopV, itemsW, w1, wl_of rg1.wh y3, List.length_map, q, if_true, mkL]
    refine ⟨x ++ y, h2.n, p, rfl, ?_⟩
    rw [List.map_append]
    exact NewL.trans z3.later (NewL.trans y3.later (newL_mk y3.os _))
  · exact p.elim⟩
end
/-! ### statements -/
inductive Fw (Γ ρ : Type) | nx (γ : Γ) | bk (γ : Γ) | ct (γ : Γ) | rt (r : ρ) (γ : Γ)
def FinP {Γ ρ : Type} [Row Γ] [Inj ρ] (n0 : Nat) (P : Fw Γ ρ → Prop) (r : Rs) : Prop := match r.1 with
  | .nx => ∃ γ, Rg n0 γ r.2.1 r.2.2 ∧ P (.nx γ)
  | .bk => ∃ γ, Rg n0 γ r.2.1 r.2.2 ∧ P (.bk γ)
  | .ct => ∃ γ, Rg n0 γ r.2.1 r.2.2 ∧ P (.ct γ)
  | .rt v => ∃ x γ, Rg n0 γ r.2.1 r.2.2 ∧ P (.rt x γ) ∧ fzV r.2.2 n0 12 v = some (inj x)
section
variable (cf : Nat → List Val → Hs → T (Val × Hs)) (fu : Nat)
class XC (Γ ρ : Type) [Row Γ] [Inj ρ] (t : S) (f : outParam (Γ → T (Fw Γ ρ))) : Prop where
  run : ∀ {n0 γ s h} {P : Fw Γ ρ → Prop}, Rg n0 γ s h → (f γ).All P → (ex cf fu t s h).All (FinP n0 P)
class SC (Γ ρ : Type) [Row Γ] [Inj ρ] (ts : List S) (f : outParam (Γ → T (Fw Γ ρ))) : Prop where
  run : ∀ {n0 γ s h} {P : Fw Γ ρ → Prop}, Rg n0 γ s h → (f γ).All P → (exs cf fu ts s h).All (FinP n0 P)
/-- a target of an assignment -/
class AtC (Γ : Type) [Row Γ] (t : At) (α : Type) [Inj α] (f : outParam (α → Γ → T Γ)) : Prop where
  run : ∀ {n0 γ s h a} {P : Γ → Prop}, Rg n0 γ s h → (f a γ).All P → (asg cf t (inj a) s h).All fun r => ∃ γ', Rg n0 γ' r.1 r.2 ∧ P γ'
class AtsC (Γ : Type) [Row Γ] (ts : List At) (τ : Type) [InjR τ] (f : outParam (τ → Γ → T Γ)) : Prop where
  run : ∀ {n0 γ s h a} {P : Γ → Prop}, Rg n0 γ s h → (f a γ).All P → (asgs cf ts (injR a) s h).All fun r => ∃ γ', Rg n0 γ' r.1 r.2 ∧ P γ'
  len : ∀ a, (injR (τ := τ) a).length = ts.length
end
def seqF {Γ ρ : Type} (a b : Γ → T (Fw Γ ρ)) (γ : Γ) : T (Fw Γ ρ) := (a γ).bind fun r => match r with
  | .nx γ => b γ
  | .bk γ => .ok (.bk γ)
  | .ct γ => .ok (.ct γ)
  | .rt x γ => .ok (.rt x γ)
def forF {Γ ρ α : Type} (st : α → Γ → Γ) (body : Γ → T (Fw Γ ρ)) : List α → Γ → T (Fw Γ ρ)
  | [], γ => .ok (.nx γ)
  | x :: xs, γ => (body (st x γ)).bind fun r => match r with
    | .nx γ => forF st body xs γ
    | .ct γ => forF st body xs γ
    | .bk γ => .ok (.nx γ)
    | .rt v γ => .ok (.rt v γ)
def whlF {Γ ρ : Type} (tst : Γ → T Bool) (body : Γ → T (Fw Γ ρ)) : Nat → Γ → T (Fw Γ ρ)
  | 0, _ => .no
  | n + 1, γ => (tst γ).bind fun b => match b with
    | true => (body γ).bind fun r => match r with
      | .nx γ => whlF tst body n γ
      | .ct γ => whlF tst body n γ
      | .bk γ => .ok (.nx γ)
      | .rt v γ => .ok (.rt v γ)
    | false => .ok (.nx γ)
def setI {α : Type} (xs : List α) (k : Int) (v : α) : Option (List α) := match ixI xs.length k with
  | some j => some (xs.set j v)
  | none => none
section
variable {cf : Nat → List Val → Hs → T (Val × Hs)} {fu : Nat} {Γ ρ : Type} [Row Γ] [Inj ρ]
instance SC.nil : SC cf fu Γ ρ [] (fun γ => .ok (.nx γ)) := ⟨fun {n0 γ s h P} rg p => ⟨γ, rg, p⟩⟩
instance SC.cons {t : S} {ts : List S} {f g : Γ → T (Fw Γ ρ)} [X1 : XC cf fu Γ ρ t f] [S1 : SC cf fu Γ ρ ts g] : SC cf fu Γ ρ (t :: ts) (seqF f g) := ⟨fun {n0 γ s h P} rg p => by
  rw [q_exsc, T.all_bind]
  unfold seqF at p
  rw [T.all_bind] at p
  refine T.all_mono (fun r z => ?_) (X1.run rg p)
  obtain ⟨fl, s1, h1⟩ := r
  unfold FinP at z
  cases fl with
  | nx =>
    obtain ⟨γ', r', p'⟩ := z
    exact S1.run r' p'
  | bk => exact z
  | ct => exact z
  | rt v => exact z⟩
instance XC.pass : XC cf fu Γ ρ .pass (fun γ => .ok (.nx γ)) := ⟨fun {n0 γ s h P} rg p => ⟨γ, rg, p⟩⟩
instance XC.brk : XC cf fu Γ ρ .brk (fun γ => .ok (.bk γ)) := ⟨fun {n0 γ s h P} rg p => ⟨γ, rg, p⟩⟩
instance XC.cnt : XC cf fu Γ ρ .cnt (fun γ => .ok (.ct γ)) := ⟨fun {n0 γ s h P} rg p => ⟨γ, rg, p⟩⟩
instance XC.never : XC cf fu Γ ρ .never (fun _ => .no) := ⟨fun {n0 γ s h P} rg p => p⟩
instance AtC.nm {i : Nat} {α β : Type} [Inj α] {J : Inj β} [S : Slot Γ i β J] [C : Cv α β] : AtC cf Γ (.nm i) α (fun a γ => .ok (S.set (some (C.cv a)) γ)) := ⟨fun {n0 γ s h a P} rg p => ⟨_, rg.cong fun A r => by rw [← C.ok a]; exact S.rset r, p⟩⟩
instance AtsC.nil : AtsC cf Γ [] Unit (fun _ γ => .ok γ) := ⟨fun {n0 γ s h a P} rg p => ⟨γ, rg, p⟩, fun _ => rfl⟩
instance AtsC.cons {t : At} {ts : List At} {α τ : Type} [Inj α] [InjR τ] {f : α → Γ → T Γ} {g : τ → Γ → T Γ} [T1 : AtC cf Γ t α f] [T2 : AtsC cf Γ ts τ g] : AtsC cf Γ (t :: ts) (α × τ) (fun a γ => (f a.1 γ).bind fun γ => g a.2 γ) := ⟨fun {n0 γ s h a P} rg p => by
  show (asgs cf (t :: ts) (inj a.1 :: injR a.2) s h).All _
  rw [q_asc]
  rw [T.all_bind] at p ⊢
  refine T.all_mono (fun r z => ?_) (T1.run rg p)
  obtain ⟨γ', r', p'⟩ := z
  exact T2.run r' p', fun a => by
  show (inj a.1 :: injR a.2).length = _
  rw [List.length_cons, List.length_cons, T2.len]⟩
instance AtC.tp {ts : List At} {τ : Type} [InjR τ] {f : τ → Γ → T Γ} [T1 : AtsC cf Γ ts τ f] : AtC cf Γ (.tp ts) (Tu τ) (fun a γ => f a.t γ) := ⟨fun {n0 γ s h a P} rg p => by
  show (asg cf (.tp ts) (.tup (injR a.t)) s h).All _
  rw [q_tp, if_pos (by rw [T1.len, beq_self_eq_true])]
  exact T1.run rg p⟩
instance AtC.sb {o : Nat} {i : E} {α β : Type} [Inj α] {J : Inj β} {g : Γ → T Int} [S : USlot Γ o β J] [E1 : EC cf Γ i Int inferInstance g] [C : Cv α β] : AtC cf Γ (.sb (.v o) i) α (fun a γ => (T.of (S.get γ)).bind fun xs => (g γ).bind fun k => (T.of (setI xs k (C.cv a))).bind fun ys => .ok (S.set ys γ)) := ⟨fun {n0 γ s h a P} rg p => by
  rw [q_sb]
  rw [T.all_bind] at p
  obtain ⟨xs, e, p⟩ := T.of_some' p
  obtain ⟨l, e1, e2, k⟩ := rg.updO S e
  rw [q_v, e1, T.bind_ok]
  refine E1.bind rg p fun i p => ?_
  rw [T.all_bind] at p
  obtain ⟨ys, e3, p⟩ := T.of_some' p
  unfold setI at e3
  split at e3
  · rename_i j ej
    cases e3
    have wd : h.wd l = none := by
      unfold Hs.wl at e2
      unfold Hs.wd
      split at e2
      · rename_i q
        rw [q]
      · cases e2
    have st : setV (.ref l) (.int i) (inj a) h = .ok (h.put l (.lst ((xs.set j (C.cv a)).map inj))) := by
      unfold setV
      simp only [wd, e2, List.length_map, ej]
      rw [List.map_set, C.ok]
    show ((setV (.ref l) (.int i) (inj a) h).bind _).All _
    rw [st]
    exact ⟨_, k _, p⟩
  · cases e3⟩
instance XC.asg {t : At} {e : E} {α : Type} {I : Inj α} {f : Γ → T α} {g : α → Γ → T Γ} [E1 : EC cf Γ e α I f] [T1 : AtC cf Γ t α g] : XC cf fu Γ ρ (.asg t e) (fun γ => (f γ).bind fun x => (g x γ).bind fun γ => .ok (.nx γ)) := ⟨fun {n0 γ s h P} rg p => by
  rw [q_asg]
  refine E1.bind rg p fun x p => ?_
  rw [T.all_bind] at p ⊢
  refine T.all_mono (fun r z => ?_) (T1.run rg p)
  obtain ⟨γ', r', p'⟩ := z
  exact ⟨γ', r', p'⟩⟩
instance XC.new {i : Nat} {e : E} {α : Type} {I : Inj α} {f : Γ → T (List α)} [S : OSlot Γ i α I] [E1 : NC cf Γ e α f] : XC cf fu Γ ρ (.asg (.nm i) e) (fun γ => (f γ).bind fun xs => .ok (.nx (S.set xs γ))) := ⟨fun {n0 γ s h P} rg p => by
  rw [q_asg]
  rw [T.all_bind] at p ⊢
  refine T.all_mono (fun r z => ?_) (E1.run rg p)
  obtain ⟨v, h'⟩ := r
  obtain ⟨xs, l, p, z2, z3⟩ := z
  simp only at z2 z3
  subst z2
  exact ⟨S.set xs γ, rg.newO S z3, p⟩⟩
instance XC.append {i : Nat} {e : E} {α β : Type} {I : Inj α} {J : Inj β} {f : Γ → T α} [S : USlot Γ i β J] [E1 : EC cf Γ e α I f] [C : Cv α β] : XC cf fu Γ ρ (.ex (.me (.v i) .append [e])) (fun γ => (T.of (S.get γ)).bind fun xs => (f γ).bind fun x => if small xs.length then .ok (.nx (S.set (xs ++ [C.cv x]) γ)) else .no) := ⟨fun {n0 γ s h P} rg p => by
  rw [q_ex, q_me]
  rw [T.all_bind] at p
  obtain ⟨xs, e0, p⟩ := T.of_some' p
  obtain ⟨l, e1, e2, k⟩ := rg.updO S e0
  have il : itemsL h (.ref l) = some (xs.map inj) := by
    unfold Hs.wl at e2
    split at e2
    · rename_i q
      split at e2
      · cases e2
      · cases e2
        simp only [itemsL, q]
    · cases e2
  rw [q_v, e1, T.bind_ok]
  simp only [il, q_cons, q_nil, T.bind_assoc, T.bind_ok]
  refine E1.bind rg p fun x p => ?_
  split at p
  · rename_i q
    show ((meV .append (.ref l) [inj x] h).bind _).All _
    have : meV .append (.ref l) [inj x] h = .ok (.non, h.put l (.lst ((xs ++ [C.cv x]).map inj))) := by
      simp only [meV, e2, List.length_map, q, if_true, List.map_append, List.map_cons, List.map_nil, C.ok]
    rw [this]
    exact ⟨_, k _, p⟩
  · exact p.elim⟩
instance XC.pop {i : Nat} {β : Type} {J : Inj β} [S : USlot Γ i β J] : XC cf fu Γ ρ (.ex (.me (.v i) .pop [])) (fun γ => (T.of (S.get γ)).bind fun xs => match xs[xs.length - 1]? with
    | some _ => .ok (.nx (S.set xs.dropLast γ))
    | none => .no) := ⟨fun {n0 γ s h P} rg p => by
  rw [q_ex, q_me]
  rw [T.all_bind] at p
  obtain ⟨xs, e0, p⟩ := T.of_some' p
  obtain ⟨l, e1, e2, k⟩ := rg.updO S e0
  have il : itemsL h (.ref l) = some (xs.map inj) := by
    unfold Hs.wl at e2
    split at e2
    · rename_i q
      split at e2
      · cases e2
      · cases e2
        simp only [itemsL, q]
    · cases e2
  rw [q_v, e1, T.bind_ok]
  simp only [il, q_nil, T.bind_ok, meA_pop]
  split at p
  · rename_i y ey
    have : meV .pop (.ref l) [] h = .ok (inj y, h.put l (.lst (xs.dropLast.map inj))) := by
      simp only [meV, e2, List.length_map, List.getElem?_map, ey, Option.map_some, List.map_dropLast]
    rw [this]
    exact ⟨_, k _, p⟩
  · exact p.elim⟩
instance XC.augI {i : Nat} {op : Bop} {e : E} {f : Γ → T Int} [S : Slot Γ i Int inferInstance] [E1 : EC cf Γ e Int inferInstance f] : XC cf fu Γ ρ (.aug i op e) (fun γ => (T.of (S.get γ)).bind fun x => (f γ).bind fun y => match op with
    | .add => .ok (.nx (S.set (some (x + y)) γ))
    | .sub => .ok (.nx (S.set (some (x - y)) γ))
    | _ => .no) := ⟨fun {n0 γ s h P} rg p => by
  rw [q_aug]
  rw [T.all_bind] at p
  obtain ⟨x, e0, p⟩ := T.of_some' p
  have e1 : s[i]? = some (some (.int x)) := by
    obtain ⟨A, r, _⟩ := rg
    exact S.rget r e0
  simp only [e1]
  refine E1.bind rg p fun y p => ?_
  cases op with
  | add => exact ⟨_, rg.cong fun A r => S.rset (a := x + y) r, p⟩
  | sub => exact ⟨_, rg.cong fun A r => S.rset (a := x - y) r, p⟩
  | _ => exact p.elim⟩
instance XC.augO {i : Nat} {e : E} {α : Type} {I : Inj α} {f : Γ → T (List α)} [S : USlot Γ i α I] [E1 : NC cf Γ e α f] : XC cf fu Γ ρ (.aug i .add e) (fun γ => (T.of (S.get γ)).bind fun xs => (f γ).bind fun ys => if small (xs.length + ys.length) then .ok (.nx (S.set (xs ++ ys) γ)) else .no) := ⟨fun {n0 γ s h P} rg p => by
  rw [q_aug]
  rw [T.all_bind] at p
  obtain ⟨xs, e0, p⟩ := T.of_some' p
  obtain ⟨l, e1, e2, k⟩ := rg.updO S e0
  simp only [e1]
  rw [T.all_bind] at p ⊢
  refine T.all_mono (fun r z => ?_) (E1.run rg p)
  obtain ⟨v, h1⟩ := r
  obtain ⟨ys, m, p, z2, z3⟩ := z
  simp only at z2 z3
  subst z2
  have rg1 := rg.later z3.later
  obtain ⟨l', e1', e2', k'⟩ := rg1.updO S e0
  rw [e1] at e1'
  cases e1'
  split at p
  · rename_i q
    have : ipV .add (.ref l) (.ref m) h1 = .ok (.ref l, h1.put l (.lst ((xs ++ ys).map inj))) := by
      simp only [ipV, e2', wl_of rg.wh z3, List.length_map, q, if_true, List.map_append]
    rw [this, T.bind_ok]
    refine ⟨S.set (xs ++ ys) γ, ?_, p⟩
    have e3 : s.set i (some (.ref l)) = s := by
      apply List.ext_getElem?
      intro j
      rw [List.getElem?_set]
      split
      · rename_i ej
        subst ej
        split
        · exact e1.symm
        · rename_i hn
          rw [List.getElem?_eq_none (by omega)] at e1
          cases e1
      · rfl
    rw [e3]
    exact k' _
  · exact p.elim⟩
instance XC.ret {e : E} {α : Type} {I : Inj α} {f : Γ → T α} [E1 : EC cf Γ e α I f] [C : Cv α ρ] : XC cf fu Γ ρ (.ret e) (fun γ => (f γ).bind fun x => if Nat.blt (Inj.dp ρ) 12 then .ok (.rt (C.cv x) γ) else .no) := ⟨fun {n0 γ s h P} rg p => by
  rw [q_ret]
  refine E1.bind rg p fun x p => ?_
  split at p
  · rename_i q
    refine ⟨C.cv x, γ, rg, p, ?_⟩
    rw [← C.ok x]
    exact Inj.fz h n0 12 (C.cv x) (by simpa [Nat.blt_eq] using q)
  · exact p.elim⟩
instance (priority := low) XC.retP {e : E} {α : Type} {I : Inj α} {f : Γ → T α} [E1 : EC cf Γ e α I f] [C : Pv α ρ] : XC cf fu Γ ρ (.ret e) (fun γ => (f γ).bind fun x => (T.of (C.pv x)).bind fun x => if Nat.blt (Inj.dp ρ) 12 then .ok (.rt x γ) else .no) := ⟨fun {n0 γ s h P} rg p => by
  rw [q_ret]
  refine E1.bind rg p fun x p => ?_
  rw [T.all_bind] at p
  obtain ⟨y, e, p⟩ := T.of_some' p
  split at p
  · rename_i q
    refine ⟨y, γ, rg, p, ?_⟩
    show fzV h n0 12 (inj x) = _
    rw [← C.ok e]
    exact Inj.fz h n0 12 y (by simpa [Nat.blt_eq] using q)
  · exact p.elim⟩
instance XC.retO {i : Nat} {α : Type} {I : Inj α} [S : OSlot Γ i α I] : XC cf fu Γ (List α) (.ret (.v i)) (fun γ => (T.of (S.get γ)).bind fun xs => if Nat.blt (Inj.dp α) 11 then .ok (.rt xs γ) else .no) := ⟨fun {n0 γ s h P} rg p => by
  rw [q_ret]
  rw [T.all_bind] at p
  obtain ⟨xs, e0, p⟩ := T.of_some' p
  have rg0 := rg
  obtain ⟨A, r, nd, a, w, b, c, bb⟩ := rg
  obtain ⟨l, hl, e1, e2⟩ := S.rget r e0
  rw [q_v, e1, T.bind_ok]
  split at p
  · rename_i q
    refine ⟨xs, γ, rg0, p, ?_⟩
    have hlt : Nat.blt l n0 = false := by
      have := (a l hl).1
      rw [← Bool.not_eq_true, Nat.blt_eq]
      omega
    show fzV h n0 12 (.ref l) = some (.tl (xs.map inj))
    unfold fzV
    simp only [hlt, Bool.false_eq_true, if_false, e2]
    rw [optAll_id fun x hx => by
      obtain ⟨y, _, rfl⟩ := List.mem_map.mp hx
      exact Inj.fz h n0 11 y (by simpa [Nat.blt_eq] using q)]
    rfl
  · exact p.elim⟩
/-! ### partial takings -/
instance (priority := low) AtC.nmP {i : Nat} {α β : Type} [Inj α] {J : Inj β} [S : Slot Γ i β J] [C : Pv α β] : AtC cf Γ (.nm i) α (fun a γ => (T.of (C.pv a)).bind fun a => .ok (S.set (some a) γ)) := ⟨fun {n0 γ s h a P} rg p => by
  rw [T.all_bind] at p
  obtain ⟨y, e, p⟩ := T.of_some' p
  exact ⟨_, rg.cong fun A r => by rw [← C.ok e]; exact S.rset r, p⟩⟩
instance (priority := low) AtC.sbP {o : Nat} {i : E} {α β : Type} [Inj α] {J : Inj β} {g : Γ → T Int} [S : USlot Γ o β J] [E1 : EC cf Γ i Int inferInstance g] [C : Pv α β] : AtC cf Γ (.sb (.v o) i) α (fun a γ => (T.of (C.pv a)).bind fun a => (T.of (S.get γ)).bind fun xs => (g γ).bind fun k => (T.of (setI xs k a)).bind fun ys => .ok (S.set ys γ)) := ⟨fun {n0 γ s h a P} rg p => by
  rw [T.all_bind] at p
  obtain ⟨y, e, p⟩ := T.of_some' p
  have z := (AtC.sb (cf := cf) (o := o) (i := i) (α := β)).run (s := s) (h := h) (a := y) (P := P) rg p
  rw [C.ok e] at z
  exact z⟩
instance (priority := low) XC.appendP {i : Nat} {e : E} {α β : Type} {I : Inj α} {J : Inj β} {f : Γ → T α} [S : USlot Γ i β J] [E1 : EC cf Γ e α I f] [C : Pv α β] : XC cf fu Γ ρ (.ex (.me (.v i) .append [e])) (fun γ => (T.of (S.get γ)).bind fun xs => (f γ).bind fun x => (T.of (C.pv x)).bind fun x => if small xs.length then .ok (.nx (S.set (xs ++ [x]) γ)) else .no) := ⟨fun {n0 γ s h P} rg p => by
  rw [q_ex, q_me]
  rw [T.all_bind] at p
  obtain ⟨xs, e0, p⟩ := T.of_some' p
  obtain ⟨l, e1, e2, k⟩ := rg.updO S e0
  have il : itemsL h (.ref l) = some (xs.map inj) := by
    unfold Hs.wl at e2
    split at e2
    · rename_i q
      split at e2
      · cases e2
      · cases e2
        simp only [itemsL, q]
    · cases e2
  rw [q_v, e1, T.bind_ok]
  simp only [il, q_cons, q_nil, T.bind_assoc, T.bind_ok]
  refine E1.bind rg p fun x p => ?_
  rw [T.all_bind] at p
  obtain ⟨y, e, p⟩ := T.of_some' p
  split at p
  · rename_i q
    show ((meV .append (.ref l) [inj x] h).bind _).All _
    have : meV .append (.ref l) [inj x] h = .ok (.non, h.put l (.lst ((xs ++ [y]).map inj))) := by
      simp only [meV, e2, List.length_map, q, if_true, List.map_append, List.map_cons, List.map_nil, C.ok e]
    rw [this]
    exact ⟨_, k _, p⟩
  · exact p.elim⟩
instance XC.ite {c : E} {a b : List S} {fc : Γ → T Bool} {fa fb : Γ → T (Fw Γ ρ)} [E0 : EC cf Γ c Bool inferInstance fc] [S1 : SC cf fu Γ ρ a fa] [S2 : SC cf fu Γ ρ b fb] : XC cf fu Γ ρ (.ite c a b) (fun γ => (fc γ).bind fun x => match x with
    | true => fa γ
    | false => fb γ) := ⟨fun {n0 γ s h P} rg p => by
  rw [q_if, q_tst, T.bind_assoc]
  refine E0.bind rg p fun x p => ?_
  cases x with
  | true => exact S1.run rg p
  | false => exact S2.run rg p⟩
theorem for_run {tg : Tg} {b : List S} {α : Type} [Inj α] {st : α → Γ → Γ} {fb : Γ → T (Fw Γ ρ)} [T1 : TgC Γ tg α st] [S1 : SC cf fu Γ ρ b fb] {n0 : Nat} : ∀ (xs : List α) {γ : Γ} {s : Env} {h : Hs} {P : Fw Γ ρ → Prop}, Rg n0 γ s h → (forF st fb xs γ).All P → (forL (tgS tg) (exs cf fu b) (xs.map inj) s h).All (FinP n0 P)
  | [], γ, s, h, P, rg, p => ⟨γ, rg, p⟩
  | x :: xs, γ, s, h, P, rg, p => by
    rw [List.map_cons, q_forc]
    obtain ⟨s1, e1, r1⟩ := T1.run x rg
    simp only [e1]
    unfold forF at p
    rw [T.all_bind] at p ⊢
    refine T.all_mono (fun r z => ?_) (S1.run r1 p)
    obtain ⟨fl, s2, h2⟩ := r
    unfold FinP at z
    cases fl with
    | nx =>
      obtain ⟨γ', r', p'⟩ := z
      exact for_run xs r' p'
    | ct =>
      obtain ⟨γ', r', p'⟩ := z
      exact for_run xs r' p'
    | bk =>
      obtain ⟨γ', r', p'⟩ := z
      exact ⟨γ', r', p'⟩
    | rt v => exact z
instance XC.for_ {tg : Tg} {sk : Sk} {es : List E} {b : List S} {α : Type} {I : Inj α} {st : α → Γ → Γ} {src : Γ → T (List α)} {fb : Γ → T (Fw Γ ρ)} [S0 : SrcC cf Γ sk es α I src] [T1 : TgC Γ tg α st] [S1 : SC cf fu Γ ρ b fb] : XC cf fu Γ ρ (.for_ tg sk es b) (fun γ => (src γ).bind fun xs => forF st fb xs γ) := ⟨fun {n0 γ s h P} rg p => by
  rw [q_for]
  rw [T.all_bind] at p ⊢
  refine T.all_mono (fun r z => ?_) (S0.run rg p)
  obtain ⟨v, h'⟩ := r
  obtain ⟨z1, xs, z2, z3⟩ := z
  simp only at z1 z3
  subst z1
  simp only [z3]
  exact for_run xs rg z2⟩
theorem whl_run {c : E} {b : List S} {fc : Γ → T Bool} {fb : Γ → T (Fw Γ ρ)} [E0 : EC cf Γ c Bool inferInstance fc] [S1 : SC cf fu Γ ρ b fb] {n0 : Nat} : ∀ (n : Nat) {γ : Γ} {s : Env} {h : Hs} {P : Fw Γ ρ → Prop}, Rg n0 γ s h → (whlF fc fb n γ).All P → (whlL (tst cf c) (exs cf fu b) n s h).All (FinP n0 P)
  | 0, γ, s, h, P, rg, p => p.elim
  | n + 1, γ, s, h, P, rg, p => by
    unfold whlL
    unfold whlF at p
    rw [q_tst, T.bind_assoc]
    refine E0.bind rg p fun x p => ?_
    cases x with
    | false => exact ⟨γ, rg, p⟩
    | true =>
      show ((exs cf fu b s h).bind _).All _
      rw [T.all_bind] at p ⊢
      refine T.all_mono (fun r z => ?_) (S1.run rg p)
      obtain ⟨fl, s2, h2⟩ := r
      unfold FinP at z
      cases fl with
      | nx =>
        obtain ⟨γ', r', p'⟩ := z
        exact whl_run n r' p'
      | ct =>
        obtain ⟨γ', r', p'⟩ := z
        exact whl_run n r' p'
      | bk =>
        obtain ⟨γ', r', p'⟩ := z
        exact ⟨γ', r', p'⟩
      | rt v => exact z
instance XC.whl {c : E} {b : List S} {fc : Γ → T Bool} {fb : Γ → T (Fw Γ ρ)} [E0 : EC cf Γ c Bool inferInstance fc] [S1 : SC cf fu Γ ρ b fb] : XC cf fu Γ ρ (.whl c b) (whlF fc fb fu) := ⟨fun {n0 γ s h P} rg p => by
  rw [q_whl]
  exact whl_run fu rg p⟩
end
/-! ### defs -/
class Blank (Γ : Type) [Row Γ] where
  st : Γ
  N : Nat
  ok : ∀ h, rel st (List.replicate N none) h []
instance : Blank Unit := ⟨(), 0, fun _ => rfl⟩
instance {α Γ : Type} [Inj α] [Row Γ] [B : Blank Γ] : Blank (Option α × Γ) := ⟨(none, B.st), B.N + 1, fun h => ⟨none, _, rfl, fun v z => (by cases z), B.ok h⟩⟩
instance {α Γ : Type} [Inj α] [Row Γ] [B : Blank Γ] : Blank (Ow α × Γ) := ⟨(⟨none⟩, B.st), B.N + 1, fun h => ⟨none, _, rfl, B.ok h⟩⟩
class Ent (Γ τ : Type) [Row Γ] [ArgR τ] where
  st : τ → Γ
  N : Nat
  ok : ∀ a h, rel (st a) ((ArgR.args a).map some ++ List.replicate (N - (ArgR.args a).length) none) h []
instance {Γ : Type} [Row Γ] [B : Blank Γ] : Ent Γ Unit := ⟨fun _ => B.st, B.N, fun _ h => B.ok h⟩
instance {α Γ τ : Type} [Inj α] [Row Γ] [ArgR τ] [B : Ent Γ τ] : Ent (Option α × Γ) (α × τ) := ⟨fun a => (some a.1, B.st a.2), B.N + 1, fun a h => by
  refine ⟨some (inj a.1), _, ?_, fun v z => (by cases z; rfl), B.ok a.2 h⟩
  show some (inj a.1) :: ((ArgR.args a.2).map some ++ List.replicate (B.N + 1 - ((ArgR.args a.2).length + 1)) none) = _
  rw [Nat.add_sub_add_right]⟩
instance {Γ τ : Type} [Row Γ] [ArgR τ] [B : Ent Γ τ] : Ent (Tape × Γ) (Tape × τ) := ⟨fun a => (⟨⟩, B.st a.2), B.N + 1, fun a h => by
  refine ⟨_, ?_, B.ok a.2 h⟩
  show some (Val.ref 0) :: ((ArgR.args a.2).map some ++ List.replicate (B.N + 1 - ((ArgR.args a.2).length + 1)) none) = _
  rw [Nat.add_sub_add_right]⟩
def outF {Γ ρ : Type} (r : Fw Γ ρ) : T ρ := match r with
  | .rt x _ => .ok x
  | _ => .no
theorem fn_mk {tab : List Fn} {fu d i np nN : Nat} {body : List S} {Γ τ ρ : Type} [Row Γ] [A : ArgR τ] [I : Inj ρ] [B : Ent Γ τ] [N : NB Γ] {f : Γ → T (Fw Γ ρ)} (S1 : SC (callN tab fu d) fu Γ ρ body f) (ht : tab[i]? = some (.code np false nN body true)) (hp : ∀ a : τ, (ArgR.args a).length = np) (hN : B.N = nN) :
    FC (callN tab fu (d + 1)) i τ A ρ I (fun a => (f (B.st a)).bind outF) := ⟨fun {h a P} w p => by
  show (match tab[i]? with
    | none => T.no
    | some .start => match ArgR.args a with
      | [Val.scr] => T.ok (Val.ref h.n, h.new Ob.tape)
      | _ => .no
    | some .pick => pickV (ArgR.args a) h
    | some .next => nextV (ArgR.args a) h
    | some (.code np va nN body fz) => match va with
      | false => if (ArgR.args a).length == np then runF (callN tab fu d) fu nN body fz (ArgR.args a) h else .no
      | true => if Nat.ble (np - 1) (ArgR.args a).length && small (ArgR.args a).length && (!((ArgR.args a).drop (np - 1)).isEmpty && ((ArgR.args a).drop (np - 1)).all isFlat) then runF (callN tab fu d) fu nN body fz ((ArgR.args a).take (np - 1) ++ [Val.tup ((ArgR.args a).drop (np - 1))]) h else .no).All _
  rw [ht]
  simp only [hp a, beq_self_eq_true, if_true]
  unfold runF
  rw [T.all_bind] at p ⊢
  have rg : Rg h.n (B.st a) ((ArgR.args a).map some ++ List.replicate (nN - (ArgR.args a).length) none) ⟨h.os, h.n, h.n, h.lk⟩ := ⟨[], by rw [← hN]; exact B.ok a _, List.nodup_nil, fun l m => absurd m (List.not_mem_nil), ⟨w.os, w.lk, w.tp⟩, Nat.le_refl _, Nat.le_refl _, by rw [N.nb]; exact fun p hp => absurd hp List.not_mem_nil⟩
  refine T.all_mono (fun r z => ?_) (S1.run rg p)
  obtain ⟨fl, s1, h1⟩ := r
  unfold FinP at z
  cases fl with
  | nx => obtain ⟨γ, _, z⟩ := z; exact z.elim
  | bk => obtain ⟨γ, _, z⟩ := z; exact z.elim
  | ct => obtain ⟨γ, _, z⟩ := z; exact z.elim
  | rt v =>
    obtain ⟨x, γ', ⟨A, _, _, _, _, _, z3, _⟩, z1, z2⟩ := z
    simp only at z2 z3
    simp only [Bool.true_and, Nat.ble_eq.mpr z3, z2]
    exact ⟨rfl, x, rfl, z1⟩⟩
end Eng
/-! The typed layer: ==, is, in, isinstance, sums, sorting, draws. -/
namespace Eng
open PySem L2
open Inj (inj)
open InjR (injR)
open Row (rel)
/-! ### == -/
def hnil : Hs := ⟨[], 0, 0, []⟩
theorem hnil_get (l : Nat) : hnil.get l = none := by
  show Hs.get ⟨[], 0, 0, []⟩ l = none
  simp [Hs.get]
theorem beqI (a b : Int) : (a == b) = decide (a = b) := by
  by_cases q : a = b
  · subst q; simp
  · simp [q]
theorem beqB (a b : Bool) : (a == b) = decide (a = b) := by cases a <;> cases b <;> rfl
theorem optAll_c {A B : Type} {f : A → Option B} {x : A} {xs : List A} {ys : List B} (e : optAll f (x :: xs) = some ys) : ∃ y zs, f x = some y ∧ optAll f xs = some zs ∧ ys = y :: zs := by
  unfold optAll at e
  split at e
  · cases e
  · rename_i y e1
    split at e
    · cases e
    · rename_i zs e2
      cases e
      exact ⟨y, zs, e1, e2, rfl⟩
theorem optAll_k {A B : Type} {f : A → Option B} {x : A} {xs : List A} {y : B} {zs : List B} (e1 : f x = some y) (e2 : optAll f xs = some zs) : optAll f (x :: xs) = some (y :: zs) := by
  unfold optAll
  simp only [e1, e2]
theorem optAll_mono {A B : Type} {f g : A → Option B} : ∀ {xs : List A} {ys : List B}, (∀ x ∈ xs, ∀ y, f x = some y → g x = some y) → optAll f xs = some ys → optAll g xs = some ys
  | [], ys, _, e => e
  | x :: xs, ys, H, e => by
    obtain ⟨y, zs, e1, e2, rfl⟩ := optAll_c e
    exact optAll_k (H x List.mem_cons_self y e1) (optAll_mono (fun z m => H z (List.mem_cons_of_mem _ m)) e2)
theorem toD_nil {h : Hs} : ∀ (n : Nat) (v : Val) (d : PyData), toD hnil n v = some d → toD h n v = some d
  | 0, v, d, e => by cases e
  | n + 1, v, d, e => by
    cases v with
    | tup xs =>
      unfold toD at e ⊢
      obtain ⟨ys, e1, e2⟩ := Option.map_eq_some_iff.mp e
      rw [optAll_mono (fun x _ y => toD_nil n x y) e1]
      exact congrArg some e2
    | tl xs =>
      unfold toD at e ⊢
      obtain ⟨ys, e1, e2⟩ := Option.map_eq_some_iff.mp e
      rw [optAll_mono (fun x _ y => toD_nil n x y) e1]
      exact congrArg some e2
    | ref l =>
      unfold toD at e
      rw [hnil_get] at e
      cases e
    | non => exact e
    | bl b => exact e
    | int i => exact e
    | str x => exact e
    | scr => cases e
    | sl _ _ => cases e
    | fd _ _ _ => cases e
def eqZ (f : Val → Val → Bool) : List Val → List Val → Bool
  | [], [] => true
  | x :: xs, y :: ys => match f x y with
    | true => eqZ f xs ys
    | false => false
  | _, _ => false
def eqN : Nat → Val → Val → Bool
  | 0, _, _ => false
  | n + 1, v, w => match v, w with
    | .non, .non => true
    | .bl a, .bl b => a == b
    | .bl a, .int j => (if a then 1 else 0) == j
    | .int i, .bl b => i == (if b then 1 else 0)
    | .int i, .int j => decide (i = j)
    | .str x, .str y => x == y
    | .tup xs, .tup ys => eqZ (eqN n) xs ys
    | .tl xs, .tl ys => eqZ (eqN n) xs ys
    | _, _ => false
theorem toD_flat {n : Nat} {v : Val} {d : PyData} (e : toD hnil (n + 1) v = some d) : (v = .non ∧ d = .none) ∨ (∃ b, v = .bl b ∧ d = .bool b) ∨ (∃ i, v = .int i ∧ d = .int i) ∨ (∃ x, v = .str x ∧ d = .str x) ∨ (∃ xs ds, v = .tup xs ∧ d = .tuple ds ∧ optAll (toD hnil n) xs = some ds) ∨ (∃ xs ds, v = .tl xs ∧ d = .list ds ∧ optAll (toD hnil n) xs = some ds) := by
  cases v with
  | non => cases e; exact .inl ⟨rfl, rfl⟩
  | bl b => cases e; exact .inr (.inl ⟨b, rfl, rfl⟩)
  | int i => cases e; exact .inr (.inr (.inl ⟨i, rfl, rfl⟩))
  | str x =>
    unfold toD at e
    split at e
    · cases e; exact .inr (.inr (.inr (.inl ⟨x, rfl, rfl⟩)))
    · cases e
  | tup xs =>
    unfold toD at e
    obtain ⟨ys, e1, e2⟩ := Option.map_eq_some_iff.mp e
    exact .inr (.inr (.inr (.inr (.inl ⟨xs, ys, rfl, e2.symm, e1⟩))))
  | tl xs =>
    unfold toD at e
    obtain ⟨ys, e1, e2⟩ := Option.map_eq_some_iff.mp e
    exact .inr (.inr (.inr (.inr (.inr ⟨xs, ys, rfl, e2.symm, e1⟩))))
  | ref l =>
    unfold toD at e
    rw [hnil_get] at e
    cases e
  | scr => cases e
  | sl _ _ => cases e
  | fd _ _ _ => cases e
theorem eqZ_of {f : Val → Option PyData} {g : Val → Option PyData} {k : Val → Val → Bool} : ∀ {xs ys : List Val} {ds es : List PyData}, (∀ x ∈ xs, ∀ y d e, f x = some d → g y = some e → PyData.eqv d e = k x y) → optAll f xs = some ds → optAll g ys = some es → PyData.eqvAll ds es = eqZ k xs ys
  | [], [], ds, es, H, e1, e2 => by cases e1; cases e2; rw [PyData.eqvAll]; rfl
  | [], y :: ys, ds, es, H, e1, e2 => by
    cases e1
    obtain ⟨e, es', _, _, rfl⟩ := optAll_c e2
    rw [PyData.eqvAll]; rfl
  | x :: xs, [], ds, es, H, e1, e2 => by
    cases e2
    obtain ⟨d, ds', _, _, rfl⟩ := optAll_c e1
    rw [PyData.eqvAll]; rfl
  | x :: xs, y :: ys, ds, es, H, e1, e2 => by
    obtain ⟨d, ds', a1, a2, rfl⟩ := optAll_c e1
    obtain ⟨e, es', b1, b2, rfl⟩ := optAll_c e2
    rw [PyData.eqvAll, H x List.mem_cons_self y d e a1 b1, eqZ_of (fun z m => H z (List.mem_cons_of_mem _ m)) a2 b2]
    show _ = match k x y with
      | true => eqZ k xs ys
      | false => false
    cases k x y <;> rfl
theorem eqv_eqN : ∀ (n m : Nat) (v w : Val) (d e : PyData), n ≤ m → toD hnil n v = some d → toD hnil m w = some e → PyData.eqv d e = eqN n v w
  | 0, m, v, w, d, e, hm, e1, e2 => by cases e1
  | n + 1, 0, v, w, d, e, hm, e1, e2 => by omega
  | n + 1, m + 1, v, w, d, e, hm, e1, e2 => by
    have ih : ∀ {xs ys : List Val} {ds es : List PyData}, optAll (toD hnil n) xs = some ds → optAll (toD hnil m) ys = some es → PyData.eqvAll ds es = eqZ (eqN n) xs ys := fun a b => eqZ_of (fun x _ y d e => eqv_eqN n m x y d e (by omega)) a b
    rcases toD_flat e1 with ⟨rfl, rfl⟩ | ⟨b, rfl, rfl⟩ | ⟨i, rfl, rfl⟩ | ⟨x, rfl, rfl⟩ | ⟨xs, ds, rfl, rfl, a⟩ | ⟨xs, ds, rfl, rfl, a⟩ <;>
    rcases toD_flat e2 with ⟨rfl, rfl⟩ | ⟨c, rfl, rfl⟩ | ⟨j, rfl, rfl⟩ | ⟨y, rfl, rfl⟩ | ⟨ys, es, rfl, rfl, b'⟩ | ⟨ys, es, rfl, rfl, b'⟩ <;>
    rw [PyData.eqv] <;> first | rfl | exact ih a b' | (unfold eqN; simp only [beqI, beqB]; done)
def dOk (n : Nat) (v : Val) : Bool := (toD hnil n v).isSome
def eqP (v w : Val) : Option Bool := match dOk 16 v, dOk 16 w with
  | true, true => some (eqN 16 v w)
  | _, _ => none
theorem eqP_ok {h : Hs} {v w : Val} {b : Bool} (e : eqP v w = some b) : veq h v w = some b := by
  unfold eqP at e
  split at e
  · rename_i q1 q2
    cases e
    obtain ⟨d1, e1⟩ := Option.isSome_iff_exists.mp q1
    obtain ⟨d2, e2⟩ := Option.isSome_iff_exists.mp q2
    have z := eqv_eqN 16 16 v w d1 d2 (Nat.le_refl _) e1 e2
    unfold veq
    split
    · cases e1; cases e2; rfl
    · cases e1; cases e2; show _ = some (_ == _); simp only [beqI, beqB]
    · rw [toD_nil 16 v d1 e1, toD_nil 16 w d2 e2]
      exact congrArg some z
  · cases e
section
variable {cf : Nat → List Val → Hs → T (Val × Hs)} {Γ : Type} [Row Γ]
def copB (op : Cop) (x y : Bool) : Option Bool := match op with
  | .eq => some (x == y)
  | .ne => some (x != y)
  | .is => some (x == y)
  | .nis => some (x != y)
  | _ => none
instance EC.cmpB {op : Cop} {a b : E} {fa fb : Γ → T Bool} [E1 : EC cf Γ a Bool inferInstance fa] [E2 : EC cf Γ b Bool inferInstance fb] : EC cf Γ (.cmp op a b) Bool inferInstance (fun γ => (fa γ).bind fun x => (fb γ).bind fun y => T.of (copB op x y)) := ⟨fun {n0 γ s h P} rg p => by
  rw [q_cmp]
  refine E1.bind rg p fun x p => E2.bind rg p fun y p => ?_
  obtain ⟨k, e, q⟩ := T.of_some' p
  have : copV op (inj x) (inj y) h = some k := by
    cases op <;> first | (cases e; done) | skip
    all_goals
      cases e
      cases x <;> cases y <;> rfl
  rw [this]
  exact ok_all (I := inferInstance) q⟩
/-! ### in -/
def memI (op : Cop) (x : Int) (ys : List Int) : Option Bool := match op with
  | .mem => some (ys.any fun y => decide (y = x))
  | .nmem => some (!ys.any fun y => decide (y = x))
  | _ => none
theorem toV_ints : ∀ ys : List Int, optAll toV (ys.map inj) = some (ys.map V.int)
  | [] => rfl
  | y :: ys => by
    rw [List.map_cons]
    unfold optAll
    rw [toV_ints ys]
    rfl
theorem toD_ints {h : Hs} {n : Nat} : ∀ ys : List Int, optAll (toD h (n + 1)) (ys.map inj) = some (ys.map PyData.int)
  | [] => rfl
  | y :: ys => by
    rw [List.map_cons]
    unfold optAll
    rw [toD_ints ys]
    rfl
theorem inV_ints {x : Int} : ∀ ys : List Int, inV (.int x) (ys.map V.int) = ys.any fun y => decide (y = x)
  | [] => rfl
  | y :: ys => by
    have := inV_ints (x := x) ys
    unfold inV at this ⊢
    rw [List.map_cons, List.any_cons, List.any_cons, this]
    show (y == x || _) = _
    simp only [beqI, beqB]
theorem anyD_ints {x : Int} : ∀ ys : List Int, ((ys.map PyData.int).any fun z => PyData.eqv z (.int x)) = ys.any fun y => decide (y = x)
  | [] => rfl
  | y :: ys => by
    rw [List.map_cons, List.any_cons, List.any_cons, anyD_ints ys, PyData.eqv, beqI]
instance EC.memT {op : Cop} {a b : E} {fa : Γ → T Int} {fb : Γ → T (Tp Int)} [E1 : EC cf Γ a Int inferInstance fa] [E2 : EC cf Γ b (Tp Int) inferInstance fb] : EC cf Γ (.cmp op a b) Bool inferInstance (fun γ => (fa γ).bind fun x => (fb γ).bind fun y => T.of (memI op x y.l)) := ⟨fun {n0 γ s h P} rg p => by
  rw [q_cmp]
  refine E1.bind rg p fun x p => E2.bind rg p fun y p => ?_
  obtain ⟨k, e, q⟩ := T.of_some' p
  have m : memV h (.int x) (.tup (y.l.map inj)) = some (y.l.any fun y => decide (y = x)) := by
    show memS h (.int x) (.tup (y.l.map inj)) = _
    simp only [memS, toV_ints]
    show some (inV (.int x) _) = _
    rw [inV_ints]
  have : copV op (.int x) (.tup (y.l.map inj)) h = some k := by
    unfold memI at e
    split at e
    · cases e; exact m
    · cases e
      show (memV h (.int x) (.tup (y.l.map inj))).map (!·) = _
      rw [m]
      rfl
    · cases e
  show (match copV op (.int x) (.tup (y.l.map inj)) h with
    | some k => T.ok (Val.bl k, h)
    | none => .no).All _
  rw [this]
  exact ok_all (I := inferInstance) q⟩
instance EC.memL {op : Cop} {a b : E} {fa : Γ → T Int} {fb : Γ → T (List Int)} [E1 : EC cf Γ a Int inferInstance fa] [E2 : LE cf Γ b Int inferInstance fb] : EC cf Γ (.cmp op a b) Bool inferInstance (fun γ => (fa γ).bind fun x => (fb γ).bind fun y => T.of (memI op x y)) := ⟨fun {n0 γ s h P} rg p => by
  rw [q_cmp]
  refine E1.bind rg p fun x p => E2.bind rg p fun y v p h1 h2 h3 => ?_
  obtain ⟨k, e, q⟩ := T.of_some' p
  have m : memV h (.int x) v = some (y.any fun y => decide (y = x)) := by
    unfold memV
    rw [h3]
    unfold memS
    cases v <;> first | (cases h1; done) | skip
    all_goals
      have t1 : toD h 16 (.int x) = some (.int x) := rfl
      simp only [h1, t1, toD_ints (n := 14), anyD_ints]
  have : copV op (.int x) v h = some k := by
    unfold memI at e
    split at e
    · cases e
      cases v <;> first | exact m | (cases h1; done)
    · cases e
      have : copV .nmem (.int x) v h = (memV h (.int x) v).map (!·) := by cases v <;> first | rfl | (cases h1; done)
      rw [this, m]
      rfl
    · cases e
  show (match copV op (.int x) v h with
    | some k => T.ok (Val.bl k, h)
    | none => .no).All _
  rw [this]
  exact ok_all (I := inferInstance) q⟩
theorem optAll_dOk {n : Nat} {h : Hs} : ∀ {xs : List Val}, xs.all (dOk n) = true → ∃ ds, optAll (toD h n) xs = some ds ∧ ∀ (m : Nat) (w : Val) (e : PyData), n ≤ m → toD hnil m w = some e → (ds.any fun z => PyData.eqv z e) = xs.any fun z => eqN n z w
  | [], _ => ⟨[], rfl, fun m w e _ _ => rfl⟩
  | x :: xs, q => by
    rw [List.all_cons, Bool.and_eq_true] at q
    obtain ⟨d, e1⟩ := Option.isSome_iff_exists.mp q.1
    obtain ⟨ds, e2, e3⟩ := optAll_dOk (h := h) q.2
    refine ⟨d :: ds, ?_, fun m w e hm hw => ?_⟩
    · unfold optAll
      rw [toD_nil n x d e1, e2]
    · rw [List.any_cons, List.any_cons, e3 m w e hm hw, eqv_eqN n m x w d e hm e1 hw]
def memQ (op : Cop) (v : Val) (ys : List Val) : Option Bool := match dOk 16 v, ys.all (dOk 15) with
  | true, true => match op with
    | .mem => some (ys.any fun y => eqN 15 y v)
    | .nmem => some (!ys.any fun y => eqN 15 y v)
    | _ => none
  | _, _ => none
theorem memQ_ok {h : Hs} {op : Cop} {v : Val} {ys : List Val} {b : Bool} (e : memQ op v ys = some b) : copV op v (.tl ys) h = some b := by
  unfold memQ at e
  split at e
  · rename_i q1 q2
    obtain ⟨d, e1⟩ := Option.isSome_iff_exists.mp q1
    obtain ⟨ds, e2, e3⟩ := optAll_dOk (h := h) q2
    have h1 : itemsL h (.tl ys) = some ys := rfl
    have h3 : dicOf h (.tl ys) = none := rfl
    have m : memV h v (.tl ys) = some (ys.any fun z => eqN 15 z v) := by
      unfold memV
      rw [h3]
      unfold memS
      simp only [h1, e2, toD_nil 16 _ d e1, e3 16 _ d (by omega) e1]
    split at e
    · cases e
      have : copV .mem v (.tl ys) h = memV h v (.tl ys) := by
        unfold copV; split <;> first | rfl | contradiction
      rw [this, m]
    · cases e
      have : copV .nmem v (.tl ys) h = (memV h v (.tl ys)).map (!·) := by
        unfold copV; split <;> first | rfl | contradiction
      rw [this, m]
      rfl
    · cases e
  · cases e
def copQ (op : Cop) (v w : Val) : Option Bool := match op with
  | .eq => eqP v w
  | .ne => (eqP v w).map (!·)
  | .is => copV .is v w hnil
  | .nis => copV .nis v w hnil
  | .mem => match w with
    | .tl ys => memQ .mem v ys
    | _ => none
  | .nmem => match w with
    | .tl ys => memQ .nmem v ys
    | _ => none
  | _ => none
def copP (op : Cop) (v w : Val) : Option Bool := match v, w with
  | .int i, .int j => copI op i j
  | v, w => copQ op v w
theorem copQ_ok {h : Hs} {op : Cop} {v w : Val} {b : Bool} (e : copQ op v w = some b) : copV op v w h = some b := by
  unfold copQ at e
  split at e
  · have z := eqP_ok (h := h) e
    unfold copV
    split
    · unfold veq at z
      exact z
    · exact z
  · obtain ⟨c, e1, e2⟩ := Option.map_eq_some_iff.mp e
    have z := eqP_ok (h := h) e1
    unfold copV
    split
    · unfold veq at z
      cases z
      exact congrArg some e2
    · simp only [z, Option.map_some, e2]
  · rw [← e]; cases v <;> cases w <;> rfl
  · rw [← e]; cases v <;> cases w <;> rfl
  · split at e
    · exact memQ_ok e
    · cases e
  · split at e
    · exact memQ_ok e
    · cases e
  · cases e
theorem copP_ok {h : Hs} {op : Cop} {v w : Val} {b : Bool} (e : copP op v w = some b) : copV op v w h = some b := by
  unfold copP at e
  split at e
  · exact e
  · exact copQ_ok e
instance (priority := low) EC.cmpQ {op : Cop} {a b : E} {α β : Type} {I : Inj α} {J : Inj β} {fa : Γ → T α} {fb : Γ → T β} [E1 : EC cf Γ a α I fa] [E2 : EC cf Γ b β J fb] : EC cf Γ (.cmp op a b) Bool inferInstance (fun γ => (fa γ).bind fun x => (fb γ).bind fun y => T.of (copP op (inj x) (inj y))) := ⟨fun {n0 γ s h P} rg p => by
  rw [q_cmp]
  refine E1.bind rg p fun x p => E2.bind rg p fun y p => ?_
  obtain ⟨k, e, q⟩ := T.of_some' p
  rw [copP_ok e]
  exact ok_all (I := inferInstance) q⟩
instance (priority := low) EC.memG {op : Cop} {a b : E} {α β : Type} {I : Inj α} {J : Inj β} {fa : Γ → T α} {fb : Γ → T (List β)} [E1 : EC cf Γ a α I fa] [E2 : LE cf Γ b β J fb] : EC cf Γ (.cmp op a b) Bool inferInstance (fun γ => (fa γ).bind fun x => (fb γ).bind fun y => T.of (memQ op (inj x) (y.map inj))) := ⟨fun {n0 γ s h P} rg p => by
  rw [q_cmp]
  refine E1.bind rg p fun x p => E2.bind rg p fun y v p h1 h2 h3 => ?_
  obtain ⟨k, e, q⟩ := T.of_some' p
  have : copV op (inj x) v h = some k := by
    unfold memQ at e
    split at e
    · rename_i q1 q2
      obtain ⟨d, e1⟩ := Option.isSome_iff_exists.mp q1
      obtain ⟨ds, e2, e3⟩ := optAll_dOk (h := h) q2
      have m : memV h (inj x) v = some ((y.map inj).any fun z => eqN 15 z (inj x)) := by
        unfold memV
        rw [h3]
        unfold memS
        cases v <;> first | (cases h1; done) | skip
        all_goals simp only [h1, e2, toD_nil 16 _ d e1, e3 16 _ d (by omega) e1]
      split at e
      · cases e
        have : copV .mem (inj x) v h = memV h (inj x) v := by
          cases v <;> first | (cases h1; done) | skip
          all_goals unfold copV; split <;> first | rfl | contradiction
        rw [this, m]
      · cases e
        have : copV .nmem (inj x) v h = (memV h (inj x) v).map (!·) := by
          cases v <;> first | (cases h1; done) | skip
          all_goals unfold copV; split <;> first | rfl | contradiction
        rw [this, m]
        rfl
      · cases e
    · cases e
  simp only [this]
  exact ok_all (I := inferInstance) q⟩
/-! ### == of a list and [] -/
def empE (op : Cop) {α : Type} (b : Bool) : Option Bool := match op with
  | .eq => some b
  | .ne => some (!b)
  | _ => none
instance EC.cmpE {op : Cop} {a : E} {α : Type} {I : Inj α} {fa : Γ → T (List α)} [E1 : LE cf Γ a α I fa] : EC cf Γ (.cmp op a (.lst false [])) Bool inferInstance (fun γ => (fa γ).bind fun x => if x.all fun y => dOk 15 (inj y) then T.of (empE op (α := α) x.isEmpty) else .no) := ⟨fun {n0 γ s h P} rg p => by
  rw [q_cmp]
  refine E1.bind rg p fun x v p h1 h2 h3 => ?_
  split at p
  · rename_i q
    obtain ⟨k, e, r⟩ := T.of_some' p
    have e0 : ev cf (.lst false []) s h = .ok (.tl [], h) := rfl
    rw [e0, T.bind_ok]
    obtain ⟨ds, e2, _⟩ := optAll_dOk (n := 15) (h := h) (xs := x.map inj) (by rw [List.all_map]; exact q)
    have ve : veq h v (.tl []) = some x.isEmpty := by
      have t1 : toD h 16 v = some (.list ds) := by
        cases v <;> first | (cases h1; done) | skip
        case tl xs => cases h1; show (optAll (toD h 15) _).map _ = _; rw [e2]; rfl
        case ref l =>
          simp only [itemsL] at h1
          split at h1
          · rename_i xs g
            cases h1
            show (match h.get l with | some (.lst xs) => (optAll (toD h 15) xs).map PyData.list | _ => none) = _
            rw [g]
            show (optAll (toD h 15) _).map _ = _
            rw [e2]; rfl
          · cases h1
      have t2 : toD h 16 (.tl []) = some (.list []) := rfl
      have : veq h v (.tl []) = some (PyData.eqv (.list ds) (.list [])) := by
        unfold veq
        cases v <;> first | (cases h1; done) | simp only [t1, t2]
      rw [this, PyData.eqv]
      cases x with
      | nil => cases e2; rw [PyData.eqvAll]; rfl
      | cons y ys =>
        rw [List.map_cons] at e2
        obtain ⟨d, ds', _, _, rfl⟩ := optAll_c e2
        rw [PyData.eqvAll]; rfl
    have : copV op v (.tl []) h = some k := by
      unfold empE at e
      split at e
      · cases e
        cases v <;> first | (cases h1; done) | exact ve
      · cases e
        have : copV .ne v (.tl []) h = (veq h v (.tl [])).map (!·) := by cases v <;> first | (cases h1; done) | rfl
        rw [this, ve]
        rfl
      · cases e
    simp only [this]
    exact ok_all (I := inferInstance) r
  · exact p.elim⟩
/-! ### isinstance -/
def isiP (v : Val) (t : Ty) : Option Bool := match v with
  | .non => some false
  | .bl _ | .int _ | .str _ | .tup _ | .tl _ => isiV hnil v t
  | _ => none
instance EC.isi {a : E} {t : Ty} {α : Type} {I : Inj α} {fa : Γ → T α} [E1 : EC cf Γ a α I fa] : EC cf Γ (.isi a t) Bool inferInstance (fun γ => (fa γ).bind fun x => T.of (isiP (inj x) t)) := ⟨fun {n0 γ s h P} rg p => by
  rw [q_isi]
  refine E1.bind rg p fun x p => ?_
  obtain ⟨k, e, q⟩ := T.of_some' p
  have : isiV h (inj x) t = some k := by
    rw [← e]
    unfold isiP at e ⊢
    split at e
    · rename_i z; rw [z]; rfl
    all_goals first | (rename_i z; rw [z]; rfl) | cases e
  simp only [this]
  exact ok_all (I := inferInstance) q⟩
/-! ### sums, all, any -/
theorem vint_ints : ∀ ys : List Int, optAll vint (ys.map inj) = some ys
  | [] => rfl
  | y :: ys => by
    rw [List.map_cons]
    unfold optAll
    rw [vint_ints ys]
    rfl
theorem vbl_bls : ∀ ys : List Bool, optAll vbl (ys.map inj) = some ys
  | [] => rfl
  | y :: ys => by
    rw [List.map_cons]
    unfold optAll
    rw [vbl_bls ys]
    rfl
instance EC.sum {m : Bool} {a : E} {fa : Γ → T (List Int)} [E1 : LE cf Γ a Int inferInstance fa] : EC cf Γ (.bi .sum m [a]) Int inferInstance (fun γ => (fa γ).bind fun x => .ok x.sum) := ⟨fun {n0 γ s h P} rg p => by
  rw [q_bi, q_cons, T.bind_assoc]
  refine E1.bind rg p fun x v p h1 h2 h3 => ?_
  show (biV .sum m [v] h).All _
  simp only [biV, h1, vint_ints]
  exact ⟨rfl, _, rfl, p⟩⟩
instance EC.any {m : Bool} {a : E} {fa : Γ → T (List Bool)} [E1 : LE cf Γ a Bool inferInstance fa] : EC cf Γ (.bi .any m [a]) Bool inferInstance (fun γ => (fa γ).bind fun x => .ok (x.any id)) := ⟨fun {n0 γ s h P} rg p => by
  rw [q_bi, q_cons, T.bind_assoc]
  refine E1.bind rg p fun x v p h1 h2 h3 => ?_
  show (biV .any m [v] h).All _
  simp only [biV, h1, vbl_bls]
  exact ⟨rfl, _, rfl, p⟩⟩
instance EC.all {m : Bool} {a : E} {fa : Γ → T (List Bool)} [E1 : LE cf Γ a Bool inferInstance fa] : EC cf Γ (.bi .all m [a]) Bool inferInstance (fun γ => (fa γ).bind fun x => .ok (x.all id)) := ⟨fun {n0 γ s h P} rg p => by
  rw [q_bi, q_cons, T.bind_assoc]
  refine E1.bind rg p fun x v p h1 h2 h3 => ?_
  show (biV .all m [v] h).All _
  simp only [biV, h1, vbl_bls]
  exact ⟨rfl, _, rfl, p⟩⟩
instance EC.maxl {m : Bool} {a : E} {fa : Γ → T (List Int)} [E1 : LE cf Γ a Int inferInstance fa] : EC cf Γ (.bi .maxl m [a]) Int inferInstance (fun γ => (fa γ).bind fun x => match x with
    | n :: ns => .ok (maxI n ns)
    | [] => .no) := ⟨fun {n0 γ s h P} rg p => by
  rw [q_bi, q_cons, T.bind_assoc]
  refine E1.bind rg p fun x v p h1 h2 h3 => ?_
  show (biV .maxl m [v] h).All _
  simp only [biV, h1, vint_ints]
  cases x with
  | nil => exact p.elim
  | cons n ns => exact ⟨rfl, _, rfl, p⟩⟩
instance EC.minl {m : Bool} {a : E} {fa : Γ → T (List Int)} [E1 : LE cf Γ a Int inferInstance fa] : EC cf Γ (.bi .minl m [a]) Int inferInstance (fun γ => (fa γ).bind fun x => match x with
    | n :: ns => .ok (minI n ns)
    | [] => .no) := ⟨fun {n0 γ s h P} rg p => by
  rw [q_bi, q_cons, T.bind_assoc]
  refine E1.bind rg p fun x v p h1 h2 h3 => ?_
  show (biV .minl m [v] h).All _
  simp only [biV, h1, vint_ints]
  cases x with
  | nil => exact p.elim
  | cons n ns => exact ⟨rfl, _, rfl, p⟩⟩
/-! ### sorted -/
instance EC.sortI {a : E} {fa : Γ → T (List Int)} [E1 : LE cf Γ a Int inferInstance fa] : EC cf Γ (.bi .sorted false [a]) (List Int) inferInstance (fun γ => (fa γ).bind fun x => .ok (sortI x)) := ⟨fun {n0 γ s h P} rg p => by
  rw [q_bi, q_cons, T.bind_assoc]
  refine E1.bind rg p fun x v p h1 h2 h3 => ?_
  show (biV .sorted false [v] h).All _
  simp only [biV, h1, sortedV, vint_ints, mkL]
  exact ⟨rfl, _, rfl, p⟩⟩
def sortTp (xs : List (List Int)) : Option (List (List Int)) := match xs with
  | n :: nss => if Nat.blt (nss.length + 1) 64 && decide (1 ≤ n.length) && (n :: nss).all (bdT n.length) then some (sortT (n :: nss)) else none
  | [] => none
theorem tup_tps : ∀ ys : List (Tp Int), optAll tupI (ys.map inj) = some (ys.map Tp.l)
  | [] => rfl
  | y :: ys => by
    rw [List.map_cons]
    unfold optAll
    have : tupI (inj y) = some y.l := vint_ints y.l
    rw [tup_tps ys, this]
    rfl
instance EC.sortG {a : E} {fa : Γ → T (List (Tp Int))} [E1 : LE cf Γ a (Tp Int) inferInstance fa] : EC cf Γ (.bi .sorted false [a]) (List (Tp Int)) inferInstance (fun γ => (fa γ).bind fun x => (T.of (sortTp (x.map Tp.l))).bind fun y => .ok (y.map Tp.mk)) := ⟨fun {n0 γ s h P} rg p => by
  rw [q_bi, q_cons, T.bind_assoc]
  refine E1.bind rg p fun x v p h1 h2 h3 => ?_
  rw [T.all_bind] at p
  obtain ⟨ys, e, p⟩ := T.of_some' p
  show (biV .sorted false [v] h).All _
  cases x with
  | nil => cases e
  | cons x xs =>
    have e0 : optAll vint ((x :: xs).map inj) = none := by
      rw [List.map_cons]
      unfold optAll
      rfl
    simp only [biV, h1, sortedV, e0, tup_tps]
    rw [List.map_cons] at e ⊢
    unfold sortTp at e
    simp only [List.length_map] at e
    split at e
    · rename_i q
      cases e
      simp only [List.length_cons, List.length_map, q, if_true, mkL]
      refine ⟨rfl, _, ?_, p⟩
      show Val.tl _ = Val.tl _
      rw [List.map_map]
      rfl
    · cases e⟩
/-! ### the place of a number in a list -/
def idxI (x : Int) : List Int → Nat → Option Nat
  | [], _ => none
  | y :: ys, n => if decide (y = x) then some n else idxI x ys (n + 1)
theorem idxV_ints {x : Int} : ∀ (ys : List Int) (n : Nat), idxV (.int x) (ys.map V.int) n = idxI x ys n
  | [], _ => rfl
  | y :: ys, n => by
    rw [List.map_cons]
    unfold idxV idxI
    rw [idxV_ints ys]
    show (if (y == x) = true then _ else _) = _
    simp only [beqI, beqB]
instance EC.idx {a b : E} {fa : Γ → T (List Int)} {fb : Γ → T Int} [E1 : LE cf Γ a Int inferInstance fa] [E2 : EC cf Γ b Int inferInstance fb] : EC cf Γ (.me a .index [b]) Int inferInstance (fun γ => (fa γ).bind fun y => (fb γ).bind fun x => (T.of (idxI x y 0)).bind fun n => .ok (n : Int)) := ⟨fun {n0 γ s h P} rg p => by
  rw [q_me]
  refine E1.bind rg p fun y v p h1 h2 h3 => ?_
  simp only [h1, q_cons, q_nil, T.bind_assoc, T.bind_ok]
  refine E2.bind rg p fun x p => ?_
  rw [T.all_bind] at p
  obtain ⟨n, e, p⟩ := T.of_some' p
  show (meA .index v [.int x] h).All _
  have : meA .index v [.int x] h = .ok (.int n, h) := by
    simp only [meA, h1, toV, toV_ints, idxV_ints, e]
  rw [this]
  exact ⟨rfl, _, rfl, p⟩⟩
/-! ### draws -/
theorem next_mk {tab : List Fn} {fu d i : Nat} (ht : tab[i]? = some .next) : FC (callN tab fu (d + 1)) i (Tape × Int × Unit) inferInstance Int inferInstance (fun a => if decide (0 < a.2.1) && decide (a.2.1 ≤ 1000000000000000000) then .dr a.2.1.toNat fun i => .ok (i : Int) else .no) := ⟨fun {h a P} w p => by
  show (match tab[i]? with
    | none => T.no
    | some .start => match ArgR.args a with
      | [Val.scr] => T.ok (Val.ref h.n, h.new Ob.tape)
      | _ => .no
    | some .pick => pickV (ArgR.args a) h
    | some .next => nextV (ArgR.args a) h
    | some (.code np va nN body fz) => match va with
      | false => if (ArgR.args a).length == np then runF (callN tab fu d) fu nN body fz (ArgR.args a) h else .no
      | true => if Nat.ble (np - 1) (ArgR.args a).length && small (ArgR.args a).length && (!((ArgR.args a).drop (np - 1)).isEmpty && ((ArgR.args a).drop (np - 1)).all isFlat) then runF (callN tab fu d) fu nN body fz ((ArgR.args a).take (np - 1) ++ [Val.tup ((ArgR.args a).drop (np - 1))]) h else .no).All _
  rw [ht]
  obtain ⟨_, n, _⟩ := a
  show (nextV [.ref 0, .int n] h).All _
  unfold nextV
  split at p
  · rename_i q
    have q : (decide (0 < n) && decide (n ≤ 1000000000000000000)) = true := q
    simp only [q, w.tp]
    exact fun i hi => ⟨rfl, (i : Int), rfl, p i hi⟩
  · exact p.elim⟩
end
end Eng
/-! The typed layer: expressions that write, lists that are lent. -/
namespace Eng
open PySem L2
open Inj (inj)
open InjR (injR)
open Row (rel)
class HC (cf : Nat → List Val → Hs → T (Val × Hs)) (Γ : Type) [Row Γ] (e : E) (α : outParam Type) (I : outParam (Inj α)) (f : outParam (Γ → T (α × Γ))) : Prop where
  run : ∀ {n0 γ s h} {P : α × Γ → Prop}, Rg n0 γ s h → (f γ).All P → (ev cf e s h).All fun r => ∃ a γ', r.1 = inj a ∧ Rg n0 γ' s r.2 ∧ P (a, γ')
class HsC (cf : Nat → List Val → Hs → T (Val × Hs)) (Γ : Type) [Row Γ] (es : List E) (τ : outParam Type) (I : outParam (InjR τ)) (f : outParam (Γ → T (τ × Γ))) : Prop where
  run : ∀ {n0 γ s h} {P : τ × Γ → Prop}, Rg n0 γ s h → (f γ).All P → (evs cf es s h).All fun r => ∃ a γ', r.1 = injR a ∧ Rg n0 γ' s r.2 ∧ P (a, γ')
/-- arguments, the last one a list that is lent -/
class AL (cf : Nat → List Val → Hs → T (Val × Hs)) (Γ : Type) [Row Γ] (es : List E) (τ : Type) [ArgR τ] (o : outParam Nat) (f : outParam (Γ → T τ)) : Prop where
  run : ∀ {n0 γ s h} {P : τ → Prop}, Rg n0 γ s h → (f γ).All P → (evs cf es s h).All fun r => r.2 = h ∧ ∃ a l, r.1 = ArgR.args a ++ [.ref l] ∧ s[o]? = some (some (.ref l)) ∧ P a
class FL (cf : Nat → List Val → Hs → T (Val × Hs)) (f : Nat) (τ : outParam Type) (A : outParam (ArgR τ)) (β : outParam Type) (J : outParam (Inj β)) (ρ : outParam Type) (I : outParam (Inj ρ)) (F : outParam (τ → List β → T (ρ × List β))) : Prop where
  run : ∀ {n0 h a xs} {frm : Frm} {P : ρ × List β → Prop}, Rg n0 ((⟨xs⟩, ⟨⟩) : Lt β × Fr) [some (.ref frm.a)] h → (F a xs).All P → (cf f (ArgR.args a ++ [Val.ref frm.a]) h).All fun r => ∃ x ys, r.1 = inj x ∧ P (x, ys) ∧ Rg n0 ((⟨ys⟩, ⟨⟩) : Lt β × Fr) [some (.ref frm.a)] r.2
section
variable {cf : Nat → List Val → Hs → T (Val × Hs)} {fu : Nat} {Γ ρ : Type} [Row Γ] [Inj ρ]
instance (priority := low) HC.ofEC {e : E} {α : Type} {I : Inj α} {f : Γ → T α} [E1 : EC cf Γ e α I f] : HC cf Γ e α I (fun γ => (f γ).bind fun x => .ok (x, γ)) := ⟨fun {n0 γ s h P} rg p => by
  rw [T.all_bind] at p
  refine T.all_mono (fun r z => ?_) (E1.run rg p)
  obtain ⟨v, h'⟩ := r
  obtain ⟨z1, a, z2, z3⟩ := z
  simp only at z1 z2
  subst z1 z2
  exact ⟨a, γ, rfl, rg, z3⟩⟩
instance HC.pop {i : Nat} {β : Type} {J : Inj β} [S : USlot Γ i β J] : HC cf Γ (.me (.v i) .pop []) β J (fun γ => (T.of (S.get γ)).bind fun xs => match xs[xs.length - 1]? with
    | some y => .ok (y, S.set xs.dropLast γ)
    | none => .no) := ⟨fun {n0 γ s h P} rg p => by
  rw [q_me]
  rw [T.all_bind] at p
  obtain ⟨xs, e0, p⟩ := T.of_some' p
  obtain ⟨l, e1, e2, k⟩ := rg.updO S e0
  have il : itemsL h (.ref l) = some (xs.map inj) := by
    unfold Hs.wl at e2
    split at e2
    · rename_i q
      split at e2
      · cases e2
      · cases e2
        simp only [itemsL, q]
    · cases e2
  rw [q_v, e1, T.bind_ok]
  simp only [il, q_nil, T.bind_ok, meA_pop]
  split at p
  · rename_i y ey
    have : meV .pop (.ref l) [] h = .ok (inj y, h.put l (.lst (xs.dropLast.map inj))) := by
      simp only [meV, e2, List.length_map, List.getElem?_map, ey, Option.map_some, List.map_dropLast]
    rw [this]
    exact ⟨y, _, rfl, k _, p⟩
  · exact p.elim⟩
instance HsC.nil : HsC cf Γ [] Unit inferInstance (fun γ => .ok ((), γ)) := ⟨fun rg p => ⟨(), _, rfl, rg, p⟩⟩
instance HsC.cons {e : E} {es : List E} {α τ : Type} {I : Inj α} {J : InjR τ} {f : Γ → T (α × Γ)} {g : Γ → T (τ × Γ)} [E1 : HC cf Γ e α I f] [E2 : HsC cf Γ es τ J g] : HsC cf Γ (e :: es) (α × τ) inferInstance (fun γ => (f γ).bind fun x => (g x.2).bind fun y => .ok ((x.1, y.1), y.2)) := ⟨fun {n0 γ s h P} rg p => by
  rw [q_cons]
  rw [T.all_bind] at p ⊢
  refine T.all_mono (fun r z => ?_) (E1.run rg p)
  obtain ⟨v, h'⟩ := r
  obtain ⟨a, γ', z1, rg', z2⟩ := z
  simp only at z1
  subst z1
  rw [T.all_bind] at z2 ⊢
  refine T.all_mono (fun r z => ?_) (E2.run rg' z2)
  obtain ⟨v, h2⟩ := r
  obtain ⟨b, γ2, y1, rg2, y2⟩ := z
  simp only at y1
  subst y1
  exact ⟨(a, b), γ2, rfl, rg2, y2⟩⟩
instance (priority := low) HC.tup {es : List E} {τ : Type} {J : InjR τ} {g : Γ → T (τ × Γ)} [E1 : HsC cf Γ es τ J g] : HC cf Γ (.tup es) (Tu τ) inferInstance (fun γ => (g γ).bind fun x => if small (injR x.1).length then .ok (⟨x.1⟩, x.2) else .no) := ⟨fun {n0 γ s h P} rg p => by
  rw [q_tup]
  rw [T.all_bind] at p ⊢
  refine T.all_mono (fun r z => ?_) (E1.run rg p)
  obtain ⟨v, h'⟩ := r
  obtain ⟨a, γ', z1, rg', z2⟩ := z
  simp only at z1
  subst z1
  split at z2
  · rename_i q
    simp only [q, if_true]
    exact ⟨⟨a⟩, γ', rfl, rg', z2⟩
  · exact z2.elim⟩
instance (priority := low) XC.asgH {t : At} {e : E} {α : Type} {I : Inj α} {f : Γ → T (α × Γ)} {g : α → Γ → T Γ} [E1 : HC cf Γ e α I f] [T1 : AtC cf Γ t α g] : XC cf fu Γ ρ (.asg t e) (fun γ => (f γ).bind fun x => (g x.1 x.2).bind fun γ => .ok (.nx γ)) := ⟨fun {n0 γ s h P} rg p => by
  rw [q_asg]
  rw [T.all_bind] at p ⊢
  refine T.all_mono (fun r z => ?_) (E1.run rg p)
  obtain ⟨v, h'⟩ := r
  obtain ⟨a, γ', z1, rg', z2⟩ := z
  simp only at z1
  subst z1
  rw [T.all_bind] at z2 ⊢
  refine T.all_mono (fun r z => ?_) (T1.run rg' z2)
  obtain ⟨γ2, r', p'⟩ := z
  exact ⟨γ2, r', p'⟩⟩
instance (priority := low) XC.exH {e : E} {α : Type} {I : Inj α} {f : Γ → T (α × Γ)} [E1 : HC cf Γ e α I f] : XC cf fu Γ ρ (.ex e) (fun γ => (f γ).bind fun x => .ok (.nx x.2)) := ⟨fun {n0 γ s h P} rg p => by
  rw [q_ex]
  rw [T.all_bind] at p ⊢
  refine T.all_mono (fun r z => ?_) (E1.run rg p)
  obtain ⟨v, h'⟩ := r
  obtain ⟨a, γ', z1, rg', z2⟩ := z
  exact ⟨γ', rg', z2⟩⟩
instance (priority := low) XC.retH {e : E} {α : Type} {I : Inj α} {f : Γ → T (α × Γ)} [E1 : HC cf Γ e α I f] [C : Pv α ρ] : XC cf fu Γ ρ (.ret e) (fun γ => (f γ).bind fun x => (T.of (C.pv x.1)).bind fun y => if Nat.blt (Inj.dp ρ) 12 then .ok (.rt y x.2) else .no) := ⟨fun {n0 γ s h P} rg p => by
  rw [q_ret]
  rw [T.all_bind] at p ⊢
  refine T.all_mono (fun r z => ?_) (E1.run rg p)
  obtain ⟨v, h'⟩ := r
  obtain ⟨a, γ', z1, rg', z2⟩ := z
  simp only at z1
  subst z1
  rw [T.all_bind] at z2
  obtain ⟨y, e, z2⟩ := T.of_some' z2
  split at z2
  · rename_i q
    refine ⟨y, γ', rg', z2, ?_⟩
    show fzV h' n0 12 (inj a) = _
    rw [← C.ok e]
    exact Inj.fz h' n0 12 y (by simpa [Nat.blt_eq] using q)
  · exact z2.elim⟩
/-! ### lent lists -/
instance AL.one {i : Nat} {β : Type} {J : Inj β} [S : USlot Γ i β J] : AL cf Γ [.v i] Unit i (fun γ => (T.of (S.get γ)).bind fun _ => .ok ()) := ⟨fun {n0 γ s h P} rg p => by
  rw [T.all_bind] at p
  obtain ⟨xs, e0, p⟩ := T.of_some' p
  obtain ⟨l, e1, e2, k⟩ := rg.updO S e0
  have e3 := e1
  rw [q_cons, q_v, e1]
  exact ⟨rfl, (), l, rfl, rfl, p⟩⟩
instance AL.cons {e e2 : E} {es : List E} {α β τ : Type} {I : Inj α} [J : Inj β] [ArgR τ] {f : Γ → T α} {g : Γ → T τ} {o : Nat} [E1 : EC cf Γ e α I f] [C : Pv α β] [E2 : AL cf Γ (e2 :: es) τ o g] : AL cf Γ (e :: e2 :: es) (β × τ) o (fun γ => (f γ).bind fun x => (T.of (C.pv x)).bind fun x => (g γ).bind fun y => .ok (x, y)) := ⟨fun {n0 γ s h P} rg p => by
  rw [q_cons]
  refine E1.bind rg p fun x p => ?_
  rw [T.all_bind] at p
  obtain ⟨x', e', p⟩ := T.of_some' p
  rw [T.all_bind] at p ⊢
  refine T.all_mono (fun r z => ?_) (E2.run rg p)
  obtain ⟨v, h'⟩ := r
  obtain ⟨z1, a, l, z2, z3, z4⟩ := z
  simp only at z1 z2
  subst z1 z2
  refine ⟨rfl, (x', a), l, ?_, z3, z4⟩
  show _ = inj x' :: ArgR.args a ++ [.ref l]
  rw [C.ok e']
  rfl⟩
instance HC.callL {i : Nat} {es : List E} {τ β ρ : Type} {A : ArgR τ} {J : Inj β} {I : Inj ρ} {F : τ → List β → T (ρ × List β)} {o : Nat} {g : Γ → T τ} [F1 : FL cf i τ A β J ρ I F] [E1 : AL cf Γ es τ o g] [S : USlot Γ o β J] [N : NB Γ] : HC cf Γ (.call i es) ρ I (fun γ => (g γ).bind fun a => (T.of (S.get γ)).bind fun xs => (F a xs).bind fun r => .ok (r.1, S.set r.2 γ)) := ⟨fun {n0 γ s h P} rg p => by
  rw [q_call]
  rw [T.all_bind] at p ⊢
  refine T.all_mono (fun r z => ?_) (E1.run rg p)
  obtain ⟨v, h'⟩ := r
  obtain ⟨z1, a, l, z2, z3, z4⟩ := z
  simp only at z1 z2
  subst z1 z2
  rw [T.all_bind] at z4
  obtain ⟨xs, e0, z4⟩ := T.of_some' z4
  obtain ⟨A, r, nd, ha, w, b, c, bb⟩ := rg
  obtain ⟨l', hl, e1, e2⟩ := S.rget r e0
  rw [e1] at z3
  have z3 : l' = l := by cases z3; rfl
  subst z3
  simp only
  let frm : Frm := ⟨l', A.filter fun m => decide (m ≠ l'), h'.get⟩
  have rg0 : Rg n0 ((⟨xs⟩, ⟨⟩) : Lt β × Fr) [some (.ref frm.a)] h' := by
    refine ⟨l' :: A.filter fun m => decide (m ≠ l'), ⟨[], _, rfl, rfl, e2, rfl, fun m _ => rfl⟩, List.nodup_cons.mpr ⟨fun m => ?_, nd.filter _⟩, fun m hm => ?_, w, b, c, fun p hp => absurd hp List.not_mem_nil⟩
    · have := (List.mem_filter.mp m).2
      simp at this
    · rcases List.mem_cons.mp hm with z | z
      · subst z; exact ha _ hl
      · exact ha _ (List.mem_filter.mp z).1
  rw [T.all_bind] at z4
  refine T.all_mono (fun r' z => ?_) (F1.run (frm := frm) rg0 z4)
  obtain ⟨x, ys, y1, y2, A2, r2, nd2, ha2, w2, b2, c2, _⟩ := z
  obtain ⟨s', A', q1, q2, q3, q4, q5⟩ := r2
  subst q2 q4
  refine ⟨x, S.set ys γ, y1, ⟨A, S.rupd r nd e0 e1 q3 fun m hm ne => q5 m (List.mem_filter.mpr ⟨hm, by simpa using ne⟩), nd, fun m hm => ?_, w2, b2, c2, by rw [N.nb]; exact fun p hp => absurd hp List.not_mem_nil⟩, y2⟩
  by_cases q : m = l'
  · subst q; exact ha2 _ List.mem_cons_self
  · exact ha2 _ (List.mem_cons_of_mem _ (List.mem_filter.mpr ⟨hm, by simpa using q⟩))⟩
end
/-- a value that is no row -/
class FlatC (ρ : Type) [Inj ρ] : Prop where
  ok : ∀ {h n k v} {x : ρ}, fzV h n k v = some (inj x) → v = inj x
theorem fz_flat {h : Hs} {n : Nat} {k : Nat} {v w : Val} (e : fzV h n k v = some w) (hw : match w with | .int _ | .bl _ | .non => True | _ => False) : v = w := by
  cases k with
  | zero => cases e
  | succ k =>
    cases v with
    | ref l =>
      unfold fzV at e
      split at e
      · cases e; exact hw.elim
      · split at e
        · obtain ⟨ys, _, rfl⟩ := Option.map_eq_some_iff.mp e; exact hw.elim
        · obtain ⟨ys, _, rfl⟩ := Option.map_eq_some_iff.mp e; exact hw.elim
        · cases e
    | tup xs => unfold fzV at e; obtain ⟨ys, _, rfl⟩ := Option.map_eq_some_iff.mp e; exact hw.elim
    | tl xs => unfold fzV at e; obtain ⟨ys, _, rfl⟩ := Option.map_eq_some_iff.mp e; exact hw.elim
    | fd _ _ _ => unfold fzV at e; obtain ⟨ys, _, rfl⟩ := Option.map_eq_some_iff.mp e; exact hw.elim
    | _ => cases e; rfl
instance : FlatC Int := ⟨fun e => fz_flat e trivial⟩
instance : FlatC Bool := ⟨fun e => fz_flat e trivial⟩
instance : FlatC Unit := ⟨fun e => fz_flat e trivial⟩
def outL {Γ ρ β : Type} (out : Γ → List β) (r : Fw Γ ρ) : T (ρ × List β) := match r with
  | .rt x γ => .ok (x, out γ)
  | _ => .no
theorem fl_mk {tab : List Fn} {fu d i np nN : Nat} {body : List S} {Γ τ β ρ : Type} (R : Frm → Row Γ) [A : ArgR τ] [J : Inj β] [I : Inj ρ] [FlatC ρ] {f : Γ → T (Fw Γ ρ)} (S1 : ∀ frm : Frm, @SC (callN tab fu d) fu Γ ρ (R frm) I body f) (ht : tab[i]? = some (.code np false nN body false)) (hp : ∀ a : τ, (ArgR.args a).length + 1 = np) (st : τ → List β → Γ) (out : Γ → List β)
    (he : ∀ (frm : Frm) (a : τ) (xs : List β) (h : Hs), h.get frm.a = some (.lst (xs.map inj)) → (∀ m ∈ frm.L, h.get m = frm.g m) → (R frm).rel (st a xs) ((ArgR.args a ++ [Val.ref frm.a]).map some ++ List.replicate (nN - np) none) h (frm.a :: frm.L))
    (hb : ∀ (frm : Frm) (γ : Γ) (s : Env) (h : Hs) (A : List Nat), (R frm).rel γ s h A → h.get frm.a = some (.lst ((out γ).map inj)) ∧ (∀ m ∈ frm.L, h.get m = frm.g m) ∧ frm.a ∈ A ∧ ∀ m ∈ frm.L, m ∈ A) (hnb : ∀ frm : Frm, (R frm).bw = [] := by intros; rfl) :
    FL (callN tab fu (d + 1)) i τ A β J ρ I (fun a xs => (f (st a xs)).bind (outL out)) := ⟨fun {n0 h a xs frm P} rg p => by
  show (match tab[i]? with
    | none => T.no
    | some .start => match ArgR.args a ++ [Val.ref frm.a] with
      | [Val.scr] => T.ok (Val.ref h.n, h.new Ob.tape)
      | _ => .no
    | some .pick => pickV (ArgR.args a ++ [Val.ref frm.a]) h
    | some .next => nextV (ArgR.args a ++ [Val.ref frm.a]) h
    | some (.code np va nN body fz) => match va with
      | false => if (ArgR.args a ++ [Val.ref frm.a]).length == np then runF (callN tab fu d) fu nN body fz (ArgR.args a ++ [Val.ref frm.a]) h else .no
      | true => if Nat.ble (np - 1) (ArgR.args a ++ [Val.ref frm.a]).length && small (ArgR.args a ++ [Val.ref frm.a]).length && (!((ArgR.args a ++ [Val.ref frm.a]).drop (np - 1)).isEmpty && ((ArgR.args a ++ [Val.ref frm.a]).drop (np - 1)).all isFlat) then runF (callN tab fu d) fu nN body fz ((ArgR.args a ++ [Val.ref frm.a]).take (np - 1) ++ [Val.tup ((ArgR.args a ++ [Val.ref frm.a]).drop (np - 1))]) h else .no).All _
  rw [ht]
  have hlen : (ArgR.args a ++ [Val.ref frm.a]).length = np := by rw [List.length_append]; exact hp a
  simp only [hlen, beq_self_eq_true, if_true]
  unfold runF
  rw [T.all_bind] at p ⊢
  obtain ⟨A0, ⟨s', A', q1, q2, q3, q4, q5⟩, nd, ha, w, b, c, _⟩ := rg
  subst q2 q4
  rw [hlen]
  have rg : @Rg Γ (R frm) n0 (st a xs) ((ArgR.args a ++ [Val.ref frm.a]).map some ++ List.replicate (nN - np) none) ⟨h.os, h.n, h.n, h.lk⟩ := ⟨_, he frm a xs _ q3 q5, nd, ha, ⟨w.os, w.lk, w.tp⟩, b, b, by rw [hnb]; exact fun p hp => absurd hp List.not_mem_nil⟩
  refine T.all_mono (fun r z => ?_) ((S1 frm).run rg p)
  obtain ⟨fl, s1, h1⟩ := r
  unfold FinP at z
  cases fl with
  | nx => obtain ⟨γ, _, z⟩ := z; exact z.elim
  | bk => obtain ⟨γ, _, z⟩ := z; exact z.elim
  | ct => obtain ⟨γ, _, z⟩ := z; exact z.elim
  | rt v =>
    obtain ⟨x, γ', ⟨A, r, nd1, ha1, w1, b1, c1, _⟩, z1, z2⟩ := z
    have ev : v = inj x := FlatC.ok z2
    subst ev
    obtain ⟨k1, k2, k3, k4⟩ := hb frm γ' _ _ _ r
    show (T.ok (inj x, (⟨h1.os, h1.n, min h.lo h1.lo, h.lk⟩ : Hs))).All _
    refine ⟨x, out γ', rfl, z1, ⟨frm.a :: frm.L, ⟨[], _, rfl, rfl, k1, rfl, k2⟩, nd, fun m hm => ?_, ⟨w1.os, w.lk, w1.tp⟩, b1, ?_, fun p hp => absurd hp List.not_mem_nil⟩⟩
    · rcases List.mem_cons.mp hm with z | z
      · subst z; exact ⟨(ha1 _ k3).1, (ha1 _ k3).2.1, (ha _ List.mem_cons_self).2.2⟩
      · exact ⟨(ha1 _ (k4 m z)).1, (ha1 _ (k4 m z)).2.1, (ha _ (List.mem_cons_of_mem _ z)).2.2⟩
    · have c1 : n0 ≤ h1.lo := c1
      show n0 ≤ min h.lo h1.lo
      omega⟩
end Eng
namespace Eng
section
variable {cf : Nat → List Val → Hs → T (Val × Hs)} {Γ : Type} [Row Γ]
instance (priority := low) EC.iteP {c a b : E} {α β : Type} {I : Inj α} {J : Inj β} {fc : Γ → T Bool} {fa : Γ → T α} {fb : Γ → T β} [E0 : EC cf Γ c Bool inferInstance fc] [E1 : EC cf Γ a α I fa] [E2 : EC cf Γ b β J fb] [C : Pv β α] : EC cf Γ (.ite c a b) α I (fun γ => (fc γ).bind fun x => match x with
    | true => fa γ
    | false => (fb γ).bind fun y => T.of (C.pv y)) := ⟨fun {n0 γ s h P} rg p => by
  rw [q_ite, q_tst, T.bind_assoc]
  refine E0.bind rg p fun x p => ?_
  cases x with
  | true => exact E1.run rg p
  | false =>
    show (ev cf b s h).All _
    rw [T.all_bind] at p
    refine T.all_mono (fun r z => ?_) (E2.run rg p)
    obtain ⟨z1, y, z2, z3⟩ := z
    obtain ⟨w, e, q⟩ := T.of_some' z3
    exact ⟨z1, w, by rw [z2, C.ok e], q⟩⟩
theorem SC.congr {fu : Nat} {ρ : Type} [Inj ρ] {b : List S} {f g : Γ → T (Fw Γ ρ)} (h : SC cf fu Γ ρ b f) (e : f = g) : SC cf fu Γ ρ b g := e ▸ h
end
/-- [] that nobody writes -/
structure Nil where
instance : Inj Nil := ⟨fun _ => .tl [], 0, fun h n k a hk => by cases k with | zero => omega | succ k => rfl⟩
instance {cf : Nat → List Val → Hs → T (Val × Hs)} {Γ : Type} [Row Γ] : EC cf Γ (.lst false []) Nil inferInstance (fun _ => .ok ⟨⟩) := ⟨fun rg p => ⟨rfl, ⟨⟩, rfl, p⟩⟩
instance {α : Type} [Inj α] : Cv Nil (List α) := ⟨fun _ => [], fun _ => rfl⟩
section
variable {cf : Nat → List Val → Hs → T (Val × Hs)} {fu : Nat} {Γ ρ : Type} [Row Γ] [Inj ρ]
/-- a value and a new list, side by side -/
instance XC.asgEN {i o : Nat} {e en : E} {α β ε : Type} {I : Inj α} {J : Inj β} {K : Inj ε} {f : Γ → T α} {g : Γ → T (List ε)} [E1 : EC cf Γ e α I f] [S1 : Slot Γ i β J] [S2 : OSlot Γ o ε K] [E2 : NC cf Γ en ε g] [C : Cv α β] : XC cf fu Γ ρ (.asg (.tp [.nm i, .nm o]) (.tup [e, en])) (fun γ => (f γ).bind fun x => (g γ).bind fun xs => .ok (.nx (S2.set xs (S1.set (some (C.cv x)) γ)))) := ⟨fun {n0 γ s h P} rg p => by
  rw [q_asg, q_tup, q_cons, T.bind_assoc, T.bind_assoc]
  refine E1.bind rg p fun x p => ?_
  rw [q_cons, T.bind_assoc, T.bind_assoc]
  rw [T.all_bind] at p ⊢
  refine T.all_mono (fun r z => ?_) (E2.run rg p)
  obtain ⟨v, h'⟩ := r
  obtain ⟨xs, l, p, z2, z3⟩ := z
  simp only at z2 z3
  subst z2
  have rg1 : Rg n0 (S1.set (some (C.cv x)) γ) (s.set i (some (Inj.inj x))) h := rg.cong fun A r => by rw [← C.ok x]; exact S1.rset r
  exact ⟨_, rg1.newO S2 z3, p⟩⟩
instance XC.asgNE {i o : Nat} {e en : E} {α β ε : Type} {I : Inj α} {J : Inj β} {K : Inj ε} {f : Γ → T α} {g : Γ → T (List ε)} [E1 : EC cf Γ e α I f] [S1 : Slot Γ i β J] [S2 : OSlot Γ o ε K] [E2 : NC cf Γ en ε g] [C : Cv α β] : XC cf fu Γ ρ (.asg (.tp [.nm o, .nm i]) (.tup [en, e])) (fun γ => (g γ).bind fun xs => (f γ).bind fun x => .ok (.nx (S1.set (some (C.cv x)) (S2.set xs γ)))) := ⟨fun {n0 γ s h P} rg p => by
  rw [q_asg, q_tup, q_cons, T.bind_assoc, T.bind_assoc]
  rw [T.all_bind] at p ⊢
  refine T.all_mono (fun r z => ?_) (E2.run rg p)
  obtain ⟨v, h'⟩ := r
  obtain ⟨xs, l, p, z2, z3⟩ := z
  simp only at z2 z3
  subst z2
  rw [q_cons, T.bind_assoc, T.bind_assoc]
  refine E1.bind (rg.later z3.later) p fun x p => ?_
  exact ⟨_, (rg.newO S2 z3).cong fun A r => by rw [← C.ok x]; exact S1.rset r, p⟩⟩
end
end Eng
/-! The typed layer: values of any kind. -/
namespace Eng
open PySem L2
open Inj (inj)
open InjR (injR)
open Row (rel)
/-- a list of things of told types, that nobody writes -/
structure Hl (τ : Type) where
  t : τ
instance {τ : Type} [InjR τ] : Inj (Hl τ) := ⟨fun t => .tl (injR t.t), InjR.dp τ + 1, fun h n k a hk => by
  cases k with
  | zero => omega
  | succ k =>
    unfold fzV
    rw [optAll_id fun x hx => InjR.fz h n k a.t (by omega) x hx]
    rfl⟩
def toAny (v : Val) : Option Any := if h : pureV 6 v = true then some ⟨v, h⟩ else none
theorem toAny_ok {v : Val} {a : Any} (e : toAny v = some a) : a.v = v := by
  unfold toAny at e
  split at e
  · cases e; rfl
  · cases e
theorem toAnys_ok : ∀ {vs : List Val} {as : List Any}, optAll toAny vs = some as → as.map inj = vs
  | [], as, e => by cases e; rfl
  | v :: vs, as, e => by
    obtain ⟨a, bs, e1, e2, rfl⟩ := optAll_c e
    rw [List.map_cons, toAnys_ok e2]
    show a.v :: vs = _
    rw [toAny_ok e1]
instance (priority := low) {α : Type} [Inj α] : Pv α Any := ⟨fun a => toAny (inj a), fun e => toAny_ok e⟩
/-- a type of tuples -/
class TupC (α : Type) : Prop where
instance {α : Type} : TupC (Tp α) := ⟨⟩
instance {τ : Type} : TupC (Tu τ) := ⟨⟩
/-- the parts of a value that is a row -/
def partsP (v : Val) : Option (List Any) := match v with
  | .tup xs => optAll toAny xs
  | .tl xs => optAll toAny xs
  | _ => none
section
variable {cf : Nat → List Val → Hs → T (Val × Hs)} {fu : Nat} {Γ ρ : Type} [Row Γ] [Inj ρ]
instance (priority := low) EC.lstH {e : E} {es : List E} {τ : Type} {J : InjR τ} {g : Γ → T τ} [E1 : EsC cf Γ (e :: es) τ J g] : EC cf Γ (.lst false (e :: es)) (Hl τ) inferInstance (fun γ => (g γ).bind fun x => if small (injR x).length then .ok ⟨x⟩ else .no) := ⟨fun {n0 γ s h P} rg p => by
  rw [q_lst]
  refine E1.bind rg p fun x p => ?_
  split at p
  · rename_i q
    simp only [q, if_true]
    exact ⟨rfl, ⟨x⟩, rfl, p⟩
  · exact p.elim⟩
instance (priority := low) SrcC.tuA {e : E} {τ : Type} [InjR τ] {f : Γ → T (Tu τ)} [E1 : EC cf Γ e (Tu τ) inferInstance f] : SrcC cf Γ .val [e] Any inferInstance (fun γ => (f γ).bind fun t => T.of (optAll toAny (injR t.t))) := ⟨fun {n0 γ s h P} rg p => by
  rw [q_cons]
  refine E1.bind rg p fun x p => ?_
  obtain ⟨xs, e1, p⟩ := T.of_some' p
  refine ⟨rfl, xs, p, ?_⟩
  rw [toAnys_ok e1]
  rfl⟩
instance (priority := low) SrcC.any {e : E} {f : Γ → T Any} [E1 : EC cf Γ e Any inferInstance f] : SrcC cf Γ .val [e] Any inferInstance (fun γ => (f γ).bind fun t => T.of (partsP t.v)) := ⟨fun {n0 γ s h P} rg p => by
  rw [q_cons]
  refine E1.bind rg p fun x p => ?_
  obtain ⟨xs, e1, p⟩ := T.of_some' p
  refine ⟨rfl, xs, p, ?_⟩
  show srcV .val [x.v] h = _
  unfold partsP at e1
  split at e1
  · rename_i z
    rw [z, toAnys_ok e1]
    rfl
  · rename_i z
    rw [z, toAnys_ok e1]
    rfl
  · cases e1⟩
def catP (v w : Val) : Option (Tp Any) := match v, w with
  | .tup xs, .tup ys => if small (xs.length + ys.length) then (optAll toAny (xs ++ ys)).map Tp.mk else none
  | _, _ => none
instance (priority := low) EC.catA {m : Bool} {a b : E} {α β : Type} {I : Inj α} {J : Inj β} {fa : Γ → T α} {fb : Γ → T β} [E1 : EC cf Γ a α I fa] [E2 : EC cf Γ b β J fb] [TupC α] [TupC β] : EC cf Γ (.bin .add m a b) (Tp Any) inferInstance (fun γ => (fa γ).bind fun x => (fb γ).bind fun y => T.of (catP (inj x) (inj y))) := ⟨fun {n0 γ s h P} rg p => by
  rw [q_bin]
  refine E1.bind rg p fun x p => E2.bind rg p fun y p => ?_
  obtain ⟨t, e, p⟩ := T.of_some' p
  show (bopV .add m (inj x) (inj y) h).All _
  unfold catP at e
  split at e
  · rename_i xs ys z1 z2
    split at e
    · rename_i q
      obtain ⟨zs, e1, e2⟩ := Option.map_eq_some_iff.mp e
      subst e2
      rw [z1, z2]
      simp only [q_catT, q, if_true]
      refine ⟨rfl, ⟨zs⟩, ?_, p⟩
      show _ = Val.tup (zs.map inj)
      rw [toAnys_ok e1]
    · cases e
  · cases e⟩
theorem XC.congr {b : S} {f g : Γ → T (Fw Γ ρ)} (h : XC cf fu Γ ρ b f) (e : f = g) : XC cf fu Γ ρ b g := e ▸ h
/-- [x for x in e if isinstance(x, t)] -/
def isiF (t : Ty) : List Val → Option (List Val)
  | [] => some []
  | v :: vs => match isiP v t, isiF t vs with
    | some true, some ws => some (v :: ws)
    | some false, some ws => some ws
    | _, _ => none
theorem isiP_ok {h : Hs} {v : Val} {t : Ty} {b : Bool} (e : isiP v t = some b) : isiV h v t = some b := by
  rw [← e]
  unfold isiP at e ⊢
  split at e
  · rfl
  all_goals first | rfl | cases e
theorem isiF_run {i : Nat} {t : Ty} {s : Env} {h : Hs} (hi : i < s.length) : ∀ {vs ws : List Val}, isiF t vs = some ws → lcL (fun x => tgS (.nm i) x s) (evt cf [.isi (.v i) t]) (ev cf (.v i)) vs h = .ok (ws, h)
  | [], ws, e => by cases e; rfl
  | v :: vs, ws, e => by
    rw [q_lcc]
    have g : (s.set i (some v))[i]? = some (some v) := by rw [List.getElem?_set_self hi]
    unfold isiF at e
    split at e
    · rename_i ws' e1 e2
      cases e
      have ih := fun h => isiF_run (h := h) hi e2
      simp only [q_tgnm] at ih ⊢
      simp only [q_t1, q_tst, q_isi, q_v, g, T.bind_ok, isiP_ok e1, truth, ih]
    · rename_i ws' e1 e2
      cases e
      have ih := fun h => isiF_run (h := h) hi e2
      simp only [q_tgnm] at ih ⊢
      simp only [q_t1, q_tst, q_isi, q_v, g, T.bind_ok, isiP_ok e1, truth, ih]
    · cases e
instance (priority := high) EC.lcIsi {i : Nat} {t : Ty} {e : E} {β : Type} {J : Inj β} {f : Γ → T Any} [E1 : EC cf Γ e Any inferInstance f] [S : Slot Γ i β J] : EC cf Γ (.lc false [i] (.nm i) .val [e] [.isi (.v i) t] (.v i)) (List Any) inferInstance (fun γ => (f γ).bind fun x => (T.of (partsP x.v)).bind fun xs => if small xs.length then (T.of (isiF t (xs.map inj))).bind fun ys => T.of (optAll toAny ys) else .no) := ⟨fun {n0 γ s h P} rg p => by
  rw [q_lc]
  have S1 : SrcC cf Γ .val [e] Any inferInstance (fun γ => (f γ).bind fun t => T.of (partsP t.v)) := SrcC.any
  have hi : i < (wipeE s [i]).length := by
    obtain ⟨A, r, _⟩ := rg
    have := S.lt (S.rnone r)
    exact this
  have p' : ((f γ).bind fun t => T.of (partsP t.v)).All fun xs => (if small xs.length then (T.of (isiF t (xs.map inj))).bind fun ys => T.of (optAll toAny ys) else .no).All P := by
    rw [T.all_bind] at p ⊢
    refine T.all_mono (fun x z => ?_) p
    rw [T.all_bind] at z
    exact z
  rw [T.all_bind]
  refine T.all_mono (fun r z => ?_) (S1.run rg p')
  obtain ⟨v, h'⟩ := r
  obtain ⟨z1, xs, z2, z3⟩ := z
  simp only at z1 z3
  subst z1
  simp only [z3, List.length_map]
  split at z2
  · rename_i q
    simp only [q, if_true]
    rw [T.all_bind] at z2
    obtain ⟨ys, e1, z2⟩ := T.of_some' z2
    obtain ⟨zs, e2, z2⟩ := T.of_some' z2
    rw [isiF_run hi e1, T.bind_ok]
    refine ⟨rfl, zs, ?_, z2⟩
    show Val.tl ys = Val.tl (zs.map inj)
    rw [toAnys_ok e2]
  · exact z2.elim⟩
instance (priority := low) EC.chnQ {o1 o2 : Cop} {a b c : E} {α δ : Type} {I : Inj α} {K : Inj δ} {fa : Γ → T α} {fb : Γ → T Any} {fc : Γ → T δ} [E1 : EC cf Γ a α I fa] [E2 : EC cf Γ b Any inferInstance fb] [E3 : EC cf Γ c δ K fc] :
    EC cf Γ (.chn o1 o2 a b c) Bool inferInstance (fun γ => (fa γ).bind fun x => (fb γ).bind fun y => (T.of (copP o1 (inj x) (inj y))).bind fun k => match k with
      | true => (fc γ).bind fun z => T.of (copP o2 (inj y) (inj z))
      | false => .ok false) := ⟨fun {n0 γ s h P} rg p => by
  rw [q_chn]
  refine E1.bind rg p fun x p => E2.bind rg p fun y p => ?_
  rw [T.all_bind] at p
  obtain ⟨k, e, p⟩ := T.of_some' p
  have e' : copV o1 (inj x) (inj y) h = some k := copP_ok e
  simp only [e']
  cases k with
  | false => exact ⟨rfl, false, rfl, p⟩
  | true =>
    refine E3.bind (k := fun z => T.of (copP o2 (inj y) (inj z))) rg p fun z p => ?_
    obtain ⟨k, e, q⟩ := T.of_some' p
    have e' : copV o2 (inj y) (inj z) h = some k := copP_ok e
    simp only [e']
    exact ⟨rfl, k, rfl, q⟩⟩
theorem vint_inv {v : Val} {i : Int} (e : vint v = some i) : v = .int i := by
  unfold vint at e
  split at e
  · cases e; rfl
  · cases e
theorem vints_inv : ∀ {vs : List Val} {is : List Int}, optAll vint vs = some is → vs = is.map inj
  | [], is, e => by cases e; rfl
  | v :: vs, is, e => by
    obtain ⟨a, bs, e1, e2, rfl⟩ := optAll_c e
    rw [vint_inv e1, vints_inv e2]
    rfl
instance (priority := low) EC.subQ {a i : E} {α : Type} {I : Inj α} {f : Γ → T (List α)} {g : Γ → T Any} [E1 : SE cf Γ a α I f] [E2 : EC cf Γ i Any inferInstance g] : EC cf Γ (.sub a i) α I (fun γ => (f γ).bind fun x => (g γ).bind fun k => (T.of (vint (inj k))).bind fun k => T.of (getI x k)) := ⟨fun {n0 γ s h P} rg p => by
  rw [q_sub]
  refine E1.bind rg p fun x v p h1 h2 => E2.bind rg p fun k p => ?_
  rw [T.all_bind] at p
  obtain ⟨k', e0, p⟩ := T.of_some' p
  obtain ⟨y, e, q⟩ := T.of_some' p
  rw [vint_inv e0]
  have : subV v (.int k') h = some (inj y) := by
    unfold getI at e
    unfold subV
    simp only [h2, h1, List.length_map]
    split at e
    · rename_i j ej
      simp only [ej, List.getElem?_map, e, Option.map_some]
    · cases e
  simp only [this]
  exact ⟨rfl, y, rfl, q⟩⟩
instance SE.ofTu {e : E} {α τ : Type} [InjR τ] {I : Inj α} {f : Γ → T (Tu τ)} [E1 : EC cf Γ e (Tu τ) inferInstance f] [C : HomC τ α I] : SE cf Γ e α I (fun γ => (f γ).bind fun x => .ok (C.l x.t)) := ⟨fun {n0 γ s h P} rg p => by
  rw [T.all_bind] at p
  refine T.all_mono (fun r z => ?_) (E1.run rg p)
  obtain ⟨z1, a, z2, z3⟩ := z
  refine ⟨z1, C.l a.t, z3, ?_, ?_⟩
  · rw [z2, C.ok]; rfl
  · rw [z2]; rfl⟩
instance (priority := low) SE.ofAny {e : E} {f : Γ → T Any} [E1 : EC cf Γ e Any inferInstance f] : SE cf Γ e Any inferInstance (fun γ => (f γ).bind fun x => T.of (partsP x.v)) := ⟨fun {n0 γ s h P} rg p => by
  rw [T.all_bind] at p
  refine T.all_mono (fun r z => ?_) (E1.run rg p)
  obtain ⟨z1, a, z2, z3⟩ := z
  obtain ⟨xs, e1, q⟩ := T.of_some' z3
  refine ⟨z1, xs, q, ?_⟩
  have z2 : r.1 = a.v := z2
  rw [z2]
  unfold partsP at e1
  split at e1
  · rename_i z
    rw [z, toAnys_ok e1]
    exact ⟨rfl, rfl⟩
  · rename_i z
    rw [z, toAnys_ok e1]
    exact ⟨rfl, rfl⟩
  · cases e1⟩
end
end Eng
/-! The typed layer: what a run ends in, as a structure (so that no elaborator runs it). -/
namespace Eng
open PySem L2
structure AllT {A : Type} (P : A → Prop) (t : T A) : Prop where
  all : t.All P
theorem AllT.mono {A : Type} {P Q : A → Prop} {t : T A} (a : AllT P t) (h : ∀ a, P a → Q a) : AllT Q t := ⟨T.all_mono h a.all⟩
theorem AllT.bind {A B : Type} {P : B → Prop} {t : T A} {f : A → T B} (h : AllT (fun a => AllT P (f a)) t) : AllT P (t.bind f) := ⟨T.all_bind.mpr (T.all_mono (fun a z => AllT.all z) h.all)⟩
theorem AllT.ok {A : Type} {P : A → Prop} {a : A} (h : P a) : AllT P (.ok a) := ⟨h⟩
theorem AllT.dr {A : Type} {P : A → Prop} {n : Nat} {k : Nat → T A} (h : ∀ i, i < n → AllT P (k i)) : AllT P (.dr n k) := ⟨fun i hi => (h i hi).all⟩
theorem AllT.seq {Γ ρ : Type} {P : Fw Γ ρ → Prop} {a b : Γ → T (Fw Γ ρ)} {γ : Γ} (h : AllT (fun r => match r with
    | .nx γ => AllT P (b γ)
    | r => P r) (a γ)) : AllT P (seqF a b γ) := by
  unfold seqF
  refine AllT.bind (h.mono fun r z => ?_)
  cases r with
  | nx γ => exact z
  | _ => exact .ok z
theorem AllT.for_ {Γ ρ α : Type} {st : α → Γ → Γ} {body : Γ → T (Fw Γ ρ)} {Inv : Γ → Prop} {R : ρ → Prop} : ∀ {xs : List α} {γ : Γ}, (∀ x ∈ xs, ∀ γ, Inv γ → AllT (fun r => match r with
    | .nx γ => Inv γ
    | .ct γ => Inv γ
    | .bk γ => Inv γ
    | .rt b _ => R b) (body (st x γ))) → Inv γ → AllT (fun r => match r with
    | .nx γ => Inv γ
    | .rt b _ => R b
    | _ => False) (forF st body xs γ)
  | [], γ, H, h => .ok h
  | x :: xs, γ, H, h => by
    unfold forF
    refine AllT.bind ((H x List.mem_cons_self γ h).mono fun r z => ?_)
    cases r with
    | nx γ => exact AllT.for_ (fun y m => H y (List.mem_cons_of_mem _ m)) z
    | ct γ => exact AllT.for_ (fun y m => H y (List.mem_cons_of_mem _ m)) z
    | bk γ => exact .ok z
    | rt b γ => exact .ok z
/-- a comprehension without slots -/
def lcG {α β : Type} (t : α → T Bool) (e : α → T β) : List α → T (List β)
  | [] => .ok []
  | x :: xs => (t x).bind fun b => match b with
    | true => (e x).bind fun y => (lcG t e xs).bind fun ys => .ok (y :: ys)
    | false => lcG t e xs
theorem lcF_G {Γ α β : Type} {st : α → Γ} {tst : Γ → T Bool} {el : Γ → T β} : ∀ {xs : List α}, lcF st tst el xs = lcG (fun x => tst (st x)) (fun x => el (st x)) xs
  | [] => rfl
  | x :: xs => by
    unfold lcF lcG
    rw [lcF_G]
    try (congr 1)
/-- t ends in a value of which p says True -/
def okB {A : Type} (t : T A) (p : A → Bool) : Bool := match t with
  | .ok a => p a
  | _ => false
theorem okB_ex {A : Type} {t : T A} {p : A → Bool} (h : okB t p = true) : ∃ a, t = .ok a ∧ p a = true := by
  cases t with
  | ok a => exact ⟨a, rfl, h⟩
  | no => cases h
  | dr n k => cases h
end Eng
/-! The typed layer: dicts (and other objects) of one's own, and lent ones that are only read. -/
namespace Eng
open PySem L2
open Inj (inj)
open Row (rel)
/-- what an object holds -/
class Enc (C : Type) where
  enc : C → Ob
  nt : ∀ c, enc c ≠ .tape
open Enc (enc)
/-- a slot with an object of its own -/
structure Od (C : Type) where
  l : Option C

instance {C Γ : Type} [Enc C] [Row Γ] : Row (Od C × Γ) := ⟨fun γ s h A => ∃ x s', s = x :: s' ∧ match γ.1.l with
    | none => rel γ.2 s' h A
    | some xs => ∃ l A', A = l :: A' ∧ x = some (.ref l) ∧ h.get l = some (enc xs) ∧ rel γ.2 s' h A', fun {γ s h h' A} ⟨x, s', e, r⟩ k => by
  refine ⟨x, s', e, ?_⟩
  split
  · rename_i q
    rw [q] at r
    exact Row.mono r k
  · rename_i xs q
    rw [q] at r
    obtain ⟨l, A', e1, e2, e3, r⟩ := r
    subst e1
    exact ⟨l, A', rfl, e2, (k l List.mem_cons_self).trans e3, Row.mono r fun m hm => k m (List.mem_cons_of_mem _ hm)⟩, Row.bw Γ⟩

instance {C Γ : Type} [Enc C] [Row Γ] [N : NB Γ] : NB (Od C × Γ) := ⟨N.nb⟩

instance {C β Γ : Type} [Enc C] [Row Γ] {i : Nat} {J : Inj β} [S : Slot Γ i β J] : Slot (Od C × Γ) (i + 1) β J := {
  get := fun γ => S.get γ.2
  set := fun a γ => (γ.1, S.set a γ.2)
  rget := fun {γ s h A a} ⟨x, s', e, r⟩ g => by
    subst e
    rw [List.getElem?_cons_succ]
    split at r
    · exact S.rget r g
    · obtain ⟨l, A', e1, e2, e3, r⟩ := r
      exact S.rget r g
  rset := fun {γ s h A a} ⟨x, s', e, r⟩ => by
    subst e
    refine ⟨x, _, rfl, ?_⟩
    split <;> rename_i q <;> rw [q] at r
    · exact S.rset r
    · obtain ⟨l, A', e1, e2, e3, r⟩ := r
      exact ⟨l, A', e1, e2, e3, S.rset r⟩
  rnone := fun {γ s h A} ⟨x, s', e, r⟩ => by
    subst e
    refine ⟨x, _, rfl, ?_⟩
    split <;> rename_i q <;> rw [q] at r
    · exact S.rnone r
    · obtain ⟨l, A', e1, e2, e3, r⟩ := r
      exact ⟨l, A', e1, e2, e3, S.rnone r⟩
  lt := fun {γ s h A} ⟨x, s', e, r⟩ => by
    subst e
    split at r
    · exact Nat.succ_lt_succ (S.lt r)
    · obtain ⟨l, A', e1, e2, e3, r⟩ := r
      exact Nat.succ_lt_succ (S.lt r) }

instance {C β Γ : Type} [Enc C] [Row Γ] {i : Nat} {J : Inj β} [S : OSlot Γ i β J] : OSlot (Od C × Γ) (i + 1) β J := {
  get := fun γ => S.get γ.2
  set := fun a γ => (γ.1, S.set a γ.2)
  rget := fun {γ s h A xs} ⟨x, s', e, r⟩ g => by
    subst e
    simp only [List.getElem?_cons_succ]
    split at r
    · exact S.rget r g
    · obtain ⟨l, A', e1, e2, e3, r⟩ := r
      subst e1
      obtain ⟨m, hm, z⟩ := S.rget r g
      exact ⟨m, List.mem_cons_of_mem _ hm, z⟩
  rnew := fun {γ s h A ys h' l} ⟨x, s', e, r⟩ nd nl hl hk => by
    subst e
    split at r
    · rename_i q
      obtain ⟨A', r', z⟩ := S.rnew r nd nl hl hk
      exact ⟨A', ⟨x, _, rfl, by simp only [q]; exact r'⟩, z⟩
    · rename_i xs q
      obtain ⟨l0, A0, e1, e2, e3, r⟩ := r
      subst e1
      obtain ⟨n1, n2⟩ := List.nodup_cons.mp nd
      obtain ⟨A', r', z1, z2⟩ := S.rnew r n2 (fun m => nl (List.mem_cons_of_mem _ m)) hl fun m hm => hk m (List.mem_cons_of_mem _ hm)
      refine ⟨l0 :: A', ⟨x, _, rfl, by simp only [q]; exact ⟨l0, A', rfl, e2, (hk l0 List.mem_cons_self).trans e3, r'⟩⟩, List.nodup_cons.mpr ⟨fun m => ?_, z1⟩, fun m hm => ?_⟩
      · rcases z2 l0 m with z | z
        · exact nl (z ▸ List.mem_cons_self)
        · exact n1 z
      · rcases List.mem_cons.mp hm with z | z
        · exact .inr (z ▸ List.mem_cons_self)
        · exact (z2 m z).elim .inl fun z => .inr (List.mem_cons_of_mem _ z)
  rupd := fun {γ s h A xs ys h' l} ⟨x, s', e, r⟩ nd g hi hl hk => by
    subst e
    rw [List.getElem?_cons_succ] at hi
    split at r
    · rename_i q
      exact ⟨x, _, rfl, by simp only [q]; exact S.rupd r nd g hi hl hk⟩
    · rename_i zs q
      obtain ⟨l0, A0, e1, e2, e3, r⟩ := r
      subst e1
      obtain ⟨n1, n2⟩ := List.nodup_cons.mp nd
      obtain ⟨m, hm, z, _⟩ := S.rget r g
      have ne : l0 ≠ l := fun z2 => by
        rw [z] at hi
        cases hi
        exact n1 (z2 ▸ hm)
      exact ⟨x, _, rfl, by simp only [q]; exact ⟨l0, A0, rfl, e2, (hk l0 List.mem_cons_self ne).trans e3, S.rupd r n2 g hi hl fun m hm => hk m (List.mem_cons_of_mem _ hm)⟩⟩ }

/-- the slot i holds an object of its own -/
class DSlot (Γ : Type) [Row Γ] (i : Nat) (C : outParam Type) (I : outParam (Enc C)) where
  get : Γ → Option C
  set : C → Γ → Γ
  rget : ∀ {γ s h A xs}, rel γ s h A → get γ = some xs → ∃ l ∈ A, s[i]? = some (some (.ref l)) ∧ h.get l = some (enc xs)
  rnew : ∀ {γ s h A} {ys : C} {h' : Hs} {l : Nat}, rel γ s h A → A.Nodup → l ∉ A → h'.get l = some (enc ys) → (∀ m ∈ A, h'.get m = h.get m) → ∃ A', rel (set ys γ) (s.set i (some (.ref l))) h' A' ∧ A'.Nodup ∧ ∀ m ∈ A', m = l ∨ m ∈ A
  rupd : ∀ {γ s h A xs} {ys : C} {h' : Hs} {l : Nat}, rel γ s h A → A.Nodup → get γ = some xs → s[i]? = some (some (.ref l)) → h'.get l = some (enc ys) → (∀ m ∈ A, m ≠ l → h'.get m = h.get m) → rel (set ys γ) s h' A

instance {C Γ : Type} [I : Enc C] [Row Γ] : DSlot (Od C × Γ) 0 C I := {
  get := fun γ => γ.1.l
  set := fun xs γ => (⟨some xs⟩, γ.2)
  rget := fun {γ s h A xs} ⟨x, s', e, r⟩ g => by
    subst e
    rw [g] at r
    obtain ⟨l, A', e1, e2, e3, r⟩ := r
    subst e1 e2
    exact ⟨l, List.mem_cons_self, rfl, e3⟩
  rnew := fun {γ s h A ys h' l} ⟨x, s', e, r⟩ nd nl hl hk => by
    subst e
    split at r
    · exact ⟨l :: A, ⟨_, s', rfl, l, A, rfl, rfl, hl, Row.mono r hk⟩, List.nodup_cons.mpr ⟨nl, nd⟩, fun m hm => List.mem_cons.mp hm⟩
    · obtain ⟨l0, A', e1, e2, e3, r⟩ := r
      subst e1
      exact ⟨l :: A', ⟨_, s', rfl, l, A', rfl, rfl, hl, Row.mono r fun m hm => hk m (List.mem_cons_of_mem _ hm)⟩, List.nodup_cons.mpr ⟨fun m => nl (List.mem_cons_of_mem _ m), (List.nodup_cons.mp nd).2⟩, fun m hm => (List.mem_cons.mp hm).elim .inl fun z => .inr (List.mem_cons_of_mem _ z)⟩
  rupd := fun {γ s h A xs ys h' l} ⟨x, s', e, r⟩ nd g hi hl hk => by
    subst e
    rw [g] at r
    obtain ⟨l0, A', e1, e2, e3, r⟩ := r
    subst e1 e2
    rw [List.getElem?_cons_zero] at hi
    cases hi
    refine ⟨_, s', rfl, l, A', rfl, rfl, hl, Row.mono r fun m hm => hk m (List.mem_cons_of_mem _ hm) fun z => ?_⟩
    subst z
    exact (List.nodup_cons.mp nd).1 hm }

instance {α C Γ : Type} [Inj α] [Row Γ] {i : Nat} {J : Enc C} [S : DSlot Γ i C J] : DSlot (Option α × Γ) (i + 1) C J := {
  get := fun γ => S.get γ.2
  set := fun a γ => (γ.1, S.set a γ.2)
  rget := fun ⟨x, s', e, q, r⟩ g => by subst e; simp only [List.getElem?_cons_succ]; exact S.rget r g
  rnew := fun ⟨x, s', e, q, r⟩ nd nl hl hk => by
    subst e
    obtain ⟨A', r', z⟩ := S.rnew r nd nl hl hk
    exact ⟨A', ⟨x, _, rfl, q, r'⟩, z⟩
  rupd := fun ⟨x, s', e, q, r⟩ nd g hi hl hk => by
    subst e
    rw [List.getElem?_cons_succ] at hi
    exact ⟨x, _, rfl, q, S.rupd r nd g hi hl hk⟩ }

instance {α C Γ : Type} [Inj α] [Row Γ] {i : Nat} {J : Enc C} [S : DSlot Γ i C J] : DSlot (Ow α × Γ) (i + 1) C J := {
  get := fun γ => S.get γ.2
  set := fun a γ => (γ.1, S.set a γ.2)
  rget := fun {γ s h A xs} ⟨x, s', e, r⟩ g => by
    subst e
    simp only [List.getElem?_cons_succ]
    split at r
    · exact S.rget r g
    · obtain ⟨l, A', e1, e2, e3, r⟩ := r
      subst e1
      obtain ⟨m, hm, z⟩ := S.rget r g
      exact ⟨m, List.mem_cons_of_mem _ hm, z⟩
  rnew := fun {γ s h A ys h' l} ⟨x, s', e, r⟩ nd nl hl hk => by
    subst e
    split at r
    · rename_i q
      obtain ⟨A', r', z⟩ := S.rnew r nd nl hl hk
      exact ⟨A', ⟨x, _, rfl, by simp only [q]; exact r'⟩, z⟩
    · rename_i xs q
      obtain ⟨l0, A0, e1, e2, e3, r⟩ := r
      subst e1
      obtain ⟨n1, n2⟩ := List.nodup_cons.mp nd
      obtain ⟨A', r', z1, z2⟩ := S.rnew r n2 (fun m => nl (List.mem_cons_of_mem _ m)) hl fun m hm => hk m (List.mem_cons_of_mem _ hm)
      refine ⟨l0 :: A', ⟨x, _, rfl, by simp only [q]; exact ⟨l0, A', rfl, e2, (hk l0 List.mem_cons_self).trans e3, r'⟩⟩, List.nodup_cons.mpr ⟨fun m => ?_, z1⟩, fun m hm => ?_⟩
      · rcases z2 l0 m with z | z
        · exact nl (z ▸ List.mem_cons_self)
        · exact n1 z
      · rcases List.mem_cons.mp hm with z | z
        · exact .inr (z ▸ List.mem_cons_self)
        · exact (z2 m z).elim .inl fun z => .inr (List.mem_cons_of_mem _ z)
  rupd := fun {γ s h A xs ys h' l} ⟨x, s', e, r⟩ nd g hi hl hk => by
    subst e
    rw [List.getElem?_cons_succ] at hi
    split at r
    · rename_i q
      exact ⟨x, _, rfl, by simp only [q]; exact S.rupd r nd g hi hl hk⟩
    · rename_i zs q
      obtain ⟨l0, A0, e1, e2, e3, r⟩ := r
      subst e1
      obtain ⟨n1, n2⟩ := List.nodup_cons.mp nd
      obtain ⟨m, hm, z, _⟩ := S.rget r g
      have ne : l0 ≠ l := fun z2 => by
        rw [z] at hi
        cases hi
        exact n1 (z2 ▸ hm)
      exact ⟨x, _, rfl, by simp only [q]; exact ⟨l0, A0, rfl, e2, (hk l0 List.mem_cons_self ne).trans e3, S.rupd r n2 g hi hl fun m hm => hk m (List.mem_cons_of_mem _ hm)⟩⟩ }

instance {C Γ : Type} [Row Γ] {i : Nat} {J : Enc C} [S : DSlot Γ i C J] : DSlot (Tape × Γ) (i + 1) C J := {
  get := fun γ => S.get γ.2
  set := fun a γ => (γ.1, S.set a γ.2)
  rget := fun ⟨s', e, r⟩ g => by subst e; simp only [List.getElem?_cons_succ]; exact S.rget r g
  rnew := fun ⟨s', e, r⟩ nd nl hl hk => by
    subst e
    obtain ⟨A', r', z⟩ := S.rnew r nd nl hl hk
    exact ⟨A', ⟨_, rfl, r'⟩, z⟩
  rupd := fun ⟨s', e, r⟩ nd g hi hl hk => by
    subst e
    rw [List.getElem?_cons_succ] at hi
    exact ⟨_, rfl, S.rupd r nd g hi hl hk⟩ }

instance {B C Γ : Type} [Enc B] [Row Γ] {i : Nat} {J : Enc C} [S : DSlot Γ i C J] : DSlot (Od B × Γ) (i + 1) C J := {
  get := fun γ => S.get γ.2
  set := fun a γ => (γ.1, S.set a γ.2)
  rget := fun {γ s h A xs} ⟨x, s', e, r⟩ g => by
    subst e
    simp only [List.getElem?_cons_succ]
    split at r
    · exact S.rget r g
    · obtain ⟨l, A', e1, e2, e3, r⟩ := r
      subst e1
      obtain ⟨m, hm, z⟩ := S.rget r g
      exact ⟨m, List.mem_cons_of_mem _ hm, z⟩
  rnew := fun {γ s h A ys h' l} ⟨x, s', e, r⟩ nd nl hl hk => by
    subst e
    split at r
    · rename_i q
      obtain ⟨A', r', z⟩ := S.rnew r nd nl hl hk
      exact ⟨A', ⟨x, _, rfl, by simp only [q]; exact r'⟩, z⟩
    · rename_i xs q
      obtain ⟨l0, A0, e1, e2, e3, r⟩ := r
      subst e1
      obtain ⟨n1, n2⟩ := List.nodup_cons.mp nd
      obtain ⟨A', r', z1, z2⟩ := S.rnew r n2 (fun m => nl (List.mem_cons_of_mem _ m)) hl fun m hm => hk m (List.mem_cons_of_mem _ hm)
      refine ⟨l0 :: A', ⟨x, _, rfl, by simp only [q]; exact ⟨l0, A', rfl, e2, (hk l0 List.mem_cons_self).trans e3, r'⟩⟩, List.nodup_cons.mpr ⟨fun m => ?_, z1⟩, fun m hm => ?_⟩
      · rcases z2 l0 m with z | z
        · exact nl (z ▸ List.mem_cons_self)
        · exact n1 z
      · rcases List.mem_cons.mp hm with z | z
        · exact .inr (z ▸ List.mem_cons_self)
        · exact (z2 m z).elim .inl fun z => .inr (List.mem_cons_of_mem _ z)
  rupd := fun {γ s h A xs ys h' l} ⟨x, s', e, r⟩ nd g hi hl hk => by
    subst e
    rw [List.getElem?_cons_succ] at hi
    split at r
    · rename_i q
      exact ⟨x, _, rfl, by simp only [q]; exact S.rupd r nd g hi hl hk⟩
    · rename_i zs q
      obtain ⟨l0, A0, e1, e2, e3, r⟩ := r
      subst e1
      obtain ⟨n1, n2⟩ := List.nodup_cons.mp nd
      obtain ⟨m, hm, z, _⟩ := S.rget r g
      have ne : l0 ≠ l := fun z2 => by
        rw [z] at hi
        cases hi
        exact n1 (z2 ▸ hm)
      exact ⟨x, _, rfl, by simp only [q]; exact ⟨l0, A0, rfl, e2, (hk l0 List.mem_cons_self ne).trans e3, S.rupd r n2 g hi hl fun m hm => hk m (List.mem_cons_of_mem _ hm)⟩⟩ }

instance {C : Type} [Enc C] {Γ : Type} [Row Γ] {i : Nat} [S : TSlot Γ i] : TSlot (Od C × Γ) (i + 1) := ⟨fun {γ s h A} ⟨x, s', e, r⟩ => by
  subst e
  rw [List.getElem?_cons_succ]
  split at r
  · exact S.get r
  · obtain ⟨l, A', _, _, _, r⟩ := r
    exact S.get r⟩
instance {C Γ : Type} [Enc C] [Row Γ] [B : Blank Γ] : Blank (Od C × Γ) := ⟨(⟨none⟩, B.st), B.N + 1, fun h => ⟨none, _, rfl, B.ok h⟩⟩
/-- a new object of one's own -/
structure NewD (h h' : Hs) (l : Nat) (o : Ob) : Prop where
  get : h'.get l = some o
  later : Later h h'
  ge : h.n ≤ l
  lt : l < h'.n
theorem newD_mk {h : Hs} (w : h.os.length = h.n) (o : Ob) : NewD h (h.new o) h.n o := by
  refine ⟨?_, ⟨fun m hm => ?_, Nat.le_refl _, rfl, by simp [Hs.new, w], Nat.le_succ _⟩, Nat.le_refl _, Nat.lt_succ_self _⟩
  · rw [Hs.get_new _ _ w, if_pos rfl]
  · rw [Hs.get_new _ _ w, if_neg (Nat.ne_of_lt hm)]
theorem Rg.newD {Γ : Type} [Row Γ] {n0 : Nat} {γ : Γ} {s : Env} {h h' : Hs} {i l : Nat} {C : Type} {I : Enc C} {c : C} (S : DSlot Γ i C I) (r : Rg n0 γ s h) (k : NewD h h' l (enc c)) : Rg n0 (S.set c γ) (s.set i (some (.ref l))) h' := by
  obtain ⟨A, r, nd, a, w, b, cc, bb⟩ := r
  have z0 := Hs.get_lt w.tp
  have nl : l ∉ A := fun m => by have := (a l m).2.1; have := k.ge; omega
  obtain ⟨A', r', nd', h2⟩ := S.rnew r nd nl k.get fun m hm => k.later.old m (a m hm).2.1
  have lkl : h'.lk.contains l = false := by
    rw [k.later.lk, w.lk]
    rfl
  refine ⟨A', r', nd', fun m hm => ?_, ⟨k.later.os, k.later.lk.trans w.lk, (k.later.old 0 z0).trans w.tp⟩, Nat.le_trans b k.later.n, Nat.le_trans cc k.later.lo, fun p hp => ⟨(bb p hp).1, (k.later.old p.1 (Nat.lt_of_lt_of_le (bb p hp).1 b)).trans (bb p hp).2⟩⟩
  rcases h2 m hm with e | e
  · subst e
    exact ⟨Nat.le_trans b k.ge, k.lt, lkl⟩
  · exact ⟨(a m e).1, Nat.lt_of_lt_of_le (a m e).2.1 k.later.n, by rw [k.later.lk]; exact (a m e).2.2⟩
theorem Rg.updD {Γ : Type} [Row Γ] {n0 : Nat} {γ : Γ} {s : Env} {h : Hs} {i : Nat} {C : Type} {I : Enc C} {c : C} (S : DSlot Γ i C I) (r : Rg n0 γ s h) (g : S.get γ = some c) :
    ∃ l, s[i]? = some (some (.ref l)) ∧ h.get l = some (enc c) ∧ h.lk.contains l = false ∧ ∀ d : C, Rg n0 (S.set d γ) s (h.put l (enc d)) := by
  obtain ⟨A, r, nd, a, w, b, cc, bb⟩ := r
  obtain ⟨l, hl, e1, e2⟩ := S.rget r g
  obtain ⟨a1, a2, a3⟩ := a l hl
  refine ⟨l, e1, e2, a3, fun d => ?_⟩
  have gp := fun m => Hs.get_put h (enc d) w.os a2 (m := m)
  refine ⟨A, S.rupd r nd g e1 (by rw [gp, if_pos rfl]) fun m hm ne => by rw [gp, if_neg ne], nd, fun m hm => a m hm, ⟨by simp [Hs.put, w.os], w.lk, ?_⟩, b, ?_, fun p hp => ⟨(bb p hp).1, by rw [gp, if_neg (fun z => by have := (bb p hp).1; omega)]; exact (bb p hp).2⟩⟩
  · by_cases z : 0 = l
    · exfalso
      rw [← z, w.tp] at e2
      exact I.nt c (Option.some.inj e2).symm
    · rw [gp, if_neg z]
      exact w.tp
  · show n0 ≤ min h.lo l
    omega

/-! ### lent objects that are only read -/
class Bo (k : Nat) (C : outParam Type) where
  a : Nat
  c : C
structure Ld (k : Nat) where
instance {k : Nat} {C Γ : Type} [I : Enc C] [B : Bo k C] [Row Γ] : Row (Ld k × Γ) := ⟨fun γ s h A => ∃ s', s = some (.ref B.a) :: s' ∧ rel γ.2 s' h A, fun ⟨s', e, r⟩ k => ⟨s', e, Row.mono r k⟩, (B.a, I.enc B.c) :: Row.bw Γ⟩
section
variable {k : Nat} {D Γ : Type} [I : Enc D] [B : Bo k D] [Row Γ]
instance {β : Type} {i : Nat} {J : Inj β} [S : Slot Γ i β J] : Slot (Ld k × Γ) (i + 1) β J := {
  get := fun γ => S.get γ.2
  set := fun a γ => (γ.1, S.set a γ.2)
  rget := fun ⟨s', e, r⟩ g => by subst e; rw [List.getElem?_cons_succ]; exact S.rget r g
  rset := fun ⟨s', e, r⟩ => by subst e; exact ⟨_, rfl, S.rset r⟩
  rnone := fun ⟨s', e, r⟩ => by subst e; exact ⟨_, rfl, S.rnone r⟩
  lt := fun ⟨s', e, r⟩ => by subst e; exact Nat.succ_lt_succ (S.lt r) }
instance {β : Type} {i : Nat} {J : Inj β} [S : OSlot Γ i β J] : OSlot (Ld k × Γ) (i + 1) β J := {
  get := fun γ => S.get γ.2
  set := fun a γ => (γ.1, S.set a γ.2)
  rget := fun ⟨s', e, r⟩ g => by subst e; simp only [List.getElem?_cons_succ]; exact S.rget r g
  rnew := fun ⟨s', e, r⟩ nd nl hl hk => by
    subst e
    obtain ⟨A', r', z⟩ := S.rnew r nd nl hl hk
    exact ⟨A', ⟨_, rfl, r'⟩, z⟩
  rupd := fun ⟨s', e, r⟩ nd g hi hl hk => by
    subst e
    rw [List.getElem?_cons_succ] at hi
    exact ⟨_, rfl, S.rupd r nd g hi hl hk⟩ }
instance {C : Type} {i : Nat} {J : Enc C} [S : DSlot Γ i C J] : DSlot (Ld k × Γ) (i + 1) C J := {
  get := fun γ => S.get γ.2
  set := fun a γ => (γ.1, S.set a γ.2)
  rget := fun ⟨s', e, r⟩ g => by subst e; simp only [List.getElem?_cons_succ]; exact S.rget r g
  rnew := fun ⟨s', e, r⟩ nd nl hl hk => by
    subst e
    obtain ⟨A', r', z⟩ := S.rnew r nd nl hl hk
    exact ⟨A', ⟨_, rfl, r'⟩, z⟩
  rupd := fun ⟨s', e, r⟩ nd g hi hl hk => by
    subst e
    rw [List.getElem?_cons_succ] at hi
    exact ⟨_, rfl, S.rupd r nd g hi hl hk⟩ }
instance {i : Nat} [S : TSlot Γ i] : TSlot (Ld k × Γ) (i + 1) := ⟨fun ⟨s', e, r⟩ => by subst e; rw [List.getElem?_cons_succ]; exact S.get r⟩
end
/-- the slot i names an object that is read -/
class RSlot (Γ : Type) [Row Γ] (i : Nat) (C : outParam Type) (I : outParam (Enc C)) where
  get : Γ → Option C
  rget : ∀ {n0 : Nat} {γ : Γ} {s : Env} {h : Hs} {c : C}, Rg n0 γ s h → get γ = some c → ∃ l, s[i]? = some (some (.ref l)) ∧ h.get l = some (I.enc c) ∧ h.lk.contains l = false
/-- the slot i is that of a lent object -/
class LSlot (Γ : Type) [Row Γ] (i : Nat) (C : outParam Type) (I : outParam (Enc C)) (a : outParam Nat) (c : outParam C) : Prop where
  get : ∀ {γ : Γ} {s : Env} {h : Hs} {A : List Nat}, rel γ s h A → s[i]? = some (some (.ref a))
  bw : (a, I.enc c) ∈ Row.bw Γ
instance {k : Nat} {C Γ : Type} [I : Enc C] [B : Bo k C] [Row Γ] : LSlot (Ld k × Γ) 0 C I B.a B.c := ⟨fun ⟨s', e, r⟩ => by subst e; rfl, List.mem_cons_self⟩
section
variable {C Γ : Type} {I : Enc C} [Row Γ] {i : Nat} {a : Nat} {c : C} [S : LSlot Γ i C I a c]
instance {k : Nat} {D : Type} [Enc D] [Bo k D] : LSlot (Ld k × Γ) (i + 1) C I a c := ⟨fun ⟨s', e, r⟩ => by subst e; rw [List.getElem?_cons_succ]; exact S.get r, List.mem_cons_of_mem _ S.bw⟩
instance {α : Type} [Inj α] : LSlot (Option α × Γ) (i + 1) C I a c := ⟨fun ⟨x, s', e, q, r⟩ => by subst e; rw [List.getElem?_cons_succ]; exact S.get r, S.bw⟩
instance : LSlot (Tape × Γ) (i + 1) C I a c := ⟨fun ⟨s', e, r⟩ => by subst e; rw [List.getElem?_cons_succ]; exact S.get r, S.bw⟩
end
instance (priority := low) {C Γ : Type} {I : Enc C} [Row Γ] {i : Nat} {a : Nat} {c : C} [S : LSlot Γ i C I a c] : RSlot Γ i C I := ⟨fun _ => some c, fun {n0 γ s h d} rg g => by
  cases g
  obtain ⟨A, r, nd, ha, w, b, cc, bb⟩ := rg
  exact ⟨a, S.get r, (bb _ S.bw).2, by rw [w.lk]; rfl⟩⟩
instance {C Γ : Type} {I : Enc C} [Row Γ] {i : Nat} [S : DSlot Γ i C I] : RSlot Γ i C I := ⟨S.get, fun {n0 γ s h d} rg g => by
  obtain ⟨A, r, nd, ha, w, b, cc, bb⟩ := rg
  obtain ⟨l, hl, e1, e2⟩ := S.rget r g
  exact ⟨l, e1, e2, (ha l hl).2.2⟩⟩

/-! ### dicts -/
structure Dc (κ α : Type) where
  l : List (κ × α)
class KeyT (κ : Type) [Inj κ] where
  t : Bool
  key : κ → List L2.Key
  ok : ∀ k : κ, keyOf t (inj k) = some (key k)
  kv : ∀ k : κ, keyV t (key k) = inj k
  eqb : κ → κ → Bool
  eqb_ok : ∀ a b : κ, eqb a b = decide (key a = key b)
open KeyT (key eqb)
instance : KeyT Int := ⟨false, fun k => [.inl k], fun _ => rfl, fun _ => rfl, fun a b => decide (a = b), fun a b => by simp⟩
instance : KeyT Str := ⟨false, fun k => [.inr k], fun _ => rfl, fun _ => rfl, fun a b => decide (a = b), fun a b => by simp⟩
instance {κ α : Type} [Inj κ] [K : KeyT κ] [Inj α] : Enc (Dc κ α) := ⟨fun c => .dct K.t (c.l.map fun x => key x.1) (c.l.map fun x => inj x.2), fun c z => by cases z⟩
def getD {κ α : Type} [Inj κ] [KeyT κ] : List (κ × α) → κ → Option α
  | [], _ => none
  | x :: xs, k => match eqb x.1 k with
    | true => some x.2
    | false => getD xs k
def putD {κ α : Type} [Inj κ] [KeyT κ] (xs : List (κ × α)) (k : κ) (v : α) : List (κ × α) := match xs.any fun x => eqb x.1 k with
  | true => xs.map fun x => match eqb x.1 k with
    | true => (x.1, v)
    | false => x
  | false => xs ++ [(k, v)]
def delD {κ α : Type} [Inj κ] [KeyT κ] (xs : List (κ × α)) (k : κ) : List (κ × α) := xs.filter fun x => !eqb x.1 k
section
variable {κ α : Type} [Inj κ] [K : KeyT κ] [Inj α]
theorem dGet_typed (k : κ) : ∀ xs : List (κ × α), dGet (xs.map fun x => key x.1) (xs.map fun x => inj x.2) (key k) = (getD xs k).map inj
  | [] => rfl
  | x :: xs => by
    rw [List.map_cons, List.map_cons]
    unfold dGet getD
    rw [K.eqb_ok, dGet_typed k xs]
    by_cases q : key x.1 = key k
    · rw [if_pos q, decide_eq_true q]
      rfl
    · rw [if_neg q, decide_eq_false q]
theorem repK_typed (k : κ) (v : α) : ∀ xs : List (κ × α), repK (xs.map fun x => key x.1) (xs.map fun x => inj x.2) (key k) (inj v) = (xs.map fun x => match eqb x.1 k with
    | true => (x.1, v)
    | false => x).map fun x => inj x.2
  | [] => rfl
  | x :: xs => by
    rw [List.map_cons, List.map_cons, List.map_cons, List.map_cons]
    unfold repK
    rw [repK_typed k v xs, K.eqb_ok]
    by_cases q : key x.1 = key k
    · rw [if_pos q, decide_eq_true q]
    · rw [if_neg q, decide_eq_false q]
theorem dPut_typed (k : κ) (v : α) (xs : List (κ × α)) : dPut (xs.map fun x => key x.1) (xs.map fun x => inj x.2) (key k) (inj v) = ((putD xs k v).map fun x => key x.1, (putD xs k v).map fun x => inj x.2) := by
  unfold dPut putD
  have e : ((xs.map fun x => key x.1).any fun j => decide (j = key k)) = xs.any fun x => eqb x.1 k := by
    rw [List.any_map]
    congr 1
    funext x
    exact (K.eqb_ok _ _).symm
  rw [e]
  cases xs.any fun x => eqb x.1 k with
  | true =>
    simp only [if_true]
    rw [repK_typed]
    congr 1
    rw [List.map_map]
    refine List.map_congr_left fun x _ => ?_
    show key x.1 = key (match eqb x.1 k with
      | true => (x.1, v)
      | false => x).1
    cases eqb x.1 k <;> rfl
  | false =>
    simp only [Bool.false_eq_true, if_false, List.map_append, List.map_cons, List.map_nil]
end
section
variable {cf : Nat → List Val → Hs → T (Val × Hs)} {fu : Nat} {Γ ρ : Type} [Row Γ] [Inj ρ] {κ α : Type} [Iκ : Inj κ] [K : KeyT κ] [Iα : Inj α]
theorem dic_typed {h : Hs} {l : Nat} {d : Dc κ α} (e : h.get l = some (enc d)) : dicOf h (.ref l) = some (K.t, d.l.map fun x => key x.1, d.l.map fun x => inj x.2) := by
  have e : h.get l = some (.dct K.t (d.l.map fun x => key x.1) (d.l.map fun x => inj x.2)) := e
  unfold dicOf
  simp only [e]
/-- d[k] -/
instance EC.subD {i : Nat} {ke : E} {β : Type} {J : Inj β} [S : RSlot Γ i (Dc κ α) inferInstance] {g : Γ → T β} [E1 : EC cf Γ ke β J g] [C : Pv β κ] : EC cf Γ (.sub (.v i) ke) α Iα (fun γ => (T.of (S.get γ)).bind fun d => (g γ).bind fun k => (T.of (C.pv k)).bind fun k => T.of (getD d.l k)) := ⟨fun {n0 γ s h P} rg p => by
  rw [T.all_bind] at p
  obtain ⟨d, e0, p⟩ := T.of_some' p
  obtain ⟨l, e1, e2, e3⟩ := S.rget rg e0
  rw [q_sub, q_v, e1, T.bind_ok]
  refine E1.bind rg p fun x p => ?_
  rw [T.all_bind] at p
  obtain ⟨k, ek, p⟩ := T.of_some' p
  obtain ⟨y, ey, p⟩ := T.of_some' p
  have : subV (.ref l) (inj x) h = some (inj y) := by
    unfold subV
    rw [dic_typed e2]
    have ek2 : keyOf K.t (inj x) = some (key k) := by rw [← C.ok ek]; exact K.ok k
    simp only [ek2, dGet_typed, ey]
    rfl
  show (match subV (.ref l) (inj x) h with
    | some v => T.ok (v, h)
    | none => .no).All _
  rw [this]
  exact ⟨rfl, y, rfl, p⟩⟩
/-- d.get(k, x) -/
instance EC.dget {i : Nat} {ke xe : E} {β ε : Type} {J : Inj β} {L : Inj ε} [S : RSlot Γ i (Dc κ α) inferInstance] {g : Γ → T β} {u : Γ → T ε} [E1 : EC cf Γ ke β J g] [E2 : EC cf Γ xe ε L u] [C : Pv β κ] [C2 : Cv ε α] : EC cf Γ (.dget (.v i) ke xe) α Iα (fun γ => (T.of (S.get γ)).bind fun d => (g γ).bind fun k => (u γ).bind fun x => (T.of (C.pv k)).bind fun k => .ok ((getD d.l k).getD (C2.cv x))) := ⟨fun {n0 γ s h P} rg p => by
  rw [T.all_bind] at p
  obtain ⟨d, e0, p⟩ := T.of_some' p
  obtain ⟨l, e1, e2, e3⟩ := S.rget rg e0
  rw [q_dget, q_v, e1, T.bind_ok]
  simp only [dic_typed e2]
  refine E1.bind rg p fun x p => E2.bind rg p fun z p => ?_
  rw [T.all_bind] at p
  obtain ⟨k, ek, p⟩ := T.of_some' p
  have ek2 : keyOf K.t (inj x) = some (key k) := by rw [← C.ok ek]; exact K.ok k
  simp only [dic_typed e2, ek2, dGet_typed]
  refine ⟨rfl, (getD d.l k).getD (C2.cv z), ?_, p⟩
  cases getD d.l k with
  | none => exact (C2.ok z).symm
  | some y => rfl⟩
/-- k in d -/
def memW (op : Cop) (b : Bool) : Option Bool := match op with
  | .mem => some b
  | .nmem => some (!b)
  | _ => none
instance (priority := high) EC.memD {op : Cop} {i : Nat} {ke : E} {β : Type} {J : Inj β} [S : RSlot Γ i (Dc κ α) inferInstance] {g : Γ → T β} [E1 : EC cf Γ ke β J g] [C : Pv β κ] : EC cf Γ (.cmp op ke (.v i)) Bool inferInstance (fun γ => (g γ).bind fun k => (T.of (S.get γ)).bind fun d => (T.of (C.pv k)).bind fun k => T.of (memW op (getD d.l k).isSome)) := ⟨fun {n0 γ s h P} rg p => by
  rw [q_cmp]
  refine E1.bind rg p fun x p => ?_
  rw [T.all_bind] at p
  obtain ⟨d, e0, p⟩ := T.of_some' p
  obtain ⟨l, e1, e2, e3⟩ := S.rget rg e0
  rw [T.all_bind] at p
  obtain ⟨k, ek, p⟩ := T.of_some' p
  obtain ⟨b, eb, p⟩ := T.of_some' p
  rw [q_v, e1, T.bind_ok]
  have ek2 : keyOf K.t (inj x) = some (key k) := by rw [← C.ok ek]; exact K.ok k
  have m : memV h (inj x) (.ref l) = some (getD d.l k).isSome := by
    unfold memV
    rw [dic_typed e2]
    simp only [ek2, dGet_typed, Option.isSome_map]
  have hc : copV op (inj x) (.ref l) h = some b := by
    have : copV op (inj x) (.ref l) h = (match op with
      | .mem => memV h (inj x) (.ref l)
      | .nmem => (memV h (inj x) (.ref l)).map (!·)
      | o => copV o (inj x) (.ref l) h) := by
      cases op <;> first | rfl | (cases (inj x : Val) <;> rfl)
    rw [this]
    cases op <;> first | (cases eb; done) | skip
    · rw [m]; exact eb
    · rw [m]
      unfold memW at eb
      simpa using eb
  show (match copV op (inj x) (.ref l) h with
    | some b => T.ok (Val.bl b, h)
    | none => .no).All _
  rw [hc]
  exact ⟨rfl, b, rfl, p⟩⟩
/-- len(d) -/
instance (priority := high) EC.lenD {i : Nat} {m : Bool} [S : RSlot Γ i (Dc κ α) inferInstance] : EC cf Γ (.bi .len m [.v i]) Int inferInstance (fun γ => (T.of (S.get γ)).bind fun d => .ok (d.l.length : Int)) := ⟨fun {n0 γ s h P} rg p => by
  rw [T.all_bind] at p
  obtain ⟨d, e0, p⟩ := T.of_some' p
  obtain ⟨l, e1, e2, e3⟩ := S.rget rg e0
  rw [q_bi, q_cons, q_v, e1, T.bind_ok, q_nil, T.bind_ok, T.bind_ok]
  have e2' : h.get l = some (.dct K.t (d.l.map fun x => key x.1) (d.l.map fun x => inj x.2)) := e2
  have it : items h (.ref l) = none := by
    unfold items
    simp only [e2']
  have fr : freeD h (.ref l) = true := by
    unfold freeD
    simp only [e3, Bool.not_false]
  show (match items h (.ref l) with
    | some xs => T.ok (Val.int xs.length, h)
    | none => match dicOf h (.ref l) with
      | some (_, ks, _) => if freeD h (.ref l) then .ok (.int ks.length, h) else .no
      | none => .no).All _
  rw [it, dic_typed e2]
  simp only [fr, if_true, List.length_map]
  exact ⟨rfl, _, rfl, p⟩⟩
/-- list(d): its keys -/
instance (priority := high) EC.listD {i : Nat} [S : RSlot Γ i (Dc κ α) inferInstance] : EC cf Γ (.bi .list false [.v i]) (List κ) inferInstance (fun γ => (T.of (S.get γ)).bind fun d => .ok (d.l.map Prod.fst)) := ⟨fun {n0 γ s h P} rg p => by
  rw [T.all_bind] at p
  obtain ⟨d, e0, p⟩ := T.of_some' p
  obtain ⟨l, e1, e2, e3⟩ := S.rget rg e0
  rw [q_bi, q_cons, q_v, e1, T.bind_ok, q_nil, T.bind_ok, T.bind_ok]
  have e2' : h.get l = some (.dct K.t (d.l.map fun x => key x.1) (d.l.map fun x => inj x.2)) := e2
  have it : items h (.ref l) = none := by
    unfold items
    simp only [e2']
  have fr : freeD h (.ref l) = true := by
    unfold freeD
    simp only [e3, Bool.not_false]
  show (match items h (.ref l) with
    | some xs => mkL false xs h
    | none => match dicOf h (.ref l) with
      | some (t, ks, _) => if freeD h (.ref l) then mkL false (ks.map (keyV t)) h else .no
      | none => .no).All _
  rw [it, dic_typed e2]
  simp only [fr, if_true, List.map_map]
  have p : P (d.l.map Prod.fst) := p
  refine ⟨rfl, d.l.map Prod.fst, ?_, p⟩
  show Val.tl _ = Val.tl _
  congr 1
  rw [List.map_map]
  exact List.map_congr_left fun x _ => K.kv x.1⟩
/-- d = {} -/
instance XC.dnew {i : Nat} [S : DSlot Γ i (Dc κ α) inferInstance] : XC cf fu Γ ρ (.asg (.nm i) (.dnew K.t)) (fun γ => .ok (.nx (S.set ⟨[]⟩ γ))) := ⟨fun {n0 γ s h P} rg p => by
  rw [q_asg, q_dnew, T.bind_ok]
  exact ⟨_, rg.newD S (c := (⟨[]⟩ : Dc κ α)) (newD_mk rg.wh.os _), p⟩⟩
instance XC.dnewF {i : Nat} [S : DSlot Γ i (Dc Int α) inferInstance] : XC cf fu Γ ρ (.asg (.nm i) (.dnew false)) (fun γ => .ok (.nx (S.set ⟨[]⟩ γ))) := XC.dnew (κ := Int)
/-- d[k] = v -/
instance AtC.sbD {o : Nat} {ke : E} {β ε : Type} {J : Inj β} [Inj ε] {g : Γ → T β} [S : DSlot Γ o (Dc κ α) inferInstance] [E1 : EC cf Γ ke β J g] [C : Pv β κ] [C2 : Pv ε α] : AtC cf Γ (.sb (.v o) ke) ε (fun a γ => (T.of (C2.pv a)).bind fun a => (T.of (S.get γ)).bind fun d => (g γ).bind fun k => (T.of (C.pv k)).bind fun k => if small d.l.length then .ok (S.set ⟨putD d.l k a⟩ γ) else .no) := ⟨fun {n0 γ s h a P} rg p => by
  rw [T.all_bind] at p
  obtain ⟨a', ea, p⟩ := T.of_some' p
  rw [T.all_bind] at p
  obtain ⟨d, e0, p⟩ := T.of_some' p
  obtain ⟨l, e1, e2, e3, kk⟩ := rg.updD S e0
  rw [q_sb, q_v, e1, T.bind_ok]
  refine E1.bind rg p fun x p => ?_
  rw [T.all_bind] at p
  obtain ⟨k, ek, p⟩ := T.of_some' p
  have ek2 : keyOf K.t (inj x) = some (key k) := by rw [← C.ok ek]; exact K.ok k
  have e2' : h.get l = some (.dct K.t (d.l.map fun x => key x.1) (d.l.map fun x => inj x.2)) := e2
  have wd : h.wd l = some (K.t, d.l.map fun x => key x.1, d.l.map fun x => inj x.2) := by
    unfold Hs.wd
    simp only [e2', e3, Bool.false_eq_true, if_false]
  split at p
  · rename_i q
    have st : setV (.ref l) (inj x) (inj a) h = .ok (h.put l (enc (⟨putD d.l k a'⟩ : Dc κ α))) := by
      unfold setV
      simp only [wd, ek2, List.length_map, q, if_true]
      rw [← C2.ok ea, dPut_typed]
      rfl
    show ((setV (.ref l) (inj x) (inj a) h).bind _).All _
    rw [st]
    exact ⟨_, kk _, p⟩
  · exact p.elim⟩
/-- del d[k] -/
theorem dDrop_typed (k : κ) : ∀ xs : List (κ × α), dDrop (xs.map fun x => key x.1) (xs.map fun x => inj x.2) (key k) = ((delD xs k).map fun x => key x.1, (delD xs k).map fun x => inj x.2)
  | [] => rfl
  | x :: xs => by
    rw [List.map_cons, List.map_cons]
    unfold dDrop
    rw [dDrop_typed k xs]
    unfold delD
    by_cases q : key x.1 = key k
    · rw [if_pos q, List.filter_cons_of_neg (by rw [K.eqb_ok, decide_eq_true q]; simp)]
    · rw [if_neg q, List.filter_cons_of_pos (by rw [K.eqb_ok, decide_eq_false q]; rfl)]
      rfl
end
/-! ### a dict's comprehension -/
def dcF {Γ κ α : Type} [Inj κ] [KeyT κ] {σ : Type} (st : σ → Γ) (tst : Γ → T Bool) (ek : Γ → T κ) (ev : Γ → T α) : List σ → List (κ × α) → T (List (κ × α))
  | [], d => .ok d
  | x :: xs, d => (tst (st x)).bind fun b => match b with
    | true => (ek (st x)).bind fun k => (ev (st x)).bind fun v => dcF st tst ek ev xs (putD d k v)
    | false => dcF st tst ek ev xs d
section
variable {cf : Nat → List Val → Hs → T (Val × Hs)} {fu : Nat} {Γ ρ : Type} [Row Γ] [Inj ρ]
theorem dc_run {own : List Nat} {tg : Tg} {cs : List E} {ke ve : E} {σ κ α : Type} [Inj σ] {Iκ : Inj κ} [K : KeyT κ] {Iα : Inj α} {w : Γ → Γ} {st : σ → Γ → Γ} {tst : Γ → T Bool} {fk : Γ → T κ} {fv : Γ → T α} [T1 : TgC Γ tg σ st] [W : WpC Γ own w] [C : TsC cf Γ cs tst] [E1 : EC cf Γ ke κ Iκ fk] [E2 : EC cf Γ ve α Iα fv] (kt : K.t = false) {n0 : Nat} {γ : Γ} {s : Env} {h : Hs} (rg : Rg n0 γ s h) :
    ∀ (xs : List σ) (d : List (κ × α)) {P : List (κ × α) → Prop}, (dcF (fun x => st x (w γ)) tst fk fv xs d).All P → (dcL (fun x => tgS tg x (wipeE s own)) (evt cf cs) (ev cf ke) (ev cf ve) (xs.map inj) (d.map fun x => key x.1) (d.map fun x => inj x.2) h).All fun r => r.2 = h ∧ ∃ d : List (κ × α), r.1 = (d.map fun x => key x.1, d.map fun x => inj x.2) ∧ P d
  | [], d, P, p => ⟨rfl, d, rfl, p⟩
  | x :: xs, d, P, p => by
    rw [List.map_cons]
    unfold dcL
    obtain ⟨s1, e1, r1⟩ := T1.run x (W.run rg)
    simp only [e1]
    unfold dcF at p
    rw [T.all_bind] at p ⊢
    refine T.all_mono (fun r z => ?_) (C.run r1 p)
    obtain ⟨b, h'⟩ := r
    obtain ⟨z1, z2⟩ := z
    simp only at z1 z2
    subst z1
    cases b with
    | false => exact dc_run kt rg xs d z2
    | true =>
      refine E1.bind (k := fun k => (fv (st x (w γ))).bind fun v => dcF (fun x => st x (w γ)) tst fk fv xs (putD d k v)) r1 z2 fun k p => ?_
      refine E2.bind (k := fun v => dcF (fun x => st x (w γ)) tst fk fv xs (putD d k v)) r1 p fun v p => ?_
      have ek : keyOf false (inj k) = some (key k) := by rw [← kt]; exact K.ok k
      simp only [ek, dPut_typed]
      exact dc_run kt rg xs _ p
instance XC.dc {i : Nat} {own : List Nat} {tg : Tg} {sk : Sk} {es cs : List E} {ke ve : E} {σ α : Type} {I : Inj σ} {Iα : Inj α} {w : Γ → Γ} {st : σ → Γ → Γ} {src : Γ → T (List σ)} {tst : Γ → T Bool} {fk : Γ → T Int} {fv : Γ → T α} [D : DSlot Γ i (Dc Int α) inferInstance] [S : SrcC cf Γ sk es σ I src] [W : WpC Γ own w] [T1 : TgC Γ tg σ st] [C : TsC cf Γ cs tst] [E1 : EC cf Γ ke Int inferInstance fk] [E2 : EC cf Γ ve α Iα fv] :
    XC cf fu Γ ρ (.asg (.nm i) (.dc own tg sk es cs ke ve)) (fun γ => (src γ).bind fun xs => if small xs.length then (dcF (fun x => st x (w γ)) tst fk fv xs []).bind fun d => .ok (.nx (D.set ⟨d⟩ γ)) else .no) := ⟨fun {n0 γ s h P} rg p => by
  rw [q_asg, q_dc]
  rw [T.bind_assoc]
  rw [T.all_bind] at p ⊢
  refine T.all_mono (fun r z => ?_) (S.run rg p)
  obtain ⟨v, h'⟩ := r
  obtain ⟨z1, xs, z2, z3⟩ := z
  simp only at z1 z3
  subst z1
  simp only [z3, List.length_map]
  split at z2
  · rename_i q
    simp only [q, if_true]
    rw [T.bind_assoc]
    rw [T.all_bind] at z2 ⊢
    refine T.all_mono (fun r y => ?_) (dc_run (κ := Int) (own := own) (tg := tg) (cs := cs) (ke := ke) (ve := ve) (cf := cf) rfl rg xs [] z2)
    obtain ⟨v', h2⟩ := r
    obtain ⟨y1, d, y2, y3⟩ := y
    simp only at y1 y2
    subst y1 y2
    rw [T.bind_ok]
    exact ⟨_, rg.newD D (c := (⟨d⟩ : Dc Int α)) (newD_mk rg.wh.os _), y3⟩
  · exact z2.elim⟩
end
end Eng
/-! The typed layer: calls that lend an object as the last argument, to be read. -/
namespace Eng
open PySem L2
open Inj (inj)
open Row (rel)
open Enc (enc)
section
variable (cf : Nat → List Val → Hs → T (Val × Hs))
class FB (f : Nat) (τ : outParam Type) (A : outParam (ArgR τ)) (C : outParam Type) (J : outParam (Enc C)) (ρ : outParam Type) (I : outParam (Inj ρ)) (F : outParam (τ → C → T ρ)) : Prop where
  run : ∀ {h : Hs} {a : τ} {c : C} {l : Nat} {P : ρ → Prop}, WH h → h.get l = some (J.enc c) → (F a c).All P → (cf f (ArgR.args a ++ [.ref l]) h).All fun r => r.2 = h ∧ ∃ x, r.1 = inj x ∧ P x
class AB (Γ : Type) [Row Γ] (es : List E) (τ : Type) [ArgR τ] (o : outParam Nat) (f : outParam (Γ → T τ)) : Prop where
  run : ∀ {n0 γ s h} {P : τ → Prop}, Rg n0 γ s h → (f γ).All P → (evs cf es s h).All fun r => r.2 = h ∧ ∃ a l, r.1 = ArgR.args a ++ [.ref l] ∧ s[o]? = some (some (.ref l)) ∧ P a
end
section
variable {cf : Nat → List Val → Hs → T (Val × Hs)} {Γ : Type} [Row Γ]
instance AB.one {i : Nat} {C : Type} {I : Enc C} [S : RSlot Γ i C I] : AB cf Γ [.v i] Unit i (fun γ => (T.of (S.get γ)).bind fun _ => .ok ()) := ⟨fun {n0 γ s h P} rg p => by
  rw [T.all_bind] at p
  obtain ⟨d, e0, p⟩ := T.of_some' p
  obtain ⟨l, e1, e2, e3⟩ := S.rget rg e0
  rw [q_cons, q_v, e1, T.bind_ok, q_nil, T.bind_ok]
  exact ⟨rfl, (), l, rfl, rfl, p⟩⟩
instance AB.cons {e e2 : E} {es : List E} {α β τ : Type} {I : Inj α} [J : Inj β] [ArgR τ] {f : Γ → T α} {g : Γ → T τ} {o : Nat} [E1 : EC cf Γ e α I f] [C : Pv α β] [E2 : AB cf Γ (e2 :: es) τ o g] : AB cf Γ (e :: e2 :: es) (β × τ) o (fun γ => (f γ).bind fun x => (T.of (C.pv x)).bind fun x => (g γ).bind fun y => .ok (x, y)) := ⟨fun {n0 γ s h P} rg p => by
  rw [q_cons]
  refine E1.bind rg p fun x p => ?_
  rw [T.all_bind] at p
  obtain ⟨x', ex, p⟩ := T.of_some' p
  rw [T.all_bind] at p ⊢
  refine T.all_mono (fun r z => ?_) (E2.run rg p)
  obtain ⟨v, h'⟩ := r
  obtain ⟨z1, a, l, z2, z3, z4⟩ := z
  simp only at z1 z2
  subst z1 z2
  refine ⟨rfl, (x', a), l, ?_, z3, z4⟩
  show inj x :: (ArgR.args a ++ [Val.ref l]) = inj x' :: ArgR.args a ++ [Val.ref l]
  rw [C.ok ex]
  rfl⟩
instance EC.callB {i : Nat} {es : List E} {τ C ρ : Type} {A : ArgR τ} {J : Enc C} {I : Inj ρ} {F : τ → C → T ρ} {o : Nat} {g : Γ → T τ} [F1 : FB cf i τ A C J ρ I F] [E1 : AB cf Γ es τ o g] [S : RSlot Γ o C J] : EC cf Γ (.call i es) ρ I (fun γ => (g γ).bind fun a => (T.of (S.get γ)).bind fun c => F a c) := ⟨fun {n0 γ s h P} rg p => by
  rw [q_call]
  rw [T.all_bind] at p ⊢
  refine T.all_mono (fun r z => ?_) (E1.run rg p)
  obtain ⟨v, h'⟩ := r
  obtain ⟨z1, a, l, z2, z3, z4⟩ := z
  simp only at z1 z2
  subst z1 z2
  rw [T.all_bind] at z4
  obtain ⟨c, e0, z4⟩ := T.of_some' z4
  obtain ⟨l', e1, e2, e3⟩ := S.rget rg e0
  rw [e1] at z3
  have z3 : l' = l := by cases z3; rfl
  subst z3
  exact F1.run rg.wh e2 z4⟩
end
/-- the first row of slots of a def whose last argument is lent -/
class EntB (Γ τ : Type) (st : outParam (τ → Γ)) (N : outParam Nat) [Row Γ] [ArgR τ] (a : outParam Nat) : Prop where
  ok : ∀ (x : τ) (h : Hs), rel (st x) ((ArgR.args x ++ [Val.ref a]).map some ++ List.replicate (N - (ArgR.args x ++ [Val.ref a]).length) none) h []
instance EntB.one {k : Nat} {C Γ : Type} [Enc C] [B : Bo k C] [Row Γ] [Bl : Blank Γ] : EntB (Ld k × Γ) Unit (fun _ => (⟨⟩, Bl.st)) (Bl.N + 1) B.a := ⟨fun x h => ⟨_, rfl, Bl.ok h⟩⟩
instance EntB.cons {α Γ τ : Type} [Inj α] [Row Γ] [ArgR τ] {st : τ → Γ} {N a : Nat} [E : EntB Γ τ st N a] : EntB (Option α × Γ) (α × τ) (fun x => (some x.1, st x.2)) (N + 1) a := ⟨fun x h => by
  refine ⟨some (inj x.1), (ArgR.args x.2 ++ [Val.ref a]).map some ++ List.replicate (N - (ArgR.args x.2 ++ [Val.ref a]).length) none, ?_, fun v z => (by cases z; rfl), E.ok x.2 h⟩
  show some (inj x.1) :: ((ArgR.args x.2 ++ [Val.ref a]).map some ++ List.replicate (N + 1 - ((ArgR.args x.2 ++ [Val.ref a]).length + 1)) none) = _
  rw [Nat.add_sub_add_right]⟩
theorem fb_mk {tab : List Fn} {fu d i np nN : Nat} {body : List S} {Γ τ ρ C : Type} {J : Enc C} (R : Bo 0 C → Row Γ) [A : ArgR τ] [I : Inj ρ] {st : τ → Γ} {f : C → Γ → T (Fw Γ ρ)} (S1 : ∀ B : Bo 0 C, @SC (callN tab fu d) fu Γ ρ (R B) I body (f B.c)) (En : ∀ B : Bo 0 C, @EntB Γ τ st nN (R B) A B.a) (hb : ∀ B : Bo 0 C, (R B).bw = [(B.a, J.enc B.c)]) (ht : tab[i]? = some (.code np false nN body true)) (hp : ∀ a : τ, (ArgR.args a).length + 1 = np) :
    FB (callN tab fu (d + 1)) i τ A C J ρ I (fun a c => (f c (st a)).bind outF) := ⟨fun {h a c l P} w hl p => by
  show (match tab[i]? with
    | none => T.no
    | some .start => match ArgR.args a ++ [Val.ref l] with
      | [Val.scr] => T.ok (Val.ref h.n, h.new Ob.tape)
      | _ => .no
    | some .pick => pickV (ArgR.args a ++ [Val.ref l]) h
    | some .next => nextV (ArgR.args a ++ [Val.ref l]) h
    | some (.code np va nN body fz) => match va with
      | false => if (ArgR.args a ++ [Val.ref l]).length == np then runF (callN tab fu d) fu nN body fz (ArgR.args a ++ [Val.ref l]) h else .no
      | true => if Nat.ble (np - 1) (ArgR.args a ++ [Val.ref l]).length && small (ArgR.args a ++ [Val.ref l]).length && (!((ArgR.args a ++ [Val.ref l]).drop (np - 1)).isEmpty && ((ArgR.args a ++ [Val.ref l]).drop (np - 1)).all isFlat) then runF (callN tab fu d) fu nN body fz ((ArgR.args a ++ [Val.ref l]).take (np - 1) ++ [Val.tup ((ArgR.args a ++ [Val.ref l]).drop (np - 1))]) h else .no).All _
  rw [ht]
  have hlen : (ArgR.args a ++ [Val.ref l]).length = np := by rw [List.length_append]; exact hp a
  simp only [hlen, beq_self_eq_true, if_true]
  unfold runF
  rw [T.all_bind] at p ⊢
  let B : Bo 0 C := ⟨l, c⟩
  have rg : @Rg Γ (R B) h.n (st a) ((ArgR.args a ++ [Val.ref l]).map some ++ List.replicate (nN - (ArgR.args a ++ [Val.ref l]).length) none) ⟨h.os, h.n, h.n, h.lk⟩ := ⟨[], (En B).ok a _, List.nodup_nil, fun l m => absurd m (List.not_mem_nil), ⟨w.os, w.lk, w.tp⟩, Nat.le_refl _, Nat.le_refl _, by
    rw [hb B]
    intro q hq
    have hq := List.mem_singleton.mp hq
    subst hq
    exact ⟨Hs.get_lt hl, hl⟩⟩
  refine T.all_mono (fun r z => ?_) ((S1 B).run rg p)
  obtain ⟨fl, s1, h1⟩ := r
  unfold FinP at z
  cases fl with
  | nx => obtain ⟨γ, _, z⟩ := z; exact z.elim
  | bk => obtain ⟨γ, _, z⟩ := z; exact z.elim
  | ct => obtain ⟨γ, _, z⟩ := z; exact z.elim
  | rt v =>
    obtain ⟨x, γ', ⟨A', _, _, _, _, _, z3, _⟩, z1, z2⟩ := z
    simp only at z2 z3
    simp only [Bool.true_and, Nat.ble_eq.mpr z3, z2]
    exact ⟨rfl, x, rfl, z1⟩⟩
end Eng
/-! The typed layer: more rules. -/
namespace Eng
open PySem L2
open Inj (inj)
open InjR (injR)
open Row (rel)
theorem pick_mk {tab : List Fn} {fu d i : Nat} (ht : tab[i]? = some .pick) : FC (callN tab fu (d + 1)) i (Tape × Int × Unit) inferInstance Int inferInstance (fun a => if decide (0 < a.2.1) && decide (a.2.1 ≤ 1000000000000000000) then .dr a.2.1.toNat fun i => .ok (i : Int) else .no) := ⟨fun {h a P} w p => by
  obtain ⟨_, n, _⟩ := a
  show (match tab[i]? with
    | none => T.no
    | some .start => match ([.ref 0, .int n] : List Val) with
      | [Val.scr] => T.ok (Val.ref h.n, h.new Ob.tape)
      | _ => .no
    | some .pick => pickV [.ref 0, .int n] h
    | some .next => nextV [.ref 0, .int n] h
    | some (.code np va nN body fz) => match va with
      | false => if ([.ref 0, .int n] : List Val).length == np then runF (callN tab fu d) fu nN body fz [.ref 0, .int n] h else .no
      | true => if Nat.ble (np - 1) ([.ref 0, .int n] : List Val).length && small ([.ref 0, .int n] : List Val).length && (!(([.ref 0, .int n] : List Val).drop (np - 1)).isEmpty && (([.ref 0, .int n] : List Val).drop (np - 1)).all isFlat) then runF (callN tab fu d) fu nN body fz (([.ref 0, .int n] : List Val).take (np - 1) ++ [Val.tup (([.ref 0, .int n] : List Val).drop (np - 1))]) h else .no).All _
  rw [ht]
  show (match h.get 0 with
    | some .tape => if decide (0 < n) && decide (n ≤ 1000000000000000000) then T.dr n.toNat fun i => .ok (Val.int i, h) else .no
    | _ => .no).All _
  rw [w.tp]
  simp only at p ⊢
  split at p
  · rename_i q
    rw [if_pos q]
    exact fun i hi => ⟨rfl, _, rfl, p i hi⟩
  · exact p.elim⟩
theorem startC {tab : List Fn} {fu d i : Nat} {h : Hs} (ht : tab[i]? = some .start) : callN tab fu (d + 1) i [.scr] h = .ok (.ref h.n, h.new .tape) := by
  show (match tab[i]? with
    | none => T.no
    | some .start => T.ok (Val.ref h.n, h.new Ob.tape)
    | some .pick => pickV [.scr] h
    | some .next => nextV [.scr] h
    | some (.code np va nN body fz) => match va with
      | false => if ([.scr] : List Val).length == np then runF (callN tab fu d) fu nN body fz [.scr] h else .no
      | true => if Nat.ble (np - 1) ([.scr] : List Val).length && small ([.scr] : List Val).length && (!(([.scr] : List Val).drop (np - 1)).isEmpty && (([.scr] : List Val).drop (np - 1)).all isFlat) then runF (callN tab fu d) fu nN body fz (([.scr] : List Val).take (np - 1) ++ [Val.tup (([.scr] : List Val).drop (np - 1))]) h else .no) = _
  rw [ht]
/-! ### what is handed back: lists of one's own in it -/
section
variable (cf : Nat → List Val → Hs → T (Val × Hs)) (Γ : Type) [Row Γ]
class ZC (e : E) (α : outParam Type) (I : outParam (Inj α)) (f : outParam (Γ → T α)) (m : outParam Nat) : Prop where
  run : ∀ {n0 γ s h} {P : α → Prop}, Rg n0 γ s h → (f γ).All P → (ev cf e s h).All fun r => r.2 = h ∧ ∃ x, P x ∧ ∀ d, m ≤ d → fzV h n0 d r.1 = some (inj x)
class ZsC (es : List E) (τ : outParam Type) (J : outParam (InjR τ)) (f : outParam (Γ → T τ)) (m : outParam Nat) : Prop where
  run : ∀ {n0 γ s h} {P : τ → Prop}, Rg n0 γ s h → (f γ).All P → (evs cf es s h).All fun r => r.2 = h ∧ ∃ x, P x ∧ r.1.length = (injR x).length ∧ ∀ d, m ≤ d → optAll (fzV h n0 d) r.1 = some (injR x)
end
section
variable {cf : Nat → List Val → Hs → T (Val × Hs)} {fu : Nat} {Γ ρ : Type} [Row Γ] [Inj ρ]
instance (priority := low) ZC.ofEC {e : E} {α : Type} {I : Inj α} {f : Γ → T α} [E1 : EC cf Γ e α I f] : ZC cf Γ e α I f (Inj.dp α + 1) := ⟨fun {n0 γ s h P} rg p => by
  refine T.all_mono (fun r z => ?_) (E1.run rg p)
  obtain ⟨z1, x, z2, z3⟩ := z
  exact ⟨z1, x, z3, fun d hd => by rw [z2]; exact Inj.fz h n0 d x (by omega)⟩⟩
instance ZC.own {i : Nat} {α : Type} {I : Inj α} [S : OSlot Γ i α I] : ZC cf Γ (.v i) (List α) inferInstance (fun γ => T.of (S.get γ)) (Inj.dp α + 2) := ⟨fun {n0 γ s h P} rg p => by
  obtain ⟨xs, e0, p⟩ := T.of_some' p
  obtain ⟨A, r, nd, a, w, b, c, bb⟩ := rg
  obtain ⟨l, hl, e1, e2⟩ := S.rget r e0
  rw [q_v, e1]
  refine ⟨rfl, xs, p, fun d hd => ?_⟩
  have hlt : Nat.blt l n0 = false := by
    have := (a l hl).1
    rw [← Bool.not_eq_true, Nat.blt_eq]
    omega
  obtain ⟨d, rfl⟩ : ∃ k, d = k + 1 := ⟨d - 1, by omega⟩
  show fzV h n0 (d + 1) (.ref l) = some (.tl (xs.map inj))
  unfold fzV
  simp only [hlt, Bool.false_eq_true, if_false, e2]
  rw [optAll_id fun x hx => by
    obtain ⟨y, _, rfl⟩ := List.mem_map.mp hx
    exact Inj.fz h n0 d y (by omega)]
  rfl⟩
instance ZsC.nil : ZsC cf Γ [] Unit inferInstance (fun _ => .ok ()) 0 := ⟨fun rg p => ⟨rfl, (), p, rfl, fun _ _ => rfl⟩⟩
instance ZsC.cons {e : E} {es : List E} {α τ : Type} {I : Inj α} {J : InjR τ} {f : Γ → T α} {g : Γ → T τ} {m k : Nat} [E1 : ZC cf Γ e α I f m] [E2 : ZsC cf Γ es τ J g k] : ZsC cf Γ (e :: es) (α × τ) inferInstance (fun γ => (f γ).bind fun x => (g γ).bind fun y => .ok (x, y)) (max m k) := ⟨fun {n0 γ s h P} rg p => by
  rw [q_cons]
  rw [T.all_bind] at p ⊢
  refine T.all_mono (fun r z => ?_) (E1.run rg p)
  obtain ⟨v, h'⟩ := r
  obtain ⟨z1, x, z2, z3⟩ := z
  simp only at z1 z3
  subst z1
  rw [T.all_bind] at z2 ⊢
  refine T.all_mono (fun r y => ?_) (E2.run rg z2)
  obtain ⟨vs, h2⟩ := r
  obtain ⟨y1, t, y2, y3, y4⟩ := y
  simp only at y1 y3 y4
  subst y1
  refine ⟨rfl, (x, t), y2, ?_, fun d hd => ?_⟩
  · show vs.length + 1 = (injR t).length + 1
    rw [y3]
  · exact optAll_k (z3 d (by omega)) (y4 d (by omega))⟩
instance ZC.tup {es : List E} {τ : Type} {J : InjR τ} {g : Γ → T τ} {m : Nat} [E1 : ZsC cf Γ es τ J g m] : ZC cf Γ (.tup es) (Tu τ) inferInstance (fun γ => (g γ).bind fun x => if small (injR x).length then .ok ⟨x⟩ else .no) (m + 1) := ⟨fun {n0 γ s h P} rg p => by
  rw [q_tup]
  rw [T.all_bind] at p ⊢
  refine T.all_mono (fun r z => ?_) (E1.run rg p)
  obtain ⟨vs, h'⟩ := r
  obtain ⟨z1, x, z2, z3, z4⟩ := z
  simp only at z1 z3 z4
  subst z1
  simp only [z3]
  split at z2
  · rename_i q
    rw [if_pos q]
    refine ⟨rfl, ⟨x⟩, z2, fun d hd => ?_⟩
    obtain ⟨d, rfl⟩ : ∃ k, d = k + 1 := ⟨d - 1, by omega⟩
    show (optAll (fzV h' n0 d) vs).map Val.tup = _
    rw [z4 d (by omega)]
    rfl
  · exact z2.elim⟩
instance (priority := low) XC.retZ {es : List E} {α : Type} {I : Inj α} {f : Γ → T α} {m : Nat} [E1 : ZC cf Γ (.tup es) α I f m] [C : Pv α ρ] : XC cf fu Γ ρ (.ret (.tup es)) (fun γ => (f γ).bind fun x => (T.of (C.pv x)).bind fun y => if Nat.ble m 12 then .ok (.rt y γ) else .no) := ⟨fun {n0 γ s h P} rg p => by
  rw [q_ret]
  rw [T.all_bind] at p ⊢
  refine T.all_mono (fun r z => ?_) (E1.run rg p)
  obtain ⟨v, h'⟩ := r
  obtain ⟨z1, x, z2, z3⟩ := z
  simp only at z1 z3
  subst z1
  rw [T.all_bind] at z2
  obtain ⟨y, ey, z2⟩ := T.of_some' z2
  split at z2
  · rename_i q
    exact ⟨y, γ, rg, z2, by rw [z3 12 (Nat.le_of_ble_eq_true q), C.ok ey]⟩
  · exact z2.elim⟩
/-- return a if c else b -/
instance (priority := low) XC.retI {c a b : E} {fc : Γ → T Bool} {fa fb : Γ → T (Fw Γ ρ)} [E0 : EC cf Γ c Bool inferInstance fc] [X1 : XC cf fu Γ ρ (.ret a) fa] [X2 : XC cf fu Γ ρ (.ret b) fb] : XC cf fu Γ ρ (.ret (.ite c a b)) (fun γ => (fc γ).bind fun x => match x with
    | true => fa γ
    | false => fb γ) := ⟨fun {n0 γ s h P} rg p => by
  rw [q_ret, q_ite, q_tst, T.bind_assoc, T.bind_assoc]
  refine E0.bind rg p fun x p => ?_
  cases x with
  | true =>
    have := X1.run rg p
    rw [q_ret] at this
    exact this
  | false =>
    have := X2.run rg p
    rw [q_ret] at this
    exact this⟩
/-! ### == of rows of numbers -/
def eqI (op : Cop) (x y : List Int) : Option Bool := match op with
  | .eq => some (decide (x = y))
  | .ne => some (!decide (x = y))
  | _ => none
theorem eqvAll_ints : ∀ a b : List Int, PyData.eqvAll (a.map PyData.int) (b.map PyData.int) = decide (a = b)
  | [], [] => by simp [PyData.eqvAll]
  | [], _ :: _ => by simp [PyData.eqvAll]
  | _ :: _, [] => by simp [PyData.eqvAll]
  | x :: a, y :: b => by
    rw [List.map_cons, List.map_cons, PyData.eqvAll, PyData.eqv, eqvAll_ints a b]
    by_cases q : x = y
    · subst q; simp
    · simp [q]
theorem toD_itemsL {h : Hs} {v : Val} {x : List Int} (e : itemsL h v = some (x.map inj)) : toD h 16 v = some (.list (x.map PyData.int)) := by
  cases v <;> first | (cases e; done) | skip
  case tl xs => cases e; show (optAll (toD h 15) _).map _ = _; rw [toD_ints]; rfl
  case ref l =>
    simp only [itemsL] at e
    split at e
    · rename_i xs g
      cases e
      show (match h.get l with | some (.lst xs) => (optAll (toD h 15) xs).map PyData.list | _ => none) = _
      rw [g]
      show (optAll (toD h 15) _).map _ = _
      rw [toD_ints]; rfl
    · cases e
theorem veq_itemsL {h : Hs} {v w : Val} {x y : List Int} (e1 : itemsL h v = some (x.map inj)) (e2 : itemsL h w = some (y.map inj)) : veq h v w = some (decide (x = y)) := by
  have : veq h v w = some (PyData.eqv (.list (x.map PyData.int)) (.list (y.map PyData.int))) := by
    unfold veq
    cases v <;> first | (cases e1; done) | (cases w <;> first | (cases e2; done) | simp only [toD_itemsL e1, toD_itemsL e2])
  rw [this, PyData.eqv, eqvAll_ints]
instance (priority := high) EC.cmpLL {op : Cop} {a b : E} {fa fb : Γ → T (List Int)} [E1 : LE cf Γ a Int inferInstance fa] [E2 : LE cf Γ b Int inferInstance fb] : EC cf Γ (.cmp op a b) Bool inferInstance (fun γ => (fa γ).bind fun x => (fb γ).bind fun y => T.of (eqI op x y)) := ⟨fun {n0 γ s h P} rg p => by
  rw [q_cmp]
  refine E1.bind rg p fun x v p h1 h2 h3 => E2.bind rg p fun y w p k1 k2 k3 => ?_
  obtain ⟨k, e, q⟩ := T.of_some' p
  have hc : copV op v w h = some k := by
    unfold eqI at e
    split at e
    · cases e
      have : copV .eq v w h = veq h v w := by cases v <;> first | (cases h1; done) | (cases w <;> first | (cases k1; done) | rfl)
      rw [this]
      exact veq_itemsL h1 k1
    · cases e
      have : copV .ne v w h = (veq h v w).map (!·) := by cases v <;> first | (cases h1; done) | (cases w <;> first | (cases k1; done) | rfl)
      rw [this, veq_itemsL h1 k1]
      rfl
    · cases e
  show (match copV op v w h with
    | some b => T.ok (Val.bl b, h)
    | none => .no).All _
  rw [hc]
  exact ok_all (I := inferInstance) q⟩
/-- sorted(x), x any row of numbers -/
instance (priority := low) EC.sortAny {a : E} {fa : Γ → T Any} [E1 : EC cf Γ a Any inferInstance fa] : EC cf Γ (.bi .sorted false [a]) (List Int) inferInstance (fun γ => (fa γ).bind fun x => (T.of (partsP x.v)).bind fun ps => (T.of (optAll vint (ps.map inj))).bind fun ns => .ok (Eng.sortI ns)) := ⟨fun {n0 γ s h P} rg p => by
  rw [q_bi, q_cons, T.bind_assoc]
  refine E1.bind rg p fun x p => ?_
  rw [T.all_bind] at p
  obtain ⟨ps, e1, p⟩ := T.of_some' p
  rw [T.all_bind] at p
  obtain ⟨ns, e2, p⟩ := T.of_some' p
  have pp : P (Eng.sortI ns) := p
  clear p
  obtain ⟨v, pv⟩ := x
  have goal : biV .sorted false [v] h = .ok (.tl ((Eng.sortI ns).map .int), h) := by
    cases v <;> first | (cases e1; done) | skip
    case tup xs =>
      have : ps.map inj = xs := toAnys_ok e1
      rw [this] at e2
      simp only [biV, itemsL, e2, mkL]
    case tl xs =>
      have : ps.map inj = xs := toAnys_ok e1
      rw [this] at e2
      simp only [biV, itemsL, sortedV, e2, mkL]
  show (biV .sorted false [v] h).All _
  rw [goal]
  exact ⟨rfl, Eng.sortI ns, rfl, pp⟩⟩
instance EC.sortTp {a : E} {fa : Γ → T (Tp Int)} [E1 : EC cf Γ a (Tp Int) inferInstance fa] : EC cf Γ (.bi .sorted false [a]) (List Int) inferInstance (fun γ => (fa γ).bind fun x => .ok (Eng.sortI x.l)) := ⟨fun {n0 γ s h P} rg p => by
  rw [q_bi, q_cons, T.bind_assoc]
  refine E1.bind rg p fun x p => ?_
  have p : P (Eng.sortI x.l) := p
  have goal : biV .sorted false [inj x] h = .ok (.tl ((Eng.sortI x.l).map .int), h) := by
    show (match itemsL h (.tup (x.l.map inj)) with
      | some xs => sortedV false xs h
      | none => match optAll vint (x.l.map inj) with
        | some ns => mkL false ((Eng.sortI ns).map .int) h
        | none => .no) = _
    simp only [itemsL, vint_ints, mkL]
  show (biV .sorted false [inj x] h).All _
  rw [goal]
  exact ⟨rfl, Eng.sortI x.l, rfl, p⟩⟩
/-- t * k -/
instance EC.repT {m : Bool} {a b : E} {α : Type} {I : Inj α} {fa : Γ → T (Tp α)} {fb : Γ → T Int} [E1 : EC cf Γ a (Tp α) inferInstance fa] [E2 : EC cf Γ b Int inferInstance fb] : EC cf Γ (.bin .mul m a b) (Tp α) inferInstance (fun γ => (fa γ).bind fun x => (fb γ).bind fun k => if decide (1 ≤ k) && decide (k ≤ 1000) && Nat.ble x.l.length 1000 && (x.l.map inj).all isFlat then .ok ⟨(List.replicate k.toNat x.l).flatten⟩ else .no) := ⟨fun {n0 γ s h P} rg p => by
  rw [q_bin]
  refine E1.bind rg p fun x p => E2.bind rg p fun k p => ?_
  show (if decide (1 ≤ k) && decide (k ≤ 1000) && Nat.ble (x.l.map inj).length 1000 && (x.l.map inj).all isFlat then T.ok (Val.tup (List.replicate k.toNat (x.l.map inj)).flatten, h) else .no).All _
  rw [List.length_map]
  split at p
  · rename_i q
    rw [if_pos q]
    refine ⟨rfl, ⟨(List.replicate k.toNat x.l).flatten⟩, ?_, p⟩
    show Val.tup _ = Val.tup ((List.replicate k.toNat x.l).flatten.map inj)
    rw [List.map_flatten, List.map_replicate]
  · exact p.elim⟩
end
/-- a row of values of any kinds -/
instance {τ : Type} [InjR τ] : Pv (Hl τ) (List Any) := ⟨fun t => optAll toAny (injR t.t), fun {a b} e => by
  show Val.tl (b.map inj) = Val.tl (injR a.t)
  rw [toAnys_ok e]⟩
end Eng
namespace Eng
open PySem L2
open Inj (inj)
variable {cf : Nat → List Val → Hs → T (Val × Hs)} {Γ : Type} [Row Γ]
instance EC.memTL {op : Cop} {a b : E} {fa : Γ → T Int} {fb : Γ → T (List Int)} [E1 : EC cf Γ a Int inferInstance fa] [E2 : EC cf Γ b (List Int) inferInstance fb] : EC cf Γ (.cmp op a b) Bool inferInstance (fun γ => (fa γ).bind fun x => (fb γ).bind fun y => T.of (memI op x y)) := ⟨fun {n0 γ s h P} rg p => by
  rw [q_cmp]
  refine E1.bind rg p fun x p => E2.bind rg p fun y p => ?_
  obtain ⟨k, e, q⟩ := T.of_some' p
  have h1 : itemsL h (.tl (y.map inj)) = some (y.map inj) := rfl
  have h3 : dicOf h (.tl (y.map inj)) = none := rfl
  have m : memV h (.int x) (.tl (y.map inj)) = some (y.any fun y => decide (y = x)) := by
    unfold memV
    rw [h3]
    unfold memS
    have t1 : toD h 16 (.int x) = some (.int x) := rfl
    simp only [h1, t1, toD_ints (n := 14), anyD_ints]
  have : copV op (.int x) (.tl (y.map inj)) h = some k := by
    unfold memI at e
    split at e
    · cases e
      exact m
    · cases e
      show (memV h (.int x) (.tl (y.map inj))).map (!·) = _
      rw [m]
      rfl
    · cases e
  show (match copV op (.int x) (.tl (y.map inj)) h with
    | some k => T.ok (Val.bl k, h)
    | none => .no).All _
  rw [this]
  exact ok_all (I := inferInstance) q⟩
instance EC.isB {a b : E} {fa fb : Γ → T Bool} [E1 : EC cf Γ a Bool inferInstance fa] [E2 : EC cf Γ b Bool inferInstance fb] : EC cf Γ (.cmp .is a b) Bool inferInstance (fun γ => (fa γ).bind fun x => (fb γ).bind fun y => T.ok (x == y)) := ⟨fun {n0 γ s h P} rg p => by
  rw [q_cmp]
  refine E1.bind rg p fun x p => E2.bind rg p fun y p => ?_
  have : copV .is (.bl x) (.bl y) h = some (x == y) := by cases x <;> cases y <;> rfl
  show (match copV .is (.bl x) (.bl y) h with
    | some k => T.ok (Val.bl k, h)
    | none => .no).All _
  rw [this]
  exact ok_all (I := inferInstance) p⟩
end Eng
namespace Eng
open PySem L2
open Inj (inj)
open InjR (injR)
variable {cf : Nat → List Val → Hs → T (Val × Hs)} {Γ : Type} [Row Γ]
theorem vints_map : ∀ xs : List Int, optAll vint (xs.map inj) = some xs
  | [] => rfl
  | x :: xs => by
    rw [List.map_cons]
    exact optAll_k rfl (vints_map xs)
instance EC.lset {a : E} {fa : Γ → T (List Int)} [E1 : LE cf Γ a Int inferInstance fa] : EC cf Γ (.lset a) Int inferInstance (fun γ => (fa γ).bind fun xs => if Nat.blt xs.length 64 then .ok (distI xs : Int) else .no) := ⟨fun {n0 γ s h P} rg p => by
  rw [q_lset]
  rw [T.all_bind] at p ⊢
  refine T.all_mono (fun r z => ?_) (E1.run rg p)
  obtain ⟨v, h'⟩ := r
  obtain ⟨rfl, xs, q, h1, h2, h3⟩ := z
  simp only at h1 ⊢
  split at q
  · rename_i hl
    rw [h1]
    simp only [vints_map, hl, if_true]
    exact ok_all (I := inferInstance) q
  · exact q.elim⟩
instance (priority := low) EC.absA {m : Bool} {a : E} {fa : Γ → T Any} [E1 : EC cf Γ a Any inferInstance fa] : EC cf Γ (.bi .abs m [a]) Int inferInstance (fun γ => (fa γ).bind fun x => match x.v with
    | .int i => .ok (if decide (i < 0) then -i else i)
    | _ => .no) := ⟨fun {n0 γ s h P} rg p => by
  rw [q_bi, q_cons, T.bind_assoc]
  refine E1.bind rg p fun x p => ?_
  split at p
  · rename_i i e
    have e2 : inj x = Val.int i := e
    rw [e2]
    exact ⟨rfl, _, rfl, p⟩
  · exact p.elim⟩
instance AtC.tpL3 {a b c : At} {α : Type} [Inj α] {f : α × α × α × Unit → Γ → T Γ} [T1 : AtsC cf Γ [a, b, c] (α × α × α × Unit) f] : AtC cf Γ (.tp [a, b, c]) (Tp α) (fun t γ => match t.l with
    | [x, y, z] => f (x, y, z, ()) γ
    | _ => .no) := ⟨fun {n0 γ s h t P} rg p => by
  obtain ⟨l⟩ := t
  match l, p with
  | [x, y, z], p =>
    have z' := T1.run (a := (x, y, z, ())) rg p
    show (asg cf (.tp [a, b, c]) (.tup (injR (x, y, z, ()))) s h).All _
    rw [q_tp, if_pos (by rw [T1.len, beq_self_eq_true])]
    exact z'
  | [], p => exact p.elim
  | [_], p => exact p.elim
  | [_, _], p => exact p.elim
  | _ :: _ :: _ :: _ :: _, p => exact p.elim⟩
end Eng
/-! The typed layer: a list of one's own whose entries are lists of one's own. -/
namespace Eng
open PySem L2
open Inj (inj)
open Row (rel)
def InnR {α : Type} [Inj α] (h : Hs) : List Nat → List (List α) → Prop
  | [], [] => True
  | l :: ls, xs :: xss => h.get l = some (.lst (xs.map inj)) ∧ InnR h ls xss
  | [], _ :: _ => False
  | _ :: _, [] => False
theorem InnR.mono {α : Type} [Inj α] {h h' : Hs} : ∀ {ls : List Nat} {xss : List (List α)}, InnR h ls xss → (∀ m ∈ ls, h'.get m = h.get m) → InnR h' ls xss
  | [], [], _, _ => trivial
  | l :: ls, xs :: xss, r, k => ⟨(k l List.mem_cons_self).trans r.1, InnR.mono r.2 fun m hm => k m (List.mem_cons_of_mem _ hm)⟩
  | [], _ :: _, r, _ => r.elim
  | _ :: _, [], r, _ => r.elim
theorem InnR.len {α : Type} [Inj α] {h : Hs} : ∀ {ls : List Nat} {xss : List (List α)}, InnR h ls xss → ls.length = xss.length
  | [], [], _ => rfl
  | l :: ls, xs :: xss, r => by rw [List.length_cons, List.length_cons, InnR.len r.2]
  | [], _ :: _, r => r.elim
  | _ :: _, [], r => r.elim
theorem InnR.get {α : Type} [Inj α] {h : Hs} : ∀ {ls : List Nat} {xss : List (List α)} {i : Nat} {m : Nat}, InnR h ls xss → ls[i]? = some m → ∃ xs, xss[i]? = some xs ∧ h.get m = some (.lst (xs.map inj))
  | [], [], i, m, _, e => by simp at e
  | l :: ls, xs :: xss, 0, m, r, e => by
    rw [List.getElem?_cons_zero] at e
    cases e
    exact ⟨xs, rfl, r.1⟩
  | l :: ls, xs :: xss, i + 1, m, r, e => by
    rw [List.getElem?_cons_succ] at e
    obtain ⟨ys, e1, e2⟩ := InnR.get r.2 e
    exact ⟨ys, by rw [List.getElem?_cons_succ]; exact e1, e2⟩
  | [], _ :: _, _, _, r, _ => r.elim
  | _ :: _, [], _, _, r, _ => r.elim
theorem InnR.set {α : Type} [Inj α] {h h' : Hs} {ys : List α} : ∀ {ls : List Nat} {xss : List (List α)} {i : Nat} {m : Nat}, InnR h ls xss → ls.Nodup → ls[i]? = some m → h'.get m = some (.lst (ys.map inj)) → (∀ a ∈ ls, a ≠ m → h'.get a = h.get a) → InnR h' ls (xss.set i ys)
  | [], [], i, m, _, _, e, _, _ => by simp at e
  | l :: ls, xs :: xss, 0, m, r, nd, e, g, k => by
    rw [List.getElem?_cons_zero] at e
    cases e
    obtain ⟨n1, n2⟩ := List.nodup_cons.mp nd
    exact ⟨g, r.2.mono fun a ha => k a (List.mem_cons_of_mem _ ha) fun z => n1 (z ▸ ha)⟩
  | l :: ls, xs :: xss, i + 1, m, r, nd, e, g, k => by
    rw [List.getElem?_cons_succ] at e
    obtain ⟨n1, n2⟩ := List.nodup_cons.mp nd
    have hm : m ∈ ls := List.mem_of_getElem? e
    exact ⟨(k l List.mem_cons_self fun z => n1 (z ▸ hm)).trans r.1, InnR.set r.2 n2 e g fun a ha => k a (List.mem_cons_of_mem _ ha)⟩
  | [], _ :: _, _, _, r, _, _, _, _ => r.elim
  | _ :: _, [], _, _, r, _, _, _, _ => r.elim
structure On (α : Type) where
  l : Option (List (List α))
instance {α Γ : Type} [Inj α] [Row Γ] : Row (On α × Γ) := ⟨fun γ s h A => ∃ x s', s = x :: s' ∧ match γ.1.l with
    | none => rel γ.2 s' h A
    | some xss => ∃ l ls A', A = l :: (ls ++ A') ∧ x = some (.ref l) ∧ h.get l = some (.lst (ls.map .ref)) ∧ InnR h ls xss ∧ rel γ.2 s' h A', fun {γ s h h' A} ⟨x, s', e, r⟩ k => by
  refine ⟨x, s', e, ?_⟩
  split
  · rename_i q
    rw [q] at r
    exact Row.mono r k
  · rename_i xs q
    rw [q] at r
    obtain ⟨l, ls, A', e1, e2, e3, e4, r⟩ := r
    subst e1
    exact ⟨l, ls, A', rfl, e2, (k l List.mem_cons_self).trans e3, e4.mono fun m hm => k m (List.mem_cons_of_mem _ (List.mem_append_left _ hm)), Row.mono r fun m hm => k m (List.mem_cons_of_mem _ (List.mem_append_right _ hm))⟩, Row.bw Γ⟩
instance {α Γ : Type} [Inj α] [Row Γ] [N : NB Γ] : NB (On α × Γ) := ⟨N.nb⟩
instance {α Γ : Type} [Inj α] [Row Γ] [B : Blank Γ] : Blank (On α × Γ) := ⟨(⟨none⟩, B.st), B.N + 1, fun h => ⟨none, _, rfl, B.ok h⟩⟩
instance {α β Γ : Type} [Inj α] [Row Γ] {i : Nat} {J : Inj β} [S : Slot Γ i β J] : Slot (On α × Γ) (i + 1) β J := {
  get := fun γ => S.get γ.2
  set := fun a γ => (γ.1, S.set a γ.2)
  rget := fun {γ s h A a} ⟨x, s', e, r⟩ g => by
    subst e
    rw [List.getElem?_cons_succ]
    split at r
    · exact S.rget r g
    · obtain ⟨l, ls, A', e1, e2, e3, e4, r⟩ := r
      exact S.rget r g
  rset := fun {γ s h A a} ⟨x, s', e, r⟩ => by
    subst e
    refine ⟨x, _, rfl, ?_⟩
    split <;> rename_i q <;> rw [q] at r
    · exact S.rset r
    · obtain ⟨l, ls, A', e1, e2, e3, e4, r⟩ := r
      exact ⟨l, ls, A', e1, e2, e3, e4, S.rset r⟩
  rnone := fun {γ s h A} ⟨x, s', e, r⟩ => by
    subst e
    refine ⟨x, _, rfl, ?_⟩
    split <;> rename_i q <;> rw [q] at r
    · exact S.rnone r
    · obtain ⟨l, ls, A', e1, e2, e3, e4, r⟩ := r
      exact ⟨l, ls, A', e1, e2, e3, e4, S.rnone r⟩
  lt := fun {γ s h A} ⟨x, s', e, r⟩ => by
    subst e
    split at r
    · exact Nat.succ_lt_succ (S.lt r)
    · obtain ⟨l, ls, A', e1, e2, e3, e4, r⟩ := r
      exact Nat.succ_lt_succ (S.lt r) }
/-- the slot i holds a list of its own of lists of its own -/
class NSlot (Γ : Type) [Row Γ] (i : Nat) (α : outParam Type) (I : outParam (Inj α)) where
  get : Γ → Option (List (List α))
  set : List (List α) → Γ → Γ
  rget : ∀ {γ s h A xss}, rel γ s h A → A.Nodup → get γ = some xss → ∃ l ls, s[i]? = some (some (.ref l)) ∧ h.get l = some (.lst (ls.map .ref)) ∧ InnR h ls xss ∧ (l :: ls).Nodup ∧ ∀ m ∈ l :: ls, m ∈ A
  rnew : ∀ {γ s h A} {yss : List (List α)} {h' : Hs} {l : Nat} {ls : List Nat}, rel γ s h A → A.Nodup → (l :: ls).Nodup → (∀ m ∈ l :: ls, m ∉ A) → h'.get l = some (.lst (ls.map .ref)) → InnR h' ls yss → (∀ m ∈ A, h'.get m = h.get m) → ∃ A', rel (set yss γ) (s.set i (some (.ref l))) h' A' ∧ A'.Nodup ∧ ∀ m ∈ A', m ∈ l :: ls ∨ m ∈ A
  rupd : ∀ {γ s h A xss} {yss : List (List α)} {h' : Hs} {l m : Nat} {ls : List Nat} {k : Nat}, rel γ s h A → A.Nodup → get γ = some xss → s[i]? = some (some (.ref l)) → h.get l = some (.lst (ls.map .ref)) → ls[k]? = some m → InnR h' ls yss → (∀ a ∈ A, a ≠ m → h'.get a = h.get a) → rel (set yss γ) s h' A
theorem ref_inj {ls ms : List Nat} (e : ls.map Val.ref = ms.map Val.ref) : ls = ms := by
  induction ls generalizing ms with
  | nil => cases ms with
    | nil => rfl
    | cons _ _ => cases e
  | cons l ls ih => cases ms with
    | nil => cases e
    | cons m ms =>
      rw [List.map_cons, List.map_cons] at e
      injection e with e1 e2
      injection e1 with e1
      rw [e1, ih e2]
instance {α Γ : Type} [I : Inj α] [Row Γ] : NSlot (On α × Γ) 0 α I := {
  get := fun γ => γ.1.l
  set := fun xs γ => (⟨some xs⟩, γ.2)
  rget := fun {γ s h A xs} ⟨x, s', e, r⟩ nd g => by
    subst e
    rw [g] at r
    obtain ⟨l, ls, A', e1, e2, e3, e4, r⟩ := r
    subst e1 e2
    refine ⟨l, ls, rfl, e3, e4, ?_, fun m hm => ?_⟩
    · rw [← List.cons_append] at nd
      exact (List.nodup_append.mp nd).1
    · rw [← List.cons_append]
      exact List.mem_append_left _ hm
  rnew := fun {γ s h A yss h' l ls} ⟨x, s', e, r⟩ nd nd2 nl hl hi hk => by
    subst e
    have key : ∀ A0, A0.Nodup → (∀ m ∈ A0, m ∈ A) → rel γ.2 s' h A0 → ∃ A', rel ((⟨some yss⟩, γ.2) : On α × Γ) (some (Val.ref l) :: s') h' A' ∧ A'.Nodup ∧ ∀ m ∈ A', m ∈ l :: ls ∨ m ∈ A := fun A0 n0 sub r => by
      refine ⟨l :: (ls ++ A0), ⟨_, s', rfl, l, ls, A0, rfl, rfl, hl, hi, Row.mono r fun m hm => hk m (sub m hm)⟩, ?_, fun m hm => ?_⟩
      · rw [← List.cons_append]
        exact List.nodup_append.mpr ⟨nd2, n0, fun a ha b hb z => nl a ha (z ▸ sub b hb)⟩
      · rw [← List.cons_append] at hm
        exact (List.mem_append.mp hm).elim .inl fun z => .inr (sub m z)
    split at r
    · exact key A nd (fun m hm => hm) r
    · obtain ⟨l0, ls0, A', e1, e2, e3, e4, r⟩ := r
      subst e1
      rw [← List.cons_append] at nd
      exact key A' (List.nodup_append.mp nd).2.1 (fun m hm => List.mem_cons_of_mem _ (List.mem_append_right _ hm)) r
  rupd := fun {γ s h A xss yss h' l m ls k} ⟨x, s', e, r⟩ nd g hs hl hm hi hk => by
    subst e
    rw [g] at r
    obtain ⟨l0, ls0, A', e1, e2, e3, e4, r⟩ := r
    subst e1 e2
    rw [List.getElem?_cons_zero] at hs
    cases hs
    have el : ls0 = ls := by
      rw [e3] at hl
      injection hl with hl
      injection hl with hl
      exact ref_inj hl
    subst el
    have mm : m ∈ ls0 := List.mem_of_getElem? hm
    have nd0 := nd
    rw [← List.cons_append] at nd
    obtain ⟨n1, n2, n3⟩ := List.nodup_append.mp nd
    refine ⟨_, s', rfl, l, ls0, A', rfl, rfl, (hk l List.mem_cons_self fun z => (List.nodup_cons.mp n1).1 (z ▸ mm)).trans e3, hi, Row.mono r fun a ha => hk a (List.mem_cons_of_mem _ (List.mem_append_right _ ha)) fun z => ?_⟩
    exact n3 m (List.mem_cons_of_mem _ mm) a ha z.symm }
instance {α β Γ : Type} [Inj α] [Row Γ] {i : Nat} {J : Inj β} [S : NSlot Γ i β J] : NSlot (Option α × Γ) (i + 1) β J := {
  get := fun γ => S.get γ.2
  set := fun a γ => (γ.1, S.set a γ.2)
  rget := fun ⟨x, s', e, q, r⟩ nd g => by subst e; simp only [List.getElem?_cons_succ]; exact S.rget r nd g
  rnew := fun ⟨x, s', e, q, r⟩ nd nd2 nl hl hi hk => by
    subst e
    obtain ⟨A', r', z⟩ := S.rnew r nd nd2 nl hl hi hk
    exact ⟨A', ⟨x, _, rfl, q, r'⟩, z⟩
  rupd := fun ⟨x, s', e, q, r⟩ nd g hs hl hm hi hk => by
    subst e
    rw [List.getElem?_cons_succ] at hs
    exact ⟨x, _, rfl, q, S.rupd r nd g hs hl hm hi hk⟩ }
instance {α β Γ : Type} [Inj α] [Row Γ] {i : Nat} {J : Inj β} [S : NSlot Γ i β J] : NSlot (Ow α × Γ) (i + 1) β J := {
  get := fun γ => S.get γ.2
  set := fun a γ => (γ.1, S.set a γ.2)
  rget := fun {γ s h A xs} ⟨x, s', e, r⟩ nd g => by
    subst e
    simp only [List.getElem?_cons_succ]
    split at r
    · exact S.rget r nd g
    · obtain ⟨l, A', e1, e2, e3, r⟩ := r
      subst e1
      obtain ⟨m, ms, z1, z2, z3, z4, z5⟩ := S.rget r (List.nodup_cons.mp nd).2 g
      exact ⟨m, ms, z1, z2, z3, z4, fun a ha => List.mem_cons_of_mem _ (z5 a ha)⟩
  rnew := fun {γ s h A yss h' l ls} ⟨x, s', e, r⟩ nd nd2 nl hl hi hk => by
    subst e
    split at r
    · rename_i q
      obtain ⟨A', r', z⟩ := S.rnew r nd nd2 nl hl hi hk
      exact ⟨A', ⟨x, _, rfl, by simp only [q]; exact r'⟩, z⟩
    · rename_i xs q
      obtain ⟨l0, A0, e1, e2, e3, r⟩ := r
      subst e1
      obtain ⟨n1, n2⟩ := List.nodup_cons.mp nd
      obtain ⟨A', r', z1, z2⟩ := S.rnew r n2 nd2 (fun m hm z => nl m hm (List.mem_cons_of_mem _ z)) hl hi fun m hm => hk m (List.mem_cons_of_mem _ hm)
      refine ⟨l0 :: A', ⟨x, _, rfl, by simp only [q]; exact ⟨l0, A', rfl, e2, (hk l0 List.mem_cons_self).trans e3, r'⟩⟩, List.nodup_cons.mpr ⟨fun m => ?_, z1⟩, fun m hm => ?_⟩
      · rcases z2 l0 m with z | z
        · exact nl l0 z List.mem_cons_self
        · exact n1 z
      · rcases List.mem_cons.mp hm with z | z
        · exact .inr (z ▸ List.mem_cons_self)
        · exact (z2 m z).elim .inl fun z => .inr (List.mem_cons_of_mem _ z)
  rupd := fun {γ s h A xss yss h' l m ls k} ⟨x, s', e, r⟩ nd g hs hl hm hi hk => by
    subst e
    rw [List.getElem?_cons_succ] at hs
    split at r
    · rename_i q
      exact ⟨x, _, rfl, by simp only [q]; exact S.rupd r nd g hs hl hm hi hk⟩
    · rename_i zs q
      obtain ⟨l0, A0, e1, e2, e3, r⟩ := r
      subst e1
      obtain ⟨n1, n2⟩ := List.nodup_cons.mp nd
      obtain ⟨l2, ls2, z1, z2, z3, z4, z5⟩ := S.rget r n2 g
      rw [z1] at hs
      cases hs
      rw [z2] at hl
      injection hl with hl
      injection hl with hl
      have := ref_inj hl
      subst this
      have ne : l0 ≠ m := fun z => n1 (z ▸ z5 m (List.mem_cons_of_mem _ (List.mem_of_getElem? hm)))
      exact ⟨x, _, rfl, by simp only [q]; exact ⟨l0, A0, rfl, e2, (hk l0 List.mem_cons_self ne).trans e3, S.rupd r n2 g z1 z2 hm hi fun a ha => hk a (List.mem_cons_of_mem _ ha)⟩⟩ }
end Eng
/-! The typed layer: what is done with nested lists of one's own. -/
namespace Eng
open PySem L2
open Inj (inj)
open Row (rel)
structure NewN {α : Type} [Inj α] (h h' : Hs) (l : Nat) (ls : List Nat) (xss : List (List α)) : Prop where
  get : h'.get l = some (.lst (ls.map .ref))
  inn : InnR h' ls xss
  nd : (l :: ls).Nodup
  rng : ∀ m ∈ l :: ls, h.n ≤ m ∧ m < h'.n
  lat : Later h h'
theorem Rg.newN {Γ : Type} [Row Γ] {n0 : Nat} {γ : Γ} {s : Env} {h h' : Hs} {i l : Nat} {ls : List Nat} {α : Type} {I : Inj α} {xss : List (List α)} (S : NSlot Γ i α I) (r : Rg n0 γ s h) (k : NewN h h' l ls xss) : Rg n0 (S.set xss γ) (s.set i (some (.ref l))) h' := by
  obtain ⟨A, r, nd, a, w, b, c, bb⟩ := r
  have z0 := Hs.get_lt w.tp
  have nl : ∀ m ∈ l :: ls, m ∉ A := fun m hm hA => by have := (a m hA).2.1; have := (k.rng m hm).1; omega
  obtain ⟨A', r', nd', h2⟩ := S.rnew r nd k.nd nl k.get k.inn fun m hm => k.lat.old m (a m hm).2.1
  have lkl : ∀ m, h'.lk.contains m = false := fun m => by
    rw [k.lat.lk, w.lk]
    rfl
  refine ⟨A', r', nd', fun m hm => ?_, ⟨k.lat.os, k.lat.lk.trans w.lk, (k.lat.old 0 z0).trans w.tp⟩, Nat.le_trans b k.lat.n, Nat.le_trans c k.lat.lo, fun p hp => ⟨(bb p hp).1, (k.lat.old p.1 (Nat.lt_of_lt_of_le (bb p hp).1 b)).trans (bb p hp).2⟩⟩
  rcases h2 m hm with e | e
  · exact ⟨Nat.le_trans b (k.rng m e).1, (k.rng m e).2, lkl m⟩
  · exact ⟨(a m e).1, Nat.lt_of_lt_of_le (a m e).2.1 k.lat.n, lkl m⟩
/-- one of the lists within is written -/
theorem Rg.updN {Γ : Type} [Row Γ] {n0 : Nat} {γ : Γ} {s : Env} {h : Hs} {i : Nat} {α : Type} {I : Inj α} {xss : List (List α)} (S : NSlot Γ i α I) (r : Rg n0 γ s h) (g : S.get γ = some xss) :
    ∃ (l : Nat) (ls : List Nat), s[i]? = some (some (.ref l)) ∧ h.get l = some (.lst (ls.map Val.ref)) ∧ ls.length = xss.length ∧ ∀ (k m : Nat) (ys : List α), ls[k]? = some m → xss[k]? = some ys → h.get m = some (.lst (ys.map inj)) ∧ h.lk.contains m = false ∧ ∀ zs : List α, Rg n0 (S.set (xss.set k zs) γ) s (h.put m (.lst (zs.map inj))) := by
  obtain ⟨A, r, nd, a, w, b, c, bb⟩ := r
  obtain ⟨l, ls, e1, e2, e3, e4, e5⟩ := S.rget r nd g
  refine ⟨l, ls, e1, e2, e3.len, fun k m ys hk hy => ?_⟩
  obtain ⟨ys', q1, q2⟩ := e3.get hk
  rw [hy] at q1
  cases q1
  have mA : m ∈ A := e5 m (List.mem_cons_of_mem _ (List.mem_of_getElem? hk))
  obtain ⟨a1, a2, a3⟩ := a m mA
  refine ⟨q2, a3, fun zs => ?_⟩
  have gp := fun a => Hs.get_put h (.lst (zs.map inj)) w.os a2 (m := a)
  have inn : InnR (h.put m (.lst (zs.map inj))) ls (xss.set k zs) := e3.set (List.nodup_cons.mp e4).2 hk (by rw [gp, if_pos rfl]) fun a _ ne => by rw [gp, if_neg ne]
  refine ⟨A, S.rupd r nd g e1 e2 hk inn fun a _ ne => by rw [gp, if_neg ne], nd, fun m hm => a m hm, ⟨by simp [Hs.put, w.os], w.lk, ?_⟩, b, ?_, fun p hp => ⟨(bb p hp).1, by rw [gp, if_neg (fun z => by have := (bb p hp).1; omega)]; exact (bb p hp).2⟩⟩
  · rw [gp, if_neg]
    · exact w.tp
    · intro z
      rw [← z] at q2
      rw [w.tp] at q2
      cases q2
  · show n0 ≤ min h.lo m
    omega
section
variable (cf : Nat → List Val → Hs → T (Val × Hs))
/-- e makes a new list of new lists -/
class MC (Γ : Type) [Row Γ] (e : E) (α : Type) [Inj α] (f : outParam (Γ → T (List (List α)))) : Prop where
  run : ∀ {n0 γ s h} {P : List (List α) → Prop}, Rg n0 γ s h → (f γ).All P → (ev cf e s h).All fun r => ∃ xss l ls, P xss ∧ r.1 = .ref l ∧ NewN h r.2 l ls xss
end
section
variable {cf : Nat → List Val → Hs → T (Val × Hs)} {Γ : Type} [Row Γ]
theorem Later.trans {a b c : Hs} (x : Later a b) (y : Later b c) : Later a c := ⟨fun m hm => (y.old m (Nat.lt_of_lt_of_le hm x.n)).trans (x.old m hm), Nat.le_trans x.lo y.lo, y.lk.trans x.lk, y.os, Nat.le_trans x.n y.n⟩
theorem lcN_run {own : List Nat} {tg : Tg} {cs : List E} {e : E} {α β : Type} [Inj α] [J : Inj β] {w : Γ → Γ} {st : α → Γ → Γ} {tst : Γ → T Bool} {el : Γ → T (List β)} [T1 : TgC Γ tg α st] [W : WpC Γ own w] [C : TsC cf Γ cs tst] [E1 : NC cf Γ e β el] {n0 : Nat} {γ : Γ} {s : Env} :
    ∀ (xs : List α) {h : Hs} {P : List (List β) → Prop}, Rg n0 γ s h → (lcF (fun x => st x (w γ)) tst el xs).All P → (lcL (fun x => tgS tg x (wipeE s own)) (evt cf cs) (ev cf e) (xs.map inj) h).All fun r => ∃ (ls : List Nat) (yss : List (List β)), r.1 = ls.map .ref ∧ P yss ∧ InnR r.2 ls yss ∧ ls.Nodup ∧ (∀ m ∈ ls, h.n ≤ m ∧ m < r.2.n) ∧ Later h r.2
  | [], h, P, rg, p => ⟨[], [], rfl, p, trivial, List.nodup_nil, fun m hm => absurd hm List.not_mem_nil, ⟨fun _ _ => rfl, Nat.le_refl _, rfl, rg.wh.os, Nat.le_refl _⟩⟩
  | x :: xs, h, P, rg, p => by
    rw [List.map_cons, q_lcc]
    obtain ⟨s1, e1, r1⟩ := T1.run x (W.run rg)
    simp only [e1]
    unfold lcF at p
    rw [T.all_bind] at p ⊢
    refine T.all_mono (fun r z => ?_) (C.run r1 p)
    obtain ⟨b, h'⟩ := r
    obtain ⟨z1, z2⟩ := z
    simp only at z1 z2
    subst z1
    cases b with
    | false => exact lcN_run xs rg z2
    | true =>
      simp only at z2 ⊢
      rw [T.all_bind] at z2 ⊢
      refine T.all_mono (fun r z => ?_) (E1.run r1 z2)
      obtain ⟨v, h1⟩ := r
      obtain ⟨ys, l, p, y1, y2⟩ := z
      simp only at y1 y2
      subst y1
      rw [T.all_bind] at p ⊢
      refine T.all_mono (fun r z => ?_) (lcN_run xs (rg.later y2.later) p)
      obtain ⟨vs, h2⟩ := r
      obtain ⟨ls, yss, q1, q2, q3, q4, q5, q6⟩ := z
      simp only at q1 q3 q5 q6
      subst q1
      refine ⟨l :: ls, ys :: yss, rfl, q2, ⟨(q6.old l y2.lt).trans y2.get, q3⟩, List.nodup_cons.mpr ⟨fun m => ?_, q4⟩, fun m hm => ?_, y2.later.trans q6⟩
      · have := (q5 l m).1
        have := y2.lt
        omega
      · rcases List.mem_cons.mp hm with z | z
        · subst z
          exact ⟨y2.ge, Nat.lt_of_lt_of_le y2.lt q6.n⟩
        · exact ⟨Nat.le_trans y2.n (q5 m z).1, (q5 m z).2⟩
instance MC.lc {own : List Nat} {tg : Tg} {sk : Sk} {es cs : List E} {e : E} {α β : Type} {I : Inj α} [J : Inj β] {w : Γ → Γ} {st : α → Γ → Γ} {src : Γ → T (List α)} {tst : Γ → T Bool} {el : Γ → T (List β)} [S : SrcC cf Γ sk es α I src] [W : WpC Γ own w] [T1 : TgC Γ tg α st] [C : TsC cf Γ cs tst] [E1 : NC cf Γ e β el] :
    MC cf Γ (.lc true own tg sk es cs e) β (fun γ => (src γ).bind fun xs => if small xs.length then lcF (fun x => st x (w γ)) tst el xs else .no) := ⟨fun {n0 γ s h P} rg p => by
  rw [q_lc]
  rw [T.all_bind] at p ⊢
  refine T.all_mono (fun r z => ?_) (S.run rg p)
  obtain ⟨v, h'⟩ := r
  obtain ⟨z1, xs, z2, z3⟩ := z
  simp only at z1 z3
  subst z1
  simp only [z3, List.length_map]
  split at z2
  · rename_i q
    simp only [q, if_true]
    rw [T.all_bind]
    refine T.all_mono (fun r y => ?_) (lcN_run (own := own) (tg := tg) (cs := cs) (e := e) (cf := cf) xs rg z2)
    obtain ⟨v', h2⟩ := r
    obtain ⟨ls, yss, q1, q2, q3, q4, q5, q6⟩ := y
    simp only at q1 q3 q5 q6
    subst q1
    have k := newL_mk q6.os (ls.map Val.ref)
    refine ⟨yss, h2.n, ls, q2, rfl, k.get, q3.mono fun m hm => k.old m (q5 m hm).2, List.nodup_cons.mpr ⟨fun m => ?_, q4⟩, fun m hm => ?_, q6.trans k.later⟩
    · have := (q5 _ m).2
      omega
    · rcases List.mem_cons.mp hm with z | z
      · subst z
        exact ⟨q6.n, k.lt⟩
      · exact ⟨(q5 m z).1, Nat.lt_of_lt_of_le (q5 m z).2 k.n⟩
  · exact z2.elim⟩
end
section
variable {cf : Nat → List Val → Hs → T (Val × Hs)} {fu : Nat} {Γ ρ : Type} [Row Γ] [Inj ρ]
instance XC.newN {i : Nat} {e : E} {α : Type} {I : Inj α} {f : Γ → T (List (List α))} [S : NSlot Γ i α I] [E1 : MC cf Γ e α f] : XC cf fu Γ ρ (.asg (.nm i) e) (fun γ => (f γ).bind fun xs => .ok (.nx (S.set xs γ))) := ⟨fun {n0 γ s h P} rg p => by
  rw [q_asg]
  rw [T.all_bind] at p ⊢
  refine T.all_mono (fun r z => ?_) (E1.run rg p)
  obtain ⟨v, h'⟩ := r
  obtain ⟨xs, l, ls, p, z2, z3⟩ := z
  simp only at z2 z3
  subst z2
  exact ⟨S.set xs γ, rg.newN S z3, p⟩⟩
instance XC.retN {i : Nat} {α : Type} {I : Inj α} [S : NSlot Γ i α I] : XC cf fu Γ (List (List α)) (.ret (.v i)) (fun γ => (T.of (S.get γ)).bind fun xs => if Nat.blt (Inj.dp α) 10 then .ok (.rt xs γ) else .no) := ⟨fun {n0 γ s h P} rg p => by
  rw [q_ret]
  rw [T.all_bind] at p
  obtain ⟨xss, e0, p⟩ := T.of_some' p
  have rg0 := rg
  obtain ⟨A, r, nd, a, w, b, c, bb⟩ := rg
  obtain ⟨l, ls, e1, e2, e3, e4, e5⟩ := S.rget r nd e0
  rw [q_v, e1, T.bind_ok]
  split at p
  · rename_i q
    refine ⟨xss, γ, rg0, p, ?_⟩
    have hlt : ∀ m ∈ l :: ls, Nat.blt m n0 = false := fun m hm => by
      have := (a m (e5 m hm)).1
      rw [← Bool.not_eq_true, Nat.blt_eq]
      omega
    have inner : ∀ (ls : List Nat) (xss : List (List α)), InnR h ls xss → (∀ m ∈ ls, Nat.blt m n0 = false) → optAll (fzV h n0 11) (ls.map Val.ref) = some (xss.map inj) := by
      intro ls
      induction ls with
      | nil => intro xss r _; cases xss with
        | nil => rfl
        | cons _ _ => exact r.elim
      | cons m ls ih => intro xss r hb; cases xss with
        | nil => exact r.elim
        | cons xs xss =>
          rw [List.map_cons, List.map_cons]
          refine optAll_k ?_ (ih xss r.2 fun a ha => hb a (List.mem_cons_of_mem _ ha))
          have hm := hb m List.mem_cons_self
          show fzV h n0 11 (.ref m) = some (.tl (xs.map inj))
          unfold fzV
          simp only [hm, Bool.false_eq_true, if_false, r.1]
          rw [optAll_id fun x hx => by
            obtain ⟨y, _, rfl⟩ := List.mem_map.mp hx
            exact Inj.fz h n0 10 y (by simpa [Nat.blt_eq] using q)]
          rfl
    show fzV h n0 12 (.ref l) = some (.tl (xss.map inj))
    have hl := hlt l List.mem_cons_self
    unfold fzV
    simp only [hl, Bool.false_eq_true, if_false, e2]
    rw [inner ls xss e3 fun m hm => hlt m (List.mem_cons_of_mem _ hm)]
    rfl
  · exact p.elim⟩
theorem q_augS {o i e : E} {op : Bop} {s : Env} {h : Hs} : ex cf fu (.augS o i op e) s h = (ev cf o s h).bind fun p => (ev cf i s p.2).bind fun q => match subV p.1 q.1 q.2 with
    | some x => (ev cf e s q.2).bind fun r => (ipV op x r.1 r.2).bind fun z => (setV p.1 q.1 z.1 z.2).bind fun h' => .ok (.nx, s, h')
    | none => .no := rfl
theorem sub_lst {h : Hs} {l : Nat} {vs : List Val} {x : Int} {j : Nat} (e : h.get l = some (.lst vs)) (ej : ixI vs.length x = some j) : subV (.ref l) (.int x) h = vs[j]? := by
  have dn : dicOf h (.ref l) = none := by simp only [dicOf, e]
  have im : items h (.ref l) = some vs := by simp only [items, e]
  simp only [subV, dn, im, ej]
instance XC.augN {i : Nat} {a b e : E} {fa fb fe : Γ → T Int} [S : NSlot Γ i Int inferInstance] [E1 : EC cf Γ a Int inferInstance fa] [E2 : EC cf Γ b Int inferInstance fb] [E3 : EC cf Γ e Int inferInstance fe] : XC cf fu Γ ρ (.augS (.sub (.v i) a) b .add e) (fun γ => (T.of (S.get γ)).bind fun xss => (fa γ).bind fun x => (T.of (getI xss x)).bind fun ys => (fb γ).bind fun y => (T.of (getI ys y)).bind fun u => (fe γ).bind fun w => (T.of (setI ys y (u + w))).bind fun zs => (T.of (setI xss x zs)).bind fun yss => .ok (.nx (S.set yss γ))) := ⟨fun {n0 γ s h P} rg p => by
  rw [q_augS, q_sub]
  rw [T.all_bind] at p
  obtain ⟨xss, e0, p⟩ := T.of_some' p
  obtain ⟨l, ls, e1, e2, e3, e4⟩ := rg.updN S e0
  rw [q_v, e1, T.bind_ok, T.bind_assoc]
  refine E1.bind rg p fun x p => ?_
  rw [T.all_bind] at p
  obtain ⟨ys, e5, p⟩ := T.of_some' p
  unfold getI at e5
  split at e5
  · rename_i j ej
    have hj : j < ls.length := by
      rw [e3]
      exact (List.getElem?_eq_some_iff.mp e5).1
    have ek : ls[j]? = some ls[j] := List.getElem?_eq_getElem hj
    obtain ⟨g1, g2, g3⟩ := e4 j ls[j] ys ek e5
    have sv : subV (.ref l) (.int x) h = some (.ref ls[j]) := by
      rw [sub_lst e2 (j := j) (by rw [List.length_map, e3]; exact ej), List.getElem?_map, ek]
      rfl
    have sv' : subV (.ref l) (inj x) h = some (.ref ls[j]) := sv
    simp only [sv', T.bind_ok]
    refine E2.bind rg p fun y p => ?_
    rw [T.all_bind] at p
    obtain ⟨u, e6, p⟩ := T.of_some' p
    unfold getI at e6
    split at e6
    · rename_i j2 ej2
      have sv2 : subV (.ref ls[j]) (inj y) h = some (inj u) := by
        have : subV (.ref ls[j]) (.int y) h = some (inj u) := by
          rw [sub_lst g1 (j := j2) (by rw [List.length_map]; exact ej2), List.getElem?_map, e6]
          rfl
        exact this
      simp only [sv2]
      refine E3.bind rg p fun w p => ?_
      rw [T.all_bind] at p
      obtain ⟨zs, e7, p⟩ := T.of_some' p
      rw [T.all_bind] at p
      obtain ⟨yss, e8, p⟩ := T.of_some' p
      have iv : ipV .add (inj u) (inj w) h = .ok (.int (u + w), h) := rfl
      simp only [iv, T.bind_ok]
      unfold setI at e7 e8
      rw [ej2] at e7
      rw [ej] at e8
      cases e7
      cases e8
      have wd : h.wd ls[j] = none := by
        unfold Hs.wd
        rw [g1]
      have wl : h.wl ls[j] = some (ys.map inj) := by
        unfold Hs.wl
        rw [g1]
        simp only [g2, Bool.false_eq_true, if_false]
      have st : setV (.ref ls[j]) (inj y) (.int (u + w)) h = .ok (h.put ls[j] (.lst ((ys.set j2 (u + w)).map inj))) := by
        have : setV (.ref ls[j]) (.int y) (.int (u + w)) h = .ok (h.put ls[j] (.lst ((ys.set j2 (u + w)).map inj))) := by
          simp only [setV, wd, wl, List.length_map, ej2]
          rw [List.map_set]
          rfl
        exact this
      simp only [st, T.bind_ok]
      exact ⟨_, g3 (ys.set j2 (u + w)), p⟩
    · cases e6
  · cases e5⟩
end
end Eng
namespace Eng
open PySem L2
open Inj (inj)
open InjR (injR)
variable {cf : Nat → List Val → Hs → T (Val × Hs)} {Γ : Type} [Row Γ]
instance (priority := low) SE.ofHl {e : E} {τ : Type} [InjR τ] {f : Γ → T (Hl τ)} [E1 : EC cf Γ e (Hl τ) inferInstance f] : SE cf Γ e Any inferInstance (fun γ => (f γ).bind fun x => T.of (optAll toAny (injR x.t))) := ⟨fun {n0 γ s h P} rg p => by
  rw [T.all_bind] at p
  refine T.all_mono (fun r z => ?_) (E1.run rg p)
  obtain ⟨z1, a, z2, z3⟩ := z
  obtain ⟨xs, e1, q⟩ := T.of_some' z3
  refine ⟨z1, xs, q, ?_⟩
  have z2 : r.1 = .tl (injR a.t) := z2
  rw [z2, ← toAnys_ok e1]
  exact ⟨rfl, rfl⟩⟩
instance : Cv Int Any := ⟨fun i => ⟨.int i, rfl⟩, fun _ => rfl⟩
/-! ### lists that are lent to be read -/
structure Ls (α : Type) where
  l : List α
instance {α : Type} [Inj α] : Enc (Ls α) := ⟨fun c => .lst (c.l.map inj), fun c e => by cases e⟩
instance (priority := low) {i : Nat} {α : Type} {I : Inj α} [S : OSlot Γ i α I] : RSlot Γ i (Ls α) inferInstance := ⟨fun γ => (S.get γ).map Ls.mk, fun {n0 γ s h c} rg g => by
  obtain ⟨xs, g1, rfl⟩ := Option.map_eq_some_iff.mp g
  obtain ⟨A, r, nd, ha, w, b, cc, bb⟩ := rg
  obtain ⟨l, hl, e1, e2⟩ := S.rget r g1
  exact ⟨l, e1, e2, (ha l hl).2.2⟩⟩
instance (priority := low) LE.ofR {i : Nat} {α : Type} {I : Inj α} [S : RSlot Γ i (Ls α) inferInstance] : LE cf Γ (.v i) α I (fun γ => (T.of (S.get γ)).bind fun c => .ok c.l) := ⟨fun {n0 γ s h P} rg p => by
  rw [T.all_bind] at p
  obtain ⟨c, e0, p⟩ := T.of_some' p
  obtain ⟨l, e1, e2, e3⟩ := S.rget rg e0
  have e2 : h.get l = some (.lst (c.l.map inj)) := e2
  rw [q_v, e1]
  refine ⟨rfl, c.l, p, ?_, ?_, ?_⟩
  · simp only [itemsL, e2]
  · simp only [items, e2]
  · simp only [dicOf, e2]⟩
def isL : Ty → Bool
  | .list => true
  | _ => false
instance (priority := low) EC.isiLE {e : E} {t : Ty} {α : Type} {I : Inj α} {f : Γ → T (List α)} [E1 : LE cf Γ e α I f] : EC cf Γ (.isi e t) Bool inferInstance (fun γ => (f γ).bind fun _ => .ok (isL t)) := ⟨fun {n0 γ s h P} rg p => by
  rw [q_isi]
  rw [T.all_bind] at p ⊢
  refine T.all_mono (fun r z => ?_) (E1.run rg p)
  obtain ⟨v, h'⟩ := r
  obtain ⟨z1, xs, q, h1, h2, h3⟩ := z
  simp only at z1 h1 ⊢
  subst z1
  have : isiV h' v t = some (isL t) := by
    cases v <;> first | (cases h1; done) | skip
    case tl ys => cases t <;> rfl
    case ref l =>
      simp only [itemsL] at h1
      split at h1
      · rename_i ys q2
        simp only [isiV, tyOf, q2]
        cases t <;> rfl
      · cases h1
  rw [this]
  exact ok_all (I := inferInstance) q⟩
instance (priority := low) EC.isNonL {e : E} {α : Type} {I : Inj α} {f : Γ → T (List α)} [E1 : LE cf Γ e α I f] : EC cf Γ (.cmp .is e (.c .non)) Bool inferInstance (fun γ => (f γ).bind fun _ => .ok false) := ⟨fun {n0 γ s h P} rg p => by
  rw [q_cmp]
  rw [T.all_bind] at p ⊢
  refine T.all_mono (fun r z => ?_) (E1.run rg p)
  obtain ⟨v, h'⟩ := r
  obtain ⟨z1, xs, q, h1, h2, h3⟩ := z
  simp only at z1 h1 ⊢
  subst z1
  have : copV .is v .non h' = some false := by
    cases v <;> first | (cases h1; done) | rfl
  show (match copV .is v .non h' with
    | some k => T.ok (Val.bl k, h')
    | none => .no).All _
  rw [this]
  exact ok_all (I := inferInstance) q⟩
/-- not told: never asked of a list that is lent -/
instance (priority := 10) EC.cmpAL {i j : Nat} {α : Type} {I : Inj α} [S : RSlot Γ j (Ls α) inferInstance] : EC cf Γ (.cmp .eq (.v i) (.v j)) Bool inferInstance (fun _ => .no) := ⟨fun {n0 γ s h P} rg p => p.elim⟩
end Eng
/-! The typed layer: dict(x) of a tuple of pairs, sorted(d), reads of nested lists. -/
namespace Eng
open PySem L2
open Inj (inj)
open InjR (injR)
open Row (rel)
def fillD {α : Type} : List (Tu (Int × α × Unit)) → List (Int × α) → List (Int × α)
  | [], d => d
  | x :: r, d => fillD r (putD d x.t.1 x.t.2.1)
theorem pairK_typed {α : Type} [Inj α] : ∀ xs : List (Tu (Int × α × Unit)), pairK (xs.map inj) = some (xs.map fun x => ([Sum.inl x.t.1], inj x.t.2.1))
  | [] => rfl
  | ⟨(k, v, ())⟩ :: xs => by
    have e : (inj (⟨(k, v, ())⟩ : Tu (Int × α × Unit))) = Val.tup [.int k, inj v] := rfl
    rw [List.map_cons, e]
    unfold pairK
    rw [pairK_typed xs]
    rfl
theorem dFill_typed {α : Type} [Inj α] : ∀ (xs : List (Tu (Int × α × Unit))) (d : List (Int × α)), dFill (xs.map fun x => ([Sum.inl x.t.1], inj x.t.2.1)) (d.map fun x => KeyT.key x.1) (d.map fun x => inj x.2) = ((fillD xs d).map fun x => KeyT.key x.1, (fillD xs d).map fun x => inj x.2)
  | [], d => rfl
  | ⟨(k, v, ())⟩ :: xs, d => by
    rw [List.map_cons]
    unfold dFill fillD
    have e := dPut_typed (κ := Int) k v d
    have e : dPut (d.map fun x => KeyT.key x.1) (d.map fun x => inj x.2) [Sum.inl k] (inj v) = ((putD d k v).map fun x => KeyT.key x.1, (putD d k v).map fun x => inj x.2) := e
    rw [e]
    exact dFill_typed xs (putD d k v)
section
variable {cf : Nat → List Val → Hs → T (Val × Hs)} {fu : Nat} {Γ ρ : Type} [Row Γ] [Inj ρ]
/-- d = dict(x) -/
instance XC.dict1 {i : Nat} {m : Bool} {e : E} {α : Type} {Iα : Inj α} [D : DSlot Γ i (Dc Int α) inferInstance] {f : Γ → T (Tp (Tu (Int × α × Unit)))} [E1 : EC cf Γ e (Tp (Tu (Int × α × Unit))) inferInstance f] : XC cf fu Γ ρ (.asg (.nm i) (.bi .dict1 m [e])) (fun γ => (f γ).bind fun x => .ok (.nx (D.set ⟨fillD x.l []⟩ γ))) := ⟨fun {n0 γ s h P} rg p => by
  rw [q_asg, q_bi, q_cons, T.bind_assoc, T.bind_assoc]
  refine E1.bind (k := fun x => (T.ok (Fw.nx (D.set ⟨fillD x.l []⟩ γ)) : T (Fw Γ ρ))) rg p fun x p => ?_
  have e : biV .dict1 m [inj x] h = .ok (.ref h.n, h.new (.dct false ((fillD x.l []).map fun x => KeyT.key x.1) ((fillD x.l []).map fun x => inj x.2))) := by
    show dictV (.tup (x.l.map inj)) h = _
    unfold dictV
    simp only [pairK_typed]
    have := dFill_typed x.l []
    have this : dFill (x.l.map fun x => ([Sum.inl x.t.1], inj x.t.2.1)) [] [] = _ := this
    rw [this]
  rw [q_nil]
  show ((biV .dict1 m [inj x] h).bind _).All _
  rw [e, T.bind_ok]
  exact ⟨_, rg.newD D (c := (⟨fillD x.l []⟩ : Dc Int α)) (newD_mk rg.wh.os _), p⟩⟩
theorem keyI_typed {α : Type} : ∀ d : List (Int × α), optAll keyI (d.map fun x => KeyT.key x.1) = some (d.map Prod.fst)
  | [] => rfl
  | x :: d => by
    rw [List.map_cons]
    unfold optAll
    rw [keyI_typed d]
    rfl
/-- sorted(d) -/
instance (priority := high) EC.sortD {i : Nat} {α : Type} {Iα : Inj α} [S : RSlot Γ i (Dc Int α) inferInstance] : EC cf Γ (.bi .sorted false [.v i]) (List Int) inferInstance (fun γ => (T.of (S.get γ)).bind fun d => if Nat.blt d.l.length 64 then .ok (Eng.sortI (d.l.map Prod.fst)) else .no) := ⟨fun {n0 γ s h P} rg p => by
  rw [T.all_bind] at p
  obtain ⟨d, e0, p⟩ := T.of_some' p
  obtain ⟨l, e1, e2, e3⟩ := S.rget rg e0
  rw [q_bi, q_cons, q_v, e1, T.bind_ok, q_nil, T.bind_ok, T.bind_ok]
  have e2' : h.get l = some (.dct false (d.l.map fun x => KeyT.key x.1) (d.l.map fun x => inj x.2)) := e2
  have it : itemsL h (.ref l) = none := by
    unfold itemsL
    simp only [e2']
  have dc : dicOf h (.ref l) = some (false, d.l.map fun x => KeyT.key x.1, d.l.map fun x => inj x.2) := dic_typed (κ := Int) e2
  split at p
  · rename_i q
    have goal : biV .sorted false [.ref l] h = .ok (.tl ((Eng.sortI (d.l.map Prod.fst)).map .int), h) := by
      have ln : Nat.blt (d.l.map Prod.fst).length 64 = true := by rw [List.length_map]; exact q
      simp only [biV, it, dc, keyI_typed, ln, if_true, mkL]
    show (biV .sorted false [.ref l] h).All _
    rw [goal]
    exact ⟨rfl, Eng.sortI (d.l.map Prod.fst), rfl, p⟩
  · exact p.elim⟩
/-- len(x), x a tuple or None -/
instance (priority := low) EC.lenO {e : E} {m : Bool} {α : Type} {I : Inj α} {f : Γ → T (Option (Tp α))} [E1 : EC cf Γ e (Option (Tp α)) inferInstance f] : EC cf Γ (.bi .len m [e]) Int inferInstance (fun γ => (f γ).bind fun x => match x with
    | some t => .ok (t.l.length : Int)
    | none => .no) := ⟨fun {n0 γ s h P} rg p => by
  rw [q_bi, q_cons, T.bind_assoc]
  refine E1.bind rg p fun x p => ?_
  cases x with
  | none => exact p.elim
  | some t =>
    have e : biV .len m [inj (some t)] h = .ok (.int t.l.length, h) := by
      show (T.ok (Val.int (t.l.map inj).length, h)) = _
      rw [List.length_map]
    show (biV .len m [inj (some t)] h).All _
    rw [e]
    exact ⟨rfl, _, rfl, p⟩⟩
/-- len(xss) -/
instance (priority := high) EC.lenN {i : Nat} {m : Bool} {α : Type} {I : Inj α} [S : NSlot Γ i α I] : EC cf Γ (.bi .len m [.v i]) Int inferInstance (fun γ => (T.of (S.get γ)).bind fun d => .ok (d.length : Int)) := ⟨fun {n0 γ s h P} rg p => by
  rw [T.all_bind] at p
  obtain ⟨xss, e0, p⟩ := T.of_some' p
  obtain ⟨l, ls, e1, e2, e3, e4⟩ := rg.updN S e0
  rw [q_bi, q_cons, q_v, e1, T.bind_ok, q_nil, T.bind_ok, T.bind_ok]
  have e : biV .len m [.ref l] h = .ok (.int xss.length, h) := by
    have it : items h (.ref l) = some (ls.map .ref) := by simp only [items, e2]
    simp only [biV, it, List.length_map, e3]
  show (biV .len m [.ref l] h).All _
  rw [e]
  exact ⟨rfl, _, rfl, p⟩⟩
/-- xss[a][b] -/
instance (priority := high) EC.subN {i : Nat} {a b : E} {α : Type} {I : Inj α} {fa fb : Γ → T Int} [S : NSlot Γ i α I] [E1 : EC cf Γ a Int inferInstance fa] [E2 : EC cf Γ b Int inferInstance fb] : EC cf Γ (.sub (.sub (.v i) a) b) α I (fun γ => (T.of (S.get γ)).bind fun xss => (fa γ).bind fun x => (T.of (getI xss x)).bind fun ys => (fb γ).bind fun y => T.of (getI ys y)) := ⟨fun {n0 γ s h P} rg p => by
  rw [q_sub, q_sub]
  rw [T.all_bind] at p
  obtain ⟨xss, e0, p⟩ := T.of_some' p
  obtain ⟨l, ls, e1, e2, e3, e4⟩ := rg.updN S e0
  rw [q_v, e1, T.bind_ok, T.bind_assoc]
  refine E1.bind rg p fun x p => ?_
  rw [T.all_bind] at p
  obtain ⟨ys, e5, p⟩ := T.of_some' p
  unfold getI at e5
  split at e5
  · rename_i j ej
    have hj : j < ls.length := by
      rw [e3]
      exact (List.getElem?_eq_some_iff.mp e5).1
    have ek : ls[j]? = some ls[j] := List.getElem?_eq_getElem hj
    obtain ⟨g1, g2, g3⟩ := e4 j ls[j] ys ek e5
    have sv : subV (.ref l) (.int x) h = some (.ref ls[j]) := by
      rw [sub_lst e2 (j := j) (by rw [List.length_map, e3]; exact ej), List.getElem?_map, ek]
      rfl
    have sv' : subV (.ref l) (inj x) h = some (.ref ls[j]) := sv
    simp only [sv', T.bind_ok]
    refine E2.bind (k := fun y => T.of (getI ys y)) rg p fun y p => ?_
    cases e6 : getI ys y with
    | none => rw [e6] at p; exact p.elim
    | some u =>
    rw [e6] at p
    unfold getI at e6
    split at e6
    · rename_i j2 ej2
      have sv2 : subV (.ref ls[j]) (inj y) h = some (inj u) := by
        have : subV (.ref ls[j]) (.int y) h = some (inj u) := by
          rw [sub_lst g1 (j := j2) (by rw [List.length_map]; exact ej2), List.getElem?_map, e6]
          rfl
        exact this
      simp only [sv2]
      exact ⟨rfl, u, rfl, p⟩
    · cases e6
  · cases e5⟩
/-- list(x) of values, for entries that may be None -/
instance (priority := low) NC.listO {e : E} {α : Type} {I : Inj α} {f : Γ → T (List α)} [E1 : SE cf Γ e α I f] : NC cf Γ (.bi .list true [e]) (Option α) (fun γ => (f γ).bind fun x => .ok (x.map some)) := ⟨fun {n0 γ s h P} rg p => by
  have := (NC.list (cf := cf) (e := e) (f := f)).run (P := fun xs => P (xs.map some)) rg (by
    rw [T.all_bind] at p
    exact p)
  refine T.all_mono (fun r z => ?_) this
  obtain ⟨xs, l, z1, z2, z3⟩ := z
  refine ⟨xs.map some, l, z1, z2, ?_⟩
  have : (xs.map some).map (inj : Option α → Val) = xs.map inj := by
    rw [List.map_map]
    rfl
  rw [this]
  exact z3⟩
/-- rows that change their places: not told (never met) -/
instance (priority := low) XC.noSwap {i : Nat} {a b e : E} : XC cf fu Γ ρ (.asg (.tp [.sb (.v i) a, .sb (.v i) b]) e) (fun _ => .no) := ⟨fun {n0 γ s h P} rg p => p.elim⟩
end
/-! ### a list of one's own becomes an entry of a nested one -/
theorem InnR.put {α : Type} [Inj α] {h : Hs} {m : Nat} {ys : List α} (g : h.get m = some (.lst (ys.map inj))) : ∀ {ls : List Nat} {xss : List (List α)} (j : Nat), InnR h ls xss → InnR h (ls.set j m) (xss.set j ys)
  | [], [], j, _ => by simp; trivial
  | l :: ls, xs :: xss, 0, r => ⟨g, r.2⟩
  | l :: ls, xs :: xss, j + 1, r => ⟨r.1, InnR.put g j r.2⟩
  | [], _ :: _, _, r => r.elim
  | _ :: _, [], _, r => r.elim
theorem set_sub {α : Type} {l : List α} {j : Nat} {m x : α} (h : x ∈ l.set j m) : x ∈ l ∨ x = m := List.mem_or_eq_of_mem_set h
theorem set_nd {ls : List Nat} {j m : Nat} (n : ls.Nodup) (h : m ∉ ls) : (ls.set j m).Nodup := by
  induction ls generalizing j with
  | nil => simp
  | cons l ls ih =>
    obtain ⟨n1, n2⟩ := List.nodup_cons.mp n
    cases j with
    | zero => exact List.nodup_cons.mpr ⟨fun z => h (List.mem_cons_of_mem _ z), n2⟩
    | succ j =>
      refine List.nodup_cons.mpr ⟨fun z => ?_, ih n2 fun z => h (List.mem_cons_of_mem _ z)⟩
      rcases set_sub z with z | z
      · exact n1 z
      · exact h (z ▸ List.mem_cons_self)
end Eng
/-! rows[j] = line. -/
namespace Eng
open PySem L2
open Inj (inj)
open Row (rel)
section
variable {cf : Nat → List Val → Hs → T (Val × Hs)} {fu : Nat} {Γ ρ A0 A2 A3 A4 A5 α : Type} [Row Γ] [Inj ρ] [Inj A0] [Inj A2] [Inj A3] [Inj A4] [Inj A5] [Inj α]
abbrev RowS (Γ A0 A2 A3 A4 A5 α : Type) := Option A0 × On α × Option A2 × Option A3 × Option A4 × Option A5 × Option Int × Ow α × Γ
instance XC.setRow : XC cf fu (RowS Γ A0 A2 A3 A4 A5 α) ρ (.asg (.sb (.v 1) (.v 6)) (.v 7)) (fun γ => (T.of γ.2.1.l).bind fun xss => (T.of γ.2.2.2.2.2.2.1).bind fun j => (T.of γ.2.2.2.2.2.2.2.1.l).bind fun ys => (T.of (setI xss j ys)).bind fun zss => .ok (.nx (γ.1, ⟨some zss⟩, γ.2.2.1, γ.2.2.2.1, γ.2.2.2.2.1, γ.2.2.2.2.2.1, γ.2.2.2.2.2.2.1, ⟨none⟩, γ.2.2.2.2.2.2.2.2))) := ⟨fun {n0 γ s h P} rg p => by
  obtain ⟨g0, gN, g2, g3, g4, g5, g6, gO, g⟩ := γ
  rw [T.all_bind] at p
  obtain ⟨xss, e1, p⟩ := T.of_some' p
  rw [T.all_bind] at p
  obtain ⟨j, e2, p⟩ := T.of_some' p
  rw [T.all_bind] at p
  obtain ⟨ys, e3, p⟩ := T.of_some' p
  rw [T.all_bind] at p
  obtain ⟨zss, e4, p⟩ := T.of_some' p
  have e1 : gN.l = some xss := e1
  have e2 : g6 = some j := e2
  have e3 : gO.l = some ys := e3
  obtain ⟨A, r, nd, a, w, b, c, bb⟩ := rg
  obtain ⟨x0, s0, es0, q0, x1, s1, es1, r⟩ := r
  subst es0 es1
  simp only [e1] at r
  obtain ⟨l, ls, A1, eA, ex1, gl, inn, x2, s2, es2, q2, x3, s3, es3, q3, x4, s4, es4, q4, x5, s5, es5, q5, x6, s6, es6, q6, x7, s7, es7, r⟩ := r
  subst es2 es3 es4 es5 es6 es7
  simp only [e3] at r
  obtain ⟨m, A2, eA1, ex7, gm, r⟩ := r
  subst eA eA1 ex1 ex7
  have ex6 : x6 = some (.int j) := q6 j e2
  subst ex6
  unfold setI at e4
  split at e4
  · rename_i k ek
    cases e4
    have hl := a l List.mem_cons_self
    have nd1 := nd
    rw [← List.cons_append] at nd
    obtain ⟨n1, n2, n3⟩ := List.nodup_append.mp nd
    obtain ⟨n4, n5⟩ := List.nodup_cons.mp n1
    obtain ⟨n6, n7⟩ := List.nodup_cons.mp n2
    have ml : m ∉ ls := fun z => n3 m (List.mem_cons_of_mem _ z) m List.mem_cons_self rfl
    have mne : m ≠ l := fun z => n3 l List.mem_cons_self m List.mem_cons_self z.symm
    have wl : h.wl l = some (ls.map Val.ref) := by
      unfold Hs.wl
      rw [gl]
      simp only [hl.2.2, Bool.false_eq_true, if_false]
    have wd : h.wd l = none := by
      unfold Hs.wd
      rw [gl]
    have st : setV (.ref l) (.int j) (.ref m) h = .ok (h.put l (.lst ((ls.set k m).map Val.ref))) := by
      simp only [setV, wd, wl, List.length_map, inn.len, ek]
      rw [List.map_set]
    have run : ex cf fu (.asg (.sb (.v 1) (.v 6)) (.v 7)) (x0 :: some (.ref l) :: x2 :: x3 :: x4 :: x5 :: some (.int j) :: some (.ref m) :: s7) h = .ok (.nx, x0 :: some (.ref l) :: x2 :: x3 :: x4 :: x5 :: some (.int j) :: some (.ref m) :: s7, h.put l (.lst ((ls.set k m).map Val.ref))) := by
      rw [q_asg, q_v]
      show ((Eng.asg cf (.sb (.v 1) (.v 6)) (.ref m) (x0 :: some (.ref l) :: x2 :: x3 :: x4 :: x5 :: some (.int j) :: some (.ref m) :: s7) h).bind _) = _
      rw [q_sb]
      show (((setV (.ref l) (.int j) (.ref m) h).bind _).bind _) = _
      rw [st]
      rfl
    rw [run]
    have gp := fun a => Hs.get_put h (.lst ((ls.set k m).map Val.ref)) w.os hl.2.1 (m := a)
    refine ⟨_, ⟨l :: (ls.set k m ++ A2), ?_, ?_, fun x hx => ?_, ⟨by simp [Hs.put, w.os], w.lk, ?_⟩, b, ?_, fun p hp => ⟨(bb p hp).1, by rw [gp, if_neg (fun z => by have := (bb p hp).1; omega)]; exact (bb p hp).2⟩⟩, p⟩
    · have keep : ∀ x, x ≠ l → (h.put l (.lst ((ls.set k m).map Val.ref))).get x = h.get x := fun x hx => by rw [gp, if_neg hx]
      have inn2 : InnR (h.put l (.lst ((ls.set k m).map Val.ref))) (ls.set k m) (xss.set k ys) := (InnR.put gm k inn).mono fun x hx => keep x (by
        rcases set_sub hx with z | z
        · exact fun q => n4 (q ▸ z)
        · exact fun q => mne (z ▸ q))
      refine ⟨x0, _, rfl, q0, _, _, rfl, l, ls.set k m, A2, rfl, rfl, by rw [gp, if_pos rfl], inn2, x2, _, rfl, q2, x3, _, rfl, q3, x4, _, rfl, q4, x5, _, rfl, q5, _, _, rfl, q6, _, _, rfl, ?_⟩
      exact Row.mono r fun x hx => keep x fun q => n3 l List.mem_cons_self x (List.mem_cons_of_mem _ hx) q.symm
    · rw [← List.cons_append]
      refine List.nodup_append.mpr ⟨List.nodup_cons.mpr ⟨fun z => ?_, set_nd n5 ml⟩, n7, fun x hx y hy q => ?_⟩
      · rcases set_sub z with z | z
        · exact n4 z
        · exact mne z.symm
      · rcases List.mem_cons.mp hx with z | z
        · exact n3 l List.mem_cons_self y (List.mem_cons_of_mem _ hy) (z ▸ q)
        · rcases set_sub z with z | z
          · exact n3 x (List.mem_cons_of_mem _ z) y (List.mem_cons_of_mem _ hy) q
          · exact n6 (by rw [← z, q]; exact hy)
    · have hx : x ∈ l :: (ls ++ m :: A2) := by
        rcases List.mem_cons.mp hx with z | z
        · exact z ▸ List.mem_cons_self
        · rcases List.mem_append.mp z with z | z
          · rcases set_sub z with z | z
            · exact List.mem_cons_of_mem _ (List.mem_append_left _ z)
            · exact List.mem_cons_of_mem _ (List.mem_append_right _ (z ▸ List.mem_cons_self))
          · exact List.mem_cons_of_mem _ (List.mem_append_right _ (List.mem_cons_of_mem _ z))
      exact a x hx
    · rw [gp, if_neg]
      · exact w.tp
      · intro z
        rw [← z, w.tp] at gl
        cases gl
    · show n0 ≤ min h.lo l
      have := hl.1
      omega
  · cases e4⟩
end
end Eng
/-! del d[k]; slices of rows; rows == []. -/
namespace Eng
open PySem L2
open Inj (inj)
open Row (rel)
instance {α β Γ : Type} [Inj α] [Row Γ] {i : Nat} {J : Inj β} [S : OSlot Γ i β J] : OSlot (On α × Γ) (i + 1) β J := {
  get := fun γ => S.get γ.2
  set := fun a γ => (γ.1, S.set a γ.2)
  rget := fun {γ s h A xs} ⟨x, s', e, r⟩ g => by
    subst e
    simp only [List.getElem?_cons_succ]
    split at r
    · exact S.rget r g
    · obtain ⟨l0, ls, A', e1, e2, e3, e4, r⟩ := r
      obtain ⟨l, hl, z⟩ := S.rget r g
      exact ⟨l, e1 ▸ List.mem_cons_of_mem _ (List.mem_append_right _ hl), z⟩
  rnew := fun {γ s h A ys h' l} ⟨x, s', e, r⟩ nd nl hl hk => by
    subst e
    split at r
    · rename_i q
      obtain ⟨A', r', z⟩ := S.rnew r nd nl hl hk
      exact ⟨A', ⟨x, _, rfl, by simp only [q]; exact r'⟩, z⟩
    · rename_i xss q
      obtain ⟨l0, ls, A0, e1, e2, e3, e4, r⟩ := r
      subst e1
      have nl0 : l ∉ l0 :: ls := fun z => nl (by rw [← List.cons_append]; exact List.mem_append_left _ z)
      rw [← List.cons_append] at nd
      obtain ⟨n1, n2, n3⟩ := List.nodup_append.mp nd
      have sub : ∀ m ∈ A0, m ∈ l0 :: (ls ++ A0) := fun m hm => List.mem_cons_of_mem _ (List.mem_append_right _ hm)
      obtain ⟨A2, r', z1, z2⟩ := S.rnew r n2 (fun z => nl (sub _ z)) hl fun m hm => hk m (sub m hm)
      refine ⟨l0 :: (ls ++ A2), ⟨x, _, rfl, by
        simp only [q]
        exact ⟨l0, ls, A2, rfl, e2, (hk l0 List.mem_cons_self).trans e3, e4.mono fun m hm => hk m (List.mem_cons_of_mem _ (List.mem_append_left _ hm)), r'⟩⟩, ?_, fun m hm => ?_⟩
      · rw [← List.cons_append]
        refine List.nodup_append.mpr ⟨n1, z1, fun a ha b hb z => ?_⟩
        rcases z2 b hb with w | w
        · exact nl0 (by rw [← w, ← z]; exact ha)
        · exact n3 a ha b w z
      · rcases List.mem_cons.mp hm with w | w
        · exact .inr (w ▸ List.mem_cons_self)
        · rcases List.mem_append.mp w with w | w
          · exact .inr (List.mem_cons_of_mem _ (List.mem_append_left _ w))
          · exact (z2 m w).elim .inl fun w => .inr (sub m w)
  rupd := fun {γ s h A xs ys h' l} ⟨x, s', e, r⟩ nd g hi hl hk => by
    subst e
    rw [List.getElem?_cons_succ] at hi
    split at r
    · rename_i q
      exact ⟨x, _, rfl, by simp only [q]; exact S.rupd r nd g hi hl hk⟩
    · rename_i xss q
      obtain ⟨l0, ls, A0, e1, e2, e3, e4, r⟩ := r
      subst e1
      rw [← List.cons_append] at nd
      obtain ⟨n1, n2, n3⟩ := List.nodup_append.mp nd
      obtain ⟨l2, hl2, z1, z2⟩ := S.rget r g
      rw [z1] at hi
      cases hi
      have ne : ∀ m ∈ l0 :: ls, m ≠ l := fun m hm z => n3 m hm l hl2 z
      refine ⟨x, _, rfl, by
        simp only [q]
        exact ⟨l0, ls, A0, rfl, e2, (hk l0 List.mem_cons_self (ne _ List.mem_cons_self)).trans e3, e4.mono fun m hm => hk m (List.mem_cons_of_mem _ (List.mem_append_left _ hm)) (ne m (List.mem_cons_of_mem _ hm)), S.rupd r n2 g z1 hl fun m hm => hk m (List.mem_cons_of_mem _ (List.mem_append_right _ hm))⟩⟩ }
section
variable {cf : Nat → List Val → Hs → T (Val × Hs)} {fu : Nat} {Γ ρ : Type} [Row Γ] [Inj ρ]
instance EC.cP1 {a b : Int} : EC cf Γ (.c (.tup [.tup [.int a, .int b]])) (Tp (Tu (Int × Int × Unit))) inferInstance (fun _ => .ok ⟨[⟨(a, b, ())⟩]⟩) := ⟨fun rg p => ⟨rfl, _, rfl, p⟩⟩
theorem dGet_someT {α : Type} [Inj α] (k : Int) : ∀ d : List (Int × α), (dGet (d.map fun x => KeyT.key x.1) (d.map fun x => inj x.2) (KeyT.key k)).isSome = (getD d k).isSome
  | [] => rfl
  | x :: d => by
    rw [List.map_cons, List.map_cons]
    unfold dGet getD
    have e := KeyT.eqb_ok x.1 k
    by_cases q : KeyT.key x.1 = KeyT.key k
    · rw [if_pos q]
      rw [decide_eq_true q] at e
      rw [e]
      rfl
    · rw [if_neg q]
      rw [decide_eq_false q] at e
      rw [e]
      exact dGet_someT k d
/-- del d[k] -/
instance XC.del {o : Nat} {ke : E} {α : Type} {Iα : Inj α} {g : Γ → T Int} [S : DSlot Γ o (Dc Int α) inferInstance] [E1 : EC cf Γ ke Int inferInstance g] : XC cf fu Γ ρ (.del (.v o) ke) (fun γ => (T.of (S.get γ)).bind fun d => (g γ).bind fun k => if (getD d.l k).isSome then .ok (.nx (S.set ⟨delD d.l k⟩ γ)) else .no) := ⟨fun {n0 γ s h P} rg p => by
  rw [T.all_bind] at p
  obtain ⟨d, e0, p⟩ := T.of_some' p
  obtain ⟨l, e1, e2, e3, kk⟩ := rg.updD S e0
  rw [q_del, q_v, e1, T.bind_ok]
  refine E1.bind (k := fun k => if (getD d.l k).isSome then (T.ok (Fw.nx (S.set ⟨delD d.l k⟩ γ)) : T (Fw Γ ρ)) else .no) rg p fun k p => ?_
  have e2' : h.get l = some (.dct false (d.l.map fun x => KeyT.key x.1) (d.l.map fun x => inj x.2)) := e2
  have wd : h.wd l = some (false, d.l.map fun x => KeyT.key x.1, d.l.map fun x => inj x.2) := by
    unfold Hs.wd
    simp only [e2', e3, Bool.false_eq_true, if_false]
  have ki : keyOf false (inj k) = some (KeyT.key k) := rfl
  split at p
  · rename_i q
    have st : delV (.ref l) (inj k) h = .ok (h.put l (Enc.enc (⟨delD d.l k⟩ : Dc Int α))) := by
      unfold delV
      have q2 : (dGet (d.l.map fun x => KeyT.key x.1) (d.l.map fun x => inj x.2) (KeyT.key k)).isSome = true := by rw [dGet_someT]; exact q
      simp only [wd, ki, q2, if_true]
      rw [dDrop_typed]
      rfl
    show ((delV (.ref l) (inj k) h).bind _).All _
    rw [st]
    exact ⟨_, kk _, p⟩
  · exact p.elim⟩
end
end Eng
namespace Eng.k75
open PySem L2 Eng
def topS (i : Nat) : Stmt := PySem.Challenge.pw_knotpapers_k75_whole_tables_of_circles.main.body.getD i (.Pass ⟨0, 0, 0, 0⟩)
abbrev s_gathered : Stmt := topS 1
abbrev s_plus : Stmt := topS 2
abbrev s_scaled : Stmt := topS 3
abbrev s_minus : Stmt := topS 4
abbrev s_times : Stmt := topS 5
abbrev s_divided : Stmt := topS 6
abbrev s_table_determinant : Stmt := topS 8
abbrev s_matchings : Stmt := topS 10
abbrev s_chebyshev : Stmt := topS 11
abbrev s_half_diagrams : Stmt := topS 12
abbrev s_circles_of : Stmt := topS 13
abbrev s_gram_table : Stmt := topS 14
abbrev s_choices : Stmt := topS 15
abbrev s_gram_determinant : Stmt := topS 16
abbrev s_determinant_of_gram : Stmt := topS 17
abbrev s__law_next : Stmt := topS 19
abbrev s__law_same : Stmt := topS 20
abbrev s__law_plus : Stmt := topS 21
abbrev s__law_times : Stmt := topS 22
abbrev s__law_power : Stmt := topS 23
abbrev s__law_determinant : Stmt := topS 24
abbrev s__law_choices : Stmt := topS 25
abbrev s__law_value : Stmt := topS 26
abbrev s_law : Stmt := topS 27
def gl : List (Str × Gk) := [(("gathered" : Str), .fn 0), (("plus" : Str), .fn 1), (("scaled" : Str), .fn 2), (("minus" : Str), .fn 3), (("times" : Str), .fn 4), (("divided" : Str), .fn 5), (("table_determinant" : Str), .fn 6), (("matchings" : Str), .fn 7), (("chebyshev" : Str), .fn 8), (("half_diagrams" : Str), .fn 9), (("circles_of" : Str), .fn 10), (("gram_table" : Str), .fn 11), (("choices" : Str), .fn 12), (("gram_determinant" : Str), .fn 13), (("determinant_of_gram" : Str), .fn 14), (("_law_next" : Str), .fn 15), (("_law_same" : Str), .fn 16), (("_law_plus" : Str), .fn 17), (("_law_times" : Str), .fn 18), (("_law_power" : Str), .fn 19), (("_law_determinant" : Str), .fn 20), (("_law_choices" : Str), .fn 21), (("_law_value" : Str), .fn 22), (("ONE" : Str), .con (.tup [.tup [.int (0), .int (1)]])), (("tuple" : Str), .blt), (("sorted" : Str), .blt), (("list" : Str), .blt), (("dict" : Str), .blt), (("len" : Str), .blt), (("max" : Str), .blt), (("int" : Str), .blt), (("min" : Str), .blt), (("range" : Str), .blt), (("abs" : Str), .blt), (("isinstance" : Str), .blt), (("bool" : Str), .blt), (("str" : Str), .blt)]
def mu : List (Nat × Nat) := [(39, 11), (39, 12), (49, 19), (59, 12), (62, 21), (70, 12), (72, 19), (72, 26), (78, 10), (181, 18), (171, 11)]
def N_gathered : List Str := [("terms" : Str), ("exponent" : Str)]
theorem sc_gathered : FnScope N_gathered [("terms" : Str)] (defScope s_gathered) := ⟨rfl, rfl, rfl, by decide +kernel, rfl, by decide +kernel, by decide +kernel⟩
def c_gathered : Option (List S) := cD ⟨N_gathered, defScope s_gathered, fun _ => true, gl, mu⟩ (defBody s_gathered)
def N_plus : List Str := [("first" : Str), ("second" : Str), ("terms" : Str), ("exponent" : Str), ("number" : Str)]
theorem sc_plus : FnScope N_plus [("first" : Str), ("second" : Str)] (defScope s_plus) := ⟨rfl, rfl, rfl, by decide +kernel, rfl, by decide +kernel, by decide +kernel⟩
def c_plus : Option (List S) := cD ⟨N_plus, defScope s_plus, fun _ => true, gl, mu⟩ (defBody s_plus)
def N_scaled : List Str := [("polynomial" : Str), ("number" : Str), ("exponent" : Str), ("one" : Str)]
theorem sc_scaled : FnScope N_scaled [("polynomial" : Str), ("number" : Str)] (defScope s_scaled) := ⟨rfl, rfl, rfl, by decide +kernel, rfl, by decide +kernel, by decide +kernel⟩
def c_scaled : Option (List S) := cD ⟨N_scaled, defScope s_scaled, fun _ => true, gl, mu⟩ (defBody s_scaled)
def N_minus : List Str := [("first" : Str), ("second" : Str)]
theorem sc_minus : FnScope N_minus [("first" : Str), ("second" : Str)] (defScope s_minus) := ⟨rfl, rfl, rfl, by decide +kernel, rfl, by decide +kernel, by decide +kernel⟩
def c_minus : Option (List S) := cD ⟨N_minus, defScope s_minus, fun _ => true, gl, mu⟩ (defBody s_minus)
def N_times : List Str := [("first" : Str), ("second" : Str), ("terms" : Str), ("exponent" : Str), ("number" : Str), ("other" : Str), ("many" : Str)]
theorem sc_times : FnScope N_times [("first" : Str), ("second" : Str)] (defScope s_times) := ⟨rfl, rfl, rfl, by decide +kernel, rfl, by decide +kernel, by decide +kernel⟩
def c_times : Option (List S) := cD ⟨N_times, defScope s_times, fun _ => true, gl, mu⟩ (defBody s_times)
def N_divided : List Str := [("first" : Str), ("second" : Str), ("terms" : Str), ("found" : Str), ("top" : Str), ("lead" : Str), ("exponent" : Str), ("number" : Str), ("other" : Str), ("many" : Str), ("place" : Str), ("rest" : Str)]
theorem sc_divided : FnScope N_divided [("first" : Str), ("second" : Str)] (defScope s_divided) := ⟨rfl, rfl, rfl, by decide +kernel, rfl, by decide +kernel, by decide +kernel⟩
def c_divided : Option (List S) := cD ⟨N_divided, defScope s_divided, fun _ => true, gl, mu⟩ (defBody s_divided)
def N_table_determinant : List Str := [("table" : Str), ("rows" : Str), ("sign" : Str), ("before" : Str), ("k" : Str), ("swap" : Str), ("j" : Str), ("line" : Str), ("m" : Str), ("row" : Str)]
theorem sc_table_determinant : FnScope N_table_determinant [("table" : Str)] (defScope s_table_determinant) := ⟨rfl, rfl, rfl, by decide +kernel, rfl, by decide +kernel, by decide +kernel⟩
def c_table_determinant : Option (List S) := cD ⟨N_table_determinant, defScope s_table_determinant, fun _ => true, gl, mu⟩ (defBody s_table_determinant)
def N_matchings : List Str := [("start" : Str), ("end" : Str), ("found" : Str), ("other" : Str), ("inner" : Str), ("outer" : Str)]
theorem sc_matchings : FnScope N_matchings [("start" : Str), ("end" : Str)] (defScope s_matchings) := ⟨rfl, rfl, rfl, by decide +kernel, rfl, by decide +kernel, by decide +kernel⟩
def c_matchings : Option (List S) := cD ⟨N_matchings, defScope s_matchings, fun _ => true, gl, mu⟩ (defBody s_matchings)
def N_chebyshev : List Str := [("many" : Str), ("before" : Str), ("now" : Str), ("_" : Str)]
theorem sc_chebyshev : FnScope N_chebyshev [("many" : Str)] (defScope s_chebyshev) := ⟨rfl, rfl, rfl, by decide +kernel, rfl, by decide +kernel, by decide +kernel⟩
def c_chebyshev : Option (List S) := cD ⟨N_chebyshev, defScope s_chebyshev, fun _ => true, gl, mu⟩ (defBody s_chebyshev)
def N_half_diagrams : List Str := [("many" : Str), ("found" : Str), ("row" : Str), ("partners" : Str), ("one" : Str), ("other" : Str)]
theorem sc_half_diagrams : FnScope N_half_diagrams [("many" : Str)] (defScope s_half_diagrams) := ⟨rfl, rfl, rfl, by decide +kernel, rfl, by decide +kernel, by decide +kernel⟩
def c_half_diagrams : Option (List S) := cD ⟨N_half_diagrams, defScope s_half_diagrams, fun _ => true, gl, mu⟩ (defBody s_half_diagrams)
def N_circles_of : List Str := [("first" : Str), ("second" : Str), ("met" : Str), ("circles" : Str), ("start" : Str), ("at" : Str)]
theorem sc_circles_of : FnScope N_circles_of [("first" : Str), ("second" : Str)] (defScope s_circles_of) := ⟨rfl, rfl, rfl, by decide +kernel, rfl, by decide +kernel, by decide +kernel⟩
def c_circles_of : Option (List S) := cD ⟨N_circles_of, defScope s_circles_of, fun _ => true, gl, mu⟩ (defBody s_circles_of)
def N_gram_table : List Str := [("many" : Str), ("rows" : Str), ("one" : Str), ("other" : Str)]
theorem sc_gram_table : FnScope N_gram_table [("many" : Str)] (defScope s_gram_table) := ⟨rfl, rfl, rfl, by decide +kernel, rfl, by decide +kernel, by decide +kernel⟩
def c_gram_table : Option (List S) := cD ⟨N_gram_table, defScope s_gram_table, fun _ => true, gl, mu⟩ (defBody s_gram_table)
def N_choices : List Str := [("total" : Str), ("some" : Str), ("found" : Str), ("k" : Str)]
theorem sc_choices : FnScope N_choices [("total" : Str), ("some" : Str)] (defScope s_choices) := ⟨rfl, rfl, rfl, by decide +kernel, rfl, by decide +kernel, by decide +kernel⟩
def c_choices : Option (List S) := cD ⟨N_choices, defScope s_choices, fun _ => true, gl, mu⟩ (defBody s_choices)
def N_gram_determinant : List Str := [("many" : Str), ("found" : Str), ("k" : Str), ("power" : Str), ("_" : Str)]
theorem sc_gram_determinant : FnScope N_gram_determinant [("many" : Str)] (defScope s_gram_determinant) := ⟨rfl, rfl, rfl, by decide +kernel, rfl, by decide +kernel, by decide +kernel⟩
def c_gram_determinant : Option (List S) := cD ⟨N_gram_determinant, defScope s_gram_determinant, fun _ => true, gl, mu⟩ (defBody s_gram_determinant)
def N_determinant_of_gram : List Str := [("many" : Str)]
theorem sc_determinant_of_gram : FnScope N_determinant_of_gram [("many" : Str)] (defScope s_determinant_of_gram) := ⟨rfl, rfl, rfl, by decide +kernel, rfl, by decide +kernel, by decide +kernel⟩
def c_determinant_of_gram : Option (List S) := cD ⟨N_determinant_of_gram, defScope s_determinant_of_gram, fun _ => true, gl, mu⟩ (defBody s_determinant_of_gram)
def N__law_next : List Str := [("tape" : Str), ("many" : Str), ("rest" : Str), ("cell" : Str)]
theorem sc__law_next : FnScope N__law_next [("tape" : Str), ("many" : Str)] (defScope s__law_next) := ⟨rfl, rfl, rfl, by decide +kernel, rfl, by decide +kernel, by decide +kernel⟩
def c__law_next : Option (List S) := cD ⟨N__law_next, defScope s__law_next, fun _ => true, gl, mu⟩ (defBody s__law_next)
def N__law_same : List Str := [("told" : Str), ("due" : Str), ("k" : Str)]
theorem sc__law_same : FnScope N__law_same [("told" : Str), ("due" : Str)] (defScope s__law_same) := ⟨rfl, rfl, rfl, by decide +kernel, rfl, by decide +kernel, by decide +kernel⟩
def c__law_same : Option (List S) := cD ⟨N__law_same, defScope s__law_same, fun _ => true, gl, mu⟩ (defBody s__law_same)
def N__law_plus : List Str := [("first" : Str), ("second" : Str), ("terms" : Str), ("exponent" : Str), ("number" : Str)]
theorem sc__law_plus : FnScope N__law_plus [("first" : Str), ("second" : Str)] (defScope s__law_plus) := ⟨rfl, rfl, rfl, by decide +kernel, rfl, by decide +kernel, by decide +kernel⟩
def c__law_plus : Option (List S) := cD ⟨N__law_plus, defScope s__law_plus, fun _ => true, gl, mu⟩ (defBody s__law_plus)
def N__law_times : List Str := [("first" : Str), ("second" : Str), ("found" : Str), ("exponent" : Str), ("number" : Str), ("other" : Str), ("many" : Str)]
theorem sc__law_times : FnScope N__law_times [("first" : Str), ("second" : Str)] (defScope s__law_times) := ⟨rfl, rfl, rfl, by decide +kernel, rfl, by decide +kernel, by decide +kernel⟩
def c__law_times : Option (List S) := cD ⟨N__law_times, defScope s__law_times, fun _ => true, gl, mu⟩ (defBody s__law_times)
def N__law_power : List Str := [("polynomial" : Str), ("many" : Str), ("found" : Str), ("turn" : Str)]
theorem sc__law_power : FnScope N__law_power [("polynomial" : Str), ("many" : Str)] (defScope s__law_power) := ⟨rfl, rfl, rfl, by decide +kernel, rfl, by decide +kernel, by decide +kernel⟩
def c__law_power : Option (List S) := cD ⟨N__law_power, defScope s__law_power, fun _ => true, gl, mu⟩ (defBody s__law_power)
def N__law_determinant : List Str := [("rows" : Str), ("total" : Str), ("k" : Str), ("part" : Str), ("row" : Str), ("exponent" : Str), ("number" : Str)]
theorem sc__law_determinant : FnScope N__law_determinant [("rows" : Str)] (defScope s__law_determinant) := ⟨rfl, rfl, rfl, by decide +kernel, rfl, by decide +kernel, by decide +kernel⟩
def c__law_determinant : Option (List S) := cD ⟨N__law_determinant, defScope s__law_determinant, fun _ => true, gl, mu⟩ (defBody s__law_determinant)
def N__law_choices : List Str := [("total" : Str), ("some" : Str), ("row" : Str), ("turn" : Str), ("k" : Str)]
theorem sc__law_choices : FnScope N__law_choices [("total" : Str), ("some" : Str)] (defScope s__law_choices) := ⟨rfl, rfl, rfl, by decide +kernel, rfl, by decide +kernel, by decide +kernel⟩
def c__law_choices : Option (List S) := cD ⟨N__law_choices, defScope s__law_choices, fun _ => true, gl, mu⟩ (defBody s__law_choices)
def N__law_value : List Str := [("polynomial" : Str), ("point" : Str), ("total" : Str), ("power" : Str), ("terms" : Str), ("exponent" : Str)]
theorem sc__law_value : FnScope N__law_value [("polynomial" : Str), ("point" : Str)] (defScope s__law_value) := ⟨rfl, rfl, rfl, by decide +kernel, rfl, by decide +kernel, by decide +kernel⟩
def c__law_value : Option (List S) := cD ⟨N__law_value, defScope s__law_value, fun _ => true, gl, mu⟩ (defBody s__law_value)
def N_law : List Str := [("script" : Str), ("tape" : Str), ("many" : Str), ("rows" : Str), ("due" : Str), ("told" : Str), ("product" : Str), ("polynomials" : Str), ("k" : Str), ("minus_v" : Str), ("power" : Str), ("point" : Str), ("before" : Str), ("now" : Str), ("turn" : Str), ("total" : Str), ("some" : Str), ("one" : Str), ("other" : Str), ("exponent" : Str), ("number" : Str)]
theorem sc_law : FnScope N_law [("script" : Str)] (defScope s_law) := ⟨rfl, rfl, rfl, by decide +kernel, rfl, by decide +kernel, by decide +kernel⟩
def c_law : Option (List S) := cD ⟨N_law, defScope s_law, fun _ => true, gl, mu⟩ (defBody s_law)
def b_gathered : List S := [(.ret (.bi .tuple false [(.lc false [1] (.nm 1) .val [(.bi .sorted false [(.bi .list false [(.v 0)])])] [(.cmp .ne (.sub (.v 0) (.v 1)) (.c (.int 0)))] (.tup [(.v 1), (.sub (.v 0) (.v 1))]))]))]
def b_plus : List S := [(.asg (.nm 2) (.dnew false)), (.for_ (.tp [(.nm 3), (.nm 4)]) .val [(.bin .add false (.v 0) (.v 1))] [(.asg (.sb (.v 2) (.v 3)) (.bin .add false (.dget (.v 2) (.v 3) (.c (.int 0))) (.v 4)))]), (.ret (.call 0 [(.v 2)]))]
def b_scaled : List S := [(.ret (.bi .tuple false [(.lc false [2, 3] (.tp [(.nm 2), (.nm 3)]) .val [(.v 0)] [(.cmp .ne (.v 1) (.c (.int 0)))] (.tup [(.v 2), (.bin .mul false (.v 3) (.v 1))]))]))]
def b_minus : List S := [(.ret (.call 1 [(.v 0), (.call 2 [(.v 1), (.neg (.c (.int 1)))])]))]
def b_times : List S := [(.asg (.nm 2) (.dnew false)), (.for_ (.tp [(.nm 3), (.nm 4)]) .val [(.v 0)] [(.for_ (.tp [(.nm 5), (.nm 6)]) .val [(.v 1)] [(.asg (.sb (.v 2) (.bin .add false (.v 3) (.v 5))) (.bin .add false (.dget (.v 2) (.bin .add false (.v 3) (.v 5)) (.c (.int 0))) (.bin .mul false (.v 4) (.v 6))))])]), (.ret (.call 0 [(.v 2)]))]
def b_divided : List S := [(.asg (.nm 2) (.bi .dict1 false [(.v 0)])), (.asg (.nm 3) (.dnew false)), (.asg (.tp [(.nm 4), (.nm 5)]) (.sub (.v 1) (.neg (.c (.int 1))))), (.whl (.cmp .gt (.bi .len false [(.v 2)]) (.c (.int 0))) [(.asg (.nm 6) (.bi .maxl false [(.bi .list false [(.v 2)])])), (.ite (.or (.cmp .ne (.bin .mod false (.bi .int false [(.sub (.v 2) (.v 6))]) (.v 5)) (.c (.int 0))) (.cmp .lt (.bin .sub false (.v 6) (.v 4)) (.bin .sub false (.bi .minl false [(.bi .list false [(.v 2)])]) (.sub (.sub (.v 1) (.c (.int 0))) (.c (.int 0)))))) [(.ret (.c .non))] []), (.asg (.nm 7) (.bin .fdiv false (.sub (.v 2) (.v 6)) (.v 5))), (.asg (.sb (.v 3) (.bin .sub false (.v 6) (.v 4))) (.v 7)), (.for_ (.tp [(.nm 8), (.nm 9)]) .val [(.v 1)] [(.asg (.nm 10) (.bin .add false (.bin .sub false (.v 6) (.v 4)) (.v 8))), (.asg (.nm 11) (.bin .sub false (.dget (.v 2) (.v 10) (.c (.int 0))) (.bin .mul false (.v 7) (.v 9)))), (.ite (.cmp .eq (.v 11) (.c (.int 0))) [(.del (.v 2) (.v 10))] [(.asg (.sb (.v 2) (.v 10)) (.v 11))])])]), (.ret (.call 0 [(.v 3)]))]
def b_table_determinant : List S := [(.asg (.nm 1) (.lc true [9] (.nm 9) .val [(.v 0)] [] (.bi .list true [(.v 9)]))), (.asg (.tp [(.nm 2), (.nm 3)]) (.tup [(.c (.int 1)), (.c (.tup [(.tup [(.int 0), (.int 1)])]))])), (.for_ (.nm 4) .rng [(.bi .len false [(.v 1)])] [(.asg (.nm 5) (.lc false [6] (.nm 6) .rng [(.v 4), (.bi .len false [(.v 1)])] [(.cmp .gt (.bi .len false [(.sub (.sub (.v 1) (.v 6)) (.v 4))]) (.c (.int 0)))] (.v 6))), (.ite (.cmp .eq (.bi .len false [(.v 5)]) (.c (.int 0))) [(.ret (.tup []))] []), (.ite (.cmp .ne (.sub (.v 5) (.c (.int 0))) (.v 4)) [(.asg (.tp [(.sb (.v 1) (.v 4)), (.sb (.v 1) (.sub (.v 5) (.c (.int 0))))]) (.tup [(.sub (.v 1) (.sub (.v 5) (.c (.int 0)))), (.sub (.v 1) (.v 4))])), (.asg (.nm 2) (.bin .sub false (.c (.int 0)) (.v 2)))] []), (.for_ (.nm 6) .rng [(.bin .add false (.v 4) (.c (.int 1))), (.bi .len false [(.v 1)])] [(.asg (.nm 7) (.lst true [])), (.for_ (.nm 8) .rng [(.bi .len false [(.v 1)])] [(.ex (.me (.v 7) .append [(.call 5 [(.call 3 [(.call 4 [(.sub (.sub (.v 1) (.v 6)) (.v 8)), (.sub (.sub (.v 1) (.v 4)) (.v 4))]), (.call 4 [(.sub (.sub (.v 1) (.v 6)) (.v 4)), (.sub (.sub (.v 1) (.v 4)) (.v 8))])]), (.v 3)])]))]), (.asg (.sb (.v 1) (.v 6)) (.v 7))]), (.asg (.nm 3) (.sub (.sub (.v 1) (.v 4)) (.v 4)))]), (.ret (.call 2 [(.v 3), (.v 2)]))]
def b_matchings : List S := [(.ite (.cmp .eq (.v 0) (.v 1)) [(.ret (.lst false [(.tup [])]))] []), (.asg (.nm 2) (.lst true [])), (.for_ (.nm 3) .rng [(.bin .add false (.v 0) (.c (.int 1))), (.v 1), (.c (.int 2))] [(.for_ (.nm 4) .val [(.call 7 [(.bin .add false (.v 0) (.c (.int 1))), (.v 3)])] [(.aug 2 .add (.lc true [5] (.nm 5) .val [(.call 7 [(.bin .add false (.v 3) (.c (.int 1))), (.v 1)])] [] (.bin .add false (.bin .add false (.tup [(.tup [(.v 0), (.v 3)])]) (.v 4)) (.v 5))))])]), (.ret (.v 2))]
def b_chebyshev : List S := [(.asg (.tp [(.nm 1), (.nm 2)]) (.tup [(.tup []), (.tup [(.tup [(.c (.int 0)), (.c (.int 1))])])])), (.for_ (.nm 3) .rng [(.v 0)] [(.asg (.tp [(.nm 1), (.nm 2)]) (.tup [(.v 2), (.call 3 [(.call 4 [(.tup [(.tup [(.c (.int 1)), (.c (.int 1))])]), (.v 2)]), (.v 1)])]))]), (.ret (.v 2))]
def b_half_diagrams : List S := [(.asg (.nm 1) (.lst true [])), (.for_ (.nm 2) .val [(.call 7 [(.c (.int 0)), (.bin .mul false (.c (.int 2)) (.v 0))])] [(.asg (.nm 3) (.bin .mul true (.lst true [(.c (.int 0))]) (.bin .mul true (.c (.int 2)) (.v 0)))), (.for_ (.tp [(.nm 4), (.nm 5)]) .val [(.v 2)] [(.asg (.tp [(.sb (.v 3) (.v 4)), (.sb (.v 3) (.v 5))]) (.tup [(.v 5), (.v 4)]))]), (.ex (.me (.v 1) .append [(.bi .tuple false [(.v 3)])]))]), (.ret (.bi .sorted false [(.v 1)]))]
def b_circles_of : List S := [(.asg (.nm 2) (.lst true [])), (.asg (.nm 3) (.c (.int 0))), (.for_ (.nm 4) .rng [(.bi .len false [(.v 0)])] [(.ite (.cmp .nmem (.v 4) (.v 2)) [(.aug 3 .add (.c (.int 1))), (.asg (.nm 5) (.v 4)), (.whl (.cmp .nmem (.v 5) (.v 2)) [(.ex (.me (.v 2) .append [(.v 5)])), (.ex (.me (.v 2) .append [(.sub (.v 0) (.v 5))])), (.asg (.nm 5) (.sub (.v 1) (.sub (.v 0) (.v 5))))])] [])]), (.ret (.v 3))]
def b_gram_table : List S := [(.asg (.nm 1) (.call 9 [(.v 0)])), (.ret (.lc false [2] (.nm 2) .val [(.v 1)] [] (.lc false [3] (.nm 3) .val [(.v 1)] [] (.tup [(.tup [(.call 10 [(.v 2), (.v 3)]), (.c (.int 1))])]))))]
def b_choices : List S := [(.ite (.or (.cmp .lt (.v 1) (.c (.int 0))) (.cmp .gt (.v 1) (.v 0))) [(.ret (.c (.int 0)))] []), (.asg (.nm 2) (.c (.int 1))), (.for_ (.nm 3) .rng [(.v 1)] [(.asg (.nm 2) (.bin .fdiv false (.bin .mul false (.v 2) (.bin .sub false (.v 0) (.v 3))) (.bin .add false (.v 3) (.c (.int 1)))))]), (.ret (.v 2))]
def b_gram_determinant : List S := [(.asg (.nm 1) (.tup [(.tup [(.c (.int 0)), (.c (.int 1))])])), (.for_ (.nm 2) .rng [(.c (.int 1)), (.bin .add false (.v 0) (.c (.int 1)))] [(.asg (.nm 3) (.bin .add false (.bin .sub false (.call 12 [(.bin .mul false (.c (.int 2)) (.v 0)), (.bin .sub false (.v 0) (.v 2))]) (.bin .mul false (.c (.int 2)) (.call 12 [(.bin .mul false (.c (.int 2)) (.v 0)), (.bin .sub false (.bin .sub false (.v 0) (.v 2)) (.c (.int 1)))]))) (.call 12 [(.bin .mul false (.c (.int 2)) (.v 0)), (.bin .sub false (.bin .sub false (.v 0) (.v 2)) (.c (.int 2)))]))), (.for_ (.nm 4) .rng [(.v 3)] [(.asg (.nm 1) (.call 4 [(.v 1), (.call 8 [(.v 2)])]))])]), (.ret (.v 1))]
def b_determinant_of_gram : List S := [(.ret (.call 6 [(.call 11 [(.v 0)])]))]
def b__law_next : List S := [(.asg (.nm 2) (.sub (.v 0) (.c (.int 2)))), (.ite (.cmp .eq (.v 2) (.c (.int 0))) [(.asg (.nm 3) (.c (.int 0))), (.ite (.cmp .lt (.sub (.v 0) (.c (.int 1))) (.bi .len false [(.sub (.v 0) (.c (.int 0)))])) [(.asg (.nm 3) (.bi .abs false [(.bi .int false [(.sub (.sub (.v 0) (.c (.int 0))) (.sub (.v 0) (.c (.int 1))))])])), (.asg (.sb (.v 0) (.c (.int 1))) (.bin .add false (.sub (.v 0) (.c (.int 1))) (.c (.int 1))))] []), (.asg (.nm 2) (.v 3)), (.ite (.cmp .lt (.v 3) (.bin .pow false (.c (.int 10)) (.c (.int 18)))) [(.asg (.sb (.v 0) (.c (.int 3))) (.bin .mod false (.bi .int false [(.bin .add false (.bin .add false (.bin .mul false (.sub (.v 0) (.c (.int 3))) (.c (.int 69621))) (.bin .mul false (.v 3) (.c (.int 40692)))) (.c (.int 17)))]) (.c (.int 2147483647)))), (.ret (.bin .mod false (.bin .mod false (.bi .int false [(.bin .mul false (.bi .int false [(.bin .fdiv false (.sub (.v 0) (.c (.int 3))) (.c (.int 5)))]) (.c (.int 48271)))]) (.c (.int 2147483647))) (.v 1)))] [])] []), (.asg (.sb (.v 0) (.c (.int 2))) (.bin .fdiv false (.v 2) (.v 1))), (.ret (.bin .mod false (.bi .int false [(.v 2)]) (.v 1)))]
def b__law_same : List S := [(.ite (.cmp .is (.v 1) (.c .non)) [(.ret (.cmp .is (.v 0) (.c .non)))] []), (.ite (.isi (.v 1) .bool) [(.ret (.and (.isi (.v 0) .bool) (.cmp .eq (.v 0) (.v 1))))] []), (.ite (.isi (.v 1) .int) [(.ret (.and (.isi (.v 0) .int) (.and (.not (.isi (.v 0) .bool)) (.cmp .eq (.v 0) (.v 1)))))] []), (.ite (.isi (.v 1) .str) [(.ret (.and (.isi (.v 0) .str) (.cmp .eq (.v 0) (.v 1))))] []), (.ite (.or (.and (.isi (.v 1) .list) (.not (.isi (.v 0) .list))) (.and (.isi (.v 1) .tuple) (.not (.isi (.v 0) .tuple)))) [(.ret (.c (.bl false)))] []), (.ret (.and (.cmp .eq (.bi .len false [(.v 0)]) (.bi .len false [(.v 1)])) (.cmp .eq (.lc false [2] (.nm 2) .rng [(.bi .len false [(.v 1)])] [(.not (.call 16 [(.sub (.v 0) (.v 2)), (.sub (.v 1) (.v 2))]))] (.c (.int 1))) (.lst false []))))]
def b__law_plus : List S := [(.asg (.nm 2) (.bi .dict1 false [(.v 0)])), (.for_ (.tp [(.nm 3), (.nm 4)]) .val [(.v 1)] [(.asg (.sb (.v 2) (.v 3)) (.bin .add false (.dget (.v 2) (.v 3) (.c (.int 0))) (.v 4)))]), (.ret (.bi .tuple false [(.lc false [3] (.nm 3) .val [(.bi .sorted false [(.v 2)])] [(.cmp .ne (.sub (.v 2) (.v 3)) (.c (.int 0)))] (.tup [(.v 3), (.sub (.v 2) (.v 3))]))]))]
def b__law_times : List S := [(.asg (.nm 2) (.tup [])), (.for_ (.tp [(.nm 3), (.nm 4)]) .val [(.v 0)] [(.asg (.nm 2) (.call 17 [(.v 2), (.bi .tuple false [(.lc false [5, 6] (.tp [(.nm 5), (.nm 6)]) .val [(.v 1)] [] (.tup [(.bin .add false (.v 3) (.v 5)), (.bin .mul false (.v 4) (.v 6))]))])]))]), (.ret (.v 2))]
def b__law_power : List S := [(.asg (.nm 2) (.tup [(.tup [(.c (.int 0)), (.c (.int 1))])])), (.for_ (.nm 3) .rng [(.v 1)] [(.asg (.nm 2) (.call 18 [(.v 2), (.v 0)]))]), (.ret (.v 2))]
def b__law_determinant : List S := [(.ite (.cmp .eq (.v 0) (.lst false [])) [(.ret (.tup [(.tup [(.c (.int 0)), (.c (.int 1))])]))] []), (.asg (.nm 1) (.tup [])), (.for_ (.nm 2) .rng [(.bi .len false [(.v 0)])] [(.asg (.nm 3) (.call 18 [(.sub (.sub (.v 0) (.c (.int 0))) (.v 2)), (.call 20 [(.lc false [4] (.nm 4) .val [(.slc false (.v 0) (some (.c (.int 1))) none)] [] (.bin .add false (.slc false (.v 4) none (some (.v 2))) (.slc false (.v 4) (some (.bin .add false (.v 2) (.c (.int 1)))) none)))])])), (.asg (.nm 1) (.call 17 [(.v 1), (.ite (.cmp .eq (.bin .mod false (.bi .int false [(.v 2)]) (.c (.int 2))) (.c (.int 0))) (.v 3) (.bi .tuple false [(.lc false [5, 6] (.tp [(.nm 5), (.nm 6)]) .val [(.v 3)] [] (.tup [(.v 5), (.bin .sub false (.c (.int 0)) (.v 6))]))]))]))]), (.ret (.v 1))]
def b__law_choices : List S := [(.ite (.or (.cmp .lt (.v 1) (.c (.int 0))) (.cmp .gt (.v 1) (.v 0))) [(.ret (.c (.int 0)))] []), (.asg (.nm 2) (.lst false [(.c (.int 1))])), (.for_ (.nm 3) .rng [(.v 0)] [(.asg (.nm 2) (.bin .add false (.bin .add false (.lst false [(.c (.int 1))]) (.lc false [4] (.nm 4) .rng [(.bin .sub false (.bi .len false [(.v 2)]) (.c (.int 1)))] [] (.bin .add false (.sub (.v 2) (.v 4)) (.sub (.v 2) (.bin .add false (.v 4) (.c (.int 1))))))) (.lst false [(.c (.int 1))])))]), (.ret (.sub (.v 2) (.v 1)))]
def b__law_value : List S := [(.asg (.tp [(.nm 2), (.nm 3)]) (.tup [(.c (.int 0)), (.c (.int 1))])), (.asg (.nm 4) (.bi .dict1 false [(.v 0)])), (.for_ (.nm 5) .rng [(.ite (.cmp .ne (.v 0) (.tup [])) (.bin .add false (.sub (.sub (.v 0) (.neg (.c (.int 1)))) (.c (.int 0))) (.c (.int 1))) (.c (.int 0)))] [(.asg (.tp [(.nm 2), (.nm 3)]) (.tup [(.bin .add false (.v 2) (.bin .mul false (.dget (.v 4) (.v 5) (.c (.int 0))) (.v 3))), (.bin .mul false (.v 3) (.v 1))]))]), (.ret (.v 2))]
def b_law : List S := [(.asg (.nm 1) (.lst true [(.bi .list false [(.v 0)]), (.c (.int 0)), (.c (.int 0)), (.c (.int 75))])), (.asg (.nm 2) (.bin .add false (.c (.int 1)) (.call 15 [(.v 1), (.c (.int 4))]))), (.asg (.nm 3) (.call 9 [(.v 2)])), (.asg (.nm 4) (.lc false [17] (.nm 17) .val [(.v 3)] [] (.lc false [18] (.nm 18) .val [(.v 3)] [] (.tup [(.tup [(.call 10 [(.v 17), (.v 18)]), (.c (.int 1))])])))), (.ite (.or (.not (.call 16 [(.call 11 [(.v 2)]), (.v 4)])) (.cmp .ne (.lc false [8] (.nm 8) .rng [(.bi .len false [(.v 3)])] [(.cmp .ne (.call 10 [(.sub (.v 3) (.v 8)), (.sub (.v 3) (.v 8))]) (.v 2))] (.v 8)) (.lst false []))) [(.ret (.c (.bl false)))] []), (.asg (.nm 5) (.call 13 [(.v 2)])), (.ite (.or (.not (.call 16 [(.call 14 [(.v 2)]), (.v 5)])) (.and (.cmp .lt (.v 2) (.c (.int 4))) (.not (.call 16 [(.v 5), (.call 20 [(.v 4)])])))) [(.ret (.c (.bl false)))] []), (.asg (.nm 6) (.tup [(.tup [(.c (.int 0)), (.c (.int 1))])])), (.asg (.nm 7) (.lst true [(.tup [(.tup [(.c (.int 0)), (.c (.int 1))])]), (.tup [(.tup [(.c (.int 1)), (.c (.int 1))])])])), (.for_ (.nm 8) .rng [(.c (.int 12))] [(.asg (.nm 9) (.bi .tuple false [(.lc false [19, 20] (.tp [(.nm 19), (.nm 20)]) .val [(.sub (.v 7) (.neg (.c (.int 2))))] [] (.tup [(.v 19), (.bin .sub false (.c (.int 0)) (.v 20))]))])), (.ex (.me (.v 7) .append [(.call 17 [(.call 18 [(.tup [(.tup [(.c (.int 1)), (.c (.int 1))])]), (.sub (.v 7) (.neg (.c (.int 1))))]), (.v 9)])]))]), (.for_ (.nm 8) .rng [(.c (.int 1)), (.bin .add false (.v 2) (.c (.int 1)))] [(.asg (.nm 10) (.bin .add false (.bin .sub false (.call 21 [(.bin .mul false (.c (.int 2)) (.v 2)), (.bin .sub false (.v 2) (.v 8))]) (.bin .mul false (.c (.int 2)) (.call 21 [(.bin .mul false (.c (.int 2)) (.v 2)), (.bin .sub false (.bin .sub false (.v 2) (.v 8)) (.c (.int 1)))]))) (.call 21 [(.bin .mul false (.c (.int 2)) (.v 2)), (.bin .sub false (.bin .sub false (.v 2) (.v 8)) (.c (.int 2)))]))), (.asg (.nm 6) (.call 18 [(.v 6), (.call 19 [(.sub (.v 7) (.v 8)), (.v 10)])]))]), (.ite (.not (.call 16 [(.v 5), (.v 6)])) [(.ret (.c (.bl false)))] []), (.asg (.tp [(.nm 8), (.nm 11)]) (.tup [(.call 15 [(.v 1), (.c (.int 13))]), (.bin .sub false (.call 15 [(.v 1), (.c (.int 9))]) (.c (.int 4)))])), (.asg (.tp [(.nm 12), (.nm 13)]) (.tup [(.c (.int 0)), (.c (.int 1))])), (.for_ (.nm 14) .rng [(.v 8)] [(.asg (.tp [(.nm 12), (.nm 13)]) (.tup [(.v 13), (.bin .sub false (.bin .mul false (.v 11) (.v 13)) (.v 12))]))]), (.asg (.tp [(.nm 15), (.nm 16)]) (.tup [(.call 15 [(.v 1), (.c (.int 21))]), (.bin .sub false (.call 15 [(.v 1), (.c (.int 25))]) (.c (.int 3)))])), (.ite (.not (.call 16 [(.lst false [(.call 8 [(.v 8)]), (.call 12 [(.v 15), (.v 16)])]), (.lst false [(.sub (.v 7) (.v 8)), (.call 21 [(.v 15), (.v 16)])])])) [(.ret (.c (.bl false)))] []), (.ret (.cmp .eq (.call 22 [(.call 8 [(.v 8)]), (.v 11)]) (.v 13)))]
def tab : List Fn := [.code 1 false 2 b_gathered true, .code 2 false 5 b_plus true, .code 2 false 4 b_scaled true, .code 2 false 2 b_minus true, .code 2 false 7 b_times true, .code 2 false 12 b_divided true, .code 1 false 10 b_table_determinant true, .code 2 false 6 b_matchings true, .code 1 false 4 b_chebyshev true, .code 1 false 6 b_half_diagrams true, .code 2 false 6 b_circles_of true, .code 1 false 4 b_gram_table true, .code 2 false 4 b_choices true, .code 1 false 5 b_gram_determinant true, .code 1 false 1 b_determinant_of_gram true, .next, .code 2 false 3 b__law_same true, .code 2 false 5 b__law_plus true, .code 2 false 7 b__law_times true, .code 2 false 4 b__law_power true, .code 1 false 7 b__law_determinant true, .code 2 false 5 b__law_choices true, .code 2 false 6 b__law_value true]
def fue : Nat := 1000
def dep : Nat := 60
theorem room : Room (dep + 1) PySem.callerA := ⟨rfl, by decide +kernel, by decide +kernel⟩
theorem cc_gathered : c_gathered = some b_gathered := rfl
theorem cc_plus : c_plus = some b_plus := rfl
theorem cc_scaled : c_scaled = some b_scaled := rfl
theorem cc_minus : c_minus = some b_minus := rfl
theorem cc_times : c_times = some b_times := rfl
theorem cc_divided : c_divided = some b_divided := rfl
theorem cc_table_determinant : c_table_determinant = some b_table_determinant := rfl
theorem cc_matchings : c_matchings = some b_matchings := rfl
theorem cc_chebyshev : c_chebyshev = some b_chebyshev := rfl
theorem cc_half_diagrams : c_half_diagrams = some b_half_diagrams := rfl
theorem cc_circles_of : c_circles_of = some b_circles_of := rfl
theorem cc_gram_table : c_gram_table = some b_gram_table := rfl
theorem cc_choices : c_choices = some b_choices := rfl
theorem cc_gram_determinant : c_gram_determinant = some b_gram_determinant := rfl
theorem cc_determinant_of_gram : c_determinant_of_gram = some b_determinant_of_gram := rfl
theorem cc__law_next : c__law_next = some b__law_next := rfl
theorem cc__law_same : c__law_same = some b__law_same := rfl
theorem cc__law_plus : c__law_plus = some b__law_plus := rfl
theorem cc__law_times : c__law_times = some b__law_times := rfl
theorem cc__law_power : c__law_power = some b__law_power := rfl
theorem cc__law_determinant : c__law_determinant = some b__law_determinant := rfl
theorem cc__law_choices : c__law_choices = some b__law_choices := rfl
theorem cc__law_value : c__law_value = some b__law_value := rfl
theorem cc_law : c_law = some b_law := rfl
theorem all_mk {l : PySem.W.OpenLaw} {w : World} {K : PySem.W.Frag} {h : Heap} {mg : Str → Option Value} {fa f0 f1 f2 f3 f4 f5 f6 f7 f8 f9 f10 f11 f12 f13 f14 f15 f16 f17 f18 f19 f20 f21 f22 f23 : Addr} (X : K.In h) (G : h.Ns mainGlobals mg) (hfa : mg "law" = some (.ref fa))
    {od0 an0 od1 an1 od2 an2 od3 an3 od4 an4 od5 an5 od6 an6 od7 an7 od8 an8 od9 an9 od10 an10 od11 an11 od12 an12 od13 an13 od14 an14 od15 an15 od16 an16 od17 an17 od18 an18 od19 an19 od20 an20 od21 an21 od22 an22 od23 an23 : Option Addr} {sl0 sl1 sl2 sl3 sl4 sl5 sl6 sl7 sl8 sl9 sl10 sl11 sl12 sl13 sl14 sl15 sl16 sl17 sl18 sl19 sl20 sl21 sl22 sl23 : Array (Option Value)} {oc0 kV0 dc0 pm0 cd0 ct0 oc1 kV1 dc1 pm1 cd1 ct1 oc2 kV2 dc2 pm2 cd2 ct2 oc3 kV3 dc3 pm3 cd3 ct3 oc4 kV4 dc4 pm4 cd4 ct4 oc5 kV5 dc5 pm5 cd5 ct5 oc6 kV6 dc6 pm6 cd6 ct6 oc7 kV7 dc7 pm7 cd7 ct7 oc8 kV8 dc8 pm8 cd8 ct8 oc9 kV9 dc9 pm9 cd9 ct9 oc10 kV10 dc10 pm10 cd10 ct10 oc11 kV11 dc11 pm11 cd11 ct11 oc12 kV12 dc12 pm12 cd12 ct12 oc13 kV13 dc13 pm13 cd13 ct13 oc14 kV14 dc14 pm14 cd14 ct14 oc15 kV15 dc15 pm15 cd15 ct15 oc16 kV16 dc16 pm16 cd16 ct16 oc17 kV17 dc17 pm17 cd17 ct17 oc18 kV18 dc18 pm18 cd18 ct18 oc19 kV19 dc19 pm19 cd19 ct19 oc20 kV20 dc20 pm20 cd20 ct20 oc21 kV21 dc21 pm21 cd21 ct21 oc22 kV22 dc22 pm22 cd22 ct22 oc23 kV23 dc23 pm23 cd23 ct23 : Value}
    {g_ONE : Addr}
    {n_ONE : Nat}
    {sl_ONE : Array (Option Value)}
    {tok_ONE_0_0 : Tok}
    {tok_ONE_0_1 : Tok}
    {g_ONE_0 : Addr}
    {n_ONE_0 : Nat}
    {sl_ONE_0 : Array (Option Value)}
    (a0 : PySem.W.nsIn K mainGlobals "gathered" = some (some (.ref f0))) (l0 : K.lookup f0 = some ⟨oc0, od0, .func (PySem.W.fnOf "gathered" "gathered" (defArgs s_gathered) (defBody s_gathered) (defScope s_gathered) .none kV0 dc0 pm0 an0 cd0 ct0), sl0⟩) (c0 : PySem.W.codeIn K cd0 "gathered" = true) (k0 : PySem.W.keepIn K (.ref f0) = true)
    (a1 : PySem.W.nsIn K mainGlobals "plus" = some (some (.ref f1))) (l1 : K.lookup f1 = some ⟨oc1, od1, .func (PySem.W.fnOf "plus" "plus" (defArgs s_plus) (defBody s_plus) (defScope s_plus) .none kV1 dc1 pm1 an1 cd1 ct1), sl1⟩) (c1 : PySem.W.codeIn K cd1 "plus" = true) (k1 : PySem.W.keepIn K (.ref f1) = true)
    (a2 : PySem.W.nsIn K mainGlobals "scaled" = some (some (.ref f2))) (l2 : K.lookup f2 = some ⟨oc2, od2, .func (PySem.W.fnOf "scaled" "scaled" (defArgs s_scaled) (defBody s_scaled) (defScope s_scaled) .none kV2 dc2 pm2 an2 cd2 ct2), sl2⟩) (c2 : PySem.W.codeIn K cd2 "scaled" = true) (k2 : PySem.W.keepIn K (.ref f2) = true)
    (a3 : PySem.W.nsIn K mainGlobals "minus" = some (some (.ref f3))) (l3 : K.lookup f3 = some ⟨oc3, od3, .func (PySem.W.fnOf "minus" "minus" (defArgs s_minus) (defBody s_minus) (defScope s_minus) .none kV3 dc3 pm3 an3 cd3 ct3), sl3⟩) (c3 : PySem.W.codeIn K cd3 "minus" = true) (k3 : PySem.W.keepIn K (.ref f3) = true)
    (a4 : PySem.W.nsIn K mainGlobals "times" = some (some (.ref f4))) (l4 : K.lookup f4 = some ⟨oc4, od4, .func (PySem.W.fnOf "times" "times" (defArgs s_times) (defBody s_times) (defScope s_times) .none kV4 dc4 pm4 an4 cd4 ct4), sl4⟩) (c4 : PySem.W.codeIn K cd4 "times" = true) (k4 : PySem.W.keepIn K (.ref f4) = true)
    (a5 : PySem.W.nsIn K mainGlobals "divided" = some (some (.ref f5))) (l5 : K.lookup f5 = some ⟨oc5, od5, .func (PySem.W.fnOf "divided" "divided" (defArgs s_divided) (defBody s_divided) (defScope s_divided) .none kV5 dc5 pm5 an5 cd5 ct5), sl5⟩) (c5 : PySem.W.codeIn K cd5 "divided" = true) (k5 : PySem.W.keepIn K (.ref f5) = true)
    (a6 : PySem.W.nsIn K mainGlobals "table_determinant" = some (some (.ref f6))) (l6 : K.lookup f6 = some ⟨oc6, od6, .func (PySem.W.fnOf "table_determinant" "table_determinant" (defArgs s_table_determinant) (defBody s_table_determinant) (defScope s_table_determinant) .none kV6 dc6 pm6 an6 cd6 ct6), sl6⟩) (c6 : PySem.W.codeIn K cd6 "table_determinant" = true) (k6 : PySem.W.keepIn K (.ref f6) = true)
    (a7 : PySem.W.nsIn K mainGlobals "matchings" = some (some (.ref f7))) (l7 : K.lookup f7 = some ⟨oc7, od7, .func (PySem.W.fnOf "matchings" "matchings" (defArgs s_matchings) (defBody s_matchings) (defScope s_matchings) .none kV7 dc7 pm7 an7 cd7 ct7), sl7⟩) (c7 : PySem.W.codeIn K cd7 "matchings" = true) (k7 : PySem.W.keepIn K (.ref f7) = true)
    (a8 : PySem.W.nsIn K mainGlobals "chebyshev" = some (some (.ref f8))) (l8 : K.lookup f8 = some ⟨oc8, od8, .func (PySem.W.fnOf "chebyshev" "chebyshev" (defArgs s_chebyshev) (defBody s_chebyshev) (defScope s_chebyshev) .none kV8 dc8 pm8 an8 cd8 ct8), sl8⟩) (c8 : PySem.W.codeIn K cd8 "chebyshev" = true) (k8 : PySem.W.keepIn K (.ref f8) = true)
    (a9 : PySem.W.nsIn K mainGlobals "half_diagrams" = some (some (.ref f9))) (l9 : K.lookup f9 = some ⟨oc9, od9, .func (PySem.W.fnOf "half_diagrams" "half_diagrams" (defArgs s_half_diagrams) (defBody s_half_diagrams) (defScope s_half_diagrams) .none kV9 dc9 pm9 an9 cd9 ct9), sl9⟩) (c9 : PySem.W.codeIn K cd9 "half_diagrams" = true) (k9 : PySem.W.keepIn K (.ref f9) = true)
    (a10 : PySem.W.nsIn K mainGlobals "circles_of" = some (some (.ref f10))) (l10 : K.lookup f10 = some ⟨oc10, od10, .func (PySem.W.fnOf "circles_of" "circles_of" (defArgs s_circles_of) (defBody s_circles_of) (defScope s_circles_of) .none kV10 dc10 pm10 an10 cd10 ct10), sl10⟩) (c10 : PySem.W.codeIn K cd10 "circles_of" = true) (k10 : PySem.W.keepIn K (.ref f10) = true)
    (a11 : PySem.W.nsIn K mainGlobals "gram_table" = some (some (.ref f11))) (l11 : K.lookup f11 = some ⟨oc11, od11, .func (PySem.W.fnOf "gram_table" "gram_table" (defArgs s_gram_table) (defBody s_gram_table) (defScope s_gram_table) .none kV11 dc11 pm11 an11 cd11 ct11), sl11⟩) (c11 : PySem.W.codeIn K cd11 "gram_table" = true) (k11 : PySem.W.keepIn K (.ref f11) = true)
    (a12 : PySem.W.nsIn K mainGlobals "choices" = some (some (.ref f12))) (l12 : K.lookup f12 = some ⟨oc12, od12, .func (PySem.W.fnOf "choices" "choices" (defArgs s_choices) (defBody s_choices) (defScope s_choices) .none kV12 dc12 pm12 an12 cd12 ct12), sl12⟩) (c12 : PySem.W.codeIn K cd12 "choices" = true) (k12 : PySem.W.keepIn K (.ref f12) = true)
    (a13 : PySem.W.nsIn K mainGlobals "gram_determinant" = some (some (.ref f13))) (l13 : K.lookup f13 = some ⟨oc13, od13, .func (PySem.W.fnOf "gram_determinant" "gram_determinant" (defArgs s_gram_determinant) (defBody s_gram_determinant) (defScope s_gram_determinant) .none kV13 dc13 pm13 an13 cd13 ct13), sl13⟩) (c13 : PySem.W.codeIn K cd13 "gram_determinant" = true) (k13 : PySem.W.keepIn K (.ref f13) = true)
    (a14 : PySem.W.nsIn K mainGlobals "determinant_of_gram" = some (some (.ref f14))) (l14 : K.lookup f14 = some ⟨oc14, od14, .func (PySem.W.fnOf "determinant_of_gram" "determinant_of_gram" (defArgs s_determinant_of_gram) (defBody s_determinant_of_gram) (defScope s_determinant_of_gram) .none kV14 dc14 pm14 an14 cd14 ct14), sl14⟩) (c14 : PySem.W.codeIn K cd14 "determinant_of_gram" = true) (k14 : PySem.W.keepIn K (.ref f14) = true)
    (a15 : PySem.W.nsIn K mainGlobals "_law_next" = some (some (.ref f15))) (l15 : K.lookup f15 = some ⟨oc15, od15, .func (PySem.W.fnOf "_law_next" "_law_next" (defArgs s__law_next) (defBody s__law_next) (defScope s__law_next) .none kV15 dc15 pm15 an15 cd15 ct15), sl15⟩) (c15 : PySem.W.codeIn K cd15 "_law_next" = true) (k15 : PySem.W.keepIn K (.ref f15) = true)
    (a16 : PySem.W.nsIn K mainGlobals "_law_same" = some (some (.ref f16))) (l16 : K.lookup f16 = some ⟨oc16, od16, .func (PySem.W.fnOf "_law_same" "_law_same" (defArgs s__law_same) (defBody s__law_same) (defScope s__law_same) .none kV16 dc16 pm16 an16 cd16 ct16), sl16⟩) (c16 : PySem.W.codeIn K cd16 "_law_same" = true) (k16 : PySem.W.keepIn K (.ref f16) = true)
    (a17 : PySem.W.nsIn K mainGlobals "_law_plus" = some (some (.ref f17))) (l17 : K.lookup f17 = some ⟨oc17, od17, .func (PySem.W.fnOf "_law_plus" "_law_plus" (defArgs s__law_plus) (defBody s__law_plus) (defScope s__law_plus) .none kV17 dc17 pm17 an17 cd17 ct17), sl17⟩) (c17 : PySem.W.codeIn K cd17 "_law_plus" = true) (k17 : PySem.W.keepIn K (.ref f17) = true)
    (a18 : PySem.W.nsIn K mainGlobals "_law_times" = some (some (.ref f18))) (l18 : K.lookup f18 = some ⟨oc18, od18, .func (PySem.W.fnOf "_law_times" "_law_times" (defArgs s__law_times) (defBody s__law_times) (defScope s__law_times) .none kV18 dc18 pm18 an18 cd18 ct18), sl18⟩) (c18 : PySem.W.codeIn K cd18 "_law_times" = true) (k18 : PySem.W.keepIn K (.ref f18) = true)
    (a19 : PySem.W.nsIn K mainGlobals "_law_power" = some (some (.ref f19))) (l19 : K.lookup f19 = some ⟨oc19, od19, .func (PySem.W.fnOf "_law_power" "_law_power" (defArgs s__law_power) (defBody s__law_power) (defScope s__law_power) .none kV19 dc19 pm19 an19 cd19 ct19), sl19⟩) (c19 : PySem.W.codeIn K cd19 "_law_power" = true) (k19 : PySem.W.keepIn K (.ref f19) = true)
    (a20 : PySem.W.nsIn K mainGlobals "_law_determinant" = some (some (.ref f20))) (l20 : K.lookup f20 = some ⟨oc20, od20, .func (PySem.W.fnOf "_law_determinant" "_law_determinant" (defArgs s__law_determinant) (defBody s__law_determinant) (defScope s__law_determinant) .none kV20 dc20 pm20 an20 cd20 ct20), sl20⟩) (c20 : PySem.W.codeIn K cd20 "_law_determinant" = true) (k20 : PySem.W.keepIn K (.ref f20) = true)
    (a21 : PySem.W.nsIn K mainGlobals "_law_choices" = some (some (.ref f21))) (l21 : K.lookup f21 = some ⟨oc21, od21, .func (PySem.W.fnOf "_law_choices" "_law_choices" (defArgs s__law_choices) (defBody s__law_choices) (defScope s__law_choices) .none kV21 dc21 pm21 an21 cd21 ct21), sl21⟩) (c21 : PySem.W.codeIn K cd21 "_law_choices" = true) (k21 : PySem.W.keepIn K (.ref f21) = true)
    (a22 : PySem.W.nsIn K mainGlobals "_law_value" = some (some (.ref f22))) (l22 : K.lookup f22 = some ⟨oc22, od22, .func (PySem.W.fnOf "_law_value" "_law_value" (defArgs s__law_value) (defBody s__law_value) (defScope s__law_value) .none kV22 dc22 pm22 an22 cd22 ct22), sl22⟩) (c22 : PySem.W.codeIn K cd22 "_law_value" = true) (k22 : PySem.W.keepIn K (.ref f22) = true)
    (a23 : PySem.W.nsIn K mainGlobals "law" = some (some (.ref f23))) (l23 : K.lookup f23 = some ⟨oc23, od23, .func (PySem.W.fnOf "law" "law" (defArgs s_law) (defBody s_law) (defScope s_law) .none kV23 dc23 pm23 an23 cd23 ct23), sl23⟩) (c23 : PySem.W.codeIn K cd23 "law" = true) (k23 : PySem.W.keepIn K (.ref f23) = true)
    (z0 : PySem.W.nsIn K mainGlobals "tuple" = some none)
    (z1 : PySem.W.nsIn K mainGlobals "sorted" = some none)
    (z2 : PySem.W.nsIn K mainGlobals "list" = some none)
    (z3 : PySem.W.nsIn K mainGlobals "dict" = some none)
    (z4 : PySem.W.nsIn K mainGlobals "len" = some none)
    (z5 : PySem.W.nsIn K mainGlobals "max" = some none)
    (z6 : PySem.W.nsIn K mainGlobals "int" = some none)
    (z7 : PySem.W.nsIn K mainGlobals "min" = some none)
    (z8 : PySem.W.nsIn K mainGlobals "range" = some none)
    (z9 : PySem.W.nsIn K mainGlobals "abs" = some none)
    (z10 : PySem.W.nsIn K mainGlobals "isinstance" = some none)
    (z11 : PySem.W.nsIn K mainGlobals "bool" = some none)
    (z12 : PySem.W.nsIn K mainGlobals "str" = some none)
    (x_ONE : PySem.W.nsIn K mainGlobals "ONE" = some (some (.ref g_ONE)))
    (y_ONE : K.lookup g_ONE = some ⟨.type "tuple", none, .seq #[.ref g_ONE_0] n_ONE, sl_ONE⟩)
    (y_ONE_0 : K.lookup g_ONE_0 = some ⟨.type "tuple", none, .seq #[.int (0) tok_ONE_0_0, .int (1) tok_ONE_0_1] n_ONE_0, sl_ONE_0⟩)
    : ∃ fd : FuncData, (∀ (s : Shared) (v : Value), BindsTo s fd ⟨[v], []⟩ [("script", v)]) ∧ ∀ base : Heap, K.In base → base.Ns mainGlobals mg → FnOk l.prog w K mg base CX0 (dep + 1) fa fd ["script"] (spL K (callN tab fue dep) fue N_law.length b_law) := by
  have e := hfa.symm.trans (PySem.W.mg_of X G a23)
  cases e
  have F0 := fun_mk (st := s_gathered) l0 c0 k0
  have F1 := fun_mk (st := s_plus) l1 c1 k1
  have F2 := fun_mk (st := s_scaled) l2 c2 k2
  have F3 := fun_mk (st := s_minus) l3 c3 k3
  have F4 := fun_mk (st := s_times) l4 c4 k4
  have F5 := fun_mk (st := s_divided) l5 c5 k5
  have F6 := fun_mk (st := s_table_determinant) l6 c6 k6
  have F7 := fun_mk (st := s_matchings) l7 c7 k7
  have F8 := fun_mk (st := s_chebyshev) l8 c8 k8
  have F9 := fun_mk (st := s_half_diagrams) l9 c9 k9
  have F10 := fun_mk (st := s_circles_of) l10 c10 k10
  have F11 := fun_mk (st := s_gram_table) l11 c11 k11
  have F12 := fun_mk (st := s_choices) l12 c12 k12
  have F13 := fun_mk (st := s_gram_determinant) l13 c13 k13
  have F14 := fun_mk (st := s_determinant_of_gram) l14 c14 k14
  have F15 := fun_mk (st := s__law_next) l15 c15 k15
  have F16 := fun_mk (st := s__law_same) l16 c16 k16
  have F17 := fun_mk (st := s__law_plus) l17 c17 k17
  have F18 := fun_mk (st := s__law_times) l18 c18 k18
  have F19 := fun_mk (st := s__law_power) l19 c19 k19
  have F20 := fun_mk (st := s__law_determinant) l20 c20 k20
  have F21 := fun_mk (st := s__law_choices) l21 c21 k21
  have F22 := fun_mk (st := s__law_value) l22 c22 k22
  have hE : EnvOk K mg gl [f0, f1, f2, f3, f4, f5, f6, f7, f8, f9, f10, f11, f12, f13, f14, f15, f16, f17, f18, f19, f20, f21, f22] := by
    refine ⟨fun x q => ?_, fun x v q => ?_, fun x i q => ?_⟩
    · have m := gl_mem q
      simp only [gl, List.mem_cons, List.not_mem_nil, or_false, Prod.mk.injEq, reduceCtorEq, and_false, and_true, false_or] at m
      rcases m with e | e | e | e | e | e | e | e | e | e | e | e | e
      · subst e; exact PySem.W.mg_none_of X G z0
      · subst e; exact PySem.W.mg_none_of X G z1
      · subst e; exact PySem.W.mg_none_of X G z2
      · subst e; exact PySem.W.mg_none_of X G z3
      · subst e; exact PySem.W.mg_none_of X G z4
      · subst e; exact PySem.W.mg_none_of X G z5
      · subst e; exact PySem.W.mg_none_of X G z6
      · subst e; exact PySem.W.mg_none_of X G z7
      · subst e; exact PySem.W.mg_none_of X G z8
      · subst e; exact PySem.W.mg_none_of X G z9
      · subst e; exact PySem.W.mg_none_of X G z10
      · subst e; exact PySem.W.mg_none_of X G z11
      · subst e; exact PySem.W.mg_none_of X G z12
    · have m := gl_mem q
      simp only [gl, List.mem_cons, List.not_mem_nil, or_false, false_or, Prod.mk.injEq, reduceCtorEq, and_false, Gk.con.injEq] at m
      rcases m with ⟨e, e2⟩
      · subst e e2; exact ⟨.ref g_ONE, .ref g_ONE, PySem.W.mg_of X G x_ONE, rfl, fun K2 al H ke => kt_rv (us := [.ref g_ONE_0]) ke rfl y_ONE (Nat.le_of_ble_eq_true rfl) (.cons rfl (.nil)) (.cons (kt_rv (us := [.int (0), .int (1)]) ke rfl y_ONE_0 (Nat.le_of_ble_eq_true rfl) (.cons ⟨_, rfl⟩ (.cons ⟨_, rfl⟩ (.nil))) (.cons (.int _) (.cons (.int _) (.nil)))) (.nil))⟩
    · have m := gl_mem q
      simp only [gl, List.mem_cons, List.not_mem_nil, or_false, Prod.mk.injEq, reduceCtorEq, and_false, Gk.fn.injEq] at m
      rcases m with ⟨e, e2⟩ | ⟨e, e2⟩ | ⟨e, e2⟩ | ⟨e, e2⟩ | ⟨e, e2⟩ | ⟨e, e2⟩ | ⟨e, e2⟩ | ⟨e, e2⟩ | ⟨e, e2⟩ | ⟨e, e2⟩ | ⟨e, e2⟩ | ⟨e, e2⟩ | ⟨e, e2⟩ | ⟨e, e2⟩ | ⟨e, e2⟩ | ⟨e, e2⟩ | ⟨e, e2⟩ | ⟨e, e2⟩ | ⟨e, e2⟩ | ⟨e, e2⟩ | ⟨e, e2⟩ | ⟨e, e2⟩ | ⟨e, e2⟩
      · subst e e2; exact ⟨f0, rfl, PySem.W.mg_of X G a0, k0⟩
      · subst e e2; exact ⟨f1, rfl, PySem.W.mg_of X G a1, k1⟩
      · subst e e2; exact ⟨f2, rfl, PySem.W.mg_of X G a2, k2⟩
      · subst e e2; exact ⟨f3, rfl, PySem.W.mg_of X G a3, k3⟩
      · subst e e2; exact ⟨f4, rfl, PySem.W.mg_of X G a4, k4⟩
      · subst e e2; exact ⟨f5, rfl, PySem.W.mg_of X G a5, k5⟩
      · subst e e2; exact ⟨f6, rfl, PySem.W.mg_of X G a6, k6⟩
      · subst e e2; exact ⟨f7, rfl, PySem.W.mg_of X G a7, k7⟩
      · subst e e2; exact ⟨f8, rfl, PySem.W.mg_of X G a8, k8⟩
      · subst e e2; exact ⟨f9, rfl, PySem.W.mg_of X G a9, k9⟩
      · subst e e2; exact ⟨f10, rfl, PySem.W.mg_of X G a10, k10⟩
      · subst e e2; exact ⟨f11, rfl, PySem.W.mg_of X G a11, k11⟩
      · subst e e2; exact ⟨f12, rfl, PySem.W.mg_of X G a12, k12⟩
      · subst e e2; exact ⟨f13, rfl, PySem.W.mg_of X G a13, k13⟩
      · subst e e2; exact ⟨f14, rfl, PySem.W.mg_of X G a14, k14⟩
      · subst e e2; exact ⟨f15, rfl, PySem.W.mg_of X G a15, k15⟩
      · subst e e2; exact ⟨f16, rfl, PySem.W.mg_of X G a16, k16⟩
      · subst e e2; exact ⟨f17, rfl, PySem.W.mg_of X G a17, k17⟩
      · subst e e2; exact ⟨f18, rfl, PySem.W.mg_of X G a18, k18⟩
      · subst e e2; exact ⟨f19, rfl, PySem.W.mg_of X G a19, k19⟩
      · subst e e2; exact ⟨f20, rfl, PySem.W.mg_of X G a20, k20⟩
      · subst e e2; exact ⟨f21, rfl, PySem.W.mg_of X G a21, k21⟩
      · subst e e2; exact ⟨f22, rfl, PySem.W.mg_of X G a22, k22⟩
  refine ⟨PySem.W.fnOf "law" "law" (defArgs s_law) (defBody s_law) (defScope s_law) .none kV23 dc23 pm23 an23 cd23 ct23, fun s v => .of_eq rfl, fun base _ _ => ?_⟩
  refine law_ok (adr := [f0, f1, f2, f3, f4, f5, f6, f7, f8, f9, f10, f11, f12, f13, f14, f15, f16, f17, f18, f19, f20, f21, f22]) dep hE (fun i f e => ?_) (fun_mk (st := s_law) l23 c23 k23) sc_law cc_law
  match i, e with
  | 0, e => cases e; exact ⟨_, rfl, ⟨⟨_, _, _, _, N_gathered, _, F0, sc_gathered, rfl, rfl, cc_gathered, fun _ _ _ _ _ _ us hl => match us, hl with | [_], _ => rfl⟩⟩⟩
  | 1, e => cases e; exact ⟨_, rfl, ⟨⟨_, _, _, _, N_plus, _, F1, sc_plus, rfl, rfl, cc_plus, fun _ _ _ _ _ _ us hl => match us, hl with | [_, _], _ => rfl⟩⟩⟩
  | 2, e => cases e; exact ⟨_, rfl, ⟨⟨_, _, _, _, N_scaled, _, F2, sc_scaled, rfl, rfl, cc_scaled, fun _ _ _ _ _ _ us hl => match us, hl with | [_, _], _ => rfl⟩⟩⟩
  | 3, e => cases e; exact ⟨_, rfl, ⟨⟨_, _, _, _, N_minus, _, F3, sc_minus, rfl, rfl, cc_minus, fun _ _ _ _ _ _ us hl => match us, hl with | [_, _], _ => rfl⟩⟩⟩
  | 4, e => cases e; exact ⟨_, rfl, ⟨⟨_, _, _, _, N_times, _, F4, sc_times, rfl, rfl, cc_times, fun _ _ _ _ _ _ us hl => match us, hl with | [_, _], _ => rfl⟩⟩⟩
  | 5, e => cases e; exact ⟨_, rfl, ⟨⟨_, _, _, _, N_divided, _, F5, sc_divided, rfl, rfl, cc_divided, fun _ _ _ _ _ _ us hl => match us, hl with | [_, _], _ => rfl⟩⟩⟩
  | 6, e => cases e; exact ⟨_, rfl, ⟨⟨_, _, _, _, N_table_determinant, _, F6, sc_table_determinant, rfl, rfl, cc_table_determinant, fun _ _ _ _ _ _ us hl => match us, hl with | [_], _ => rfl⟩⟩⟩
  | 7, e => cases e; exact ⟨_, rfl, ⟨⟨_, _, _, _, N_matchings, _, F7, sc_matchings, rfl, rfl, cc_matchings, fun _ _ _ _ _ _ us hl => match us, hl with | [_, _], _ => rfl⟩⟩⟩
  | 8, e => cases e; exact ⟨_, rfl, ⟨⟨_, _, _, _, N_chebyshev, _, F8, sc_chebyshev, rfl, rfl, cc_chebyshev, fun _ _ _ _ _ _ us hl => match us, hl with | [_], _ => rfl⟩⟩⟩
  | 9, e => cases e; exact ⟨_, rfl, ⟨⟨_, _, _, _, N_half_diagrams, _, F9, sc_half_diagrams, rfl, rfl, cc_half_diagrams, fun _ _ _ _ _ _ us hl => match us, hl with | [_], _ => rfl⟩⟩⟩
  | 10, e => cases e; exact ⟨_, rfl, ⟨⟨_, _, _, _, N_circles_of, _, F10, sc_circles_of, rfl, rfl, cc_circles_of, fun _ _ _ _ _ _ us hl => match us, hl with | [_, _], _ => rfl⟩⟩⟩
  | 11, e => cases e; exact ⟨_, rfl, ⟨⟨_, _, _, _, N_gram_table, _, F11, sc_gram_table, rfl, rfl, cc_gram_table, fun _ _ _ _ _ _ us hl => match us, hl with | [_], _ => rfl⟩⟩⟩
  | 12, e => cases e; exact ⟨_, rfl, ⟨⟨_, _, _, _, N_choices, _, F12, sc_choices, rfl, rfl, cc_choices, fun _ _ _ _ _ _ us hl => match us, hl with | [_, _], _ => rfl⟩⟩⟩
  | 13, e => cases e; exact ⟨_, rfl, ⟨⟨_, _, _, _, N_gram_determinant, _, F13, sc_gram_determinant, rfl, rfl, cc_gram_determinant, fun _ _ _ _ _ _ us hl => match us, hl with | [_], _ => rfl⟩⟩⟩
  | 14, e => cases e; exact ⟨_, rfl, ⟨⟨_, _, _, _, N_determinant_of_gram, _, F14, sc_determinant_of_gram, rfl, rfl, cc_determinant_of_gram, fun _ _ _ _ _ _ us hl => match us, hl with | [_], _ => rfl⟩⟩⟩
  | 15, e => cases e; exact ⟨_, rfl, prim_of hE (nN := 4) (np := 2) (body := nextB) ⟨⟨_, _, _, _, N__law_next, _, F15, sc__law_next, rfl, rfl, cc__law_next, fun _ _ _ _ _ _ us hl => match us, hl with | [_, _], _ => rfl⟩⟩ next_ok⟩
  | 16, e => cases e; exact ⟨_, rfl, ⟨⟨_, _, _, _, N__law_same, _, F16, sc__law_same, rfl, rfl, cc__law_same, fun _ _ _ _ _ _ us hl => match us, hl with | [_, _], _ => rfl⟩⟩⟩
  | 17, e => cases e; exact ⟨_, rfl, ⟨⟨_, _, _, _, N__law_plus, _, F17, sc__law_plus, rfl, rfl, cc__law_plus, fun _ _ _ _ _ _ us hl => match us, hl with | [_, _], _ => rfl⟩⟩⟩
  | 18, e => cases e; exact ⟨_, rfl, ⟨⟨_, _, _, _, N__law_times, _, F18, sc__law_times, rfl, rfl, cc__law_times, fun _ _ _ _ _ _ us hl => match us, hl with | [_, _], _ => rfl⟩⟩⟩
  | 19, e => cases e; exact ⟨_, rfl, ⟨⟨_, _, _, _, N__law_power, _, F19, sc__law_power, rfl, rfl, cc__law_power, fun _ _ _ _ _ _ us hl => match us, hl with | [_, _], _ => rfl⟩⟩⟩
  | 20, e => cases e; exact ⟨_, rfl, ⟨⟨_, _, _, _, N__law_determinant, _, F20, sc__law_determinant, rfl, rfl, cc__law_determinant, fun _ _ _ _ _ _ us hl => match us, hl with | [_], _ => rfl⟩⟩⟩
  | 21, e => cases e; exact ⟨_, rfl, ⟨⟨_, _, _, _, N__law_choices, _, F21, sc__law_choices, rfl, rfl, cc__law_choices, fun _ _ _ _ _ _ us hl => match us, hl with | [_, _], _ => rfl⟩⟩⟩
  | 22, e => cases e; exact ⟨_, rfl, ⟨⟨_, _, _, _, N__law_value, _, F22, sc__law_value, rfl, rfl, cc__law_value, fun _ _ _ _ _ _ us hl => match us, hl with | [_, _], _ => rfl⟩⟩⟩
  | i + 23, e => simp at e
end Eng.k75
set_option synthInstance.maxHeartbeats 4000000
set_option synthInstance.maxSize 100000
namespace Eng.k75
open PySem L2 Eng
abbrev OI := Option Int
abbrev P2 := Tu (Int × Int × Unit)
abbrev Po := Tp P2
abbrev G0 := Ld 0 × Option Int × Unit
abbrev R0 (B : Bo 0 (Dc Int Int)) : Row G0 := inferInstance
def s0 (c : Dc Int Int) : {f // ∀ (d a : Nat), @SC (callN tab fue (d + 0)) fue G0 (Po) (R0 ⟨a, c⟩) inferInstance b_gathered f} := ⟨_, fun d a => by
  delta b_gathered
  exact @SC.congr _ _ (R0 ⟨a, c⟩) _ _ _ _ _ _ inferInstance (by (try simp only [lcF_G, USlot.get, USlot.set, Slot.get, Slot.set, OSlot.get, OSlot.set, DSlot.get, DSlot.set, RSlot.get, NSlot.get, NSlot.set, Cv.cv, Pv.pv, HomC.l, T.bind_ok, T.of_some, id]); (try rfl))⟩
def ent0 (a : Unit) : G0 := (⟨⟩, none, ())
def F0 (a : Unit) (c : Dc Int Int) : T (Po) := ((s0 c).1 (ent0 a)).bind outF
instance {d : Nat} : FB (callN tab fue (d + 1)) 0 (Unit) inferInstance (Dc Int Int) inferInstance (Po) inferInstance F0 := fb_mk (st := ent0) R0 (fun B => (s0 B.c).2 d B.a) (fun B => (inferInstance : @EntB G0 _ _ _ (R0 B) _ B.a)) (fun _ => rfl) rfl (fun _ => rfl)
abbrev G1 := Option Po × Option Po × Od (Dc Int Int) × Option Int × Option Int × Unit
def s1 : {f // ∀ d, SC (callN tab fue (d + 1)) fue G1 (Po) b_plus f} := ⟨_, fun d => by
  delta b_plus
  exact SC.congr inferInstance (by (try simp only [lcF_G, USlot.get, USlot.set, Slot.get, Slot.set, OSlot.get, OSlot.set, DSlot.get, DSlot.set, RSlot.get, NSlot.get, NSlot.set, Cv.cv, Pv.pv, HomC.l, T.bind_ok, T.of_some, id]); (try rfl))⟩
def F1 (a : Po × Po × Unit) : T (Po) := (s1.1 (Ent.st a)).bind outF
instance {d : Nat} : FC (callN tab fue (d + 2)) 1 (Po × Po × Unit) inferInstance (Po) inferInstance F1 := fn_mk (s1.2 d) rfl (fun _ => rfl) rfl
abbrev G2 := Option Po × Option Int × Option Int × Option Int × Unit
def s2 : {f // ∀ d, SC (callN tab fue (d + 0)) fue G2 (Po) b_scaled f} := ⟨_, fun d => by
  delta b_scaled
  exact SC.congr inferInstance (by (try simp only [lcF_G, USlot.get, USlot.set, Slot.get, Slot.set, OSlot.get, OSlot.set, DSlot.get, DSlot.set, RSlot.get, NSlot.get, NSlot.set, Cv.cv, Pv.pv, HomC.l, T.bind_ok, T.of_some, id]); (try rfl))⟩
def F2 (a : Po × Int × Unit) : T (Po) := (s2.1 (Ent.st a)).bind outF
instance {d : Nat} : FC (callN tab fue (d + 1)) 2 (Po × Int × Unit) inferInstance (Po) inferInstance F2 := fn_mk (s2.2 d) rfl (fun _ => rfl) rfl
abbrev G3 := Option Po × Option Po × Unit
def s3 : {f // ∀ d, SC (callN tab fue (d + 2)) fue G3 (Po) b_minus f} := ⟨_, fun d => by
  delta b_minus
  exact SC.congr inferInstance (by (try simp only [lcF_G, USlot.get, USlot.set, Slot.get, Slot.set, OSlot.get, OSlot.set, DSlot.get, DSlot.set, RSlot.get, NSlot.get, NSlot.set, Cv.cv, Pv.pv, HomC.l, T.bind_ok, T.of_some, id]); (try rfl))⟩
def F3 (a : Po × Po × Unit) : T (Po) := (s3.1 (Ent.st a)).bind outF
instance {d : Nat} : FC (callN tab fue (d + 3)) 3 (Po × Po × Unit) inferInstance (Po) inferInstance F3 := fn_mk (s3.2 d) rfl (fun _ => rfl) rfl
abbrev G4 := Option Po × Option Po × Od (Dc Int Int) × Option Int × Option Int × Option Int × Option Int × Unit
def s4 : {f // ∀ d, SC (callN tab fue (d + 1)) fue G4 (Po) b_times f} := ⟨_, fun d => by
  delta b_times
  exact SC.congr inferInstance (by (try simp only [lcF_G, USlot.get, USlot.set, Slot.get, Slot.set, OSlot.get, OSlot.set, DSlot.get, DSlot.set, RSlot.get, NSlot.get, NSlot.set, Cv.cv, Pv.pv, HomC.l, T.bind_ok, T.of_some, id]); (try rfl))⟩
def F4 (a : Po × Po × Unit) : T (Po) := (s4.1 (Ent.st a)).bind outF
instance {d : Nat} : FC (callN tab fue (d + 2)) 4 (Po × Po × Unit) inferInstance (Po) inferInstance F4 := fn_mk (s4.2 d) rfl (fun _ => rfl) rfl
abbrev G5 := Option Po × Option Po × Od (Dc Int Int) × Od (Dc Int Int) × Option Int × Option Int × Option Int × Option Int × Option Int × Option Int × Option Int × Option Int × Unit
def s5 : {f // ∀ d, SC (callN tab fue (d + 1)) fue G5 (Option Po) b_divided f} := ⟨_, fun d => by
  delta b_divided
  exact SC.congr inferInstance (by (try simp only [lcF_G, USlot.get, USlot.set, Slot.get, Slot.set, OSlot.get, OSlot.set, DSlot.get, DSlot.set, RSlot.get, NSlot.get, NSlot.set, Cv.cv, Pv.pv, HomC.l, T.bind_ok, T.of_some, id]); (try rfl))⟩
def F5 (a : Po × Po × Unit) : T (Option Po) := (s5.1 (Ent.st a)).bind outF
instance {d : Nat} : FC (callN tab fue (d + 2)) 5 (Po × Po × Unit) inferInstance (Option Po) inferInstance F5 := fn_mk (s5.2 d) rfl (fun _ => rfl) rfl
abbrev G6 := Option (List (List Po)) × On (Option Po) × Option Int × Option Po × Option Int × Option (List Int) × Option Int × Ow (Option Po) × Option Int × Option (List Po) × Unit
def s6 : {f // ∀ d, SC (callN tab fue (d + 3)) fue G6 (Po) b_table_determinant f} := ⟨_, fun d => by
  delta b_table_determinant
  exact SC.congr inferInstance (by (try simp only [lcF_G, USlot.get, USlot.set, Slot.get, Slot.set, OSlot.get, OSlot.set, DSlot.get, DSlot.set, RSlot.get, NSlot.get, NSlot.set, Cv.cv, Pv.pv, HomC.l, T.bind_ok, T.of_some, id]); (try rfl))⟩
def F6 (a : List (List Po) × Unit) : T (Po) := (s6.1 (Ent.st a)).bind outF
instance {d : Nat} : FC (callN tab fue (d + 4)) 6 (List (List Po) × Unit) inferInstance (Po) inferInstance F6 := fn_mk (s6.2 d) rfl (fun _ => rfl) rfl
abbrev G7 := Option Int × Option Int × Ow Po × Option Int × Option Po × Option Po × Unit
def s7 (g : Int × Int × Unit → T (List Po)) : {f // ∀ d, FC (callN tab fue d) 7 (Int × Int × Unit) inferInstance (List Po) inferInstance g → SC (callN tab fue d) fue G7 (List Po) b_matchings f} := ⟨_, fun d _ => by
  delta b_matchings
  exact SC.congr inferInstance (by (try simp only [lcF_G, USlot.get, USlot.set, Slot.get, Slot.set, OSlot.get, OSlot.set, DSlot.get, DSlot.set, RSlot.get, NSlot.get, NSlot.set, Cv.cv, Pv.pv, HomC.l, T.bind_ok, T.of_some, id]); (try rfl))⟩
def F7 : Nat → Int × Int × Unit → T (List Po)
  | 0, _ => .no
  | d + 1, a => ((s7 (F7 d)).1 (Ent.st a)).bind outF
theorem F7_ok : ∀ d, FC (callN tab fue d) 7 (Int × Int × Unit) inferInstance (List Po) inferInstance (F7 d)
  | 0 => ⟨fun _ p => p.elim⟩
  | d + 1 => fn_mk ((s7 (F7 d)).2 d (F7_ok d)) rfl (fun _ => rfl) rfl
instance {d : Nat} : FC (callN tab fue d) 7 (Int × Int × Unit) inferInstance (List Po) inferInstance (F7 d) := F7_ok d
abbrev G8 := Option Int × Option Po × Option Po × Option Int × Unit
def s8 : {f // ∀ d, SC (callN tab fue (d + 3)) fue G8 (Po) b_chebyshev f} := ⟨_, fun d => by
  delta b_chebyshev
  exact SC.congr inferInstance (by (try simp only [lcF_G, USlot.get, USlot.set, Slot.get, Slot.set, OSlot.get, OSlot.set, DSlot.get, DSlot.set, RSlot.get, NSlot.get, NSlot.set, Cv.cv, Pv.pv, HomC.l, T.bind_ok, T.of_some, id]); (try rfl))⟩
def F8 (a : Int × Unit) : T (Po) := (s8.1 (Ent.st a)).bind outF
instance {d : Nat} : FC (callN tab fue (d + 4)) 8 (Int × Unit) inferInstance (Po) inferInstance F8 := fn_mk (s8.2 d) rfl (fun _ => rfl) rfl
abbrev G9 := Option Int × Ow (Tp Int) × Option Po × Ow Int × Option Int × Option Int × Unit
def s9 (d : Nat) : {f // SC (callN tab fue d) fue G9 (List (Tp Int)) b_half_diagrams f} := ⟨_, by
  delta b_half_diagrams
  exact SC.congr inferInstance (by (try simp only [lcF_G, USlot.get, USlot.set, Slot.get, Slot.set, OSlot.get, OSlot.set, DSlot.get, DSlot.set, RSlot.get, NSlot.get, NSlot.set, Cv.cv, Pv.pv, HomC.l, T.bind_ok, T.of_some, id]); (try rfl))⟩
def F9 (d : Nat) (a : Int × Unit) : T (List (Tp Int)) := ((s9 d).1 (Ent.st a)).bind outF
instance {d : Nat} : FC (callN tab fue (d + 1)) 9 (Int × Unit) inferInstance (List (Tp Int)) inferInstance (F9 d) := fn_mk (s9 d).2 rfl (fun _ => rfl) rfl
abbrev G10 := Option (Tp Int) × Option (Tp Int) × Ow Int × Option Int × Option Int × Option Int × Unit
def s10 : {f // ∀ d, SC (callN tab fue (d + 0)) fue G10 (Int) b_circles_of f} := ⟨_, fun d => by
  delta b_circles_of
  exact SC.congr inferInstance (by (try simp only [lcF_G, USlot.get, USlot.set, Slot.get, Slot.set, OSlot.get, OSlot.set, DSlot.get, DSlot.set, RSlot.get, NSlot.get, NSlot.set, Cv.cv, Pv.pv, HomC.l, T.bind_ok, T.of_some, id]); (try rfl))⟩
def F10 (a : Tp Int × Tp Int × Unit) : T (Int) := (s10.1 (Ent.st a)).bind outF
instance {d : Nat} : FC (callN tab fue (d + 1)) 10 (Tp Int × Tp Int × Unit) inferInstance (Int) inferInstance F10 := fn_mk (s10.2 d) rfl (fun _ => rfl) rfl
abbrev G12 := Option Int × Option Int × Option Int × Option Int × Unit
def s12 : {f // ∀ d, SC (callN tab fue (d + 0)) fue G12 (Int) b_choices f} := ⟨_, fun d => by
  delta b_choices
  exact SC.congr inferInstance (by (try simp only [lcF_G, USlot.get, USlot.set, Slot.get, Slot.set, OSlot.get, OSlot.set, DSlot.get, DSlot.set, RSlot.get, NSlot.get, NSlot.set, Cv.cv, Pv.pv, HomC.l, T.bind_ok, T.of_some, id]); (try rfl))⟩
def F12 (a : Int × Int × Unit) : T (Int) := (s12.1 (Ent.st a)).bind outF
instance {d : Nat} : FC (callN tab fue (d + 1)) 12 (Int × Int × Unit) inferInstance (Int) inferInstance F12 := fn_mk (s12.2 d) rfl (fun _ => rfl) rfl
abbrev G13 := Option Int × Option Po × Option Int × Option Int × Option Int × Unit
def s13 : {f // ∀ d, SC (callN tab fue (d + 4)) fue G13 (Po) b_gram_determinant f} := ⟨_, fun d => by
  delta b_gram_determinant
  exact SC.congr inferInstance (by (try simp only [lcF_G, USlot.get, USlot.set, Slot.get, Slot.set, OSlot.get, OSlot.set, DSlot.get, DSlot.set, RSlot.get, NSlot.get, NSlot.set, Cv.cv, Pv.pv, HomC.l, T.bind_ok, T.of_some, id]); (try rfl))⟩
def F13 (a : Int × Unit) : T (Po) := (s13.1 (Ent.st a)).bind outF
instance {d : Nat} : FC (callN tab fue (d + 5)) 13 (Int × Unit) inferInstance (Po) inferInstance F13 := fn_mk (s13.2 d) rfl (fun _ => rfl) rfl
def F15 (a : Tape × Int × Unit) : T Int := if decide (0 < a.2.1) && decide (a.2.1 ≤ 1000000000000000000) then .dr a.2.1.toNat fun i => .ok (i : Int) else .no
instance {d : Nat} : FC (callN tab fue (d + 1)) 15 (Tape × Int × Unit) inferInstance Int inferInstance F15 := next_mk rfl
abbrev G16 := Option Any × Option Any × Option Int × Unit
def s16 (g : Any × Any × Unit → T (Bool)) : {f // ∀ d, FC (callN tab fue d) 16 (Any × Any × Unit) inferInstance (Bool) inferInstance g → SC (callN tab fue d) fue G16 (Bool) b__law_same f} := ⟨_, fun d _ => by
  delta b__law_same
  exact SC.congr inferInstance (by (try simp only [lcF_G, USlot.get, USlot.set, Slot.get, Slot.set, OSlot.get, OSlot.set, DSlot.get, DSlot.set, RSlot.get, NSlot.get, NSlot.set, Cv.cv, Pv.pv, HomC.l, T.bind_ok, T.of_some, id]); (try rfl))⟩
def F16 : Nat → Any × Any × Unit → T (Bool)
  | 0, _ => .no
  | d + 1, a => ((s16 (F16 d)).1 (Ent.st a)).bind outF
theorem F16_ok : ∀ d, FC (callN tab fue d) 16 (Any × Any × Unit) inferInstance (Bool) inferInstance (F16 d)
  | 0 => ⟨fun _ p => p.elim⟩
  | d + 1 => fn_mk ((s16 (F16 d)).2 d (F16_ok d)) rfl (fun _ => rfl) rfl
instance {d : Nat} : FC (callN tab fue d) 16 (Any × Any × Unit) inferInstance (Bool) inferInstance (F16 d) := F16_ok d
abbrev G17 := Option Po × Option Po × Od (Dc Int Int) × Option Int × Option Int × Unit
def s17 : {f // ∀ d, SC (callN tab fue (d + 0)) fue G17 (Po) b__law_plus f} := ⟨_, fun d => by
  delta b__law_plus
  exact SC.congr inferInstance (by (try simp only [lcF_G, USlot.get, USlot.set, Slot.get, Slot.set, OSlot.get, OSlot.set, DSlot.get, DSlot.set, RSlot.get, NSlot.get, NSlot.set, Cv.cv, Pv.pv, HomC.l, T.bind_ok, T.of_some, id]); (try rfl))⟩
def F17 (a : Po × Po × Unit) : T (Po) := (s17.1 (Ent.st a)).bind outF
instance {d : Nat} : FC (callN tab fue (d + 1)) 17 (Po × Po × Unit) inferInstance (Po) inferInstance F17 := fn_mk (s17.2 d) rfl (fun _ => rfl) rfl
abbrev G18 := Option Po × Option Po × Option Po × Option Int × Option Int × Option Int × Option Int × Unit
def s18 : {f // ∀ d, SC (callN tab fue (d + 1)) fue G18 (Po) b__law_times f} := ⟨_, fun d => by
  delta b__law_times
  exact SC.congr inferInstance (by (try simp only [lcF_G, USlot.get, USlot.set, Slot.get, Slot.set, OSlot.get, OSlot.set, DSlot.get, DSlot.set, RSlot.get, NSlot.get, NSlot.set, Cv.cv, Pv.pv, HomC.l, T.bind_ok, T.of_some, id]); (try rfl))⟩
def F18 (a : Po × Po × Unit) : T (Po) := (s18.1 (Ent.st a)).bind outF
instance {d : Nat} : FC (callN tab fue (d + 2)) 18 (Po × Po × Unit) inferInstance (Po) inferInstance F18 := fn_mk (s18.2 d) rfl (fun _ => rfl) rfl
abbrev G19 := Option Po × Option Int × Option Po × Option Int × Unit
def s19 : {f // ∀ d, SC (callN tab fue (d + 2)) fue G19 (Po) b__law_power f} := ⟨_, fun d => by
  delta b__law_power
  exact SC.congr inferInstance (by (try simp only [lcF_G, USlot.get, USlot.set, Slot.get, Slot.set, OSlot.get, OSlot.set, DSlot.get, DSlot.set, RSlot.get, NSlot.get, NSlot.set, Cv.cv, Pv.pv, HomC.l, T.bind_ok, T.of_some, id]); (try rfl))⟩
def F19 (a : Po × Int × Unit) : T (Po) := (s19.1 (Ent.st a)).bind outF
instance {d : Nat} : FC (callN tab fue (d + 3)) 19 (Po × Int × Unit) inferInstance (Po) inferInstance F19 := fn_mk (s19.2 d) rfl (fun _ => rfl) rfl
abbrev G20 := Option (List (List Po)) × Option Po × Option Int × Option Po × Option (List Po) × Option Int × Option Int × Unit
def s20 (g : List (List Po) × Unit → T (Po)) : {f // ∀ d, FC (callN tab fue (d + 2)) 20 (List (List Po) × Unit) inferInstance (Po) inferInstance g → SC (callN tab fue (d + 2)) fue G20 (Po) b__law_determinant f} := ⟨_, fun d _ => by
  delta b__law_determinant
  exact SC.congr inferInstance (by (try simp only [lcF_G, USlot.get, USlot.set, Slot.get, Slot.set, OSlot.get, OSlot.set, DSlot.get, DSlot.set, RSlot.get, NSlot.get, NSlot.set, Cv.cv, Pv.pv, HomC.l, T.bind_ok, T.of_some, id]); (try rfl))⟩
def F20 : Nat → List (List Po) × Unit → T (Po)
  | 0, _ => .no
  | d + 1, a => ((s20 (F20 d)).1 (Ent.st a)).bind outF
theorem F20_ok : ∀ d, FC (callN tab fue (d + 2)) 20 (List (List Po) × Unit) inferInstance (Po) inferInstance (F20 d)
  | 0 => ⟨fun _ p => p.elim⟩
  | d + 1 => fn_mk ((s20 (F20 d)).2 d (F20_ok d)) rfl (fun _ => rfl) rfl
instance {d : Nat} : FC (callN tab fue (d + 2)) 20 (List (List Po) × Unit) inferInstance (Po) inferInstance (F20 d) := F20_ok d
abbrev G21 := Option Int × Option Int × Option (List Int) × Option Int × Option Int × Unit
def s21 : {f // ∀ d, SC (callN tab fue (d + 0)) fue G21 (Int) b__law_choices f} := ⟨_, fun d => by
  delta b__law_choices
  exact SC.congr inferInstance (by (try simp only [lcF_G, USlot.get, USlot.set, Slot.get, Slot.set, OSlot.get, OSlot.set, DSlot.get, DSlot.set, RSlot.get, NSlot.get, NSlot.set, Cv.cv, Pv.pv, HomC.l, T.bind_ok, T.of_some, id]); (try rfl))⟩
def F21 (a : Int × Int × Unit) : T (Int) := (s21.1 (Ent.st a)).bind outF
instance {d : Nat} : FC (callN tab fue (d + 1)) 21 (Int × Int × Unit) inferInstance (Int) inferInstance F21 := fn_mk (s21.2 d) rfl (fun _ => rfl) rfl
abbrev G22 := Option Po × Option Int × Option Int × Option Int × Od (Dc Int Int) × Option Int × Unit
def s22 : {f // ∀ d, SC (callN tab fue (d + 0)) fue G22 (Int) b__law_value f} := ⟨_, fun d => by
  delta b__law_value
  exact SC.congr inferInstance (by (try simp only [lcF_G, USlot.get, USlot.set, Slot.get, Slot.set, OSlot.get, OSlot.set, DSlot.get, DSlot.set, RSlot.get, NSlot.get, NSlot.set, Cv.cv, Pv.pv, HomC.l, T.bind_ok, T.of_some, id]); (try rfl))⟩
def F22 (a : Po × Int × Unit) : T (Int) := (s22.1 (Ent.st a)).bind outF
instance {d : Nat} : FC (callN tab fue (d + 1)) 22 (Po × Int × Unit) inferInstance (Int) inferInstance F22 := fn_mk (s22.2 d) rfl (fun _ => rfl) rfl
abbrev G11 := Option Int × Option (List (Tp Int)) × Option (Tp Int) × Option (Tp Int) × Unit
def s11 (d : Nat) : {f // SC (callN tab fue (d + 1)) fue G11 (List (List Po)) b_gram_table f} := ⟨_, by
  delta b_gram_table
  exact SC.congr inferInstance rfl⟩
def F11 (d : Nat) (a : Int × Unit) : T (List (List Po)) := ((s11 d).1 (Ent.st a)).bind outF
instance {d : Nat} : FC (callN tab fue (d + 2)) 11 (Int × Unit) inferInstance (List (List Po)) inferInstance (F11 d) := fn_mk (s11 d).2 rfl (fun _ => rfl) rfl
abbrev G14 := Option Int × Unit
def s14 (d : Nat) : {f // SC (callN tab fue (d + 4)) fue G14 (Po) b_determinant_of_gram f} := ⟨_, by
  delta b_determinant_of_gram
  exact SC.congr inferInstance (by (try simp only [lcF_G, USlot.get, USlot.set, Slot.get, Slot.set, OSlot.get, OSlot.set, DSlot.get, DSlot.set, RSlot.get, NSlot.get, NSlot.set, Cv.cv, Pv.pv, HomC.l, T.bind_ok, T.of_some, id]); (try rfl))⟩
def F14 (d : Nat) (a : Int × Unit) : T (Po) := ((s14 d).1 (Ent.st a)).bind outF
instance {d : Nat} : FC (callN tab fue (d + 5)) 14 (Int × Unit) inferInstance (Po) inferInstance (F14 d) := fn_mk (s14 d).2 rfl (fun _ => rfl) rfl
end Eng.k75
/-! General lemmas (from k05). -/
namespace Eng
open PySem L2
open Inj (inj)
theorem bo {A B : Type} {a : A} {f : A → T B} : (T.ok a).bind f = f a := by
  have : ∀ t : T A, t = .ok a → t.bind f = f a := fun t e => by subst e; rfl
  exact this _ rfl
theorem ofs {A : Type} {a : A} : T.of (some a) = .ok a := by
  have : ∀ t : Option A, t = some a → T.of t = .ok a := fun t e => by subst e; rfl
  exact this _ rfl
theorem bindOk {A B : Type} {t : T A} {f : A → T B} {a : A} {v : T B} (e : t = .ok a) (k : f a = v) : t.bind f = v := by
  rw [e, bo, k]
theorem bindEx {A B R : Type} {t : T A} {f : A → T B} {g : R → A} {v : T B} (e : ∃ r, t = .ok (g r)) (k : ∀ r, f (g r) = v) : t.bind f = v := by
  obtain ⟨r, e⟩ := e
  rw [e, bo, k]
theorem bindE2 {A B R C : Type} {t : T A} {f : A → T B} {g : R → A} {h : C → B} (e : ∃ r, t = .ok (g r)) (k : ∀ r, ∃ c, f (g r) = .ok (h c)) : ∃ c, t.bind f = .ok (h c) := by
  obtain ⟨r, e⟩ := e
  obtain ⟨c, k⟩ := k r
  exact ⟨c, by rw [e, bo, k]⟩
/-- a loop that folds -/
theorem for_fold {Γ ρ α β R : Type} {st : α → Γ → Γ} {body : Γ → T (Fw Γ ρ)} {mk : β → R → Γ} {f : β → α → β} {ok : β → List α → Prop}
    (hb : ∀ a xs b r, ok b (a :: xs) → ∃ r', body (st a (mk b r)) = .ok (.nx (mk (f b a) r'))) (hok : ∀ a xs b, ok b (a :: xs) → ok (f b a) xs) :
    ∀ (xs : List α) (b : β) (r : R), ok b xs → ∃ r', forF st body xs (mk b r) = .ok (.nx (mk (xs.foldl f b) r'))
  | [], b, r, _ => ⟨r, rfl⟩
  | a :: xs, b, r, h => by
    obtain ⟨r1, e1⟩ := hb a xs b r h
    obtain ⟨r2, e2⟩ := for_fold hb hok xs (f b a) r1 (hok a xs b h)
    refine ⟨r2, ?_⟩
    unfold forF
    rw [e1, bo]
    exact e2
theorem lcG_all {α β : Type} {e : α → T β} {g : α → β} : ∀ {xs : List α}, (∀ x ∈ xs, e x = .ok (g x)) → lcG (fun _ => T.ok true) e xs = .ok (xs.map g)
  | [], _ => rfl
  | x :: xs, h => by
    unfold lcG
    rw [bo]
    simp only
    rw [h x List.mem_cons_self, bo, lcG_all fun y m => h y (List.mem_cons_of_mem _ m), bo]
    rfl
theorem smL {n : Nat} (h : n ≤ 1000000) : small n = true := by
  unfold small
  exact Nat.ble_eq.mpr (by omega)
theorem getI_last {α : Type} {xs : List α} {z : α} : getI (xs ++ [z]) (-1) = some z := by
  unfold getI ixI
  have h1 : decide ((0 : Int) ≤ -1) = false := by decide
  have h2 : decide (-(((xs ++ [z]).length : Nat) : Int) ≤ -1) = true := by
    rw [decide_eq_true_eq, List.length_append]
    simp
    omega
  simp only [h1, h2, Bool.false_eq_true, if_false, if_true]
  have : (-1 + (((xs ++ [z]).length : Nat) : Int)).toNat = xs.length := by
    rw [List.length_append]
    simp
    omega
  rw [this]
  simp
theorem getD_put {α : Type} (d : List (Int × α)) (k : Int) (v : α) (j : Int) : getD (putD d k v) j = if k = j then some v else getD d j := by
  have key : ∀ d : List (Int × α), getD (d ++ [(k, v)]) j = match getD d j with
      | some x => some x
      | none => if k = j then some v else none := by
    intro d
    induction d with
    | nil =>
      show (match decide (k = j) with | true => some v | false => none) = _
      by_cases h : k = j <;> simp [h, getD]
    | cons x d ih =>
      show (match decide (x.1 = j) with | true => some x.2 | false => getD (d ++ [(k, v)]) j) = match (match decide (x.1 = j) with | true => some x.2 | false => getD d j) with | some x => some x | none => if k = j then some v else none
      by_cases h : x.1 = j
      · simp [h]
      · simp only [decide_eq_false h, ih]
  have rep : ∀ d : List (Int × α), (d.any fun x => decide (x.1 = k)) = true → getD (d.map fun x => match decide (x.1 = k) with | true => (x.1, v) | false => x) j = if k = j then some v else getD d j := by
    intro d
    induction d with
    | nil => intro h; cases h
    | cons x d ih =>
      intro h
      rw [List.map_cons]
      show (match decide ((match decide (x.1 = k) with | true => (x.1, v) | false => x).1 = j) with | true => some (match decide (x.1 = k) with | true => (x.1, v) | false => x).2 | false => getD (d.map _) j) = if k = j then some v else match decide (x.1 = j) with | true => some x.2 | false => getD d j
      by_cases q : x.1 = k
      · simp only [decide_eq_true q]
        by_cases w : x.1 = j
        · have : k = j := q ▸ w
          simp only [decide_eq_true w, this, if_true]
        · have nj : ¬ k = j := fun z => w (q.trans z)
          simp only [decide_eq_false w, if_neg nj]
          by_cases a : (d.any fun x => decide (x.1 = k)) = true
          · rw [ih a, if_neg nj]
          · have : ∀ x ∈ d, x.1 ≠ k := fun x hx e => a (List.any_eq_true.mpr ⟨x, hx, decide_eq_true e⟩)
            congr 1
            rw [List.map_congr_left (g := id) fun x hx => by simp only [decide_eq_false (this x hx), id], List.map_id]
      · simp only [decide_eq_false q]
        have a : (d.any fun x => decide (x.1 = k)) = true := by
          rw [List.any_cons, decide_eq_false q, Bool.false_or] at h
          exact h
        by_cases w : x.1 = j
        · have nj : ¬ k = j := fun z => q (w.trans z.symm)
          simp only [decide_eq_true w, if_neg nj]
        · simp only [decide_eq_false w]
          exact ih a
  unfold putD
  show getD (match d.any fun x => decide (x.1 = k) with
    | true => d.map fun x => match decide (x.1 = k) with | true => (x.1, v) | false => x
    | false => d ++ [(k, v)]) j = _
  cases a : d.any fun x => decide (x.1 = k) with
  | true => exact rep d a
  | false =>
    show getD (d ++ [(k, v)]) j = _
    rw [key]
    by_cases h : k = j
    · subst h
      have : getD d k = none := by
        clear key rep
        induction d with
        | nil => rfl
        | cons x d ih =>
          rw [List.any_cons, Bool.or_eq_false_iff] at a
          show (match decide (x.1 = k) with | true => some x.2 | false => getD d k) = none
          rw [a.1]
          exact ih a.2
      rw [this]
    · rw [if_neg h, if_neg h]
      cases getD d j <;> rfl
theorem putD_len {α : Type} (d : List (Int × α)) (k : Int) (v : α) : (putD d k v).length ≤ d.length + 1 := by
  unfold putD
  split
  · rw [List.length_map]; omega
  · rw [List.length_append]; simp
theorem rngI_mem : ∀ {n : Nat} {lo x : Int}, x ∈ rngI lo n → lo ≤ x ∧ x < lo + n
  | 0, lo, x, m => by cases m
  | n + 1, lo, x, m => by
    unfold rngI at m
    rcases List.mem_cons.mp m with e | m
    · subst e; omega
    · have := rngI_mem m
      omega
theorem rngI_in : ∀ {n : Nat} {lo x : Int}, lo ≤ x → x < lo + n → x ∈ rngI lo n
  | 0, lo, x, h1, h2 => by omega
  | n + 1, lo, x, h1, h2 => by
    unfold rngI
    by_cases q : x = lo
    · subst q; exact List.mem_cons_self
    · exact List.mem_cons_of_mem _ (rngI_in (by omega) (by omega))
theorem rngI_len : ∀ {n : Nat} {lo : Int}, (rngI lo n).length = n
  | 0, lo => rfl
  | n + 1, lo => by
    unfold rngI
    rw [List.length_cons, rngI_len]
theorem rg2_1 {n : Nat} (h : n ≤ 1000) : rg2 1 ((n : Int) + 1) = some (rngI 1 n) := by
  unfold rg2
  have : (bd62 1 && bd62 ((n : Int) + 1) && decide ((n : Int) + 1 - 1 ≤ 1000000)) = true := by
    unfold bd62
    simp
    omega
  rw [this, if_pos rfl, show ((n : Int) + 1 - 1).toNat = n by omega]
def foldO {α β : Type} (step : β → α → Option β) : List α → β → Option β
  | [], b => some b
  | a :: xs, b => match step b a with
    | some b => foldO step xs b
    | none => none
theorem for_opt {Γ ρ α β R : Type} {st : α → Γ → Γ} {body : Γ → T (Fw Γ ρ)} {mk : β → R → Γ} {step : β → α → Option β}
    (hb : ∀ a b b' r, step b a = some b' → ∃ r', body (st a (mk b r)) = .ok (.nx (mk b' r'))) :
    ∀ (xs : List α) (b b' : β) (r : R), foldO step xs b = some b' → ∃ r', forF st body xs (mk b r) = .ok (.nx (mk b' r'))
  | [], b, b', r, h => by cases h; exact ⟨r, rfl⟩
  | a :: xs, b, b', r, h => by
    unfold foldO at h
    split at h
    · rename_i c e
      obtain ⟨r1, e1⟩ := hb a b c r e
      obtain ⟨r2, e2⟩ := for_opt hb xs c b' r1 h
      refine ⟨r2, ?_⟩
      unfold forF
      rw [e1, bo]
      exact e2
    · cases h
theorem rg1_n {n : Nat} (h : n ≤ 1000) : rg1 (n : Int) = some (rngI 0 n) := by
  unfold rg1
  have : (bd62 (n : Int) && decide ((n : Int) ≤ 1000000)) = true := by
    unfold bd62
    simp
    omega
  rw [this, if_pos rfl, Int.toNat_natCast]
def cn (xs : List Nat) : List Int := xs.map Int.ofNat
theorem cn_len (xs : List Nat) : (cn xs).length = xs.length := List.length_map ..
theorem lcG_ci {β : Type} {t : Int → T Bool} {e : Int → T β} {p : Nat → Bool} {g : Nat → β} : ∀ {xs : List Nat}, (∀ x ∈ xs, t (x : Int) = .ok (p x)) → (∀ x ∈ xs, p x = true → e (x : Int) = .ok (g x)) → lcG t e (cn xs) = .ok ((xs.filter p).map g)
  | [], _, _ => rfl
  | x :: xs, H1, H2 => by
    unfold cn
    rw [List.map_cons]
    unfold lcG
    rw [show t (Int.ofNat x) = .ok (p x) from H1 x List.mem_cons_self, bo]
    have ih := lcG_ci (xs := xs) (fun y m => H1 y (List.mem_cons_of_mem _ m)) (fun y m => H2 y (List.mem_cons_of_mem _ m))
    unfold cn at ih
    cases q : p x with
    | true =>
      simp only
      rw [show e (Int.ofNat x) = .ok (g x) from H2 x List.mem_cons_self q, bo, ih, bo, List.filter_cons_of_pos q, List.map_cons]
    | false =>
      simp only
      rw [ih, List.filter_cons_of_neg (by rw [q]; exact Bool.false_ne_true)]
def zEq : Int → Int → Bool
  | .ofNat a, .ofNat b => Nat.beq a b
  | .negSucc a, .negSucc b => Nat.beq a b
  | _, _ => false
theorem zEq_d (a b : Int) : zEq a b = decide (a = b) := by
  cases a <;> cases b
  · rename_i a b
    show Nat.beq a b = _
    by_cases h : a = b
    · subst h; simp
    · rw [decide_eq_false fun e => h (Int.ofNat.inj e)]
      cases e : Nat.beq a b with
      | false => rfl
      | true => exact absurd (Nat.eq_of_beq_eq_true e) h
  · exact (decide_eq_false fun e => by cases e).symm
  · exact (decide_eq_false fun e => by cases e).symm
  · rename_i a b
    show Nat.beq a b = _
    by_cases h : a = b
    · subst h; simp
    · rw [decide_eq_false fun e => h (Int.negSucc.inj e)]
      cases e : Nat.beq a b with
      | false => rfl
      | true => exact absurd (Nat.eq_of_beq_eq_true e) h
theorem zEq_ok {a b : Int} (h : zEq a b = true) : a = b := by
  rw [zEq_d] at h
  exact of_decide_eq_true h
def eqLs {α : Type} (f : α → α → Bool) : List α → List α → Bool
  | [], [] => true
  | a :: xs, b :: ys => cond (f a b) (eqLs f xs ys) false
  | _, _ => false
theorem eqLs_ok {α : Type} {f : α → α → Bool} (hf : ∀ a b, f a b = true → a = b) : ∀ {xs ys : List α}, eqLs f xs ys = true → xs = ys
  | [], [], _ => rfl
  | [], _ :: _, h => by cases h
  | _ :: _, [], h => by cases h
  | a :: xs, b :: ys, h => by
    unfold eqLs at h
    cases e : f a b with
    | false => rw [e] at h; cases h
    | true =>
      rw [e] at h
      rw [hf a b e, eqLs_ok hf h]
def eqNs (a b : List Nat) : Bool := eqLs Nat.beq a b
theorem eqNs_ok {a b : List Nat} (h : eqNs a b = true) : a = b := eqLs_ok (fun _ _ e => Nat.eq_of_beq_eq_true e) h
def eqIs (a b : List Int) : Bool := eqLs zEq a b
theorem eqIs_ok {a b : List Int} (h : eqIs a b = true) : a = b := eqLs_ok (fun _ _ e => zEq_ok e) h
def eqW (a b : List (List Int)) : Bool := eqLs eqIs a b
theorem eqW_ok {a b : List (List Int)} (h : eqW a b = true) : a = b := eqLs_ok (fun _ _ e => eqIs_ok e) h
def tpIs (t : T (Tp Int)) (w : List Int) : Bool := okB t fun r => eqIs r.l w
theorem tpIs_ok {t : T (Tp Int)} {w : List Int} (h : tpIs t w = true) : t = .ok ⟨w⟩ := by
  obtain ⟨r, e, h⟩ := okB_ex h
  rw [e, ← eqIs_ok h]
def optIs (t : Option (List Int)) (w : List Int) : Bool := match t with
  | some r => eqIs r w
  | none => false
theorem optIs_ok {t : Option (List Int)} {w : List Int} (h : optIs t w = true) : t = some w := by
  unfold optIs at h
  split at h
  · rw [eqIs_ok h]
  · cases h
theorem optAll_mem {α β : Type} {f : α → Option β} : ∀ {xs : List α} {ys : List β}, optAll f xs = some ys → ∀ x ∈ xs, ∃ y, f x = some y
  | [], ys, _, x, m => by cases m
  | a :: xs, ys, e, x, m => by
    obtain ⟨d, ds, e1, e2, _⟩ := optAll_c e
    rcases List.mem_cons.mp m with q | m
    · subst q; exact ⟨d, e1⟩
    · exact optAll_mem e2 x m
theorem optAll_some {α β : Type} {f : α → Option β} : ∀ {xs : List α}, (∀ x ∈ xs, ∃ y, f x = some y) → ∃ ys, optAll f xs = some ys
  | [], _ => ⟨[], rfl⟩
  | x :: xs, h => by
    obtain ⟨y, hy⟩ := h x List.mem_cons_self
    obtain ⟨ys, hys⟩ := optAll_some fun z m => h z (List.mem_cons_of_mem _ m)
    exact ⟨y :: ys, optAll_k hy hys⟩
theorem eqZ_self {f : Val → Val → Bool} : ∀ {xs : List Val}, (∀ x ∈ xs, f x x = true) → eqZ f xs xs = true
  | [], _ => rfl
  | x :: xs, h => by
    unfold eqZ
    rw [h x List.mem_cons_self]
    exact eqZ_self fun z m => h z (List.mem_cons_of_mem _ m)
theorem eqN_self : ∀ (n : Nat) (v : Val) (d : PyData), toD hnil n v = some d → eqN n v v = true
  | 0, v, d, e => by cases e
  | n + 1, v, d, e => by
    rcases toD_flat e with ⟨rfl, rfl⟩ | ⟨b, rfl, rfl⟩ | ⟨i, rfl, rfl⟩ | ⟨x, rfl, rfl⟩ | ⟨xs, ds, rfl, rfl, a⟩ | ⟨xs, ds, rfl, rfl, a⟩
    · rfl
    · show (b == b) = true; simp
    · show decide (i = i) = true; simp
    · show (x == x) = true; simp
    · exact eqZ_self fun x m => by
        obtain ⟨y, hy⟩ := optAll_mem a x m
        exact eqN_self n x y hy
    · exact eqZ_self fun x m => by
        obtain ⟨y, hy⟩ := optAll_mem a x m
        exact eqN_self n x y hy
theorem dTup {n : Nat} {xs : List Val} (h : ∀ x ∈ xs, dOk n x = true) : dOk (n + 1) (.tup xs) = true := by
  obtain ⟨ys, e⟩ := optAll_some (f := toD hnil n) (xs := xs) fun x m => Option.isSome_iff_exists.mp (h x m)
  show ((optAll (toD hnil n) xs).map PyData.tuple).isSome = true
  rw [e]
  rfl
theorem dInt {n : Nat} {i : Int} : dOk (n + 1) (.int i) = true := rfl
theorem dInts {n : Nat} (w : List Int) : dOk (n + 2) (inj (⟨w⟩ : Tp Int)) = true := by
  refine dTup fun x m => ?_
  obtain ⟨i, _, rfl⟩ := List.mem_map.mp m
  exact dInt
theorem dIntss {n : Nat} (w : List (Tp Int)) : dOk (n + 3) (inj (⟨w⟩ : Tp (Tp Int))) = true := by
  refine dTup fun x m => ?_
  obtain ⟨i, _, rfl⟩ := List.mem_map.mp m
  exact dInts i.l
theorem ne_self {xs : List Val} (h : dOk 16 (.tup xs) = true) : copP .ne (.tup xs) (.tup xs) = some false := by
  show (eqP (.tup xs) (.tup xs)).map (!·) = _
  obtain ⟨d, e⟩ := Option.isSome_iff_exists.mp h
  unfold eqP
  rw [h, eqN_self 16 _ d e]
  rfl
theorem ne_ints (w : List Int) : copP .ne (inj (⟨w⟩ : Tp Int)) (inj (⟨w⟩ : Tp Int)) = some false := ne_self (dInts w)
theorem ne_intss (w : List (Tp Int)) : copP .ne (inj (⟨w⟩ : Tp (Tp Int))) (inj (⟨w⟩ : Tp (Tp Int))) = some false := ne_self (dIntss w)
end Eng
namespace Eng
open PySem L2
open Inj (inj)
/-- values that _law_same says are the same as themselves -/
def sOk : Nat → Val → Bool
  | 0, _ => false
  | _ + 1, .non => true
  | _ + 1, .bl _ => true
  | _ + 1, .int _ => true
  | _ + 1, .str x => PyData.strOk x
  | k + 1, .tup xs => Nat.ble xs.length 1000000 && xs.all (sOk k)
  | k + 1, .tl xs => Nat.ble xs.length 1000000 && xs.all (sOk k)
  | _, _ => false
theorem pureV_up : ∀ (k : Nat) (v : Val), pureV k v = true → pureV (k + 1) v = true
  | 0, v, h => by simp [pureV] at h
  | k + 1, v, h => by
    cases v <;> first | rfl | (simp [pureV] at h; done) | skip
    all_goals
      simp only [pureV, List.all_eq_true] at h ⊢
      exact fun x hx => pureV_up k x (h x hx)
theorem toAny_some {v : Val} (h : pureV 6 v = true) : toAny v = some ⟨v, h⟩ := by
  unfold toAny
  rw [dif_pos h]
theorem anys_of : ∀ {xs : List Val}, xs.all (pureV 5) = true → ∃ as : List Any, optAll toAny xs = some as ∧ as.map Any.v = xs
  | [], _ => ⟨[], rfl, rfl⟩
  | x :: xs, h => by
    rw [List.all_cons, Bool.and_eq_true] at h
    obtain ⟨as, e1, e2⟩ := anys_of h.2
    exact ⟨⟨x, pureV_up 5 x h.1⟩ :: as, optAll_k (toAny_some _) e1, by rw [List.map_cons, e2]⟩
theorem lcG_nil {α β : Type} {tst : α → T Bool} {el : α → T β} : ∀ {xs : List α}, (∀ x ∈ xs, tst x = .ok false) → lcG tst el xs = .ok []
  | [], _ => rfl
  | x :: xs, H => by
    unfold lcG
    rw [H x List.mem_cons_self, bo]
    exact lcG_nil fun y m => H y (List.mem_cons_of_mem _ m)
theorem sInts {k : Nat} {w : List Int} (h : w.length ≤ 1000000) : sOk (k + 2) (inj (⟨w⟩ : Tp Int)) = true := by
  show (Nat.ble (w.map inj).length 1000000 && (w.map inj).all (sOk (k + 1))) = true
  rw [Bool.and_eq_true, List.length_map]
  refine ⟨Nat.ble_eq.mpr h, List.all_eq_true.mpr fun x m => ?_⟩
  obtain ⟨i, _, rfl⟩ := List.mem_map.mp m
  rfl
theorem sIntl {k : Nat} {w : List Int} (h : w.length ≤ 1000000) : sOk (k + 2) (inj w) = true := by
  show (Nat.ble (w.map inj).length 1000000 && (w.map inj).all (sOk (k + 1))) = true
  rw [Bool.and_eq_true, List.length_map]
  refine ⟨Nat.ble_eq.mpr h, List.all_eq_true.mpr fun x m => ?_⟩
  obtain ⟨i, _, rfl⟩ := List.mem_map.mp m
  rfl
theorem pure_sOk : ∀ (k : Nat) (v : Val), sOk k v = true → pureV k v = true
  | 0, v, h => by simp [sOk] at h
  | k + 1, v, h => by
    cases v <;> first | rfl | (simp [sOk] at h; done) | skip
    all_goals
      simp only [sOk, Bool.and_eq_true, List.all_eq_true] at h
      simp only [pureV, List.all_eq_true]
      exact fun x hx => pure_sOk k x (h.2 x hx)
theorem AllT.okM {A B : Type} {P : B → Prop} {t : T A} {f : A → T B} {a : A} (e : t = .ok a) (h : AllT P (f a)) : AllT P (t.bind f) := by
  rw [e]
  exact ⟨h.all⟩
namespace k75
theorem getI_nat {α : Type} {xs : List α} {i : Nat} {x : α} (e : xs[i]? = some x) : getI xs (i : Int) = some x := by
  have hl := (List.getElem?_eq_some_iff.mp e).1
  have : ixI xs.length (i : Int) = some i := by
    unfold ixI
    simp [hl]
  unfold getI
  simp only [this, e]
theorem rg1_nat {n : Nat} (h : n ≤ 1000000) : rg1 (n : Int) = some (rngI 0 n) := by
  have : (bd62 (n : Int) && decide ((n : Int) ≤ 1000000)) = true := by
    unfold bd62
    simp
    omega
  unfold rg1
  rw [this, if_pos rfl, Int.toNat_natCast]
theorem F16_step {d : Nat} {a b : Any} : F16 (d + 1) (a, b, ()) = ((s16 (F16 d)).1 (some a, some b, none, ())).bind outF := rfl
theorem row_self {d : Nat} {v : Val} {pv : pureV 6 v = true} {as : List Any} (hv : isiP v .bool = some false ∧ isiP v .int = some false ∧ isiP v .str = some false ∧ copP .is v .non = some false ∧ ((isiP v .list = some true ∧ isiP v .tuple = some false) ∨ (isiP v .list = some false ∧ isiP v .tuple = some true))) (e1 : partsP v = some as) (hl : as.length ≤ 1000000) (H : ∀ (i : Nat) (x : Any), as[i]? = some x → F16 d (x, x, ()) = .ok true) : F16 (d + 1) (⟨v, pv⟩, ⟨v, pv⟩, ()) = .ok true := by
  obtain ⟨h1, h2, h3, h4, h5⟩ := hv
  rw [F16_step]
  have lc : lcG (fun x =>
      (((T.of (getI as x)).bind fun x_1 => ((T.of (getI as x)).bind fun x => T.ok (x, ())).bind fun y => T.ok (x_1, y)).bind (F16 d)).bind
        fun x => T.ok !x) (fun x => (T.ok 1 : T Int)) (rngI 0 as.length) = .ok [] := by
    refine lcG_nil fun x m => ?_
    have mm := rngI_mem m
    obtain ⟨i, rfl⟩ : ∃ i : Nat, x = (i : Int) := ⟨x.toNat, by omega⟩
    have hi : i < as.length := by omega
    have ei : as[i]? = some as[i] := List.getElem?_eq_getElem hi
    simp only [ofs, bo, getI_nat ei, H i _ ei, Bool.not_true]
  have i0 : inj (⟨v, pv⟩ : Any) = v := rfl
  have iu : inj () = Val.non := rfl
  have sm : small (rngI 0 as.length).length = true := by
    rw [rngI_len]
    exact sm_of (by omega)
  have dp : Nat.blt (Inj.dp Bool) 12 = true := rfl
  rcases h5 with ⟨h5, h6⟩ | ⟨h5, h6⟩ <;>
  simp only [s16, seqF, ofs, bo, i0, iu, h1, h2, h3, h4, h5, h6, e1, Bool.not_true, Bool.not_false, q_eq, decide_true, rg1_nat hl, sm, if_true, lc, List.all_nil, List.isEmpty_nil, empE, dp, outF]
theorem same_self : ∀ (k d : Nat) (a : Any), k ≤ d → sOk k a.v = true → F16 d (a, a, ()) = .ok true
  | 0, d, a, hd, h => by simp [sOk] at h
  | k + 1, 0, a, hd, h => by omega
  | k + 1, d + 1, ⟨v, pv⟩, hd, h => by
    have row : ∀ (xs : List Val) (as : List Any), as.map Any.v = xs → xs.all (sOk k) = true → ∀ (i : Nat) (x : Any), as[i]? = some x → F16 d (x, x, ()) = .ok true := fun xs as e2 hall i x ex => by
      refine same_self k d x (by omega) ?_
      have : x.v ∈ xs := by
        rw [← e2]
        exact List.mem_map.mpr ⟨x, List.mem_of_getElem? ex, rfl⟩
      exact List.all_eq_true.mp hall _ this
    cases v with
    | non => rfl
    | bl b => cases b <;> rfl
    | int i =>
      have e : copP .eq (.int i) (.int i) = some true := by show copI .eq i i = _; simp
      rw [F16_step]
      have i0 : inj (⟨.int i, pv⟩ : Any) = .int i := rfl
      have iu : inj () = Val.non := rfl
      have e2 : copP .is (.int i) .non = some false := rfl
      have e3 : isiP (.int i) .bool = some false := rfl
      have e4 : isiP (.int i) .int = some true := rfl
      have dp : Nat.blt (Inj.dp Bool) 12 = true := rfl
      simp only [s16, seqF, ofs, bo, i0, iu, e, e2, e3, e4, Bool.not_true, Bool.not_false, if_true, dp, outF]
    | str x =>
      have e : copP .eq (.str x) (.str x) = some true := by
        have : dOk 16 (.str x) = true := by
          have h : PyData.strOk x = true := h
          unfold dOk toD
          rw [if_pos h]
          rfl
        show eqP _ _ = _
        unfold eqP
        rw [this]
        show some (x == x) = _
        simp
      rw [F16_step]
      have i0 : inj (⟨.str x, pv⟩ : Any) = .str x := rfl
      have iu : inj () = Val.non := rfl
      have e2 : copP .is (.str x) .non = some false := rfl
      have e3 : isiP (.str x) .bool = some false := rfl
      have e4 : isiP (.str x) .int = some false := rfl
      have e5 : isiP (.str x) .str = some true := rfl
      have dp : Nat.blt (Inj.dp Bool) 12 = true := rfl
      simp only [s16, seqF, ofs, bo, i0, iu, e, e2, e3, e4, e5, Bool.not_true, Bool.not_false, if_true, dp, outF]
    | tup xs =>
      have h : (Nat.ble xs.length 1000000 && xs.all (sOk k)) = true := h
      rw [Bool.and_eq_true] at h
      obtain ⟨as, e1, e2⟩ := anys_of (xs := xs) pv
      refine row_self ⟨rfl, rfl, rfl, rfl, .inr ⟨rfl, rfl⟩⟩ e1 ?_ (row xs as e2 h.2)
      have := Nat.le_of_ble_eq_true h.1
      rw [← e2, List.length_map] at this
      exact this
    | tl xs =>
      have h : (Nat.ble xs.length 1000000 && xs.all (sOk k)) = true := h
      rw [Bool.and_eq_true] at h
      obtain ⟨as, e1, e2⟩ := anys_of (xs := xs) pv
      refine row_self ⟨rfl, rfl, rfl, rfl, .inl ⟨rfl, rfl⟩⟩ e1 ?_ (row xs as e2 h.2)
      have := Nat.le_of_ble_eq_true h.1
      rw [← e2, List.length_map] at this
      exact this
    | _ => cases h
theorem pure_s {v : Val} (h : sOk 6 v = true) : pureV 6 v = true := pure_sOk 6 v h
theorem sameS {v : Val} (h : sOk 6 v = true) : (((T.of (toAny v)).bind fun x => ((T.of (toAny v)).bind fun x => T.ok (x, ())).bind fun y => T.ok (x, y)).bind (F16 60)) = .ok true := by
  simp only [toAny_some (pure_sOk 6 v h), ofs, bo]
  exact same_self 6 60 _ (by omega) h
end k75
end Eng
set_option synthInstance.maxHeartbeats 4000000
set_option synthInstance.maxSize 100000
namespace Eng.k75
open PySem L2 Eng
abbrev GT := Option (List (Tp Int)) × Option (List (List Po)) × Option Po × Option Po × Ow Po × OI × Option Po × OI × OI × OI × OI × OI × OI × OI × Option (Tp Int) × Option (Tp Int) × OI × OI × Unit
abbrev GA := Option Int × Tape × OI × GT
def t2 : {f // XC (callN tab fue 60) fue GA Bool (.asg (.nm 3) (.call 9 [(.v 2)])) f} := ⟨_, XC.congr inferInstance (by (try simp only [lcF_G, USlot.get, USlot.set, Slot.get, Slot.set, OSlot.get, OSlot.set, DSlot.get, DSlot.set, RSlot.get, NSlot.get, NSlot.set, Cv.cv, Pv.pv, HomC.l, T.bind_ok, T.of_some, id]); (try rfl))⟩
def t3 : {f // XC (callN tab fue 60) fue GA Bool (.asg (.nm 4) (.lc false [17] (.nm 17) .val [(.v 3)] [] (.lc false [18] (.nm 18) .val [(.v 3)] [] (.tup [(.tup [(.call 10 [(.v 17), (.v 18)]), (.c (.int 1))])])))) f} := ⟨_, XC.congr inferInstance rfl⟩
def t4 : {f // XC (callN tab fue 60) fue GA Bool (.ite (.or (.not (.call 16 [(.call 11 [(.v 2)]), (.v 4)])) (.cmp .ne (.lc false [8] (.nm 8) .rng [(.bi .len false [(.v 3)])] [(.cmp .ne (.call 10 [(.sub (.v 3) (.v 8)), (.sub (.v 3) (.v 8))]) (.v 2))] (.v 8)) (.lst false []))) [(.ret (.c (.bl false)))] []) f} := ⟨_, XC.congr inferInstance (by (try simp only [lcF_G, USlot.get, USlot.set, Slot.get, Slot.set, OSlot.get, OSlot.set, DSlot.get, DSlot.set, RSlot.get, NSlot.get, NSlot.set, Cv.cv, Pv.pv, HomC.l, T.bind_ok, T.of_some, id]); (try rfl))⟩
def t5 : {f // XC (callN tab fue 60) fue GA Bool (.asg (.nm 5) (.call 13 [(.v 2)])) f} := ⟨_, XC.congr inferInstance (by (try simp only [lcF_G, USlot.get, USlot.set, Slot.get, Slot.set, OSlot.get, OSlot.set, DSlot.get, DSlot.set, RSlot.get, NSlot.get, NSlot.set, Cv.cv, Pv.pv, HomC.l, T.bind_ok, T.of_some, id]); (try rfl))⟩
def t6 : {f // XC (callN tab fue 60) fue GA Bool (.ite (.or (.not (.call 16 [(.call 14 [(.v 2)]), (.v 5)])) (.and (.cmp .lt (.v 2) (.c (.int 4))) (.not (.call 16 [(.v 5), (.call 20 [(.v 4)])])))) [(.ret (.c (.bl false)))] []) f} := ⟨_, XC.congr inferInstance (by (try simp only [lcF_G, USlot.get, USlot.set, Slot.get, Slot.set, OSlot.get, OSlot.set, DSlot.get, DSlot.set, RSlot.get, NSlot.get, NSlot.set, Cv.cv, Pv.pv, HomC.l, T.bind_ok, T.of_some, id]); (try rfl))⟩
def t7 : {f // XC (callN tab fue 60) fue GA Bool (.asg (.nm 6) (.tup [(.tup [(.c (.int 0)), (.c (.int 1))])])) f} := ⟨_, XC.congr inferInstance (by (try simp only [lcF_G, USlot.get, USlot.set, Slot.get, Slot.set, OSlot.get, OSlot.set, DSlot.get, DSlot.set, RSlot.get, NSlot.get, NSlot.set, Cv.cv, Pv.pv, HomC.l, T.bind_ok, T.of_some, id]); (try rfl))⟩
def t8 : {f // XC (callN tab fue 60) fue GA Bool (.asg (.nm 7) (.lst true [(.tup [(.tup [(.c (.int 0)), (.c (.int 1))])]), (.tup [(.tup [(.c (.int 1)), (.c (.int 1))])])])) f} := ⟨_, XC.congr inferInstance (by (try simp only [lcF_G, USlot.get, USlot.set, Slot.get, Slot.set, OSlot.get, OSlot.set, DSlot.get, DSlot.set, RSlot.get, NSlot.get, NSlot.set, Cv.cv, Pv.pv, HomC.l, T.bind_ok, T.of_some, id]); (try rfl))⟩
def t9 : {f // XC (callN tab fue 60) fue GA Bool (.for_ (.nm 8) .rng [(.c (.int 12))] [(.asg (.nm 9) (.bi .tuple false [(.lc false [19, 20] (.tp [(.nm 19), (.nm 20)]) .val [(.sub (.v 7) (.neg (.c (.int 2))))] [] (.tup [(.v 19), (.bin .sub false (.c (.int 0)) (.v 20))]))])), (.ex (.me (.v 7) .append [(.call 17 [(.call 18 [(.tup [(.tup [(.c (.int 1)), (.c (.int 1))])]), (.sub (.v 7) (.neg (.c (.int 1))))]), (.v 9)])]))]) f} := ⟨_, XC.congr inferInstance (by (try simp only [lcF_G, USlot.get, USlot.set, Slot.get, Slot.set, OSlot.get, OSlot.set, DSlot.get, DSlot.set, RSlot.get, NSlot.get, NSlot.set, Cv.cv, Pv.pv, HomC.l, T.bind_ok, T.of_some, id]); (try rfl))⟩
def t10 : {f // XC (callN tab fue 60) fue GA Bool (.for_ (.nm 8) .rng [(.c (.int 1)), (.bin .add false (.v 2) (.c (.int 1)))] [(.asg (.nm 10) (.bin .add false (.bin .sub false (.call 21 [(.bin .mul false (.c (.int 2)) (.v 2)), (.bin .sub false (.v 2) (.v 8))]) (.bin .mul false (.c (.int 2)) (.call 21 [(.bin .mul false (.c (.int 2)) (.v 2)), (.bin .sub false (.bin .sub false (.v 2) (.v 8)) (.c (.int 1)))]))) (.call 21 [(.bin .mul false (.c (.int 2)) (.v 2)), (.bin .sub false (.bin .sub false (.v 2) (.v 8)) (.c (.int 2)))]))), (.asg (.nm 6) (.call 18 [(.v 6), (.call 19 [(.sub (.v 7) (.v 8)), (.v 10)])]))]) f} := ⟨_, XC.congr inferInstance (by (try simp only [lcF_G, USlot.get, USlot.set, Slot.get, Slot.set, OSlot.get, OSlot.set, DSlot.get, DSlot.set, RSlot.get, NSlot.get, NSlot.set, Cv.cv, Pv.pv, HomC.l, T.bind_ok, T.of_some, id]); (try rfl))⟩
def t11 : {f // XC (callN tab fue 60) fue GA Bool (.ite (.not (.call 16 [(.v 5), (.v 6)])) [(.ret (.c (.bl false)))] []) f} := ⟨_, XC.congr inferInstance (by (try simp only [lcF_G, USlot.get, USlot.set, Slot.get, Slot.set, OSlot.get, OSlot.set, DSlot.get, DSlot.set, RSlot.get, NSlot.get, NSlot.set, Cv.cv, Pv.pv, HomC.l, T.bind_ok, T.of_some, id]); (try rfl))⟩
def t12 : {f // XC (callN tab fue 60) fue GA Bool (.asg (.tp [(.nm 8), (.nm 11)]) (.tup [(.call 15 [(.v 1), (.c (.int 13))]), (.bin .sub false (.call 15 [(.v 1), (.c (.int 9))]) (.c (.int 4)))])) f} := ⟨_, XC.congr inferInstance (by (try simp only [lcF_G, USlot.get, USlot.set, Slot.get, Slot.set, OSlot.get, OSlot.set, DSlot.get, DSlot.set, RSlot.get, NSlot.get, NSlot.set, Cv.cv, Pv.pv, HomC.l, T.bind_ok, T.of_some, id]); (try rfl))⟩
def t13 : {f // XC (callN tab fue 60) fue GA Bool (.asg (.tp [(.nm 12), (.nm 13)]) (.tup [(.c (.int 0)), (.c (.int 1))])) f} := ⟨_, XC.congr inferInstance (by (try simp only [lcF_G, USlot.get, USlot.set, Slot.get, Slot.set, OSlot.get, OSlot.set, DSlot.get, DSlot.set, RSlot.get, NSlot.get, NSlot.set, Cv.cv, Pv.pv, HomC.l, T.bind_ok, T.of_some, id]); (try rfl))⟩
def t14 : {f // XC (callN tab fue 60) fue GA Bool (.for_ (.nm 14) .rng [(.v 8)] [(.asg (.tp [(.nm 12), (.nm 13)]) (.tup [(.v 13), (.bin .sub false (.bin .mul false (.v 11) (.v 13)) (.v 12))]))]) f} := ⟨_, XC.congr inferInstance (by (try simp only [lcF_G, USlot.get, USlot.set, Slot.get, Slot.set, OSlot.get, OSlot.set, DSlot.get, DSlot.set, RSlot.get, NSlot.get, NSlot.set, Cv.cv, Pv.pv, HomC.l, T.bind_ok, T.of_some, id]); (try rfl))⟩
def t15 : {f // XC (callN tab fue 60) fue GA Bool (.asg (.tp [(.nm 15), (.nm 16)]) (.tup [(.call 15 [(.v 1), (.c (.int 21))]), (.bin .sub false (.call 15 [(.v 1), (.c (.int 25))]) (.c (.int 3)))])) f} := ⟨_, XC.congr inferInstance (by (try simp only [lcF_G, USlot.get, USlot.set, Slot.get, Slot.set, OSlot.get, OSlot.set, DSlot.get, DSlot.set, RSlot.get, NSlot.get, NSlot.set, Cv.cv, Pv.pv, HomC.l, T.bind_ok, T.of_some, id]); (try rfl))⟩
def t16 : {f // XC (callN tab fue 60) fue GA Bool (.ite (.not (.call 16 [(.lst false [(.call 8 [(.v 8)]), (.call 12 [(.v 15), (.v 16)])]), (.lst false [(.sub (.v 7) (.v 8)), (.call 21 [(.v 15), (.v 16)])])])) [(.ret (.c (.bl false)))] []) f} := ⟨_, XC.congr inferInstance (by (try simp only [lcF_G, USlot.get, USlot.set, Slot.get, Slot.set, OSlot.get, OSlot.set, DSlot.get, DSlot.set, RSlot.get, NSlot.get, NSlot.set, Cv.cv, Pv.pv, HomC.l, T.bind_ok, T.of_some, id]); (try rfl))⟩
def t17 : {f // XC (callN tab fue 60) fue GA Bool (.ret (.cmp .eq (.call 22 [(.call 8 [(.v 8)]), (.v 11)]) (.v 13))) f} := ⟨_, XC.congr inferInstance (by (try simp only [lcF_G, USlot.get, USlot.set, Slot.get, Slot.set, OSlot.get, OSlot.set, DSlot.get, DSlot.set, RSlot.get, NSlot.get, NSlot.set, Cv.cv, Pv.pv, HomC.l, T.bind_ok, T.of_some, id]); (try rfl))⟩
def fA : GA → T (Fw GA Bool) := seqF t2.1 (seqF t3.1 (seqF t4.1 (seqF t5.1 (seqF t6.1 (seqF t7.1 (seqF t8.1 (seqF t9.1 (seqF t10.1 (seqF t11.1 (seqF t12.1 (seqF t13.1 (seqF t14.1 (seqF t15.1 (seqF t16.1 (seqF t17.1 (fun γ => .ok (.nx γ)))))))))))))))))
def bA : List S := [(.asg (.nm 3) (.call 9 [(.v 2)])), (.asg (.nm 4) (.lc false [17] (.nm 17) .val [(.v 3)] [] (.lc false [18] (.nm 18) .val [(.v 3)] [] (.tup [(.tup [(.call 10 [(.v 17), (.v 18)]), (.c (.int 1))])])))), (.ite (.or (.not (.call 16 [(.call 11 [(.v 2)]), (.v 4)])) (.cmp .ne (.lc false [8] (.nm 8) .rng [(.bi .len false [(.v 3)])] [(.cmp .ne (.call 10 [(.sub (.v 3) (.v 8)), (.sub (.v 3) (.v 8))]) (.v 2))] (.v 8)) (.lst false []))) [(.ret (.c (.bl false)))] []), (.asg (.nm 5) (.call 13 [(.v 2)])), (.ite (.or (.not (.call 16 [(.call 14 [(.v 2)]), (.v 5)])) (.and (.cmp .lt (.v 2) (.c (.int 4))) (.not (.call 16 [(.v 5), (.call 20 [(.v 4)])])))) [(.ret (.c (.bl false)))] []), (.asg (.nm 6) (.tup [(.tup [(.c (.int 0)), (.c (.int 1))])])), (.asg (.nm 7) (.lst true [(.tup [(.tup [(.c (.int 0)), (.c (.int 1))])]), (.tup [(.tup [(.c (.int 1)), (.c (.int 1))])])])), (.for_ (.nm 8) .rng [(.c (.int 12))] [(.asg (.nm 9) (.bi .tuple false [(.lc false [19, 20] (.tp [(.nm 19), (.nm 20)]) .val [(.sub (.v 7) (.neg (.c (.int 2))))] [] (.tup [(.v 19), (.bin .sub false (.c (.int 0)) (.v 20))]))])), (.ex (.me (.v 7) .append [(.call 17 [(.call 18 [(.tup [(.tup [(.c (.int 1)), (.c (.int 1))])]), (.sub (.v 7) (.neg (.c (.int 1))))]), (.v 9)])]))]), (.for_ (.nm 8) .rng [(.c (.int 1)), (.bin .add false (.v 2) (.c (.int 1)))] [(.asg (.nm 10) (.bin .add false (.bin .sub false (.call 21 [(.bin .mul false (.c (.int 2)) (.v 2)), (.bin .sub false (.v 2) (.v 8))]) (.bin .mul false (.c (.int 2)) (.call 21 [(.bin .mul false (.c (.int 2)) (.v 2)), (.bin .sub false (.bin .sub false (.v 2) (.v 8)) (.c (.int 1)))]))) (.call 21 [(.bin .mul false (.c (.int 2)) (.v 2)), (.bin .sub false (.bin .sub false (.v 2) (.v 8)) (.c (.int 2)))]))), (.asg (.nm 6) (.call 18 [(.v 6), (.call 19 [(.sub (.v 7) (.v 8)), (.v 10)])]))]), (.ite (.not (.call 16 [(.v 5), (.v 6)])) [(.ret (.c (.bl false)))] []), (.asg (.tp [(.nm 8), (.nm 11)]) (.tup [(.call 15 [(.v 1), (.c (.int 13))]), (.bin .sub false (.call 15 [(.v 1), (.c (.int 9))]) (.c (.int 4)))])), (.asg (.tp [(.nm 12), (.nm 13)]) (.tup [(.c (.int 0)), (.c (.int 1))])), (.for_ (.nm 14) .rng [(.v 8)] [(.asg (.tp [(.nm 12), (.nm 13)]) (.tup [(.v 13), (.bin .sub false (.bin .mul false (.v 11) (.v 13)) (.v 12))]))]), (.asg (.tp [(.nm 15), (.nm 16)]) (.tup [(.call 15 [(.v 1), (.c (.int 21))]), (.bin .sub false (.call 15 [(.v 1), (.c (.int 25))]) (.c (.int 3)))])), (.ite (.not (.call 16 [(.lst false [(.call 8 [(.v 8)]), (.call 12 [(.v 15), (.v 16)])]), (.lst false [(.sub (.v 7) (.v 8)), (.call 21 [(.v 15), (.v 16)])])])) [(.ret (.c (.bl false)))] []), (.ret (.cmp .eq (.call 22 [(.call 8 [(.v 8)]), (.v 11)]) (.v 13)))]
theorem b_law_eq : b_law = (.asg (.nm 1) (.lst true [(.bi .list false [(.v 0)]), (.c (.int 0)), (.c (.int 0)), (.c (.int 75))])) :: (.asg (.nm 2) (.bin .add false (.c (.int 1)) (.call 15 [(.v 1), (.c (.int 4))]))) :: bA := rfl
theorem scA : SC (callN tab fue 60) fue GA Bool bA fA := SC.cons (X1 := t2.2) (S1 := SC.cons (X1 := t3.2) (S1 := SC.cons (X1 := t4.2) (S1 := SC.cons (X1 := t5.2) (S1 := SC.cons (X1 := t6.2) (S1 := SC.cons (X1 := t7.2) (S1 := SC.cons (X1 := t8.2) (S1 := SC.cons (X1 := t9.2) (S1 := SC.cons (X1 := t10.2) (S1 := SC.cons (X1 := t11.2) (S1 := SC.cons (X1 := t12.2) (S1 := SC.cons (X1 := t13.2) (S1 := SC.cons (X1 := t14.2) (S1 := SC.cons (X1 := t15.2) (S1 := SC.cons (X1 := t16.2) (S1 := SC.cons (X1 := t17.2) (S1 := SC.nil))))))))))))))))
def g0 (m : Int) : GA := ⟨none, ⟨⟩, some m, none, none, none, none, ⟨none⟩, none, none, none, none, none, none, none, none, none, none, none, none, none, ()⟩
def PA (r : Fw GA Bool) : Prop := match r with | .rt b _ => b = true | _ => False
theorem rel0 (m : Int) (h : Hs) : Row.rel (g0 m) ([some .scr, some (.ref 0), some (.int m)] ++ List.replicate 18 none) h [] := ⟨some .scr, _, rfl, fun v z => (by cases z), _, rfl, some (.int m), _, rfl, fun v z => (by cases z; rfl), (inferInstance : Blank GT).ok h⟩
abbrev s00 : Env := [some .scr, none, none] ++ List.replicate 18 none
abbrev s01 : Env := [some .scr, some (.ref 0), none] ++ List.replicate 18 none
abbrev s02 (m : Int) : Env := [some .scr, some (.ref 0), some (.int m)] ++ List.replicate 18 none
def h01 : Hs := ⟨[.lst [.scr, .int 0, .int 0, .int 75]], 1, 0, []⟩
def h02 : Hs := ⟨[.tape], 1, 0, []⟩
theorem head_run {rest : List S} {Q : Rs → Prop} (H : ∀ i : Nat, i < 4 → (exs (callN tab fue 60) fue rest (s02 (1 + (i : Int))) h02).All Q) : (exs (callN tab fue 60) fue ((.asg (.nm 1) (.lst true [(.bi .list false [(.v 0)]), (.c (.int 0)), (.c (.int 0)), (.c (.int 75))])) :: (.asg (.nm 2) (.bin .add false (.c (.int 1)) (.call 15 [(.v 1), (.c (.int 4))]))) :: rest) s00 ⟨[], 0, 0, []⟩).All Q := by
  have e0 : ex (callN tab fue 60) fue (.asg (.nm 1) (.lst true [(.bi .list false [(.v 0)]), (.c (.int 0)), (.c (.int 0)), (.c (.int 75))])) s00 ⟨[], 0, 0, []⟩ = .ok (.nx, s01, h01) := rfl
  rw [q_exsc, e0, T.bind_ok]
  dsimp only
  have n0 : callN tab fue 60 15 [.ref 0, .int 4] h01 = .dr 4 fun i => .ok (.int i, h02) := rfl
  have e1 : ex (callN tab fue 60) fue (.asg (.nm 2) (.bin .add false (.c (.int 1)) (.call 15 [(.v 1), (.c (.int 4))]))) s01 h01 = .dr 4 fun i => .ok (.nx, s02 (1 + (i : Int)), h02) := by
    rw [q_asg, q_bin]
    have : ev (callN tab fue 60) (.call 15 [(.v 1), (.c (.int 4))]) s01 h01 = .dr 4 fun i => .ok (.int i, h02) := n0
    rw [q_c, T.bind_ok, this]
    rfl
  rw [q_exsc, e1]
  exact fun i hi => H i hi
structure AllR (Q : Rs → Prop) (t : T Rs) : Prop where
  all : t.All Q
def isT (r : Rs) : Prop := r.1 = .rt (.bl true)
theorem head_R {rest : List S} {Q : Rs → Prop} (H : ∀ i : Nat, i < 4 → AllR Q (exs (callN tab fue 60) fue rest (s02 (1 + (i : Int))) h02)) : AllR Q (exs (callN tab fue 60) fue ((.asg (.nm 1) (.lst true [(.bi .list false [(.v 0)]), (.c (.int 0)), (.c (.int 0)), (.c (.int 75))])) :: (.asg (.nm 2) (.bin .add false (.c (.int 1)) (.call 15 [(.v 1), (.c (.int 4))]))) :: rest) s00 ⟨[], 0, 0, []⟩) := ⟨head_run fun i hi => (H i hi).all⟩
theorem fin {r : Rs} (z : FinP 0 PA r) : isT r := by
  obtain ⟨fl, s1, h1⟩ := r
  unfold FinP at z
  cases fl with
  | nx => obtain ⟨γ, _, z⟩ := z; exact z.elim
  | bk => obtain ⟨γ, _, z⟩ := z; exact z.elim
  | ct => obtain ⟨γ, _, z⟩ := z; exact z.elim
  | rt v =>
    obtain ⟨x, γ, _, p, e⟩ := z
    have p : x = true := p
    subst p
    have : v = Inj.inj true := FlatC.ok e
    show Fl.rt v = _
    rw [this]
    rfl
theorem runA {γ : GA} {s : Env} {h : Hs} (rg : Rg 0 γ s h) (p : AllT PA (fA γ)) : AllR isT (exs (callN tab fue 60) fue bA s h) := ⟨T.all_mono (P := FinP 0 PA) (fun r z => fin z) (scA.run rg p.all)⟩
theorem main (H : ∀ i : Nat, i < 4 → AllT PA (fA (g0 (1 + (i : Int))))) : AllR isT (exs (callN tab fue 60) fue b_law s00 ⟨[], 0, 0, []⟩) := by
  rw [b_law_eq]
  apply head_R
  intro i hi
  have rg : Rg 0 (g0 (1 + (i : Int))) (s02 (1 + (i : Int))) h02 := ⟨[], rel0 _ _, List.nodup_nil, fun l m => absurd m List.not_mem_nil, ⟨rfl, rfl, rfl⟩, Nat.zero_le _, Nat.zero_le _, fun p hp => absurd hp List.not_mem_nil⟩
  exact runA rg (H i hi)
theorem runF_true {cf : Nat → List Val → Hs → T (Val × Hs)} {fu nN : Nat} {body : List S} {vs : List Val} {h : Hs} {s : Env} (es : vs.map some ++ List.replicate (nN - vs.length) none = s) (m : AllR isT (exs cf fu body s ⟨h.os, h.n, h.n, h.lk⟩)) : (runF cf fu nN body false vs h).All fun r => r.1 = .bl true := by
  unfold runF
  rw [T.all_bind, es]
  refine T.all_mono (fun r z => ?_) m.all
  obtain ⟨fl, s1, h1⟩ := r
  have z : fl = .rt (.bl true) := z
  subst z
  rfl
theorem runF_law {cf : Nat → List Val → Hs → T (Val × Hs)} {fu nN : Nat} {body : List S} {s : Env} (es : [Val.scr].map some ++ List.replicate (nN - [Val.scr].length) none = s) (m : AllR isT (exs cf fu body s ⟨[], 0, 0, []⟩)) : LawTrue cf fu nN body := ⟨runF_true es m⟩
theorem law_typed (H : ∀ i : Nat, i < 4 → AllT PA (fA (g0 (1 + (i : Int))))) : LawTrue (callN tab fue dep) fue N_law.length b_law := runF_law (s := s00) rfl (main H)
end Eng.k75
/-! k75: polynomials as rows of terms. -/
namespace Eng
open PySem L2
open Inj (inj)
namespace k75
/-- the number at an exponent, summed over a row of terms -/
def cs : List P2 → Int → Int
  | [], _ => 0
  | y :: l, x => (if y.t.1 = x then y.t.2.1 else 0) + cs l x
/-- exponents go up, no number is 0 -/
def Can : List P2 → Prop
  | [] => True
  | y :: l => y.t.2.1 ≠ 0 ∧ (∀ z ∈ l, y.t.1 < z.t.1) ∧ Can l
theorem cs_none : ∀ {l : List P2} {x : Int}, (∀ z ∈ l, z.t.1 ≠ x) → cs l x = 0
  | [], _, _ => rfl
  | y :: l, x, h => by
    unfold cs
    rw [if_neg (h y List.mem_cons_self), cs_none fun z m => h z (List.mem_cons_of_mem _ m)]
    rfl
theorem cs_app : ∀ (l m : List P2) (x : Int), cs (l ++ m) x = cs l x + cs m x
  | [], m, x => by show cs m x = 0 + cs m x; omega
  | y :: l, m, x => by
    show (if y.t.1 = x then y.t.2.1 else 0) + cs (l ++ m) x = (if y.t.1 = x then y.t.2.1 else 0) + cs l x + cs m x
    rw [cs_app l m x]
    omega
theorem can_eq : ∀ {p q : List P2}, Can p → Can q → (∀ x, cs p x = cs q x) → p = q
  | [], [], _, _, _ => rfl
  | [], z :: q, _, h, e => by
    have := e z.t.1
    unfold cs at this
    rw [if_pos rfl, cs_none fun w m => by have := h.2.1 w m; omega] at this
    exact absurd (by omega) h.1
  | y :: p, [], h, _, e => by
    have := e y.t.1
    unfold cs at this
    rw [if_pos rfl, cs_none fun w m => by have := h.2.1 w m; omega] at this
    exact absurd (by omega) h.1
  | y :: p, z :: q, h, k, e => by
    have hy : y.t.1 = z.t.1 := by
      by_cases a : y.t.1 < z.t.1
      · have := e y.t.1
        unfold cs at this
        rw [if_pos rfl, cs_none fun w m => by have := h.2.1 w m; omega, if_neg (by omega), cs_none fun w m => by have := k.2.1 w m; omega] at this
        exact absurd (by omega) h.1
      · by_cases b : z.t.1 < y.t.1
        · have := e z.t.1
          unfold cs at this
          rw [if_pos rfl, cs_none (l := q) fun w m => by have := k.2.1 w m; omega, if_neg (by omega), cs_none fun w m => by have := h.2.1 w m; omega] at this
          exact absurd (by omega) k.1
        · omega
    have hc : y.t.2.1 = z.t.2.1 := by
      have := e y.t.1
      unfold cs at this
      rw [if_pos rfl, if_pos hy.symm, cs_none (l := p) fun w m => by have := h.2.1 w m; omega, cs_none (l := q) fun w m => by have := k.2.1 w m; omega] at this
      omega
    have : y = z := by
      obtain ⟨a, b, _⟩ := y
      obtain ⟨c, d, _⟩ := z
      simp only at hy hc
      rw [hy, hc]
    subst this
    rw [can_eq h.2.2 k.2.2 fun x => by
      have := e x
      unfold cs at this
      omega]
/-! dicts -/
def gF (d : List (Int × Int)) (k : Int) : Int := (getD d k).getD 0
def Nd (d : List (Int × Int)) : Prop := (d.map Prod.fst).Nodup
theorem gF_put (d : List (Int × Int)) (k v j : Int) : gF (putD d k v) j = if k = j then v else gF d j := by
  unfold gF
  rw [getD_put]
  split <;> rfl
theorem putD_eq (d : List (Int × Int)) (k v : Int) : putD d k v = match d.any fun x => decide (x.1 = k) with
    | true => d.map fun x => match decide (x.1 = k) with | true => (x.1, v) | false => x
    | false => d ++ [(k, v)] := rfl
theorem putD_nd {d : List (Int × Int)} (h : Nd d) (k v : Int) : Nd (putD d k v) := by
  rw [putD_eq]
  cases a : d.any fun x => decide (x.1 = k) with
  | true =>
    show ((d.map _).map Prod.fst).Nodup
    have : (d.map fun x : Int × Int => match decide (x.1 = k) with | true => (x.1, v) | false => x).map Prod.fst = d.map Prod.fst := by
      rw [List.map_map]
      refine List.map_congr_left fun x _ => ?_
      show (match decide (x.1 = k) with | true => (x.1, v) | false => x).1 = x.1
      split <;> rfl
    rw [this]
    exact h
  | false =>
    show ((d ++ [(k, v)]).map Prod.fst).Nodup
    rw [List.map_append, List.nodup_append]
    refine ⟨h, by simp, fun a1 m1 b1 m2 => ?_⟩
    simp only [List.map_cons, List.map_nil, List.mem_singleton] at m2
    subst m2
    intro e
    subst e
    obtain ⟨x, m, rfl⟩ := List.mem_map.mp m1
    have : (d.any fun y => decide (y.1 = x.1)) = true := List.any_eq_true.mpr ⟨x, m, decide_eq_true (rfl : x.1 = x.1)⟩
    rw [a] at this
    cases this
theorem getD_some {d : List (Int × Int)} : ∀ {x : Int × Int}, Nd d → x ∈ d → getD d x.1 = some x.2 := by
  induction d with
  | nil => intro x _ m; cases m
  | cons y d ih =>
    intro x h m
    show (match decide (y.1 = x.1) with | true => some y.2 | false => getD d x.1) = _
    unfold Nd at h
    rw [List.map_cons, List.nodup_cons] at h
    rcases List.mem_cons.mp m with e | m
    · subst e
      rw [decide_eq_true rfl]
    · rw [decide_eq_false fun e => h.1 (by rw [e]; exact List.mem_map.mpr ⟨x, m, rfl⟩)]
      exact ih h.2 m
theorem getD_none {d : List (Int × Int)} : ∀ {k : Int}, k ∉ d.map Prod.fst → getD d k = none := by
  induction d with
  | nil => intro k _; rfl
  | cons y d ih =>
    intro k h
    rw [List.map_cons, List.mem_cons, not_or] at h
    show (match decide (y.1 = k) with | true => some y.2 | false => getD d k) = _
    rw [decide_eq_false fun e => h.1 e.symm]
    exact ih h.2
theorem gF_none {d : List (Int × Int)} {k : Int} (h : k ∉ d.map Prod.fst) : gF d k = 0 := by
  unfold gF
  rw [getD_none h]
  rfl
/-! gathered -/
theorem lcG_f {α β : Type} {t : α → T Bool} {e : α → T β} {p : α → Bool} {g : α → β} : ∀ {xs : List α}, (∀ x ∈ xs, t x = .ok (p x)) → (∀ x ∈ xs, p x = true → e x = .ok (g x)) → lcG t e xs = .ok ((xs.filter p).map g)
  | [], _, _ => rfl
  | x :: xs, H1, H2 => by
    unfold lcG
    rw [H1 x List.mem_cons_self, bo]
    have ih := lcG_f (xs := xs) (fun y m => H1 y (List.mem_cons_of_mem _ m)) (fun y m => H2 y (List.mem_cons_of_mem _ m))
    cases q : p x with
    | true =>
      simp only
      rw [H2 x List.mem_cons_self q, bo, ih, bo, List.filter_cons_of_pos q, List.map_cons]
    | false =>
      simp only
      rw [ih, List.filter_cons_of_neg (by rw [q]; exact Bool.false_ne_true)]
def gaL (d : List (Int × Int)) : List P2 := ((sortI (d.map Prod.fst)).filter fun x => !decide (gF d x = 0)).map fun x => ⟨(x, gF d x, ())⟩
theorem gaL_can (f : Int → Int) : ∀ {xs : List Int}, xs.Pairwise (· < ·) → Can ((xs.filter fun x => !decide (f x = 0)).map fun x => (⟨(x, f x, ())⟩ : P2)) ∧ ∀ x, cs ((xs.filter fun x => !decide (f x = 0)).map fun x => (⟨(x, f x, ())⟩ : P2)) x = if x ∈ xs then f x else 0
  | [], _ => ⟨trivial, fun x => rfl⟩
  | a :: xs, h => by
    obtain ⟨h1, h2⟩ := List.pairwise_cons.mp h
    obtain ⟨i1, i2⟩ := gaL_can f (xs := xs) h2
    by_cases q : f a = 0
    · rw [List.filter_cons_of_neg (by simp [q])]
      refine ⟨i1, fun x => ?_⟩
      rw [i2]
      by_cases e : x = a
      · subst e
        rw [if_neg fun m => by have := h1 x m; omega, if_pos List.mem_cons_self, q]
      · simp [e]
    · rw [List.filter_cons_of_pos (by simp [q]), List.map_cons]
      refine ⟨⟨q, fun z m => ?_, i1⟩, fun x => ?_⟩
      · obtain ⟨b, m', rfl⟩ := List.mem_map.mp m
        exact h1 b (List.mem_filter.mp m').1
      · show (if a = x then f a else 0) + cs _ x = _
        rw [i2]
        by_cases e : x = a
        · subst e
          rw [if_pos rfl, if_neg fun m => by have := h1 x m; omega, if_pos List.mem_cons_self]
          omega
        · rw [if_neg fun z => e z.symm]
          simp [e]
theorem sorted_lt {d : List Int} (h : d.Nodup) : (sortI d).Pairwise (· < ·) := by
  have s := sortI_sorted d
  have n : (sortI d).Nodup := (sortI_perm d).nodup_iff.mpr h
  have : ∀ l : List Int, l.Pairwise (· ≤ ·) → l.Nodup → l.Pairwise (· < ·) := by
    intro l
    induction l with
    | nil => intro _ _; exact List.Pairwise.nil
    | cons a l ih =>
      intro h1 h2
      rw [List.pairwise_cons] at h1 ⊢
      rw [List.nodup_cons] at h2
      refine ⟨fun b m => ?_, ih h1.2 h2.2⟩
      have := h1.1 b m
      have ne : a ≠ b := fun e => h2.1 (e ▸ m)
      omega
  exact this _ s n
theorem gaL_spec {d : List (Int × Int)} (h : Nd d) : Can (gaL d) ∧ ∀ x, cs (gaL d) x = gF d x := by
  obtain ⟨a, b⟩ := gaL_can (gF d) (sorted_lt h)
  refine ⟨a, fun x => ?_⟩
  show cs (((sortI (d.map Prod.fst)).filter fun x => !decide (gF d x = 0)).map fun x => (⟨(x, gF d x, ())⟩ : P2)) x = _
  rw [b]
  by_cases m : x ∈ sortI (d.map Prod.fst)
  · rw [if_pos m]
  · rw [if_neg m, gF_none fun z => m ((sortI_perm _).mem_iff.mpr z)]
theorem F0_ok {d : List (Int × Int)} (h : Nd d) (hl : d.length ≤ 1000000) : F0 () ⟨d⟩ = .ok ⟨gaL d⟩ := by
  have sm : small (sortI (d.map Prod.fst)).length = true := smL (by rw [(sortI_perm _).length_eq, List.length_map]; exact hl)
  have dp : (Inj.dp Po).blt 12 = true := rfl
  have q : lcG (fun x => (T.of (getD d x)).bind fun x => T.of (copI Cop.ne x 0)) (fun x => (((T.of (getD d x)).bind fun x => T.ok (x, ())).bind fun y => T.ok (x, y)).bind fun x => if small (InjR.injR x).length = true then T.ok ({ t := x } : P2) else T.no) (sortI (d.map Prod.fst)) = .ok (gaL d) := by
    have get : ∀ x ∈ sortI (d.map Prod.fst), getD d x = some (gF d x) := by
      intro x m
      obtain ⟨y, m', rfl⟩ := List.mem_map.mp ((sortI_perm _).mem_iff.mp m)
      unfold gF
      rw [getD_some h m']
      rfl
    refine lcG_f (p := fun x => !decide (gF d x = 0)) (g := fun x => (⟨(x, gF d x, ())⟩ : P2)) (fun x m => ?_) fun x m _ => ?_
    · rw [get x m, ofs, bo]
      rfl
    · rw [get x m, ofs, bo, bo, bo]
      rfl
  unfold F0 s0 ent0
  simp only [seqF, sm, if_true]
  rw [q, bo, bo]
  simp only [dp, if_true, bo]
  rfl
end k75
end Eng
/-! k75: sums and products. -/
namespace Eng
open PySem L2
open Inj (inj)
namespace k75
theorem ba (x y : Int) : bopI .add x y = some (x + y) := rfl
theorem bs (x y : Int) : bopI .sub x y = some (x - y) := rfl
def szI (x : Int) : Bool := Nat.blt x.natAbs 1000000000000000000000000000000
theorem szI_log {x : Int} (h : szI x = true) : Nat.blt x.natAbs.log2 400000 = true := by
  have h1 : x.natAbs < 1000000000000000000000000000000 := Nat.blt_eq.mp h
  refine Nat.blt_eq.mpr ?_
  by_cases z : x.natAbs = 0
  · rw [z]; decide
  · have : x.natAbs.log2 < 100 := (Nat.log2_lt z).mpr (Nat.lt_trans h1 (by decide))
    omega
theorem bm {x y : Int} (hx : szI x = true) (hy : szI y = true) : bopI .mul x y = some (x * y) := by
  show (if Nat.blt x.natAbs.log2 400000 && Nat.blt y.natAbs.log2 400000 then some (x * y) else none) = _
  rw [szI_log hx, szI_log hy]
  rfl
def szL (p : List P2) : Prop := ∀ y ∈ p, szI y.t.2.1 = true
/-- one term more -/
def up (d : List (Int × Int)) (k v : Int) : List (Int × Int) := putD d k (gF d k + v)
theorem up_gF (d : List (Int × Int)) (k v x : Int) : gF (up d k v) x = gF d x + if k = x then v else 0 := by
  unfold up
  rw [gF_put]
  by_cases h : k = x
  · subst h
    rw [if_pos rfl, if_pos rfl]
  · rw [if_neg h, if_neg h]
    omega
theorem up_nd {d : List (Int × Int)} (h : Nd d) (k v : Int) : Nd (up d k v) := putD_nd h k _
theorem up_len (d : List (Int × Int)) (k v : Int) : (up d k v).length ≤ d.length + 1 := putD_len d k _
def upT (d : List (Int × Int)) (y : P2) : List (Int × Int) := up d y.t.1 y.t.2.1
theorem upT_fold : ∀ (xs : List P2) {d : List (Int × Int)}, Nd d → Nd (xs.foldl upT d) ∧ (xs.foldl upT d).length ≤ d.length + xs.length ∧ ∀ x, gF (xs.foldl upT d) x = gF d x + cs xs x
  | [], d, h => ⟨h, by simp, fun x => by show gF d x = gF d x + 0; omega⟩
  | y :: xs, d, h => by
    obtain ⟨a, b, c⟩ := upT_fold xs (d := upT d y) (up_nd h _ _)
    rw [List.foldl_cons]
    refine ⟨a, ?_, fun x => ?_⟩
    · have := up_len d y.t.1 y.t.2.1
      rw [List.length_cons]
      show _ ≤ _
      have b' : (xs.foldl upT (upT d y)).length ≤ (up d y.t.1 y.t.2.1).length + xs.length := b
      omega
    · rw [c]
      show gF (up d y.t.1 y.t.2.1) x + cs xs x = gF d x + ((if y.t.1 = x then y.t.2.1 else 0) + cs xs x)
      rw [up_gF]
      omega
theorem nd0 : Nd [] := List.nodup_nil
theorem gF0 (x : Int) : gF [] x = 0 := rfl
/-! plus -/
theorem F1_run {p q : List P2} (h : p.length + q.length ≤ 1000) : F1 (⟨p⟩, ⟨q⟩, ()) = .ok ⟨gaL ((p ++ q).foldl upT [])⟩ := by
  obtain ⟨u1, u2, _⟩ := upT_fold (p ++ q) nd0
  have sm : small (p.length + q.length) = true := smL (by omega)
  have dp : (Inj.dp Po).blt 12 = true := rfl
  have e := for_fold (Γ := G1) (ρ := Po) (st := fun (a : P2) (γ : G1) => (γ.fst, γ.snd.fst, γ.snd.snd.fst, some a.t.fst, some a.t.snd.fst, γ.snd.snd.snd.snd.snd))
    (body := seqF (fun γ =>
                (((T.of γ.snd.snd.fst.l).bind fun d =>
                          (T.of γ.snd.snd.snd.fst).bind fun k => T.ok ((getD d.l k).getD 0)).bind
                      fun x => (T.of γ.snd.snd.snd.snd.fst).bind fun y => T.of (bopI Bop.add x y)).bind
                  fun x =>
                  ((T.of γ.snd.snd.fst.l).bind fun d =>
                        (T.of γ.snd.snd.snd.fst).bind fun k =>
                          if small d.l.length = true then
                            T.ok (γ.fst, γ.snd.fst, { l := some { l := putD d.l k x } }, γ.snd.snd.snd)
                          else T.no).bind
                    fun γ => T.ok (Fw.nx γ))
              fun γ => T.ok (Fw.nx γ))
    (R := OI × OI) (mk := fun d r => ((some ⟨p⟩, some ⟨q⟩, { l := some ⟨d⟩ }, r.1, r.2, ()) : G1)) (f := upT) (ok := fun d xs => d.length + xs.length ≤ 1000)
    (fun a xs d r ok => ⟨(some a.t.1, some a.t.2.1), by
      have sd : small d.length = true := smL (by rw [List.length_cons] at ok; omega)
      simp only [seqF, bo, ofs, ba, sd, if_true]
      rfl⟩)
    (fun a xs d ok => by
      have := up_len d a.t.1 a.t.2.1
      rw [List.length_cons] at ok
      show (up d a.t.1 a.t.2.1).length + xs.length ≤ 1000
      omega) (p ++ q) [] (none, none) (by rw [List.length_append]; simp; omega)
  obtain ⟨r, e⟩ := e
  unfold F1 s1
  simp only [seqF, Ent.st, bo, ofs, sm, if_true]
  refine bindOk (a := Fw.rt ⟨gaL ((p ++ q).foldl upT [])⟩ ((some ⟨p⟩, some ⟨q⟩, { l := some ⟨(p ++ q).foldl upT []⟩ }, r.1, r.2, ()) : G1)) ?_ rfl
  · refine bindOk e ?_
    simp only [bo, ofs]
    rw [F0_ok u1 (by rw [List.length_append] at u2; exact Nat.le_trans u2 (by simp only [List.length_nil]; omega)), bo]
    simp only [dp, if_true, bo]
theorem F1_ok {p q : List P2} (h : p.length + q.length ≤ 1000) : ∃ r, F1 (⟨p⟩, ⟨q⟩, ()) = .ok ⟨r⟩ ∧ Can r ∧ ∀ x, cs r x = cs p x + cs q x := by
  obtain ⟨u1, u2, u3⟩ := upT_fold (p ++ q) nd0
  obtain ⟨g1, g2⟩ := gaL_spec u1
  exact ⟨_, F1_run h, g1, fun x => by rw [g2, u3, cs_app, gF0]; omega⟩
/-! scaled, minus -/
def neT (n : Int) (y : P2) : P2 := ⟨(y.t.1, y.t.2.1 * n, ())⟩
theorem cs_ne (n : Int) : ∀ (p : List P2) (x : Int), cs (p.map (neT n)) x = cs p x * n
  | [], x => (Int.zero_mul n).symm
  | y :: p, x => by
    show (if y.t.1 = x then y.t.2.1 * n else 0) + cs (p.map (neT n)) x = ((if y.t.1 = x then y.t.2.1 else 0) + cs p x) * n
    rw [cs_ne n p x, Int.add_mul]
    split
    · rfl
    · rw [Int.zero_mul]
theorem F2_run {p : List P2} {n : Int} (h : p.length ≤ 1000) (hn : n ≠ 0) (sn : szI n = true) (sp : szL p) : F2 (⟨p⟩, n, ()) = .ok ⟨p.map (neT n)⟩ := by
  have sm : small p.length = true := smL (by omega)
  have dp : (Inj.dp Po).blt 12 = true := rfl
  have q : lcG (fun x : P2 => (T.of (some n)).bind fun x => T.of (copI Cop.ne x 0))
      (fun x : P2 => ((((T.of (some n)).bind fun y => T.of (bopI Bop.mul x.t.snd.fst y)).bind fun x => T.ok (x, ())).bind fun y => T.ok (x.t.fst, y)).bind fun x => if small (InjR.injR x).length = true then T.ok ({ t := x } : P2) else T.no) p = .ok (p.map (neT n)) := by
    have := lcG_f (p := fun _ : P2 => true) (g := neT n) (xs := p)
      (t := fun x : P2 => (T.of (some n)).bind fun x => T.of (copI Cop.ne x 0))
      (e := fun x : P2 => ((((T.of (some n)).bind fun y => T.of (bopI Bop.mul x.t.snd.fst y)).bind fun x => T.ok (x, ())).bind fun y => T.ok (x.t.fst, y)).bind fun x => if small (InjR.injR x).length = true then T.ok ({ t := x } : P2) else T.no)
      (fun x _ => by
        rw [ofs, bo]
        show T.of (some (!decide (n = 0))) = _
        rw [decide_eq_false hn]
        rfl)
      (fun x m _ => by
        rw [ofs, bo, bm (sp x m) sn, ofs, bo, bo, bo]
        rfl)
    rw [List.filter_eq_self.mpr fun _ _ => rfl] at this
    exact this
  unfold F2 s2
  simp only [seqF, Ent.st, sm, if_true]
  simp only [ofs, bo] at q ⊢
  rw [q]
  simp only [bo, dp, sm, if_true]
  rfl
theorem F3_ok {p q : List P2} (h : p.length + q.length ≤ 1000) (sq : szL q) : ∃ r, F3 (⟨p⟩, ⟨q⟩, ()) = .ok ⟨r⟩ ∧ Can r ∧ ∀ x, cs r x = cs p x - cs q x := by
  obtain ⟨r, e, c, f⟩ := F1_ok (p := p) (q := q.map (neT (-1))) (by rw [List.length_map]; exact h)
  refine ⟨r, ?_, c, fun x => by rw [f, cs_ne]; omega⟩
  have dp : (Inj.dp Po).blt 12 = true := rfl
  unfold F3 s3
  simp only [seqF, Ent.st, ofs, bo]
  rw [F2_run (by omega) (by decide) rfl sq]
  simp only [ofs, bo]
  rw [e]
  simp only [bo, dp, if_true]
  rfl
end k75
end Eng
/-! k75: products. -/
namespace Eng
open PySem L2
open Inj (inj)
namespace k75
/-- a term times a row -/
def rowP (a : P2) (q : List P2) : List P2 := q.map fun b => ⟨(a.t.1 + b.t.1, a.t.2.1 * b.t.2.1, ())⟩
def mulP (p q : List P2) : List P2 := (p.map fun a => rowP a q).flatten
def upR (a : P2) (d : List (Int × Int)) (b : P2) : List (Int × Int) := up d (a.t.1 + b.t.1) (a.t.2.1 * b.t.2.1)
theorem upR_fold (a : P2) : ∀ (q : List P2) (d : List (Int × Int)), q.foldl (upR a) d = (rowP a q).foldl upT d
  | [], d => rfl
  | b :: q, d => upR_fold a q _
def upM (q : List P2) (d : List (Int × Int)) (a : P2) : List (Int × Int) := q.foldl (upR a) d
theorem upM_fold (q : List P2) : ∀ (p : List P2) (d : List (Int × Int)), p.foldl (upM q) d = (mulP p q).foldl upT d
  | [], d => rfl
  | a :: p, d => by
    rw [List.foldl_cons, upM_fold q p]
    show _ = ((rowP a q) ++ mulP p q).foldl upT d
    rw [List.foldl_append, ← upR_fold]
    rfl
theorem mulP_len (p q : List P2) : (mulP p q).length = p.length * q.length := by
  induction p with
  | nil => show 0 = 0 * q.length; omega
  | cons a p ih =>
    show ((rowP a q) ++ mulP p q).length = (p.length + 1) * q.length
    rw [List.length_append, ih, Nat.add_mul]
    unfold rowP
    rw [List.length_map]
    omega
theorem upM_len (q : List P2) (d : List (Int × Int)) (a : P2) (h : Nd d) : Nd (upM q d a) ∧ (upM q d a).length ≤ d.length + q.length := by
  unfold upM
  rw [upR_fold]
  obtain ⟨x, y, _⟩ := upT_fold (rowP a q) h
  refine ⟨x, ?_⟩
  unfold rowP at y
  rw [List.length_map] at y
  exact y
theorem F4_run {p q : List P2} (h : p.length * q.length ≤ 1000) (sp : szL p) (sq : szL q) : F4 (⟨p⟩, ⟨q⟩, ()) = .ok ⟨gaL ((mulP p q).foldl upT [])⟩ := by
  obtain ⟨u1, u2, _⟩ := upT_fold (mulP p q) nd0
  have dp : (Inj.dp Po).blt 12 = true := rfl
  have e := for_fold (Γ := G4) (ρ := Po) (st := fun (a : P2) (γ : G4) => (γ.fst, γ.snd.fst, γ.snd.snd.fst, some a.t.fst, some a.t.snd.fst, γ.snd.snd.snd.snd.snd))
    (body := seqF
              (fun γ =>
                ((T.of γ.snd.fst).bind fun t => T.ok t.l).bind fun xs =>
                  forF
                    (fun (a : P2) γ =>
                      (γ.fst, γ.snd.fst, γ.snd.snd.fst, γ.snd.snd.snd.fst, γ.snd.snd.snd.snd.fst, some a.t.fst,
                        some a.t.snd.fst, γ.snd.snd.snd.snd.snd.snd.snd))
                    (seqF
                      (fun γ =>
                        (((T.of γ.snd.snd.fst.l).bind fun d =>
                                  ((T.of γ.snd.snd.snd.fst).bind fun x =>
                                        (T.of γ.snd.snd.snd.snd.snd.fst).bind fun y => T.of (bopI Bop.add x y)).bind
                                    fun k => T.ok ((getD d.l k).getD 0)).bind
                              fun x =>
                              ((T.of γ.snd.snd.snd.snd.fst).bind fun x =>
                                    (T.of γ.snd.snd.snd.snd.snd.snd.fst).bind fun y => T.of (bopI Bop.mul x y)).bind
                                fun y => T.of (bopI Bop.add x y)).bind
                          fun x =>
                          ((T.of γ.snd.snd.fst.l).bind fun d =>
                                ((T.of γ.snd.snd.snd.fst).bind fun x =>
                                      (T.of γ.snd.snd.snd.snd.snd.fst).bind fun y => T.of (bopI Bop.add x y)).bind
                                  fun k =>
                                  if small d.l.length = true then
                                    T.ok (γ.fst, γ.snd.fst, { l := some { l := putD d.l k x } }, γ.snd.snd.snd)
                                  else T.no).bind
                            fun γ => T.ok (Fw.nx γ))
                      fun γ => T.ok (Fw.nx γ))
                    xs γ)
              fun γ => T.ok (Fw.nx γ))
    (R := OI × OI × OI × OI) (mk := fun d r => ((some ⟨p⟩, some ⟨q⟩, { l := some ⟨d⟩ }, r.1, r.2.1, r.2.2.1, r.2.2.2, ()) : G4)) (f := upM q) (ok := fun d xs => Nd d ∧ d.length + xs.length * q.length ≤ 1000 ∧ ∀ y ∈ xs, szI y.t.2.1 = true)
    (fun a xs d r ok => by
      obtain ⟨nd, ok, sz⟩ := ok
      rw [List.length_cons, Nat.add_mul] at ok
      have e := for_fold (Γ := G4) (ρ := Po) (st := fun (a : P2) (γ : G4) => (γ.fst, γ.snd.fst, γ.snd.snd.fst, γ.snd.snd.snd.fst, γ.snd.snd.snd.snd.fst, some a.t.fst,
                        some a.t.snd.fst, γ.snd.snd.snd.snd.snd.snd.snd))
        (body := seqF
                      (fun γ =>
                        (((T.of γ.snd.snd.fst.l).bind fun d =>
                                  ((T.of γ.snd.snd.snd.fst).bind fun x =>
                                        (T.of γ.snd.snd.snd.snd.snd.fst).bind fun y => T.of (bopI Bop.add x y)).bind
                                    fun k => T.ok ((getD d.l k).getD 0)).bind
                              fun x =>
                              ((T.of γ.snd.snd.snd.snd.fst).bind fun x =>
                                    (T.of γ.snd.snd.snd.snd.snd.snd.fst).bind fun y => T.of (bopI Bop.mul x y)).bind
                                fun y => T.of (bopI Bop.add x y)).bind
                          fun x =>
                          ((T.of γ.snd.snd.fst.l).bind fun d =>
                                ((T.of γ.snd.snd.snd.fst).bind fun x =>
                                      (T.of γ.snd.snd.snd.snd.snd.fst).bind fun y => T.of (bopI Bop.add x y)).bind
                                  fun k =>
                                  if small d.l.length = true then
                                    T.ok (γ.fst, γ.snd.fst, { l := some { l := putD d.l k x } }, γ.snd.snd.snd)
                                  else T.no).bind
                            fun γ => T.ok (Fw.nx γ))
                      fun γ => T.ok (Fw.nx γ))
        (R := OI × OI) (mk := fun d r => ((some ⟨p⟩, some ⟨q⟩, { l := some ⟨d⟩ }, some a.t.1, some a.t.2.1, r.1, r.2, ()) : G4)) (f := upR a) (ok := fun d xs => d.length + xs.length ≤ 1000 ∧ ∀ y ∈ xs, szI y.t.2.1 = true)
        (fun b xs d r ok => ⟨(some b.t.1, some b.t.2.1), by
          obtain ⟨ok, sb⟩ := ok
          have sd : small d.length = true := smL (by rw [List.length_cons] at ok; omega)
          simp only [seqF, bo, ofs, ba, sd, if_true, bm (sz a List.mem_cons_self) (sb b List.mem_cons_self)]
          rfl⟩)
        (fun b xs d ok => by
          obtain ⟨ok, sb⟩ := ok
          have := up_len d (a.t.1 + b.t.1) (a.t.2.1 * b.t.2.1)
          rw [List.length_cons] at ok
          refine ⟨?_, fun y m => sb y (List.mem_cons_of_mem _ m)⟩
          show (up d (a.t.1 + b.t.1) (a.t.2.1 * b.t.2.1)).length + xs.length ≤ 1000
          omega) q d (r.2.2.1, r.2.2.2) ⟨by omega, sq⟩
      obtain ⟨r2, e⟩ := e
      refine ⟨(some a.t.1, some a.t.2.1, r2.1, r2.2), ?_⟩
      simp only [seqF, bo, ofs]
      refine bindOk e ?_
      rfl)
    (fun a xs d ok => by
      obtain ⟨nd, ok, sz⟩ := ok
      obtain ⟨x, y⟩ := upM_len q d a nd
      rw [List.length_cons, Nat.add_mul] at ok
      exact ⟨x, by omega, fun y m => sz y (List.mem_cons_of_mem _ m)⟩) p [] (none, none, none, none) ⟨nd0, by simp; omega, sp⟩
  obtain ⟨r, e⟩ := e
  rw [upM_fold] at e
  unfold F4 s4
  simp only [seqF, Ent.st, bo, ofs]
  refine bindOk (a := Fw.rt ⟨gaL ((mulP p q).foldl upT [])⟩ ((some ⟨p⟩, some ⟨q⟩, { l := some ⟨(mulP p q).foldl upT []⟩ }, r.1, r.2.1, r.2.2.1, r.2.2.2, ()) : G4)) ?_ rfl
  · refine bindOk e ?_
    simp only [bo, ofs]
    rw [F0_ok u1 (by rw [mulP_len] at u2; exact Nat.le_trans u2 (by simp only [List.length_nil]; omega)), bo]
    simp only [dp, if_true, bo]
theorem F4_ok {p q : List P2} (h : p.length * q.length ≤ 1000) (sp : szL p) (sq : szL q) : ∃ r, F4 (⟨p⟩, ⟨q⟩, ()) = .ok ⟨r⟩ ∧ Can r ∧ ∀ x, cs r x = cs (mulP p q) x := by
  obtain ⟨u1, u2, u3⟩ := upT_fold (mulP p q) nd0
  obtain ⟨g1, g2⟩ := gaL_spec u1
  exact ⟨_, F4_run h sp sq, g1, fun x => by rw [g2, u3, gF0]; omega⟩
end k75
end Eng
/-! k75: what a division needs. -/
namespace Eng
open PySem L2
open Inj (inj)
namespace k75
theorem mulP_mem {p q : List P2} {z : P2} (m : z ∈ mulP p q) : ∃ a ∈ p, ∃ b ∈ q, z = ⟨(a.t.1 + b.t.1, a.t.2.1 * b.t.2.1, ())⟩ := by
  obtain ⟨l, ml, mz⟩ := List.mem_flatten.mp m
  obtain ⟨a, ma, rfl⟩ := List.mem_map.mp ml
  obtain ⟨b, mb, rfl⟩ := List.mem_map.mp mz
  exact ⟨a, ma, b, mb, rfl⟩
theorem rowP_mem {a : P2} {q : List P2} {z : P2} (m : z ∈ rowP a q) : ∃ b ∈ q, z = ⟨(a.t.1 + b.t.1, a.t.2.1 * b.t.2.1, ())⟩ := by
  obtain ⟨b, mb, rfl⟩ := List.mem_map.mp m
  exact ⟨b, mb, rfl⟩
theorem mulP_app (p p' q : List P2) : mulP (p ++ p') q = mulP p q ++ mulP p' q := by
  unfold mulP
  rw [List.map_append, List.flatten_append]
theorem mulP_one (a : P2) (q : List P2) : mulP [a] q = rowP a q := List.append_nil _
theorem can_app {p : List P2} {z : P2} : Can (p ++ [z]) → Can p ∧ z.t.2.1 ≠ 0 ∧ ∀ y ∈ p, y.t.1 < z.t.1 := by
  induction p with
  | nil => intro h; exact ⟨trivial, h.1, fun y m => by cases m⟩
  | cons y p ih =>
    intro h
    obtain ⟨a, b, c⟩ := ih h.2.2
    refine ⟨⟨h.1, fun w m => h.2.1 w (List.mem_append.mpr (Or.inl m)), a⟩, b, fun w m => ?_⟩
    rcases List.mem_cons.mp m with e | m
    · subst e
      exact h.2.1 z (List.mem_append.mpr (Or.inr List.mem_cons_self))
    · exact c w m
theorem can_nz {p : List P2} (h : Can p) : ∀ y ∈ p, y.t.2.1 ≠ 0 := by
  induction p with
  | nil => intro y m; cases m
  | cons z p ih =>
    intro y m
    rcases List.mem_cons.mp m with e | m
    · subst e; exact h.1
    · exact ih h.2.2 y m
/-- the last number of a product -/
theorem mul_top {r s : List P2} {z w : P2} (hr : Can (r ++ [z])) (hs : Can (s ++ [w])) : cs (mulP (r ++ [z]) (s ++ [w])) (z.t.1 + w.t.1) = z.t.2.1 * w.t.2.1 := by
  obtain ⟨_, _, r1⟩ := can_app hr
  obtain ⟨_, _, s1⟩ := can_app hs
  rw [mulP_app, cs_app, cs_none, mulP_one]
  · unfold rowP
    rw [List.map_append, cs_app, cs_none]
    · show 0 + (0 + ((if z.t.1 + w.t.1 = z.t.1 + w.t.1 then z.t.2.1 * w.t.2.1 else 0) + 0)) = _
      rw [if_pos rfl]
      omega
    · intro y m
      obtain ⟨b, mb, rfl⟩ := rowP_mem (a := z) m
      have := s1 b mb
      show z.t.1 + b.t.1 ≠ _
      omega
  · intro y m
    obtain ⟨a, ma, b, mb, rfl⟩ := mulP_mem m
    have h1 := r1 a ma
    have h2 : b.t.1 ≤ w.t.1 := by
      rcases List.mem_append.mp mb with mb | mb
      · exact Int.le_of_lt (s1 b mb)
      · rw [List.mem_singleton.mp mb]; exact Int.le_refl _
    show a.t.1 + b.t.1 ≠ _
    omega
theorem mul_high {r s : List P2} {z w : P2} (hr : Can (r ++ [z])) (hs : Can (s ++ [w])) {x : Int} (hx : z.t.1 + w.t.1 < x) : cs (mulP (r ++ [z]) (s ++ [w])) x = 0 := by
  obtain ⟨_, _, r1⟩ := can_app hr
  obtain ⟨_, _, s1⟩ := can_app hs
  refine cs_none fun y m => ?_
  obtain ⟨a, ma, b, mb, rfl⟩ := mulP_mem m
  have h1 : a.t.1 ≤ z.t.1 := by
    rcases List.mem_append.mp ma with ma | ma
    · exact Int.le_of_lt (r1 a ma)
    · rw [List.mem_singleton.mp ma]; exact Int.le_refl _
  have h2 : b.t.1 ≤ w.t.1 := by
    rcases List.mem_append.mp mb with mb | mb
    · exact Int.le_of_lt (s1 b mb)
    · rw [List.mem_singleton.mp mb]; exact Int.le_refl _
  show a.t.1 + b.t.1 ≠ _
  omega
theorem mul_bot {r s : List P2} {z w : P2} (hr : Can (z :: r)) (hs : Can (w :: s)) : cs (mulP (z :: r) (w :: s)) (z.t.1 + w.t.1) = z.t.2.1 * w.t.2.1 := by
  show cs (rowP z (w :: s) ++ mulP r (w :: s)) _ = _
  rw [cs_app, cs_none (l := mulP r (w :: s))]
  · show (if z.t.1 + w.t.1 = z.t.1 + w.t.1 then z.t.2.1 * w.t.2.1 else 0) + cs (rowP z s) _ + 0 = _
    rw [if_pos rfl, cs_none]
    · omega
    · intro y m
      obtain ⟨b, mb, rfl⟩ := rowP_mem (a := z) m
      have := hs.2.1 b mb
      show z.t.1 + b.t.1 ≠ _
      omega
  · intro y m
    obtain ⟨a, ma, b, mb, rfl⟩ := mulP_mem m
    have h1 := hr.2.1 a ma
    have h2 : w.t.1 ≤ b.t.1 := by
      rcases List.mem_cons.mp mb with mb | mb
      · rw [mb]; exact Int.le_refl _
      · exact Int.le_of_lt (hs.2.1 b mb)
    show a.t.1 + b.t.1 ≠ _
    omega
theorem mul_low {r s : List P2} {z w : P2} (hr : Can (z :: r)) (hs : Can (w :: s)) {x : Int} (hx : x < z.t.1 + w.t.1) : cs (mulP (z :: r) (w :: s)) x = 0 := by
  refine cs_none fun y m => ?_
  obtain ⟨a, ma, b, mb, rfl⟩ := mulP_mem m
  have h1 : z.t.1 ≤ a.t.1 := by
    rcases List.mem_cons.mp ma with ma | ma
    · rw [ma]; exact Int.le_refl _
    · exact Int.le_of_lt (hr.2.1 a ma)
  have h2 : w.t.1 ≤ b.t.1 := by
    rcases List.mem_cons.mp mb with mb | mb
    · rw [mb]; exact Int.le_refl _
    · exact Int.le_of_lt (hs.2.1 b mb)
  show a.t.1 + b.t.1 ≠ _
  omega
/-! least and greatest -/
theorem maxI_is : ∀ {xs : List Int} {m M : Int}, (∀ y ∈ m :: xs, y ≤ M) → M ∈ m :: xs → maxI m xs = M
  | [], m, M, _, h => (List.mem_singleton.mp h).symm
  | x :: xs, m, M, h1, h2 => by
    unfold maxI
    have a := h1 m List.mem_cons_self
    have b := h1 x (List.mem_cons_of_mem _ List.mem_cons_self)
    have c : ∀ y ∈ xs, y ≤ M := fun y m => h1 y (List.mem_cons_of_mem _ (List.mem_cons_of_mem _ m))
    by_cases q : m < x
    · rw [decide_eq_true q, if_pos rfl]
      refine maxI_is (fun y my => ?_) ?_
      · rcases List.mem_cons.mp my with e | my
        · rw [e]; exact b
        · exact c y my
      · rcases List.mem_cons.mp h2 with e | h2
        · subst e; omega
        · exact h2
    · rw [decide_eq_false q, if_neg Bool.false_ne_true]
      refine maxI_is (fun y my => ?_) ?_
      · rcases List.mem_cons.mp my with e | my
        · rw [e]; exact a
        · exact c y my
      · rcases List.mem_cons.mp h2 with e | h2
        · rw [e]; exact List.mem_cons_self
        · rcases List.mem_cons.mp h2 with e | h2
          · have : m = M := by omega
            rw [this]; exact List.mem_cons_self
          · exact List.mem_cons_of_mem _ h2
theorem minI_is : ∀ {xs : List Int} {m M : Int}, (∀ y ∈ m :: xs, M ≤ y) → M ∈ m :: xs → minI m xs = M
  | [], m, M, _, h => (List.mem_singleton.mp h).symm
  | x :: xs, m, M, h1, h2 => by
    unfold minI
    have a := h1 m List.mem_cons_self
    have b := h1 x (List.mem_cons_of_mem _ List.mem_cons_self)
    have c : ∀ y ∈ xs, M ≤ y := fun y m => h1 y (List.mem_cons_of_mem _ (List.mem_cons_of_mem _ m))
    by_cases q : x < m
    · rw [decide_eq_true q, if_pos rfl]
      refine minI_is (fun y my => ?_) ?_
      · rcases List.mem_cons.mp my with e | my
        · rw [e]; exact b
        · exact c y my
      · rcases List.mem_cons.mp h2 with e | h2
        · subst e; omega
        · exact h2
    · rw [decide_eq_false q, if_neg Bool.false_ne_true]
      refine minI_is (fun y my => ?_) ?_
      · rcases List.mem_cons.mp my with e | my
        · rw [e]; exact a
        · exact c y my
      · rcases List.mem_cons.mp h2 with e | h2
        · rw [e]; exact List.mem_cons_self
        · rcases List.mem_cons.mp h2 with e | h2
          · have : m = M := by omega
            rw [this]; exact List.mem_cons_self
          · exact List.mem_cons_of_mem _ h2
/-! dicts without zeros -/
def NZ (d : List (Int × Int)) : Prop := ∀ x ∈ d, x.2 ≠ 0
theorem gF_mem {d : List (Int × Int)} (h : Nd d) {x : Int × Int} (m : x ∈ d) : gF d x.1 = x.2 := by
  unfold gF
  rw [getD_some h m]
  rfl
theorem key_of {d : List (Int × Int)} {k : Int} (h : gF d k ≠ 0) : k ∈ d.map Prod.fst := by
  by_cases m : k ∈ d.map Prod.fst
  · exact m
  · exact absurd (gF_none m) h
theorem gF_key {d : List (Int × Int)} (h : Nd d) (z : NZ d) {k : Int} (m : k ∈ d.map Prod.fst) : gF d k ≠ 0 := by
  obtain ⟨x, m', rfl⟩ := List.mem_map.mp m
  rw [gF_mem h m']
  exact z x m'
theorem nz_put {d : List (Int × Int)} (z : NZ d) (k : Int) {v : Int} (hv : v ≠ 0) : NZ (putD d k v) := by
  intro x m
  rw [putD_eq] at m
  split at m
  · obtain ⟨y, my, rfl⟩ := List.mem_map.mp m
    split
    · exact hv
    · exact z y my
  · rcases List.mem_append.mp m with m | m
    · exact z x m
    · rw [List.mem_singleton.mp m]
      exact hv
theorem delD_eq (d : List (Int × Int)) (k : Int) : delD d k = d.filter fun x => !decide (x.1 = k) := rfl
theorem gF_del : ∀ (d : List (Int × Int)) (k x : Int), gF (delD d k) x = if k = x then 0 else gF d x
  | [], k, x => by
    show (0 : Int) = if k = x then 0 else 0
    split <;> rfl
  | y :: d, k, x => by
    have ih := gF_del d k x
    rw [delD_eq] at ih ⊢
    have u : ∀ d', gF (y :: d') x = if y.1 = x then y.2 else gF d' x := by
      intro d'
      show (match decide (y.1 = x) with | true => some y.2 | false => getD d' x).getD 0 = _
      by_cases e : y.1 = x
      · rw [decide_eq_true e, if_pos e]; rfl
      · rw [decide_eq_false e, if_neg e]; rfl
    by_cases q : y.1 = k
    · rw [List.filter_cons_of_neg (by simp [q]), ih, u]
      by_cases e : k = x
      · rw [if_pos e, if_pos e]
      · rw [if_neg e, if_neg e, if_neg (by rw [q]; exact e)]
    · rw [List.filter_cons_of_pos (by simp [q]), u, u, ih]
      by_cases e : y.1 = x
      · rw [if_pos e, if_pos e, if_neg (by rw [← e]; exact fun z => q z.symm)]
      · rw [if_neg e, if_neg e]
theorem del_nd {d : List (Int × Int)} (h : Nd d) (k : Int) : Nd (delD d k) := by
  unfold Nd
  exact h.sublist ((List.filter_sublist (l := d)).map Prod.fst)
theorem del_nz {d : List (Int × Int)} (z : NZ d) (k : Int) : NZ (delD d k) := fun x m => z x (List.mem_filter.mp m).1
theorem del_len (d : List (Int × Int)) (k : Int) : (delD d k).length ≤ d.length := List.length_filter_le _ _
theorem some_of {d : List (Int × Int)} {k : Int} (h : gF d k ≠ 0) : (getD d k).isSome = true := by
  unfold gF at h
  cases e : getD d k with
  | none => rw [e] at h; exact absurd rfl h
  | some v => rfl
theorem get_of {d : List (Int × Int)} {k : Int} (h : gF d k ≠ 0) : getD d k = some (gF d k) := by
  unfold gF at h ⊢
  cases e : getD d k with
  | none => rw [e] at h; exact absurd rfl h
  | some v => rfl
/-! filling a dict -/
theorem fill_spec : ∀ (l : List P2) {d : List (Int × Int)}, Nd d → NZ d → (l.map fun y => y.t.1).Nodup → (∀ y ∈ l, y.t.2.1 ≠ 0) → (∀ y ∈ l, gF d y.t.1 = 0) → Nd (fillD l d) ∧ NZ (fillD l d) ∧ (fillD l d).length ≤ d.length + l.length ∧ ∀ x, gF (fillD l d) x = gF d x + cs l x
  | [], d, h, z, _, _, _ => ⟨h, z, Nat.le_refl _, fun x => by show gF d x = gF d x + 0; omega⟩
  | y :: l, d, h, z, n, nz, dj => by
    rw [List.map_cons, List.nodup_cons] at n
    have ne : ∀ w ∈ l, y.t.1 ≠ w.t.1 := fun w m e => n.1 (e ▸ List.mem_map.mpr ⟨w, m, rfl⟩)
    obtain ⟨a, b, c, e⟩ := fill_spec l (d := putD d y.t.1 y.t.2.1) (putD_nd h _ _) (nz_put z _ (nz y List.mem_cons_self)) n.2 (fun w m => nz w (List.mem_cons_of_mem _ m)) (fun w m => by
      rw [gF_put, if_neg (ne w m)]
      exact dj w (List.mem_cons_of_mem _ m))
    refine ⟨a, b, ?_, fun x => ?_⟩
    · show (fillD l (putD d y.t.1 y.t.2.1)).length ≤ _
      have := putD_len d y.t.1 y.t.2.1
      rw [List.length_cons]
      omega
    · show gF (fillD l (putD d y.t.1 y.t.2.1)) x = gF d x + ((if y.t.1 = x then y.t.2.1 else 0) + cs l x)
      rw [e, gF_put]
      by_cases q : y.t.1 = x
      · rw [if_pos q, if_pos q, ← q, dj y List.mem_cons_self]
        omega
      · rw [if_neg q, if_neg q]
        omega
theorem can_nodup : ∀ {l : List P2}, Can l → (l.map fun y => y.t.1).Nodup
  | [], _ => List.nodup_nil
  | y :: l, h => by
    rw [List.map_cons, List.nodup_cons]
    refine ⟨fun m => ?_, can_nodup h.2.2⟩
    obtain ⟨z, m, e⟩ := List.mem_map.mp m
    have := h.2.1 z m
    omega
theorem cs_rev : ∀ (l : List P2) (x : Int), cs l.reverse x = cs l x
  | [], x => rfl
  | y :: l, x => by
    rw [List.reverse_cons, cs_app, cs_rev l]
    show cs l x + ((if y.t.1 = x then y.t.2.1 else 0) + 0) = (if y.t.1 = x then y.t.2.1 else 0) + cs l x
    omega
theorem nz0 : NZ [] := fun x m => by cases m
end k75
end Eng
/-! k75: the division. -/
namespace Eng
open PySem L2
open Inj (inj)
namespace k75
/-- one term of the divisor, times c at e, taken away -/
def dn (e c : Int) (d : List (Int × Int)) (y : P2) : List (Int × Int) :=
  if gF d (e + y.t.1) - c * y.t.2.1 = 0 then delD d (e + y.t.1) else putD d (e + y.t.1) (gF d (e + y.t.1) - c * y.t.2.1)
theorem dn_spec {e c : Int} {d : List (Int × Int)} (h : Nd d) (z : NZ d) (y : P2) : Nd (dn e c d y) ∧ NZ (dn e c d y) ∧ (dn e c d y).length ≤ d.length + 1 ∧ ∀ x, gF (dn e c d y) x = gF d x - if e + y.t.1 = x then c * y.t.2.1 else 0 := by
  unfold dn
  split
  · rename_i q
    refine ⟨del_nd h _, del_nz z _, Nat.le_succ_of_le (del_len d _), fun x => ?_⟩
    rw [gF_del]
    by_cases a : e + y.t.1 = x
    · rw [if_pos a, if_pos a, ← a]
      omega
    · rw [if_neg a, if_neg a]
      omega
  · rename_i q
    refine ⟨putD_nd h _ _, nz_put z _ q, putD_len d _ _, fun x => ?_⟩
    rw [gF_put]
    by_cases a : e + y.t.1 = x
    · rw [if_pos a, if_pos a, ← a]
    · rw [if_neg a, if_neg a]
      omega
theorem dn_fold (z : P2) : ∀ (s : List P2) {d : List (Int × Int)}, Nd d → NZ d → Nd (s.foldl (dn z.t.1 z.t.2.1) d) ∧ NZ (s.foldl (dn z.t.1 z.t.2.1) d) ∧ (s.foldl (dn z.t.1 z.t.2.1) d).length ≤ d.length + s.length ∧ ∀ x, gF (s.foldl (dn z.t.1 z.t.2.1) d) x = gF d x - cs (rowP z s) x
  | [], d, h, n => ⟨h, n, Nat.le_refl _, fun x => by show gF d x = gF d x - 0; omega⟩
  | y :: s, d, h, n => by
    obtain ⟨a, b, c, e⟩ := dn_spec (e := z.t.1) (c := z.t.2.1) h n y
    obtain ⟨a', b', c', e'⟩ := dn_fold z s a b
    rw [List.foldl_cons, List.length_cons]
    refine ⟨a', b', by omega, fun x => ?_⟩
    rw [e', e]
    show gF d x - (if z.t.1 + y.t.1 = x then z.t.2.1 * y.t.2.1 else 0) - cs (rowP z s) x = gF d x - ((if z.t.1 + y.t.1 = x then z.t.2.1 * y.t.2.1 else 0) + cs (rowP z s) x)
    omega
abbrev J5 := OI × OI × OI × OI × OI × OI
/-- the state of the division -/
def mk5 (n s : List P2) (top lead : Int) (b : List (Int × Int) × List (Int × Int)) (j : J5) : G5 :=
  (some ⟨n⟩, some ⟨s⟩, { l := some ⟨b.1⟩ }, { l := some ⟨b.2⟩ }, some top, some lead, j.1, j.2.1, j.2.2.1, j.2.2.2.1, j.2.2.2.2.1, j.2.2.2.2.2, ())
def i5 : G5 → T (Fw G5 (Option Po)) := seqF
                              (fun γ =>
                                (((T.of γ.snd.snd.snd.snd.snd.snd.fst).bind fun x =>
                                          (T.of γ.snd.snd.snd.snd.fst).bind fun y => T.of (bopI Bop.sub x y)).bind
                                      fun x =>
                                      (T.of γ.snd.snd.snd.snd.snd.snd.snd.snd.fst).bind fun y =>
                                        T.of (bopI Bop.add x y)).bind
                                  fun x =>
                                  T.ok
                                    (Fw.nx
                                      (γ.fst, γ.snd.fst, γ.snd.snd.fst, γ.snd.snd.snd.fst, γ.snd.snd.snd.snd.fst,
                                        γ.snd.snd.snd.snd.snd.fst, γ.snd.snd.snd.snd.snd.snd.fst,
                                        γ.snd.snd.snd.snd.snd.snd.snd.fst, γ.snd.snd.snd.snd.snd.snd.snd.snd.fst,
                                        γ.snd.snd.snd.snd.snd.snd.snd.snd.snd.fst, some x,
                                        γ.snd.snd.snd.snd.snd.snd.snd.snd.snd.snd.snd)))
                              (seqF
                                (fun γ =>
                                  (((T.of γ.snd.snd.fst.l).bind fun d =>
                                            (T.of γ.snd.snd.snd.snd.snd.snd.snd.snd.snd.snd.fst).bind fun k =>
                                              T.ok ((getD d.l k).getD 0)).bind
                                        fun x =>
                                        ((T.of γ.snd.snd.snd.snd.snd.snd.snd.fst).bind fun x =>
                                              (T.of γ.snd.snd.snd.snd.snd.snd.snd.snd.snd.fst).bind fun y =>
                                                T.of (bopI Bop.mul x y)).bind
                                          fun y => T.of (bopI Bop.sub x y)).bind
                                    fun x =>
                                    T.ok
                                      (Fw.nx
                                        (γ.fst, γ.snd.fst, γ.snd.snd.fst, γ.snd.snd.snd.fst, γ.snd.snd.snd.snd.fst,
                                          γ.snd.snd.snd.snd.snd.fst, γ.snd.snd.snd.snd.snd.snd.fst,
                                          γ.snd.snd.snd.snd.snd.snd.snd.fst, γ.snd.snd.snd.snd.snd.snd.snd.snd.fst,
                                          γ.snd.snd.snd.snd.snd.snd.snd.snd.snd.fst,
                                          γ.snd.snd.snd.snd.snd.snd.snd.snd.snd.snd.fst, some x,
                                          γ.snd.snd.snd.snd.snd.snd.snd.snd.snd.snd.snd.snd)))
                                (seqF
                                  (fun γ =>
                                    ((T.of γ.snd.snd.snd.snd.snd.snd.snd.snd.snd.snd.snd.fst).bind fun x =>
                                          T.of (copI Cop.eq x 0)).bind
                                      fun x =>
                                      match x with
                                      | true =>
                                        seqF
                                          (fun γ =>
                                            (T.of γ.snd.snd.fst.l).bind fun d =>
                                              (T.of γ.snd.snd.snd.snd.snd.snd.snd.snd.snd.snd.fst).bind fun k =>
                                                if (getD d.l k).isSome = true then
                                                  T.ok
                                                    (Fw.nx
                                                      (γ.fst, γ.snd.fst, { l := some { l := delD d.l k } },
                                                        γ.snd.snd.snd))
                                                else T.no)
                                          (fun γ => T.ok (Fw.nx γ)) γ
                                      | false =>
                                        seqF
                                          (fun γ =>
                                            (T.of γ.snd.snd.snd.snd.snd.snd.snd.snd.snd.snd.snd.fst).bind fun x =>
                                              ((T.of γ.snd.snd.fst.l).bind fun d =>
                                                    (T.of γ.snd.snd.snd.snd.snd.snd.snd.snd.snd.snd.fst).bind fun k =>
                                                      if small d.l.length = true then
                                                        T.ok
                                                          (γ.fst, γ.snd.fst, { l := some { l := putD d.l k x } },
                                                            γ.snd.snd.snd)
                                                      else T.no).bind
                                                fun γ => T.ok (Fw.nx γ))
                                          (fun γ => T.ok (Fw.nx γ)) γ)
                                  fun γ => T.ok (Fw.nx γ)))
def a5 (a : P2) (γ : G5) : G5 := (γ.fst, γ.snd.fst, γ.snd.snd.fst, γ.snd.snd.snd.fst, γ.snd.snd.snd.snd.fst,
                                γ.snd.snd.snd.snd.snd.fst, γ.snd.snd.snd.snd.snd.snd.fst,
                                γ.snd.snd.snd.snd.snd.snd.snd.fst, some a.t.fst, some a.t.snd.fst,
                                γ.snd.snd.snd.snd.snd.snd.snd.snd.snd.snd)
def tst5 (γ : G5) : T Bool := ((T.of γ.snd.snd.fst.l).bind fun d => T.ok (d.l.length : Int)).bind fun x => T.of (copI Cop.gt x 0)
def c5 (γ : G5) : T Bool := ((((T.of γ.snd.snd.fst.l).bind fun d =>
                                    (T.of γ.snd.snd.snd.snd.snd.snd.fst).bind fun k => T.of (getD d.l k)).bind
                                fun x => (T.of γ.snd.snd.snd.snd.snd.fst).bind fun y => T.of (bopI Bop.mod x y)).bind
                            fun x => T.of (copI Cop.ne x 0)).bind
                        fun x =>
                        match x with
                        | true => T.ok true
                        | false =>
                          ((T.of γ.snd.snd.snd.snd.snd.snd.fst).bind fun x =>
                                (T.of γ.snd.snd.snd.snd.fst).bind fun y => T.of (bopI Bop.sub x y)).bind
                            fun x =>
                            ((((T.of γ.snd.snd.fst.l).bind fun d => T.ok (List.map Prod.fst d.l)).bind fun x =>
                                      match x with
                                      | n :: ns => T.ok (minI n ns)
                                      | [] => T.no).bind
                                  fun x =>
                                  (((((T.of γ.snd.fst).bind fun t => T.ok t.l).bind fun x => T.of (getI x 0)).bind
                                            fun x => T.ok [x.t.fst, x.t.snd.fst]).bind
                                        fun x => T.of (getI x 0)).bind
                                    fun y => T.of (bopI Bop.sub x y)).bind
                              fun y => T.of (copI Cop.lt x y)
def w5 : G5 → T (Fw G5 (Option Po)) := seqF
              (fun γ =>
                (((T.of γ.snd.snd.fst.l).bind fun d => T.ok (List.map Prod.fst d.l)).bind fun x =>
                      match x with
                      | n :: ns => T.ok (maxI n ns)
                      | [] => T.no).bind
                  fun x =>
                  T.ok
                    (Fw.nx
                      (γ.fst, γ.snd.fst, γ.snd.snd.fst, γ.snd.snd.snd.fst, γ.snd.snd.snd.snd.fst,
                        γ.snd.snd.snd.snd.snd.fst, some x, γ.snd.snd.snd.snd.snd.snd.snd)))
              (seqF
                (fun γ =>
                  (c5 γ).bind
                    fun x =>
                    match x with
                    | true =>
                      seqF (fun γ => if (Inj.dp (Option k75.Po)).blt 12 = true then T.ok (Fw.rt none γ) else T.no)
                        (fun γ => T.ok (Fw.nx γ)) γ
                    | false => T.ok (Fw.nx γ))
                (seqF
                  (fun γ =>
                    (((T.of γ.snd.snd.fst.l).bind fun d =>
                              (T.of γ.snd.snd.snd.snd.snd.snd.fst).bind fun k => T.of (getD d.l k)).bind
                          fun x => (T.of γ.snd.snd.snd.snd.snd.fst).bind fun y => T.of (bopI Bop.fdiv x y)).bind
                      fun x =>
                      T.ok
                        (Fw.nx
                          (γ.fst, γ.snd.fst, γ.snd.snd.fst, γ.snd.snd.snd.fst, γ.snd.snd.snd.snd.fst,
                            γ.snd.snd.snd.snd.snd.fst, γ.snd.snd.snd.snd.snd.snd.fst, some x,
                            γ.snd.snd.snd.snd.snd.snd.snd.snd)))
                  (seqF
                    (fun γ =>
                      (T.of γ.snd.snd.snd.snd.snd.snd.snd.fst).bind fun x =>
                        ((T.of γ.snd.snd.snd.fst.l).bind fun d =>
                              ((T.of γ.snd.snd.snd.snd.snd.snd.fst).bind fun x =>
                                    (T.of γ.snd.snd.snd.snd.fst).bind fun y => T.of (bopI Bop.sub x y)).bind
                                fun k =>
                                if small d.l.length = true then
                                  T.ok
                                    (γ.fst, γ.snd.fst, γ.snd.snd.fst, { l := some { l := putD d.l k x } },
                                      γ.snd.snd.snd.snd)
                                else T.no).bind
                          fun γ => T.ok (Fw.nx γ))
                    (seqF
                      (fun γ =>
                        ((T.of γ.snd.fst).bind fun t => T.ok t.l).bind fun xs =>
                          forF a5 i5 xs γ)
                      fun γ => T.ok (Fw.nx γ)))))
/-- the inner loop -/
theorem i5_run {n s : List P2} {top lead e c k : Int} (ek : k - top = e) (hc : c ≠ 0) (sc : szI c = true) (f : List (Int × Int)) {d : List (Int × Int)} (nd : Nd d) (nz : NZ d) (j : OI × OI × OI × OI) :
    ∀ xs : List P2, d.length + xs.length ≤ 100000 → (∀ y ∈ xs, szI y.t.2.1 = true ∧ y.t.2.1 ≠ 0) →
      ∃ r : OI × OI × OI × OI, forF a5 i5 xs (mk5 n s top lead (d, f) (some k, some c, j)) = .ok (.nx (mk5 n s top lead (xs.foldl (dn e c) d, f) (some k, some c, r))) := by
  intro xs hl hs
  refine for_fold (R := OI × OI × OI × OI) (mk := fun d r => mk5 n s top lead (d, f) (some k, some c, r)) (f := dn e c) (ok := fun d xs => Nd d ∧ NZ d ∧ d.length + xs.length ≤ 100000 ∧ ∀ y ∈ xs, szI y.t.2.1 = true ∧ y.t.2.1 ≠ 0)
    (fun a xs d r ok => ⟨(some a.t.1, some a.t.2.1, some (e + a.t.1), some (gF d (e + a.t.1) - c * a.t.2.1)), ?_⟩) (fun a xs d ok => ?_) xs d j ⟨nd, nz, hl, hs⟩
  · obtain ⟨h1, h2, h3, h4⟩ := ok
    obtain ⟨sa, na⟩ := h4 a List.mem_cons_self
    have sd : small d.length = true := smL (by rw [List.length_cons] at h3; omega)
    have gg : (getD d (e + a.t.1)).getD 0 = gF d (e + a.t.1) := rfl
    unfold i5 a5 mk5
    simp only [seqF, bo, ofs, ba, bs, ek, bm sc sa, gg]
    unfold dn
    by_cases q : gF d (e + a.t.1) - c * a.t.2.1 = 0
    · have q1 : copI .eq (gF d (e + a.t.1) - c * a.t.2.1) 0 = some true := congrArg some (decide_eq_true q)
      have is : (getD d (e + a.t.1)).isSome = true := some_of fun z => by
        have : c * a.t.2.1 ≠ 0 := Int.mul_ne_zero hc na
        omega
      rw [q1, if_pos q]
      simp only [bo, ofs, is, if_true]
    · have q1 : copI .eq (gF d (e + a.t.1) - c * a.t.2.1) 0 = some false := congrArg some (decide_eq_false q)
      rw [q1, if_neg q]
      simp only [bo, ofs, sd, if_true]
  · obtain ⟨h1, h2, h3, h4⟩ := ok
    obtain ⟨a1, a2, a3, _⟩ := dn_spec (e := e) (c := c) h1 h2 a
    rw [List.length_cons] at h3
    exact ⟨a1, a2, by omega, fun y m => h4 y (List.mem_cons_of_mem _ m)⟩
end k75
end Eng
/-! k75: the division, as a whole. -/
namespace Eng
open PySem L2
open Inj (inj)
namespace k75
def ldI (x : Int) : Bool := Nat.blt x.natAbs 1073741824 && !decide (x = 0)
theorem b_mod {c l : Int} (h : ldI l = true) : bopI .mod (c * l) l = some 0 := by
  unfold ldI at h
  rw [Bool.and_eq_true] at h
  have nz : l ≠ 0 := by simpa using h.2
  show (if decide (0 < l) then some (c * l % l) else if decide (l ≠ 0) then some ((c * l).fmod l) else none) = _
  rw [Int.mul_emod_left, Int.mul_fmod_left, decide_eq_true nz]
  by_cases q : 0 < l
  · rw [decide_eq_true q]; rfl
  · rw [decide_eq_false q]; rfl
theorem b_div {c l : Int} (h : ldI l = true) : bopI .fdiv (c * l) l = some c := by
  unfold ldI at h
  rw [Bool.and_eq_true] at h
  have nz : l ≠ 0 := by simpa using h.2
  have lg : Nat.blt l.natAbs.log2 9000 = true := by
    have h1 : l.natAbs < 1073741824 := Nat.blt_eq.mp h.1
    refine Nat.blt_eq.mpr ?_
    have z : l.natAbs ≠ 0 := by omega
    have : l.natAbs.log2 < 100 := (Nat.log2_lt z).mpr (Nat.lt_trans h1 (by decide))
    omega
  show (if decide (0 < l) && Nat.blt l.natAbs.log2 9000 then some (c * l / l) else if decide (l ≠ 0) && Nat.blt l.natAbs 1073741824 then some ((c * l).fdiv l) else none) = _
  rw [Int.mul_ediv_cancel _ nz, Int.mul_fdiv_cancel _ nz, decide_eq_true nz, lg, h.1]
  by_cases q : 0 < l
  · rw [decide_eq_true q]; rfl
  · rw [decide_eq_false q]; rfl
theorem getI_0 {α : Type} (x : α) (xs : List α) : getI (x :: xs) 0 = some x := by
  unfold getI ixI
  have h1 : decide ((0 : Int) ≤ 0) = true := by decide
  simp
structure D5 (s : List P2) (s' : List P2) (w : P2) (b : P2) (s2 : List P2) : Prop where
  e1 : s = s' ++ [w]
  e2 : s = b :: s2
  can : Can s
  ld : ldI w.t.2.1 = true
  sz : szL s
theorem c5_run {n s s' s2 : List P2} {w b : P2} (D : D5 s s' w b s2) {d f : List (Int × Int)} {r r2 : List P2} {z a : P2} (er : r ++ [z] = a :: r2) (cr : Can (r ++ [z])) (nd : Nd d) (nz : NZ d) (hg : ∀ x, gF d x = cs (mulP (r ++ [z]) s) x) (j : OI × OI × OI × OI × OI) :
    c5 (mk5 n s w.t.1 w.t.2.1 (d, f) (some (z.t.1 + w.t.1), j)) = .ok false := by
  have lnz : w.t.2.1 ≠ 0 := by
    have := D.ld
    unfold ldI at this
    rw [Bool.and_eq_true] at this
    simpa using this.2
  have can1 : Can (s' ++ [w]) := D.e1 ▸ D.can
  have can2 : Can (b :: s2) := D.e2 ▸ D.can
  have cr2 : Can (a :: r2) := er ▸ cr
  have v : gF d (z.t.1 + w.t.1) = z.t.2.1 * w.t.2.1 := by rw [hg, D.e1, mul_top cr can1]
  have vz : gF d (z.t.1 + w.t.1) ≠ 0 := by
    rw [v]
    exact Int.mul_ne_zero (can_app cr).2.1 lnz
  have v2 : gF d (a.t.1 + b.t.1) ≠ 0 := by
    rw [hg, er, D.e2, mul_bot cr2 can2]
    exact Int.mul_ne_zero cr2.1 can2.1
  have mem : a.t.1 + b.t.1 ∈ d.map Prod.fst := key_of v2
  have low : ∀ k ∈ d.map Prod.fst, a.t.1 + b.t.1 ≤ k := fun k m => by
    by_cases q : k < a.t.1 + b.t.1
    · have := gF_key nd nz m
      rw [hg, er, D.e2, mul_low cr2 can2 q] at this
      exact absurd rfl this
    · omega
  have az : a.t.1 ≤ z.t.1 := by
    have : z ∈ a :: r2 := er ▸ List.mem_append.mpr (Or.inr List.mem_cons_self)
    rcases List.mem_cons.mp this with q | m
    · rw [q]; exact Int.le_refl _
    · exact Int.le_of_lt (cr2.2.1 z m)
  have g0 : getI s 0 = some b := by rw [D.e2]; exact getI_0 _ _
  have g1 : getI [b.t.fst, b.t.snd.fst] 0 = some b.t.1 := getI_0 _ _
  have ne0 : copI .ne 0 0 = some false := rfl
  have lt : copI .lt (z.t.1 + w.t.1 - w.t.1) (a.t.1 + b.t.1 - b.t.1) = some false := congrArg some (decide_eq_false (by omega))
  unfold c5 mk5
  simp only [bo, ofs, get_of vz, v, b_mod D.ld, ne0, bs]
  cases e : d.map Prod.fst with
  | nil => rw [e] at mem; cases mem
  | cons k ks =>
    rw [e] at mem low
    simp only [bo, ofs, minI_is low mem, g0, g1, bs, lt]
theorem w5_step {n s s' s2 : List P2} {w b : P2} (D : D5 s s' w b s2) {d f : List (Int × Int)} {r : List P2} {z : P2} (cr : Can (r ++ [z])) (nd : Nd d) (nz : NZ d) (hg : ∀ x, gF d x = cs (mulP (r ++ [z]) s) x) (sz : szI z.t.2.1 = true) (dl : d.length + s.length ≤ 100000) (fl : f.length ≤ 100000) (j : J5) :
    ∃ j', w5 (mk5 n s w.t.1 w.t.2.1 (d, f) j) = .ok (.nx (mk5 n s w.t.1 w.t.2.1 (s.foldl (dn z.t.1 z.t.2.1) d, putD f z.t.1 z.t.2.1) j')) := by
  have lnz : w.t.2.1 ≠ 0 := by
    have := D.ld
    unfold ldI at this
    rw [Bool.and_eq_true] at this
    simpa using this.2
  have can1 : Can (s' ++ [w]) := D.e1 ▸ D.can
  have v : gF d (z.t.1 + w.t.1) = z.t.2.1 * w.t.2.1 := by rw [hg, D.e1, mul_top cr can1]
  have vz : gF d (z.t.1 + w.t.1) ≠ 0 := by
    rw [v]
    exact Int.mul_ne_zero (can_app cr).2.1 lnz
  have mem : z.t.1 + w.t.1 ∈ d.map Prod.fst := key_of vz
  have high : ∀ k ∈ d.map Prod.fst, k ≤ z.t.1 + w.t.1 := fun k m => by
    by_cases q : z.t.1 + w.t.1 < k
    · have := gF_key nd nz m
      rw [hg, D.e1, mul_high cr can1 q] at this
      exact absurd rfl this
    · omega
  have sf : small f.length = true := smL (by omega)
  have sub : z.t.1 + w.t.1 - w.t.1 = z.t.1 := by omega
  obtain ⟨a, r2, er⟩ : ∃ a r2, r ++ [z] = a :: r2 := by
    cases r with
    | nil => exact ⟨z, [], rfl⟩
    | cons y r => exact ⟨y, r ++ [z], rfl⟩
  obtain ⟨r', e'⟩ := i5_run (n := n) (s := s) (top := w.t.1) (lead := w.t.2.1) (k := z.t.1 + w.t.1) sub (can_app cr).2.1 sz (putD f z.t.1 z.t.2.1) nd nz (j.2.2.1, j.2.2.2.1, j.2.2.2.2.1, j.2.2.2.2.2) s dl fun y m => ⟨D.sz y m, can_nz D.can y m⟩
  have cc := c5_run (n := n) (f := f) D er cr nd nz hg j.2
  refine ⟨(some (z.t.1 + w.t.1), some z.t.2.1, r'), ?_⟩
  unfold w5
  unfold mk5 at cc ⊢
  simp only [seqF, bo, ofs]
  cases e : d.map Prod.fst with
  | nil => rw [e] at mem; cases mem
  | cons k ks =>
    rw [e] at mem high
    simp only [bo, ofs, maxI_is high mem]
    rw [cc]
    simp only [bo, ofs, get_of vz, v, b_div D.ld, bs, sub, sf, if_true]
    refine bindOk e' ?_
    rfl
theorem whl5 {n s s' s2 : List P2} {w b : P2} (D : D5 s s' w b s2) : ∀ (k : Nat) {q : List P2} {d f : List (Int × Int)} {fuel : Nat} (j : J5), q.length = k → Can q → szL q → Nd d → NZ d → (∀ x, gF d x = cs (mulP q s) x) → d.length + k * s.length ≤ 100000 → f.length + k ≤ 100000 → k < fuel →
    ∃ j', whlF tst5 w5 fuel (mk5 n s w.t.1 w.t.2.1 (d, f) j) = .ok (.nx (mk5 n s w.t.1 w.t.2.1 ([], fillD q.reverse f) j'))
  | 0, q, d, f, fuel, j, hk, cq, sq, nd, nz, hg, dl, fl, hf => by
    have q0 : q = [] := List.eq_nil_of_length_eq_zero hk
    subst q0
    have d0 : d = [] := by
      cases d with
      | nil => rfl
      | cons x d =>
        have := gF_key nd nz (k := x.1) (by rw [List.map_cons]; exact List.mem_cons_self)
        exact absurd (hg x.1) this
    subst d0
    obtain ⟨m, rfl⟩ : ∃ m, fuel = m + 1 := ⟨fuel - 1, by omega⟩
    refine ⟨j, ?_⟩
    have g0 : copI .gt ((([] : List (Int × Int)).length : Nat) : Int) 0 = some false := rfl
    unfold whlF tst5 mk5
    simp only [bo, ofs, g0]
    rfl
  | k + 1, q, d, f, fuel, j, hk, cq, sq, nd, nz, hg, dl, fl, hf => by
    obtain ⟨m, rfl⟩ : ∃ m, fuel = m + 1 := ⟨fuel - 1, by omega⟩
    rcases List.eq_nil_or_concat q with e | ⟨r, z, e⟩
    · rw [e] at hk; cases hk
    · rw [List.concat_eq_append] at e
      subst e
      rw [List.length_append] at hk
      have hr : r.length = k := by simpa using hk
      have dne : 0 < d.length := by
        cases d with
        | nil =>
          have can1 : Can (s' ++ [w]) := D.e1 ▸ D.can
          have lnz : w.t.2.1 ≠ 0 := can_nz can1 w (List.mem_append.mpr (Or.inr List.mem_cons_self))
          have := hg (z.t.1 + w.t.1)
          rw [D.e1, mul_top cq can1] at this
          exact absurd this.symm (Int.mul_ne_zero (can_app cq).2.1 lnz)
        | cons x d => exact Nat.succ_pos _
      rw [Nat.add_mul] at dl
      obtain ⟨j1, e1⟩ := w5_step (n := n) D cq nd nz hg (sq z (List.mem_append.mpr (Or.inr List.mem_cons_self))) (by omega) (by omega : f.length ≤ 100000) j
      obtain ⟨n1, n2, n3, n4⟩ := dn_fold z s nd nz
      obtain ⟨j2, e2⟩ := whl5 D k (q := r) (d := s.foldl (dn z.t.1 z.t.2.1) d) (f := putD f z.t.1 z.t.2.1) (fuel := m) j1 hr (can_app cq).1 (fun y m => sq y (List.mem_append.mpr (Or.inl m))) n1 n2 (fun x => by
        rw [n4, hg, mulP_app, cs_app, mulP_one]
        omega) (by omega) (by have := putD_len f z.t.1 z.t.2.1; omega) (by omega)
      refine ⟨j2, ?_⟩
      have g1 : copI .gt ((d.length : Nat) : Int) 0 = some true := congrArg some (decide_eq_true (by omega))
      have tt : tst5 (mk5 n s w.t.1 w.t.2.1 (d, f) j) = .ok true := by
        unfold tst5 mk5
        simp only [bo, ofs, g1]
      unfold whlF
      rw [tt, bo]
      simp only
      rw [e1, bo]
      simp only
      rw [e2, List.reverse_append]
      rfl
/-- the quotient, if there is one -/
theorem F5_ok {n q s s' s2 : List P2} {w b : P2} (D : D5 s s' w b s2) (cn : Can n) (cq : Can q) (sq : szL q) (hg : ∀ x, cs n x = cs (mulP q s) x) (hl : n.length + q.length * s.length ≤ 100000) (hq : q.length < 900) : F5 (⟨n⟩, ⟨s⟩, ()) = .ok (some ⟨q⟩) := by
  obtain ⟨t1, t2, t3, t4⟩ := fill_spec n nd0 nz0 (can_nodup cn) (can_nz cn) fun y _ => rfl
  have rn : ∀ y ∈ q.reverse, y.t.2.1 ≠ 0 := fun y m => can_nz cq y (List.mem_reverse.mp m)
  have rd : (q.reverse.map fun y => y.t.1).Nodup := by
    rw [List.map_reverse]
    exact (List.reverse_perm _).nodup_iff.mpr (can_nodup cq)
  obtain ⟨f1, f2, f3, f4⟩ := fill_spec q.reverse nd0 nz0 rd rn fun y _ => rfl
  rw [List.length_reverse] at f3
  obtain ⟨j, e⟩ := whl5 (n := n) D q.length (q := q) (d := fillD n []) (f := []) (fuel := fue) (none, none, none, none, none, none) rfl cq sq t1 t2 (fun x => by rw [t4, gF0, ← hg]; omega) (by
    have : (fillD n []).length ≤ n.length := Nat.le_trans t3 (by simp)
    omega) (by simp; omega) (by
    have : fue = 1000 := rfl
    omega)
  have ga : gaL (fillD q.reverse []) = q := by
    obtain ⟨g1, g2⟩ := gaL_spec f1
    exact can_eq g1 cq fun x => by rw [g2, f4, gF0, cs_rev]; omega
  have dp : (Inj.dp (Option Po)).blt 12 = true := rfl
  have gl : getI s (-1) = some w := by rw [D.e1]; exact getI_last
  unfold F5 s5
  simp only [seqF, Ent.st, bo, ofs, gl]
  refine bindOk (a := Fw.rt (some ⟨q⟩) (mk5 n s w.t.1 w.t.2.1 ([], fillD q.reverse []) j)) ?_ rfl
  · refine bindOk e ?_
    unfold mk5
    simp only [bo, ofs]
    rw [F0_ok f1 (Nat.le_trans f3 (by simp; omega)), bo, ga]
    simp only [dp, if_true, bo]
end k75
end Eng
/-! k75: polynomials reckoned fast, for the kernel. -/
namespace Eng
open PySem L2
open Inj (inj)
namespace k75
def frcN {A : Type} : Nat → (Nat → A) → A
  | 0, k => k 0
  | n + 1, k => k (Nat.succ n)
theorem frcN_eq {A : Type} (n : Nat) (k : Nat → A) : frcN n k = k n := by cases n <;> rfl
def frcI {A : Type} : Int → (Int → A) → A
  | .ofNat n, k => frcN n fun n => k (.ofNat n)
  | .negSucc n, k => frcN n fun n => k (.negSucc n)
theorem frcI_eq {A : Type} (n : Int) (k : Int → A) : frcI n k = k n := by
  cases n
  · exact frcN_eq _ _
  · exact frcN_eq _ _
def frcL {A : Type} : List P2 → (List P2 → A) → A
  | [], k => k []
  | y :: l, k => frcI y.t.1 fun a => frcI y.t.2.1 fun b => frcL l fun l => k (⟨(a, b, ())⟩ :: l)
theorem frcL_eq {A : Type} : ∀ (l : List P2) (k : List P2 → A), frcL l k = k l
  | [], k => rfl
  | y :: l, k => by
    unfold frcL
    rw [frcI_eq, frcI_eq, frcL_eq l]
def zLt : Int → Int → Bool
  | .ofNat a, .ofNat b => Nat.blt a b
  | .negSucc a, .negSucc b => Nat.blt b a
  | .negSucc _, .ofNat _ => true
  | .ofNat _, .negSucc _ => false
theorem zLt_ok {a b : Int} (h : zLt a b = true) : a < b := by
  cases a <;> cases b
  · rename_i a b
    have := Nat.blt_eq.mp h
    show (a : Int) < (b : Int)
    omega
  · cases h
  · rename_i a b
    show Int.negSucc a < (b : Int)
    omega
  · rename_i a b
    have := Nat.blt_eq.mp h
    omega
def z0 : Int → Bool
  | .ofNat n => Nat.beq n 0
  | _ => false
theorem z0_ok {a : Int} (h : z0 a = true) : a = 0 := by
  cases a
  · have := Nat.eq_of_beq_eq_true h
    rw [this]
    rfl
  · cases h
theorem z0_no {a : Int} (h : z0 a = false) : a ≠ 0 := by
  intro e
  subst e
  cases h
/-- two rows put together -/
def mrg : Nat → List P2 → List P2 → List P2
  | 0, p, q => p ++ q
  | n + 1, p, q => match p with
    | [] => q
    | y :: p => match q with
      | [] => y :: p
      | z :: q => cond (zLt y.t.1 z.t.1) (y :: mrg n p (z :: q)) (cond (zEq y.t.1 z.t.1) (frcI (y.t.2.1 + z.t.2.1) fun c => cond (z0 c) (mrg n p q) (⟨(y.t.1, c, ())⟩ :: mrg n p q)) (z :: mrg n (y :: p) q))
theorem cs_mrg : ∀ (n : Nat) (p q : List P2) (x : Int), cs (mrg n p q) x = cs p x + cs q x
  | 0, p, q, x => cs_app p q x
  | n + 1, [], q, x => by show cs q x = 0 + cs q x; omega
  | n + 1, y :: p, [], x => by show cs (y :: p) x = cs (y :: p) x + 0; omega
  | n + 1, y :: p, z :: q, x => by
    show cs (cond (zLt y.t.1 z.t.1) (y :: mrg n p (z :: q)) (cond (zEq y.t.1 z.t.1) (frcI (y.t.2.1 + z.t.2.1) fun c => cond (z0 c) (mrg n p q) (⟨(y.t.1, c, ())⟩ :: mrg n p q)) (z :: mrg n (y :: p) q))) x = ((if y.t.1 = x then y.t.2.1 else 0) + cs p x) + ((if z.t.1 = x then z.t.2.1 else 0) + cs q x)
    cases zLt y.t.1 z.t.1 with
    | true =>
      show (if y.t.1 = x then y.t.2.1 else 0) + cs (mrg n p (z :: q)) x = _
      rw [cs_mrg n p (z :: q) x]
      show (if y.t.1 = x then y.t.2.1 else 0) + (cs p x + ((if z.t.1 = x then z.t.2.1 else 0) + cs q x)) = _
      omega
    | false =>
      cases e : zEq y.t.1 z.t.1 with
      | true =>
        have e := zEq_ok e
        show cs (frcI (y.t.2.1 + z.t.2.1) fun c => cond (z0 c) (mrg n p q) (⟨(y.t.1, c, ())⟩ :: mrg n p q)) x = _
        rw [frcI_eq, ← e]
        cases w : z0 (y.t.2.1 + z.t.2.1) with
        | true =>
          have w := z0_ok w
          show cs (mrg n p q) x = _
          rw [cs_mrg n p q x]
          split <;> omega
        | false =>
          show (if y.t.1 = x then y.t.2.1 + z.t.2.1 else 0) + cs (mrg n p q) x = _
          rw [cs_mrg n p q x]
          split <;> omega
      | false =>
        show (if z.t.1 = x then z.t.2.1 else 0) + cs (mrg n (y :: p) q) x = _
        rw [cs_mrg n (y :: p) q x]
        show (if z.t.1 = x then z.t.2.1 else 0) + ((if y.t.1 = x then y.t.2.1 else 0) + cs p x + cs q x) = _
        omega
def mulF : List P2 → List P2 → List P2
  | [], _ => []
  | a :: p, q => frcL (rowP a q) fun r => frcL (mulF p q) fun m => mrg 1000 r m
theorem cs_mulF (q : List P2) (x : Int) : ∀ p : List P2, cs (mulF p q) x = cs (mulP p q) x
  | [] => rfl
  | a :: p => by
    unfold mulF
    rw [frcL_eq, frcL_eq, cs_mrg, cs_mulF q x p]
    exact (cs_app (rowP a q) (mulP p q) x).symm
def subF (p q : List P2) : List P2 := frcL (q.map (neT (-1))) fun q => mrg 1000 p q
theorem cs_subF (p q : List P2) (x : Int) : cs (subF p q) x = cs p x - cs q x := by
  unfold subF
  rw [frcL_eq, cs_mrg, cs_ne]
  omega
/-- a quotient, guessed -/
def divF : Nat → List P2 → List P2 → List P2
  | 0, _, _ => []
  | n + 1, p, s => match p with
    | [] => []
    | y :: p => match s with
      | [] => []
      | b :: s => frcI (y.t.1 - b.t.1) fun e => frcI (y.t.2.1 / b.t.2.1) fun c => frcI (-c) fun k => frcL (rowP ⟨(e, k, ())⟩ (b :: s)) fun r => frcL (mrg 1000 (y :: p) r) fun p => ⟨(e, c, ())⟩ :: divF n p (b :: s)
def canB : List P2 → Bool
  | [] => true
  | y :: l => cond (z0 y.t.2.1) false (match l with
    | [] => true
    | z :: _ => cond (zLt y.t.1 z.t.1) (canB l) false)
theorem canB_ok : ∀ {l : List P2}, canB l = true → Can l
  | [], _ => trivial
  | [y], h => by
    unfold canB at h
    cases w : z0 y.t.2.1 with
    | true => rw [w] at h; cases h
    | false => exact ⟨z0_no w, fun z m => (by cases m), trivial⟩
  | y :: z :: l, h => by
    unfold canB at h
    cases w : z0 y.t.2.1 with
    | true => rw [w] at h; cases h
    | false =>
      rw [w] at h
      cases v : zLt y.t.1 z.t.1 with
      | false => simp only [v, cond_false] at h; cases h
      | true =>
        simp only [v, cond_true, cond_false] at h
        have c := canB_ok h
        have lt := zLt_ok v
        refine ⟨z0_no w, fun u m => ?_, c⟩
        rcases List.mem_cons.mp m with e | m
        · rw [e]; exact lt
        · have := c.2.1 u m
          omega
def szB : List P2 → Bool
  | [] => true
  | y :: l => cond (szI y.t.2.1) (szB l) false
theorem szB_ok : ∀ {l : List P2}, szB l = true → szL l
  | [], _, y, m => by cases m
  | z :: l, h, y, m => by
    unfold szB at h
    cases w : szI z.t.2.1 with
    | false => rw [w] at h; cases h
    | true =>
      rw [w] at h
      rcases List.mem_cons.mp m with e | m
      · rw [e]; exact w
      · exact szB_ok h y m
def eqT (p q : List P2) : Bool := eqLs (fun y z => cond (zEq y.t.1 z.t.1) (zEq y.t.2.1 z.t.2.1) false) p q
theorem eqT_ok {p q : List P2} (h : eqT p q = true) : p = q := eqLs_ok (fun y z h => by
  obtain ⟨a, b, _⟩ := y
  obtain ⟨c, d, _⟩ := z
  cases w : zEq a c with
  | false => simp only [w, cond_false] at h; cases h
  | true =>
    simp only [w, cond_true] at h
    rw [zEq_ok w, zEq_ok h]) h
def lastF : P2 → List P2 → P2
  | y, [] => y
  | _, z :: l => lastF z l
theorem lastF_app : ∀ (y : P2) (l : List P2), ∃ s, y :: l = s ++ [lastF y l]
  | y, [] => ⟨[], rfl⟩
  | y, z :: l => by
    obtain ⟨s, e⟩ := lastF_app z l
    exact ⟨y :: s, by
      show y :: z :: l = y :: s ++ [lastF z l]
      rw [List.cons_append, ← e]⟩
def dvB : List P2 → Bool
  | [] => false
  | y :: l => ldI (lastF y l).t.2.1 && (canB (y :: l) && szB (y :: l))
theorem dvB_ok {s : List P2} (h : dvB s = true) : ∃ s' w b s2, D5 s s' w b s2 := by
  cases s with
  | nil => cases h
  | cons y l =>
    unfold dvB at h
    rw [Bool.and_eq_true, Bool.and_eq_true] at h
    obtain ⟨s', e⟩ := lastF_app y l
    exact ⟨s', _, y, l, e, rfl, canB_ok h.2.1, h.1, szB_ok h.2.2⟩
/-- one number of a table behind a row: (a b - c d) / f -/
def stp (a b c d f : List P2) : Option (List P2) :=
  frcL (mulF a b) fun u => frcL (mulF c d) fun v => frcL (subF u v) fun t => frcL (divF 200 t f) fun q =>
    cond (canB u && (canB v && (canB t && (canB q && (szB v && (szB q && (Nat.ble (a.length * b.length) 1000 && (Nat.ble (c.length * d.length) 1000 && (Nat.ble (u.length + v.length) 1000 && (Nat.ble (t.length + q.length * f.length) 100000 && (Nat.blt q.length 900 && eqT (mulF q f) t))))))))))) (some q) none
theorem stp_ok {a b c d f q : List P2} (sa : szL a) (sb : szL b) (sc : szL c) (sd : szL d) (hf : dvB f = true) (h : stp a b c d f = some q) : szL q ∧ ∃ u v t, F4 (⟨a⟩, ⟨b⟩, ()) = .ok ⟨u⟩ ∧ F4 (⟨c⟩, ⟨d⟩, ()) = .ok ⟨v⟩ ∧ F3 (⟨u⟩, ⟨v⟩, ()) = .ok ⟨t⟩ ∧ F5 (⟨t⟩, ⟨f⟩, ()) = .ok (some ⟨q⟩) := by
  unfold stp at h
  simp only [frcL_eq] at h
  cases e : (canB (mulF a b) && (canB (mulF c d) && (canB (subF (mulF a b) (mulF c d)) && (canB (divF 200 (subF (mulF a b) (mulF c d)) f) && (szB (mulF c d) && (szB (divF 200 (subF (mulF a b) (mulF c d)) f) && (Nat.ble (a.length * b.length) 1000 && (Nat.ble (c.length * d.length) 1000 && (Nat.ble ((mulF a b).length + (mulF c d).length) 1000 && (Nat.ble ((subF (mulF a b) (mulF c d)).length + (divF 200 (subF (mulF a b) (mulF c d)) f).length * f.length) 100000 && (Nat.blt (divF 200 (subF (mulF a b) (mulF c d)) f).length 900 && eqT (mulF (divF 200 (subF (mulF a b) (mulF c d)) f) f) (subF (mulF a b) (mulF c d))))))))))))) with
  | false => rw [e] at h; cases h
  | true =>
    rw [e] at h
    have hq : divF 200 (subF (mulF a b) (mulF c d)) f = q := Option.some.inj h
    rw [hq] at e
    simp only [Bool.and_eq_true] at e
    obtain ⟨c1, c2, c3, c4, c5, c6, l1, l2, l3, l4, l5, eq⟩ := e
    obtain ⟨u, hu, cu, fu⟩ := F4_ok (p := a) (q := b) (Nat.ble_eq.mp l1) sa sb
    obtain ⟨v, hv, cv, fv⟩ := F4_ok (p := c) (q := d) (Nat.ble_eq.mp l2) sc sd
    have eu : u = mulF a b := can_eq cu (canB_ok c1) fun x => by rw [fu, cs_mulF]
    have ev : v = mulF c d := can_eq cv (canB_ok c2) fun x => by rw [fv, cs_mulF]
    rw [eu] at hu
    rw [ev] at hv
    obtain ⟨t, ht, ct, ft⟩ := F3_ok (p := mulF a b) (q := mulF c d) (Nat.ble_eq.mp l3) (szB_ok c5)
    have et : t = subF (mulF a b) (mulF c d) := can_eq ct (canB_ok c3) fun x => by rw [ft, cs_subF]
    rw [et] at ht
    obtain ⟨s', w, b', s2, D⟩ := dvB_ok hf
    exact ⟨szB_ok c6, _, _, _, hu, hv, ht, F5_ok D (canB_ok c3) (canB_ok c4) (szB_ok c6) (fun x => by rw [← eqT_ok eq, cs_mulF]) (Nat.ble_eq.mp l4) (Nat.blt_eq.mp l5)⟩
end k75
end Eng
/-! k75: the determinant of a table. -/
namespace Eng
open PySem L2
open Inj (inj)
theorem getI_nat {α : Type} {xs : List α} {i : Nat} {x : α} (e : xs[i]? = some x) : getI xs (i : Int) = some x := by
  have hl := (List.getElem?_eq_some_iff.mp e).1
  have : ixI xs.length (i : Int) = some i := by
    unfold ixI
    simp [hl]
  unfold getI
  simp only [this, e]
theorem setI_nat {α : Type} {xs : List α} {i : Nat} (h : i < xs.length) (x : α) : setI xs (i : Int) x = some (xs.set i x) := by
  have : ixI xs.length (i : Int) = some i := by
    unfold ixI
    simp [h]
  unfold setI
  simp only [this]
def rgQ : Nat → Nat → List Nat
  | _, 0 => []
  | lo, m + 1 => lo :: rgQ (lo + 1) m
theorem rgQ_mem : ∀ {m lo x : Nat}, x ∈ rgQ lo m → lo ≤ x ∧ x < lo + m
  | 0, lo, x, h => by cases h
  | m + 1, lo, x, h => by
    rcases List.mem_cons.mp h with e | h
    · omega
    · have := rgQ_mem h
      omega
theorem rngI_q : ∀ {m lo : Nat}, rngI (lo : Int) m = (rgQ lo m).map Int.ofNat
  | 0, lo => rfl
  | m + 1, lo => by
    unfold rngI rgQ
    show (lo : Int) :: rngI ((lo : Int) + 1) m = (lo : Int) :: (rgQ (lo + 1) m).map Int.ofNat
    rw [show (lo : Int) + 1 = ((lo + 1 : Nat) : Int) by omega, rngI_q]
theorem rg2_n {k n : Nat} (hk : k ≤ n) (h : n ≤ 1000) : rg2 (k : Int) (n : Int) = some (rngI k (n - k)) := by
  unfold rg2
  have : (bd62 (k : Int) && bd62 (n : Int) && decide ((n : Int) - k ≤ 1000000)) = true := by
    unfold bd62
    simp
    omega
  rw [this, if_pos rfl, show ((n : Int) - k).toNat = n - k by omega]
theorem for_optI {Γ ρ β R : Type} {st : Int → Γ → Γ} {body : Γ → T (Fw Γ ρ)} {mk : β → R → Γ} {step : β → Nat → Option β} {ok : β → Prop} {P : Nat → Prop}
    (hb : ∀ a b b' r, P a → ok b → step b a = some b' → ok b' ∧ ∃ r', body (st (a : Int) (mk b r)) = .ok (.nx (mk b' r'))) :
    ∀ (xs : List Nat) (b b' : β) (r : R), (∀ a ∈ xs, P a) → ok b → foldO step xs b = some b' → ok b' ∧ ∃ r', forF st body (xs.map Int.ofNat) (mk b r) = .ok (.nx (mk b' r'))
  | [], b, b', r, _, hk, h => by cases h; exact ⟨hk, r, rfl⟩
  | a :: xs, b, b', r, hp, hk, h => by
    unfold foldO at h
    split at h
    · rename_i c e
      obtain ⟨k1, r1, e1⟩ := hb a b c r (hp a List.mem_cons_self) hk e
      obtain ⟨k2, r2, e2⟩ := for_optI hb xs c b' r1 (fun a m => hp a (List.mem_cons_of_mem _ m)) k1 h
      refine ⟨k2, r2, ?_⟩
      rw [List.map_cons]
      unfold forF
      rw [show body (st (Int.ofNat a) (mk b r)) = _ from e1, bo]
      exact e2
    · cases h
namespace k75
abbrev Tb := List (List (List P2))
def wr (r : List (List P2)) : List (Option Po) := r.map fun p => some ⟨p⟩
def wR (R : Tb) : List (List (Option Po)) := R.map wr
def cell (R : Tb) (i j : Nat) : Option (List P2) := match R[i]? with
  | some r => r[j]?
  | none => none
theorem cell_get {R : Tb} {i j : Nat} {p : List P2} (h : cell R i j = some p) : ∃ r, r ∈ R ∧ p ∈ r ∧ getI (wR R) (i : Int) = some (wr r) ∧ getI (wr r) (j : Int) = some (some ⟨p⟩) := by
  unfold cell at h
  cases e : R[i]? with
  | none => rw [e] at h; cases h
  | some r =>
    rw [e] at h
    have h : r[j]? = some p := h
    refine ⟨r, List.mem_of_getElem? e, List.mem_of_getElem? h, getI_nat ?_, getI_nat ?_⟩
    · unfold wR
      rw [List.getElem?_map, e]
      rfl
    · unfold wr
      rw [List.getElem?_map, h]
      rfl
/-- one entry of a new row -/
def stepL (R : Tb) (k j : Nat) (bf : List P2) (line : List (List P2)) (m : Nat) : Option (List (List P2)) := match cell R j m with
  | none => none
  | some a => match cell R k k with
    | none => none
    | some b => match cell R j k with
      | none => none
      | some c => match cell R k m with
        | none => none
        | some d => match stp a b c d bf with
          | none => none
          | some q => some (line ++ [q])
def stepJ (n k : Nat) (bf : List P2) (R : Tb) (j : Nat) : Option Tb := match foldO (stepL R k j bf) (rgQ 0 n) [] with
  | some line => some (R.set j line)
  | none => none
def stepK (n : Nat) (b : Tb × List P2) (k : Nat) : Option (Tb × List P2) := match cell b.1 k k with
  | some (y :: p) => match dvB b.2 with
    | false => none
    | true => match foldO (stepJ n k b.2) (rgQ (k + 1) (n - (k + 1))) b.1 with
      | none => none
      | some R => match cell R k k with
        | some q => some (R, q)
        | none => none
  | _ => none
def detM (n : Nat) (R : Tb) : Option (List P2) := match foldO (stepK n) (rgQ 0 n) (R, [⟨(0, 1, ())⟩]) with
  | some b => cond (Nat.ble b.2.length 1000) (some b.2) none
  | none => none
structure Sq (n : Nat) (R : Tb) : Prop where
  hn : n ≤ 100
  len : R.length = n
  row : ∀ r ∈ R, r.length = n ∧ ∀ p ∈ r, szL p
theorem Sq.cell {n : Nat} {R : Tb} (S : Sq n R) {i j : Nat} (hi : i < n) (hj : j < n) : ∃ p, k75.cell R i j = some p := by
  have hi' : i < R.length := by rw [S.len]; exact hi
  have e : R[i]? = some R[i] := List.getElem?_eq_getElem hi'
  have hl := (S.row _ (List.mem_of_getElem? e)).1
  unfold k75.cell
  rw [e]
  exact ⟨_, List.getElem?_eq_getElem (by rw [hl]; exact hj)⟩
abbrev LQ6 := Option (List (List Po))
def st6 : Int → G6 → G6 := fun a γ => (γ.fst, γ.snd.fst, γ.snd.snd.fst, γ.snd.snd.snd.fst, some a, γ.snd.snd.snd.snd.snd)
def a6 : Int → G6 → G6 :=                             (fun a γ =>
                              (γ.fst, γ.snd.fst, γ.snd.snd.fst, γ.snd.snd.snd.fst, γ.snd.snd.snd.snd.fst,
                                γ.snd.snd.snd.snd.snd.fst, some a, γ.snd.snd.snd.snd.snd.snd.snd))
def m6 : Int → G6 → G6 :=                                       (fun a γ =>
                                        (γ.fst, γ.snd.fst, γ.snd.snd.fst, γ.snd.snd.snd.fst, γ.snd.snd.snd.snd.fst,
                                          γ.snd.snd.snd.snd.snd.fst, γ.snd.snd.snd.snd.snd.snd.fst,
                                          γ.snd.snd.snd.snd.snd.snd.snd.fst, some a,
                                          γ.snd.snd.snd.snd.snd.snd.snd.snd.snd))
/-- the loops' bodies, as they stand in the walk -/
def x6 : {b : G6 → T (Fw G6 Po) // ∃ p q r t, s6.1 = seqF p (seqF q (seqF (fun γ => (((T.of γ.snd.fst.l).bind fun d => T.ok (d.length : Int)).bind fun j => T.of (rg1 j)).bind fun xs => forF st6 b xs γ) (seqF r t)))} := ⟨_, _, _, _, _, rfl⟩
def k6 : G6 → T (Fw G6 Po) := x6.1
def y6 : {b : G6 → T (Fw G6 Po) // ∃ p q r t, k6 = seqF p (seqF q (seqF r (seqF (fun γ => (((T.of γ.snd.snd.snd.snd.fst).bind fun x => T.of (bopI Bop.add x 1)).bind fun i => ((T.of γ.snd.fst.l).bind fun d => T.ok (d.length : Int)).bind fun j => T.of (rg2 i j)).bind fun xs => forF a6 b xs γ) t)))} := ⟨_, _, _, _, _, rfl⟩
def j6 : G6 → T (Fw G6 Po) := y6.1
def z6 : {b : G6 → T (Fw G6 Po) // ∃ p q, j6 = seqF p (seqF (fun γ => (((T.of γ.snd.fst.l).bind fun d => T.ok (d.length : Int)).bind fun j => T.of (rg1 j)).bind fun xs => forF m6 b xs γ) q)} := ⟨_, _, _, rfl⟩
def l6 : G6 → T (Fw G6 Po) := z6.1
def mkA (tb : LQ6) (R : Tb) (bf : List P2) (k : Nat) (sw : Option (List Int)) (j : Nat) (line : List (List P2)) (m : OI) : G6 :=
  (tb, ⟨some (wR R)⟩, some 1, some ⟨bf⟩, some (k : Int), sw, some (j : Int), ⟨some (wr line)⟩, m, none, ())
theorem l6_run {tb : LQ6} {n : Nat} {R : Tb} {bf : List P2} {k j : Nat} {sw : Option (List Int)} (S : Sq n R) (hb : dvB bf = true) (a : Nat) (line line' : List (List P2)) (r : OI) (hl : line.length = a ∧ ∀ p ∈ line, szL p) (ha : a < n) (h : stepL R k j bf line a = some line') :
    (line'.length = a + 1 ∧ ∀ p ∈ line', szL p) ∧ l6 (mkA tb R bf k sw j line (some (a : Int))) = .ok (.nx (mkA tb R bf k sw j line' (some (a : Int)))) := by
  unfold stepL at h
  split at h
  · cases h
  rename_i pa ea
  split at h
  · cases h
  rename_i pb eb
  split at h
  · cases h
  rename_i pc ec
  split at h
  · cases h
  rename_i pd ed
  split at h
  · cases h
  rename_i q eq
  cases h
  obtain ⟨ra, ma, na, ga, ha2⟩ := cell_get ea
  obtain ⟨rb, mb, nb, gb, hb2⟩ := cell_get eb
  obtain ⟨rc, mc, nc, gc, hc2⟩ := cell_get ec
  obtain ⟨rd, md, nd, gd, hd2⟩ := cell_get ed
  obtain ⟨sq, u, v, t, hu, hv, ht, hq⟩ := stp_ok ((S.row ra ma).2 pa na) ((S.row rb mb).2 pb nb) ((S.row rc mc).2 pc nc) ((S.row rd md).2 pd nd) hb eq
  have r1 : rc = ra := by
    have : wr rc = wr ra := Option.some.inj (gc.symm.trans ga)
    unfold wr at this
    exact List.map_inj_right (fun x y e => by cases e; rfl) |>.mp this
  have r2 : rd = rb := by
    have : wr rd = wr rb := Option.some.inj (gd.symm.trans gb)
    unfold wr at this
    exact List.map_inj_right (fun x y e => by cases e; rfl) |>.mp this
  rw [r1] at hc2
  rw [r2] at hd2
  refine ⟨⟨by rw [List.length_append, hl.1]; rfl, fun p m => ?_⟩, ?_⟩
  · rcases List.mem_append.mp m with m | m
    · exact hl.2 p m
    · rw [List.mem_singleton.mp m]; exact sq
  · have sm : small (wr line).length = true := smL (by unfold wr; rw [List.length_map, hl.1]; have := S.hn; omega)
    unfold l6 z6 mkA
    simp only [seqF, bo, ofs, ga, gb, ha2, hb2, hc2, hd2, hu, hv, ht, hq, sm, if_true]
    unfold wr
    rw [List.map_append]
    rfl
end k75
end Eng
/-! k75: the determinant, its loops. -/
namespace Eng
open PySem L2
open Inj (inj)
namespace k75
theorem wr_len (r : List (List P2)) : (wr r).length = r.length := List.length_map ..
theorem wR_len (R : Tb) : (wR R).length = R.length := List.length_map ..
theorem l6_loop {tb : LQ6} {n : Nat} {R : Tb} {bf : List P2} {k j : Nat} {sw : Option (List Int)} (S : Sq n R) (hb : dvB bf = true) : ∀ (m lo : Nat) (line line' : List (List P2)) (r : OI), lo + m ≤ n → line.length = lo → (∀ p ∈ line, szL p) → foldO (stepL R k j bf) (rgQ lo m) line = some line' →
    (line'.length = lo + m ∧ ∀ p ∈ line', szL p) ∧ ∃ r', forF m6 l6 ((rgQ lo m).map Int.ofNat) (mkA tb R bf k sw j line r) = .ok (.nx (mkA tb R bf k sw j line' r'))
  | 0, lo, line, line', r, _, hl, hs, h => by
    cases h
    exact ⟨⟨hl, hs⟩, r, rfl⟩
  | m + 1, lo, line, line', r, hm, hl, hs, h => by
    unfold rgQ foldO at h
    split at h
    · rename_i c e
      obtain ⟨⟨l1, s1⟩, e1⟩ := l6_run (tb := tb) (sw := sw) S hb lo line c r ⟨hl, hs⟩ (by omega) e
      obtain ⟨⟨l2, s2⟩, r2, e2⟩ := l6_loop (tb := tb) (sw := sw) S hb m (lo + 1) c line' (some (lo : Int)) (by omega) l1 s1 h
      refine ⟨⟨by omega, s2⟩, r2, ?_⟩
      unfold rgQ
      rw [List.map_cons]
      unfold forF
      rw [show l6 (m6 (Int.ofNat lo) (mkA tb R bf k sw j line r)) = _ from e1, bo]
      exact e2
    · cases h
def mkJ (tb : LQ6) (bf : List P2) (k : Nat) (sw : Option (List Int)) (R : Tb) (r : OI × OI) : G6 :=
  (tb, ⟨some (wR R)⟩, some 1, some ⟨bf⟩, some (k : Int), sw, r.1, ⟨none⟩, r.2, none, ())
theorem rg1_q {n : Nat} (h : n ≤ 1000) : rg1 (n : Int) = some ((rgQ 0 n).map Int.ofNat) := by
  rw [rg1_n h]
  exact congrArg some (rngI_q (lo := 0))
theorem j6_run {tb : LQ6} {n : Nat} {bf : List P2} {k : Nat} {sw : Option (List Int)} (hb : dvB bf = true) (j : Nat) (R R' : Tb) (r : OI × OI) (hj : j < n) (S : Sq n R) (h : stepJ n k bf R j = some R') :
    Sq n R' ∧ ∃ r', j6 (a6 (j : Int) (mkJ tb bf k sw R r)) = .ok (.nx (mkJ tb bf k sw R' r')) := by
  unfold stepJ at h
  split at h
  case h_2 => cases h
  rename_i line e
  cases h
  obtain ⟨⟨l1, s1⟩, r1, e1⟩ := l6_loop (tb := tb) (sw := sw) S hb n 0 [] line r.2 (by omega) rfl (fun p m => by cases m) e
  have lj : j < R.length := by rw [S.len]; exact hj
  refine ⟨⟨S.hn, by rw [List.length_set, S.len], fun x m => ?_⟩, (some (j : Int), r1), ?_⟩
  · rcases List.mem_or_eq_of_mem_set m with m | m
    · exact S.row x m
    · rw [m]; exact ⟨by omega, s1⟩
  · have rg : rg1 ((wR R).length : Int) = some ((rgQ 0 n).map Int.ofNat) := by rw [wR_len, S.len]; exact rg1_q (by have := S.hn; omega)
    have st : setI (wR R) (j : Int) (wr line) = some (wR (R.set j line)) := by
      rw [setI_nat (by rw [wR_len]; exact lj)]
      unfold wR
      rw [List.map_set]
    unfold j6 y6 a6 mkJ
    simp only [seqF, bo, ofs, rg]
    unfold mkA at e1
    have e1 : forF m6 l6 ((rgQ 0 n).map Int.ofNat) (tb, { l := some (wR R) }, some 1, some { l := bf }, some (k : Int), sw, some (j : Int), { l := some [] }, r.2, none, ()) = _ := e1
    refine bindOk e1 ?_
    simp only [bo, ofs, st]
def mkK (tb : LQ6) (b : Tb × List P2) (r : OI × Option (List Int) × OI × OI) : G6 :=
  (tb, ⟨some (wR b.1)⟩, some 1, some ⟨b.2⟩, r.1, r.2.1, r.2.2.1, ⟨none⟩, r.2.2.2, none, ())
def pz (R : Tb) (k : Nat) (x : Int) : Bool := match cell R x.toNat k with
  | some (_ :: _) => true
  | _ => false
theorem k6_run {tb : LQ6} {n : Nat} (k : Nat) (b b' : Tb × List P2) (r : OI × Option (List Int) × OI × OI) (hk : k < n) (S : Sq n b.1) (h : stepK n b k = some b') :
    Sq n b'.1 ∧ ∃ r', k6 (st6 (k : Int) (mkK tb b r)) = .ok (.nx (mkK tb b' r')) := by
  obtain ⟨R, bf⟩ := b
  unfold stepK at h
  split at h
  case h_2 => cases h
  rename_i y p ey
  split at h
  · cases h
  rename_i hb
  split at h
  · cases h
  rename_i R' eR
  split at h
  case h_2 => cases h
  rename_i q eq
  cases h
  have hn := S.hn
  let sw : List Int := (rngI (k : Int) (n - k)).filter (pz R k)
  have esw : ∃ rest, sw = (k : Int) :: rest := by
    have : rngI (k : Int) (n - k) = (k : Int) :: rngI ((k : Int) + 1) (n - k - 1) := by
      obtain ⟨m, hm⟩ : ∃ m, n - k = m + 1 := ⟨n - k - 1, by omega⟩
      rw [hm]
      rfl
    have pk : pz R k (k : Int) = true := by
      unfold pz
      rw [Int.toNat_natCast]
      have ey : cell R k k = some (y :: p) := ey
      rw [ey]
    refine ⟨(rngI ((k : Int) + 1) (n - k - 1)).filter (pz R k), ?_⟩
    show (rngI (k : Int) (n - k)).filter (pz R k) = _
    rw [this, List.filter_cons_of_pos pk]
  obtain ⟨rest, esw⟩ := esw
  obtain ⟨S', r1, e1⟩ := for_optI (ρ := Po) (st := a6) (body := j6) (mk := mkJ tb bf k (some sw)) (step := stepJ n k bf) (ok := Sq n) (P := fun j => j < n) (fun a b b' r ha hk e => j6_run hb a b b' r ha hk e) (rgQ (k + 1) (n - (k + 1))) R R' (r.2.2.1, r.2.2.2) (fun a m => by have := rgQ_mem m; omega) S eR
  refine ⟨S', (some (k : Int), some sw, r1.1, r1.2), ?_⟩
  have len : ((wR R).length : Int) = (n : Int) := by rw [wR_len, S.len]
  have g2 : rg2 (k : Int) (n : Int) = some (rngI k (n - k)) := rg2_n (by omega) (by omega)
  have g3 : rg2 ((k : Int) + 1) (n : Int) = some ((rgQ (k + 1) (n - (k + 1))).map Int.ofNat) := by
    have := rg2_n (k := k + 1) (n := n) (by omega) (by omega)
    rw [rngI_q] at this
    exact this
  have sm : small (rngI (k : Int) (n - k)).length = true := smL (by rw [rngI_len]; omega)
  have lc : ∀ lenM : Option Po → T Int, (∀ t : Po, lenM (some t) = T.ok (t.l.length : Int)) → lcG (fun x => (((T.of (getI (wR R) x)).bind fun ys => T.of (getI ys (k : Int))).bind lenM).bind fun x => T.of (copI Cop.gt x 0)) (fun x : Int => T.ok x) (rngI (k : Int) (n - k)) = .ok sw := by
    intro lenM lenM_s
    have := lcG_f (xs := rngI (k : Int) (n - k)) (p := pz R k) (g := id) (t := fun x => (((T.of (getI (wR R) x)).bind fun ys => T.of (getI ys (k : Int))).bind lenM).bind fun x => T.of (copI Cop.gt x 0)) (e := fun x : Int => T.ok x) (fun x m => by
      have hx := rngI_mem m
      obtain ⟨i, rfl⟩ : ∃ i : Nat, x = (i : Int) := ⟨x.toNat, by omega⟩
      obtain ⟨c, ec⟩ := S.cell (i := i) (j := k) (by omega) hk
      obtain ⟨rw_, _, _, g1, g2⟩ := cell_get ec
      unfold pz
      rw [Int.toNat_natCast]
      simp only [bo, ofs, g1, g2, lenM_s]
      have ec : cell R i k = some c := ec
      rw [ec]
      cases c with
      | nil => rfl
      | cons z c =>
        show T.of (some (decide (0 < (((z :: c).length : Nat) : Int)))) = _
        rw [decide_eq_true (by rw [List.length_cons]; omega)]
        rfl) (fun x m _ => rfl)
    rw [List.map_id] at this
    exact this
  obtain ⟨rq, _, _, q1, q2⟩ := cell_get (show cell R' k k = some q from eq)
  have ne0 : copI .eq (((sw.length : Nat) : Int)) 0 = some false := by
    rw [esw]
    exact congrArg some (decide_eq_false (by rw [List.length_cons]; omega))
  have g0 : getI sw 0 = some (k : Int) := by rw [esw]; exact getI_0 _ _
  have nek : copI .ne (k : Int) (k : Int) = some false := by
    show some (!decide ((k : Int) = k)) = _
    rw [decide_eq_true rfl]
    rfl
  unfold k6 x6 st6 mkK
  simp only [seqF, bo, ofs, len, g2, sm, if_true]
  rw [lc _ fun t => rfl]
  simp only [bo, ofs, ne0, g0, nek, ba, len, g3]
  have e2 : forF a6 j6 ((rgQ (k + 1) (n - (k + 1))).map Int.ofNat) (tb, { l := some (wR R) }, some 1, some { l := bf }, some (k : Int), some sw, r.snd.snd.fst, { l := none }, r.snd.snd.snd, none, ()) = .ok (.nx (tb, { l := some (wR R') }, some 1, some { l := bf }, some (k : Int), some sw, r1.1, { l := none }, r1.2, none, ())) := e1
  refine bindOk e2 ?_
  simp only [bo, ofs, q1, q2]
theorem stepK_sz {n : Nat} {b b' : Tb × List P2} {k : Nat} (S : Sq n b.1) (S' : Sq n b'.1) (h : stepK n b k = some b') : szL b'.2 := by
  unfold stepK at h
  split at h
  case h_2 => cases h
  split at h
  · cases h
  split at h
  · cases h
  split at h
  case h_2 => cases h
  rename_i q eq
  cases h
  obtain ⟨r, m1, m2, _⟩ := cell_get eq
  exact (S'.row r m1).2 q m2
theorem F6_ok {n : Nat} {R : Tb} {b : List P2} (S : Sq n R) (h : detM n R = some b) : F6 (R.map fun r => r.map fun p => ⟨p⟩, ()) = .ok ⟨b⟩ := by
  unfold detM at h
  split at h
  case h_2 => cases h
  rename_i c e
  obtain ⟨R', bf⟩ := c
  cases lb : Nat.ble bf.length 1000 with
  | false =>
    simp only [lb, cond_false] at h
    cases h
  | true =>
    simp only [lb, cond_true] at h
    have h : bf = b := Option.some.inj h
    rw [← h]
    obtain ⟨S', r, e⟩ := for_optI (ρ := Po) (st := st6) (body := k6) (mk := mkK (some (R.map fun r => r.map fun p => ⟨p⟩))) (step := stepK n) (ok := fun b => Sq n b.1 ∧ szL b.2) (P := fun k => k < n) (fun a b b' r ha hk e => by
      obtain ⟨s1, e1⟩ := k6_run (tb := some (R.map fun r => r.map fun p => ⟨p⟩)) a b b' r ha hk.1 e
      exact ⟨⟨s1, stepK_sz hk.1 s1 e⟩, e1⟩) (rgQ 0 n) (R, [⟨(0, 1, ())⟩]) (R', bf) (none, none, none, none) (fun a m => by have := rgQ_mem m; omega) ⟨S, fun y m => by rw [List.mem_singleton.mp m]; rfl⟩ e
    have hn := S.hn
    have f2 := F2_run (p := bf) (n := 1) (Nat.ble_eq.mp lb) (by decide) rfl S'.2
    have id1 : bf.map (neT 1) = bf := by
      rw [List.map_congr_left (g := id) fun y _ => ?_, List.map_id]
      obtain ⟨a, b, _⟩ := y
      show (⟨(a, b * 1, ())⟩ : P2) = ⟨(a, b, ())⟩
      rw [Int.mul_one]
    rw [id1] at f2
    have sm : small (R.map fun r => r.map fun p => (⟨p⟩ : Po)).length = true := smL (by rw [List.length_map, S.len]; omega)
    have sm2 : small (InjR.injR ((1 : Int), ({ l := [{ t := ((0 : Int), (1 : Int), ()) }] } : Po), ())).length = true := rfl
    have lc : lcG (fun x : List Po => T.ok true) (fun x => T.ok (List.map some x)) (R.map fun r => r.map fun p => (⟨p⟩ : Po)) = .ok (wR R) := by
      rw [lcG_all (g := fun x : List Po => List.map some x) fun x _ => rfl, List.map_map]
      refine congrArg T.ok (List.map_congr_left fun r _ => ?_)
      exact List.map_map
    have len : ((wR R).length : Int) = (n : Int) := by rw [wR_len, S.len]
    have g1 : rg1 (n : Int) = some ((rgQ 0 n).map Int.ofNat) := rg1_q (by omega)
    have dp : (Inj.dp Po).blt 12 = true := rfl
    unfold F6 s6
    simp only [seqF, Ent.st, bo, ofs, sm, sm2, if_true]
    refine bindOk (a := Fw.rt ⟨bf⟩ (mkK (some (R.map fun r => r.map fun p => ⟨p⟩)) (R', bf) r)) ?_ rfl
    refine bindOk (congrArg (fun t : T (List (List (Option Po))) => t.bind fun xs => T.ok (Fw.nx ((some (R.map fun r => r.map fun p => (⟨p⟩ : Po)), { l := some xs }, Blank.st) : G6))) lc) ?_
    simp only [bo, ofs]
    refine bindOk (a := Fw.nx (mkK (some (R.map fun r => r.map fun p => ⟨p⟩)) (R', bf) r)) ?_ ?_
    · rw [len, g1, ofs, bo]
      exact e
    · unfold mkK
      simp only [bo, ofs, f2, dp, if_true]
end k75
end Eng
/-! k75: determinants, by the kernel. -/
namespace Eng
open PySem L2
namespace k75
def gT (g : List (List Nat)) : Tb := g.map fun r => r.map fun c => [⟨(Int.ofNat c, 1, ())⟩]
def pT (l : List (Int × Int)) : List P2 := l.map fun x => ⟨(x.1, x.2, ())⟩
def dcB (n : Nat) (g : List (List Nat)) (due : List P2) : Bool := match detM n (gT g) with
  | some b => eqT b due
  | none => false
def sqB (n : Nat) (g : List (List Nat)) : Bool := Nat.ble n 100 && (Nat.beq g.length n && g.all fun r => Nat.beq r.length n)
theorem sqB_ok {n : Nat} {g : List (List Nat)} (h : sqB n g = true) : Sq n (gT g) := by
  unfold sqB at h
  rw [Bool.and_eq_true, Bool.and_eq_true, List.all_eq_true] at h
  refine ⟨Nat.ble_eq.mp h.1, by unfold gT; rw [List.length_map]; exact Nat.eq_of_beq_eq_true h.2.1, fun r m => ?_⟩
  obtain ⟨s, ms, rfl⟩ := List.mem_map.mp m
  refine ⟨by rw [List.length_map]; exact Nat.eq_of_beq_eq_true (h.2.2 s ms), fun p mp y my => ?_⟩
  obtain ⟨c, mc, rfl⟩ := List.mem_map.mp mp
  rw [List.mem_singleton.mp my]
  rfl
theorem F6_dc {n : Nat} {g : List (List Nat)} {due : List P2} (s : sqB n g = true) (h : dcB n g due = true) : F6 ((gT g).map fun r => r.map fun p => ⟨p⟩, ()) = .ok ⟨due⟩ := by
  unfold dcB at h
  split at h
  · rename_i b e
    rw [← eqT_ok h]
    exact F6_ok (sqB_ok s) e
  · cases h
def g1 : List (List Nat) := [[1]]
def d1 : List P2 := pT [(1, 1)]
theorem dc1 : dcB 1 g1 d1 = true := by decide +kernel
theorem sq1 : sqB 1 g1 = true := by decide +kernel
def g2 : List (List Nat) := [[2, 1], [1, 2]]
def d2 : List P2 := pT [(2, -1), (4, 1)]
theorem dc2 : dcB 2 g2 d2 = true := by decide +kernel
theorem sq2 : sqB 2 g2 = true := by decide +kernel
def g3 : List (List Nat) := [[3, 2, 2, 1, 2], [2, 3, 1, 2, 1], [2, 1, 3, 2, 1], [1, 2, 2, 3, 2], [2, 1, 1, 2, 3]]
def d3 : List P2 := pT [(5, -2), (7, 9), (9, -16), (11, 14), (13, -6), (15, 1)]
theorem dc3 : dcB 5 g3 d3 = true := by decide +kernel
theorem sq3 : sqB 5 g3 = true := by decide +kernel
def g4 : List (List Nat) := [[4, 3, 3, 2, 3, 3, 2, 2, 3, 1, 2, 2, 3, 2], [3, 4, 2, 3, 2, 2, 3, 1, 2, 2, 1, 3, 2, 1], [3, 2, 4, 3, 2, 2, 1, 3, 2, 2, 1, 1, 2, 3], [2, 3, 3, 4, 3, 1, 2, 2, 1, 3, 2, 2, 1, 2], [3, 2, 2, 3, 4, 2, 1, 1, 2, 2, 3, 1, 2, 1], [3, 2, 2, 1, 2, 4, 3, 3, 2, 2, 3, 1, 2, 1], [2, 3, 1, 2, 1, 3, 4, 2, 1, 3, 2, 2, 1, 2], [2, 1, 3, 2, 1, 3, 2, 4, 3, 3, 2, 2, 1, 2], [3, 2, 2, 1, 2, 2, 1, 3, 4, 2, 1, 3, 2, 1], [1, 2, 2, 3, 2, 2, 3, 3, 2, 4, 3, 3, 2, 3], [2, 1, 1, 2, 3, 3, 2, 2, 1, 3, 4, 2, 3, 2], [2, 3, 1, 2, 1, 1, 2, 2, 3, 3, 2, 4, 3, 2], [3, 2, 2, 1, 2, 2, 1, 1, 2, 2, 3, 3, 4, 3], [2, 1, 3, 2, 1, 1, 2, 2, 1, 3, 2, 2, 3, 4]]
def d4 : List P2 := pT [(14, -64), (16, 1216), (18, -10864), (20, 60768), (22, -238940), (24, 702716), (26, -1605337), (28, 2919620), (30, -4297190), (32, 5174065), (34, -5130203), (36, 4202042), (38, -2843308), (40, 1584491), (42, -722495), (44, 266704), (46, -78422), (48, 17927), (50, -3069), (52, 370), (54, -28), (56, 1)]
theorem dc4 : dcB 14 g4 d4 = true := by decide +kernel
theorem sq4 : sqB 14 g4 = true := by decide +kernel
end k75
end Eng
/-! k75: facts for the kernel. -/
namespace Eng
open PySem L2
open Inj (inj)
namespace k75
def polys : List Po := ([[(0, 1)], [(1, 1)], [(0, -1), (2, 1)], [(1, -2), (3, 1)], [(0, 1), (2, -3), (4, 1)], [(1, 3), (3, -4), (5, 1)], [(0, -1), (2, 6), (4, -5), (6, 1)], [(1, -4), (3, 10), (5, -6), (7, 1)], [(0, 1), (2, -10), (4, 15), (6, -7), (8, 1)], [(1, 5), (3, -20), (5, 21), (7, -8), (9, 1)], [(0, -1), (2, 15), (4, -35), (6, 28), (8, -9), (10, 1)], [(1, -6), (3, 35), (5, -56), (7, 36), (9, -10), (11, 1)], [(0, 1), (2, -21), (4, 70), (6, -84), (8, 45), (10, -11), (12, 1)], [(1, 7), (3, -56), (5, 126), (7, -120), (9, 55), (11, -12), (13, 1)]] : List (List (Int × Int))).map fun p => ⟨pT p⟩
def eqPo (p q : Po) : Bool := eqT p.l q.l
theorem eqPo_ok {p q : Po} (h : eqPo p q = true) : p = q := by
  obtain ⟨p⟩ := p
  obtain ⟨q⟩ := q
  exact congrArg Tp.mk (eqT_ok h)
def eqPs (p q : List Po) : Bool := eqLs eqPo p q
theorem eqPs_ok {p q : List Po} (h : eqPs p q = true) : p = q := eqLs_ok (fun _ _ e => eqPo_ok e) h
def eqTb (p q : List (List Po)) : Bool := eqLs eqPs p q
theorem eqTb_ok {p q : List (List Po)} (h : eqTb p q = true) : p = q := eqLs_ok (fun _ _ e => eqPs_ok e) h
def eqR (p q : List (Tp Int)) : Bool := eqLs (fun x y => eqIs x.l y.l) p q
theorem eqR_ok {p q : List (Tp Int)} (h : eqR p q = true) : p = q := eqLs_ok (fun x y e => by
  obtain ⟨x⟩ := x
  obtain ⟨y⟩ := y
  exact congrArg Tp.mk (eqIs_ok e)) h
theorem okB_eq {A : Type} {f : A → A → Bool} (hf : ∀ {a b}, f a b = true → a = b) {t : T A} {v : A} (h : okB t (fun a => f a v) = true) : t = .ok v := by
  obtain ⟨a, e, q⟩ := okB_ex h
  rw [e, hf q]
def tbG (g : List (List Nat)) : List (List Po) := (gT g).map fun r => r.map fun p => ⟨p⟩
def ga (m : Int) (rows : List (Tp Int)) : GA := (none, ⟨⟩, some m, some rows, none, none, none, ⟨none⟩, none, none, none, none, none, none, none, none, none, none, none, none, none, ())
def gb (m : Int) (rows : List (Tp Int)) (g : List (List Nat)) : GA := (none, ⟨⟩, some m, some rows, some (tbG g), none, none, ⟨none⟩, none, none, none, none, none, none, none, none, none, none, none, none, none, ())
def gc (m : Int) (rows : List (Tp Int)) (g : List (List Nat)) (d : List P2) : GA := (none, ⟨⟩, some m, some rows, some (tbG g), some ⟨d⟩, none, ⟨none⟩, none, none, none, none, none, none, none, none, none, none, none, none, none, ())
def dueB (r : Fw GA Bool) (g : List (List Nat)) : Bool := match r with
  | .nx γ => match γ.2.2.2.2.1 with
    | some t => eqTb t (tbG g)
    | none => false
  | _ => false
def isNB (r : Fw GA Bool) : Bool := match r with
  | .nx _ => true
  | _ => false
def blk : GA → T (Fw GA Bool) := seqF t7.1 (seqF t8.1 (seqF t9.1 (seqF t10.1 (seqF t11.1 fun γ => .ok (.nx γ)))))
def polB (r : Fw GA Bool) : Bool := match r with
  | .nx γ => match γ.2.2.2.2.2.2.2.1.l with
    | some ps => eqPs ps polys
    | none => false
  | _ => false
/-- what is known of one number of strings -/
structure KF (m : Int) (n : Nat) (rows : List (Tp Int)) (g : List (List Nat)) (d : List P2) : Prop where
  sq : sqB n g = true
  dc : dcB n g d = true
  f9 : okB (F9 59 (m, ())) (fun a => eqR a rows) = true
  f11 : okB (F11 58 (m, ())) (fun a => eqTb a (tbG g)) = true
  f11' : okB (F11 57 (m, ())) (fun a => eqTb a (tbG g)) = true
  f13 : okB (F13 (m, ())) (fun a => eqPo a ⟨d⟩) = true
  t3 : okB (t3.1 (ga m rows)) (fun r => dueB r g) = true
  t4 : okB (t4.1 (gb m rows g)) isNB = true
  t6 : (decide (m < 4) && !okB (F20 58 (tbG g, ())) fun a => eqPo a ⟨d⟩) = false
  so : sOk 6 (inj (⟨d⟩ : Po)) = true
  b2 : okB (blk (gc m rows g d)) polB = true
def r1 : List (Tp Int) := [⟨[1, 0]⟩]
def r2 : List (Tp Int) := [⟨[1, 0, 3, 2]⟩, ⟨[3, 2, 1, 0]⟩]
def r3 : List (Tp Int) := [⟨[1, 0, 3, 2, 5, 4]⟩, ⟨[1, 0, 5, 4, 3, 2]⟩, ⟨[3, 2, 1, 0, 5, 4]⟩, ⟨[5, 2, 1, 4, 3, 0]⟩, ⟨[5, 4, 3, 2, 1, 0]⟩]
def r4 : List (Tp Int) := [⟨[1, 0, 3, 2, 5, 4, 7, 6]⟩, ⟨[1, 0, 3, 2, 7, 6, 5, 4]⟩, ⟨[1, 0, 5, 4, 3, 2, 7, 6]⟩, ⟨[1, 0, 7, 4, 3, 6, 5, 2]⟩, ⟨[1, 0, 7, 6, 5, 4, 3, 2]⟩, ⟨[3, 2, 1, 0, 5, 4, 7, 6]⟩, ⟨[3, 2, 1, 0, 7, 6, 5, 4]⟩, ⟨[5, 2, 1, 4, 3, 0, 7, 6]⟩, ⟨[5, 4, 3, 2, 1, 0, 7, 6]⟩, ⟨[7, 2, 1, 4, 3, 6, 5, 0]⟩, ⟨[7, 2, 1, 6, 5, 4, 3, 0]⟩, ⟨[7, 4, 3, 2, 1, 6, 5, 0]⟩, ⟨[7, 6, 3, 2, 5, 4, 1, 0]⟩, ⟨[7, 6, 5, 4, 3, 2, 1, 0]⟩]
end k75
end Eng
namespace Eng
open PySem L2
open Inj (inj)
namespace k75
theorem kf1a : okB (F9 59 ((1 : Int), ())) (fun a => eqR a r1) = true := by decide +kernel
theorem kf1b : okB (F11 58 ((1 : Int), ())) (fun a => eqTb a (tbG g1)) = true := by decide +kernel
theorem kf1c : okB (F11 57 ((1 : Int), ())) (fun a => eqTb a (tbG g1)) = true := by decide +kernel
theorem kf1d : okB (F13 ((1 : Int), ())) (fun a => eqPo a ⟨d1⟩) = true := by decide +kernel
theorem kf1e : okB (t3.1 (ga (1 : Int) r1)) (fun r => dueB r g1) = true := by decide +kernel
theorem kf1f : okB (t4.1 (gb (1 : Int) r1 g1)) isNB = true := by decide +kernel
theorem kf1g : (decide ((1 : Int) < 4) && !okB (F20 58 (tbG g1, ())) fun a => eqPo a ⟨d1⟩) = false := by decide +kernel
theorem kf1h : sOk 6 (inj (⟨d1⟩ : Po)) = true := by decide +kernel
theorem kf1i : okB (blk (gc (1 : Int) r1 g1 d1)) polB = true := by decide +kernel
theorem kf1 : KF (1 : Int) 1 r1 g1 d1 := ⟨sq1, dc1, kf1a, kf1b, kf1c, kf1d, kf1e, kf1f, kf1g, kf1h, kf1i⟩
end k75
end Eng
namespace Eng
open PySem L2
open Inj (inj)
namespace k75
theorem kf2a : okB (F9 59 ((2 : Int), ())) (fun a => eqR a r2) = true := by decide +kernel
theorem kf2b : okB (F11 58 ((2 : Int), ())) (fun a => eqTb a (tbG g2)) = true := by decide +kernel
theorem kf2c : okB (F11 57 ((2 : Int), ())) (fun a => eqTb a (tbG g2)) = true := by decide +kernel
theorem kf2d : okB (F13 ((2 : Int), ())) (fun a => eqPo a ⟨d2⟩) = true := by decide +kernel
theorem kf2e : okB (t3.1 (ga (2 : Int) r2)) (fun r => dueB r g2) = true := by decide +kernel
theorem kf2f : okB (t4.1 (gb (2 : Int) r2 g2)) isNB = true := by decide +kernel
theorem kf2g : (decide ((2 : Int) < 4) && !okB (F20 58 (tbG g2, ())) fun a => eqPo a ⟨d2⟩) = false := by decide +kernel
theorem kf2h : sOk 6 (inj (⟨d2⟩ : Po)) = true := by decide +kernel
theorem kf2i : okB (blk (gc (2 : Int) r2 g2 d2)) polB = true := by decide +kernel
theorem kf2 : KF (2 : Int) 2 r2 g2 d2 := ⟨sq2, dc2, kf2a, kf2b, kf2c, kf2d, kf2e, kf2f, kf2g, kf2h, kf2i⟩
end k75
end Eng
namespace Eng
open PySem L2
open Inj (inj)
namespace k75
theorem kf3a : okB (F9 59 ((3 : Int), ())) (fun a => eqR a r3) = true := by decide +kernel
theorem kf3b : okB (F11 58 ((3 : Int), ())) (fun a => eqTb a (tbG g3)) = true := by decide +kernel
theorem kf3c : okB (F11 57 ((3 : Int), ())) (fun a => eqTb a (tbG g3)) = true := by decide +kernel
theorem kf3d : okB (F13 ((3 : Int), ())) (fun a => eqPo a ⟨d3⟩) = true := by decide +kernel
theorem kf3e : okB (t3.1 (ga (3 : Int) r3)) (fun r => dueB r g3) = true := by decide +kernel
theorem kf3f : okB (t4.1 (gb (3 : Int) r3 g3)) isNB = true := by decide +kernel
theorem kf3g : (decide ((3 : Int) < 4) && !okB (F20 58 (tbG g3, ())) fun a => eqPo a ⟨d3⟩) = false := by decide +kernel
theorem kf3h : sOk 6 (inj (⟨d3⟩ : Po)) = true := by decide +kernel
theorem kf3i : okB (blk (gc (3 : Int) r3 g3 d3)) polB = true := by decide +kernel
theorem kf3 : KF (3 : Int) 5 r3 g3 d3 := ⟨sq3, dc3, kf3a, kf3b, kf3c, kf3d, kf3e, kf3f, kf3g, kf3h, kf3i⟩
end k75
end Eng
namespace Eng
open PySem L2
open Inj (inj)
namespace k75
theorem kf4a : okB (F9 59 ((4 : Int), ())) (fun a => eqR a r4) = true := by decide +kernel
theorem kf4b : okB (F11 58 ((4 : Int), ())) (fun a => eqTb a (tbG g4)) = true := by decide +kernel
theorem kf4c : okB (F11 57 ((4 : Int), ())) (fun a => eqTb a (tbG g4)) = true := by decide +kernel
theorem kf4d : okB (F13 ((4 : Int), ())) (fun a => eqPo a ⟨d4⟩) = true := by decide +kernel
theorem kf4e : okB (t3.1 (ga (4 : Int) r4)) (fun r => dueB r g4) = true := by decide +kernel
theorem kf4f : okB (t4.1 (gb (4 : Int) r4 g4)) isNB = true := by decide +kernel
theorem kf4g : (decide ((4 : Int) < 4) && !okB (F20 58 (tbG g4, ())) fun a => eqPo a ⟨d4⟩) = false := by decide +kernel
theorem kf4h : sOk 6 (inj (⟨d4⟩ : Po)) = true := by decide +kernel
theorem kf4i : okB (blk (gc (4 : Int) r4 g4 d4)) polB = true := by decide +kernel
theorem kf4 : KF (4 : Int) 14 r4 g4 d4 := ⟨sq4, dc4, kf4a, kf4b, kf4c, kf4d, kf4e, kf4f, kf4g, kf4h, kf4i⟩
end k75
end Eng
/-! k75: facts about the draws, for the kernel. -/
namespace Eng
open PySem L2
open Inj (inj)
namespace k75
def numB (a b : T Int) : Bool := okB a fun x => okB b fun y => zEq x y
theorem numB_ok {a b : T Int} (h : numB a b = true) : ∃ v, a = .ok v ∧ b = .ok v := by
  obtain ⟨x, e, h⟩ := okB_ex h
  obtain ⟨y, e2, h⟩ := okB_ex h
  exact ⟨x, e, by rw [e2, zEq_ok h]⟩
/-- one turn of the values' loop -/
def stepV (p : Int) (b : Int × Int) (_ : Nat) : Option (Int × Int) := cond (szI p && szI b.2) (some (b.2, p * b.2 - b.1)) none
def chK (k : Nat) : Bool := okB (F8 ((k : Int), ())) fun c => match getI polys (k : Int) with
  | some q => eqPo c q && (sOk 5 (inj q) && (List.range 9).all fun i => match foldO (stepV ((i : Int) - 4)) (rgQ 0 k) (0, 1) with
    | some b => okB (F22 (q, (i : Int) - 4, ())) fun v => zEq v b.2
    | none => false)
  | none => false
theorem ch0 : chK 0 = true := by decide +kernel
theorem ch1 : chK 1 = true := by decide +kernel
theorem ch2 : chK 2 = true := by decide +kernel
theorem ch3 : chK 3 = true := by decide +kernel
theorem ch4 : chK 4 = true := by decide +kernel
theorem ch5 : chK 5 = true := by decide +kernel
theorem ch6 : chK 6 = true := by decide +kernel
theorem ch7 : chK 7 = true := by decide +kernel
theorem ch8 : chK 8 = true := by decide +kernel
theorem ch9 : chK 9 = true := by decide +kernel
theorem ch10 : chK 10 = true := by decide +kernel
theorem ch11 : chK 11 = true := by decide +kernel
theorem ch12 : chK 12 = true := by decide +kernel
def chT (t : Nat) : Bool := (List.range 25).all fun s => numB (F12 ((t : Int), (s : Int) - 3, ())) (F21 ((t : Int), (s : Int) - 3, ()))
theorem cht0 : chT 0 = true := by decide +kernel
theorem cht1 : chT 1 = true := by decide +kernel
theorem cht2 : chT 2 = true := by decide +kernel
theorem cht3 : chT 3 = true := by decide +kernel
theorem cht4 : chT 4 = true := by decide +kernel
theorem cht5 : chT 5 = true := by decide +kernel
theorem cht6 : chT 6 = true := by decide +kernel
theorem cht7 : chT 7 = true := by decide +kernel
theorem cht8 : chT 8 = true := by decide +kernel
theorem cht9 : chT 9 = true := by decide +kernel
theorem cht10 : chT 10 = true := by decide +kernel
theorem cht11 : chT 11 = true := by decide +kernel
theorem cht12 : chT 12 = true := by decide +kernel
theorem cht13 : chT 13 = true := by decide +kernel
theorem cht14 : chT 14 = true := by decide +kernel
theorem cht15 : chT 15 = true := by decide +kernel
theorem cht16 : chT 16 = true := by decide +kernel
theorem cht17 : chT 17 = true := by decide +kernel
theorem cht18 : chT 18 = true := by decide +kernel
theorem cht19 : chT 19 = true := by decide +kernel
theorem cht20 : chT 20 = true := by decide +kernel
theorem chK_all {k : Nat} (h : k < 13) : chK k = true := by
  have : k = 0 ∨ k = 1 ∨ k = 2 ∨ k = 3 ∨ k = 4 ∨ k = 5 ∨ k = 6 ∨ k = 7 ∨ k = 8 ∨ k = 9 ∨ k = 10 ∨ k = 11 ∨ k = 12 := by omega
  rcases this with rfl | rfl | rfl | rfl | rfl | rfl | rfl | rfl | rfl | rfl | rfl | rfl | rfl
  · exact ch0
  · exact ch1
  · exact ch2
  · exact ch3
  · exact ch4
  · exact ch5
  · exact ch6
  · exact ch7
  · exact ch8
  · exact ch9
  · exact ch10
  · exact ch11
  · exact ch12
theorem chT_all {k : Nat} (h : k < 21) : chT k = true := by
  have : k = 0 ∨ k = 1 ∨ k = 2 ∨ k = 3 ∨ k = 4 ∨ k = 5 ∨ k = 6 ∨ k = 7 ∨ k = 8 ∨ k = 9 ∨ k = 10 ∨ k = 11 ∨ k = 12 ∨ k = 13 ∨ k = 14 ∨ k = 15 ∨ k = 16 ∨ k = 17 ∨ k = 18 ∨ k = 19 ∨ k = 20 := by omega
  rcases this with rfl | rfl | rfl | rfl | rfl | rfl | rfl | rfl | rfl | rfl | rfl | rfl | rfl | rfl | rfl | rfl | rfl | rfl | rfl | rfl | rfl
  · exact cht0
  · exact cht1
  · exact cht2
  · exact cht3
  · exact cht4
  · exact cht5
  · exact cht6
  · exact cht7
  · exact cht8
  · exact cht9
  · exact cht10
  · exact cht11
  · exact cht12
  · exact cht13
  · exact cht14
  · exact cht15
  · exact cht16
  · exact cht17
  · exact cht18
  · exact cht19
  · exact cht20
end k75
end Eng
/-! k75: the law. -/
namespace Eng
open PySem L2
open Inj (inj)
namespace k75
theorem bind_inv {A B : Type} {t : T A} {f : A → T B} {b : B} (h : t.bind f = .ok b) : ∃ a, t = .ok a ∧ f a = .ok b := by
  cases t with
  | ok a => exact ⟨a, rfl, h⟩
  | no => cases h
  | dr n k => cases h
theorem seqE {Γ ρ : Type} {P : Fw Γ ρ → Prop} {a b : Γ → T (Fw Γ ρ)} {γ γ' : Γ} (e : a γ = .ok (.nx γ')) (h : AllT P (b γ')) : AllT P (seqF a b γ) := by
  refine AllT.seq ?_
  rw [e]
  exact .ok h
theorem seq_inv {Γ ρ : Type} {a b : Γ → T (Fw Γ ρ)} {γ γ' : Γ} (h : seqF a b γ = .ok (.nx γ')) : ∃ γ1, a γ = .ok (.nx γ1) ∧ b γ1 = .ok (.nx γ') := by
  unfold seqF at h
  obtain ⟨r, e, h⟩ := bind_inv h
  cases r with
  | nx γ1 => exact ⟨γ1, e, h⟩
  | bk γ1 => cases h
  | ct γ1 => cases h
  | rt x γ1 => cases h
theorem draw {B : Type} {P : B → Prop} {n : Int} {f : Int → T B} (h0 : 0 < n) (h1 : n ≤ 1000000000000000000) (h : ∀ i : Nat, (i : Int) < n → AllT P (f i)) : AllT P ((F15 (⟨⟩, n, ())).bind f) := by
  have e : F15 (⟨⟩, n, ()) = .dr n.toNat fun i => .ok (i : Int) := by
    unfold F15
    have : (decide (0 < n) && decide (n ≤ 1000000000000000000)) = true := by simp [h0, h1]
    rw [this, if_pos rfl]
  rw [e]
  exact .dr fun i hi => h i (by omega)
theorem t3_shape {γ : GA} {r : Fw GA Bool} (h : t3.1 γ = .ok r) : ∃ x, r = .nx (γ.1, γ.2.1, γ.2.2.1, γ.2.2.2.1, some x, γ.2.2.2.2.2) := by
  unfold t3 at h
  obtain ⟨a, _, h⟩ := bind_inv h
  obtain ⟨b, e, h⟩ := bind_inv h
  obtain ⟨c, _, e⟩ := bind_inv e
  cases e
  cases h
  exact ⟨_, rfl⟩
theorem t4_shape {γ : GA} {r : Fw GA Bool} (h : t4.1 γ = .ok r) (n : isNB r = true) : r = .nx γ := by
  unfold t4 at h
  obtain ⟨a, _, h⟩ := bind_inv h
  cases a with
  | true =>
    obtain ⟨c, e, h⟩ := bind_inv h
    have dp : (Inj.dp Bool).blt 12 = true := rfl
    simp only [dp, if_true] at e
    cases e
    cases h
    cases n
  | false =>
    cases h
    rfl
theorem sm2 (x y : Int) : small (InjR.injR (x, y, ())).length = true := rfl
variable {m : Int} {n : Nat} {rows : List (Tp Int)} {g : List (List Nat)} {d : List P2}
theorem e3 (K : KF m n rows g d) : t3.1 (ga m rows) = .ok (.nx (gb m rows g)) := by
  obtain ⟨r, e, h⟩ := okB_ex K.t3
  obtain ⟨x, rfl⟩ := t3_shape e
  rw [e]
  have : x = tbG g := eqTb_ok h
  rw [this]
  rfl
theorem e4 (K : KF m n rows g d) : t4.1 (gb m rows g) = .ok (.nx (gb m rows g)) := by
  obtain ⟨r, e, h⟩ := okB_ex K.t4
  rw [e, t4_shape e h]
theorem e2 (K : KF m n rows g d) : t2.1 (g0 m) = .ok (.nx (ga m rows)) := by
  have f := okB_eq (f := eqR) eqR_ok K.f9
  unfold t2 g0
  simp only [bo, ofs, f]
  rfl
theorem e5 (K : KF m n rows g d) : t5.1 (gb m rows g) = .ok (.nx (gc m rows g d)) := by
  have f := okB_eq (f := eqPo) eqPo_ok K.f13
  unfold t5 gb
  simp only [bo, ofs, f]
  rfl
theorem f14 (K : KF m n rows g d) : F14 55 (m, ()) = .ok ⟨d⟩ := by
  have f := okB_eq (f := eqTb) eqTb_ok K.f11'
  have q := F6_dc K.sq K.dc
  have q : F6 (tbG g, ()) = .ok ⟨d⟩ := q
  have dp : (Inj.dp Po).blt 12 = true := rfl
  unfold F14 s14
  simp only [seqF, Ent.st, bo, ofs, f, q, dp, if_true]
  rfl
theorem e6 (K : KF m n rows g d) : t6.1 (gc m rows g d) = .ok (.nx (gc m rows g d)) := by
  have f := f14 K
  have s := sameS K.so
  unfold t6 gc
  simp only [bo, ofs, f]
  rw [s]
  have c : copI .lt m 4 = some (decide (m < 4)) := rfl
  have k6 := K.t6
  simp only [bo, ofs, c, Bool.not_true]
  cases q : decide (m < 4) with
  | false => simp only [bo, ofs]
  | true =>
    rw [q, Bool.true_and, Bool.not_eq_false'] at k6
    have f20 := okB_eq (f := eqPo) eqPo_ok k6
    simp only [bo, ofs, f20]
    rw [s]
    simp only [bo, ofs, Bool.not_true]
def tl : GA → T (Fw GA Bool) := seqF t12.1 (seqF t13.1 (seqF t14.1 (seqF t15.1 (seqF t16.1 (seqF t17.1 fun γ => .ok (.nx γ))))))
theorem blk_then {γ γ' : GA} (h : blk γ = .ok (.nx γ')) (q : AllT PA (tl γ')) : AllT PA (seqF t7.1 (seqF t8.1 (seqF t9.1 (seqF t10.1 (seqF t11.1 tl)))) γ) := by
  unfold blk at h
  obtain ⟨γ1, a1, h⟩ := seq_inv h
  obtain ⟨γ2, a2, h⟩ := seq_inv h
  obtain ⟨γ3, a3, h⟩ := seq_inv h
  obtain ⟨γ4, a4, h⟩ := seq_inv h
  obtain ⟨γ5, a5, h⟩ := seq_inv h
  cases h
  exact seqE a1 (seqE a2 (seqE a3 (seqE a4 (seqE a5 q))))
theorem tail {γ : GA} (h : γ.2.2.2.2.2.2.2.1 = ⟨some polys⟩) : AllT PA (tl γ) := by
  obtain ⟨a0, a1, a2, a3, a4, a5, a6, a7, a8, a9, a10, a11, a12, a13, a14, a15, a16, a17, a18, a19, a20, a21⟩ := γ
  simp only at h
  subst h
  unfold tl
  refine AllT.seq ?_
  unfold t12
  simp only [bo, ofs, T.bind_assoc]
  refine draw (by omega) (by omega) fun k hk => ?_
  refine draw (by omega) (by omega) fun i hi => ?_
  simp only [bo, ofs, bs, sm2, if_true]
  refine AllT.ok ?_
  have ck := chK_all (k := k) (by omega)
  unfold chK at ck
  obtain ⟨q, f8, ck⟩ := okB_ex ck
  split at ck
  case h_2 => cases ck
  rename_i q' gq
  rw [Bool.and_eq_true, Bool.and_eq_true] at ck
  obtain ⟨eq, so, ck⟩ := ck
  have eq := eqPo_ok eq
  subst eq
  have ck := List.all_eq_true.mp ck i (List.mem_range.mpr (by omega))
  split at ck
  case h_2 => cases ck
  rename_i b eb
  have f22 := okB_eq (f := zEq) zEq_ok ck
  refine seqE (γ' := (a0, a1, a2, a3, a4, a5, a6, ⟨some polys⟩, some (k : Int), a9, a10, some ((i : Int) - 4), some 0, some 1, a14, a15, a16, a17, a18, a19, a20, a21)) rfl ?_
  have e14 := for_optI (ρ := Bool) (st := fun (a : Int) (γ : GA) => (γ.fst, γ.snd.fst, γ.snd.snd.fst, γ.snd.snd.snd.fst, γ.snd.snd.snd.snd.fst, γ.snd.snd.snd.snd.snd.fst,
          γ.snd.snd.snd.snd.snd.snd.fst, γ.snd.snd.snd.snd.snd.snd.snd.fst, γ.snd.snd.snd.snd.snd.snd.snd.snd.fst,
          γ.snd.snd.snd.snd.snd.snd.snd.snd.snd.fst, γ.snd.snd.snd.snd.snd.snd.snd.snd.snd.snd.fst,
          γ.snd.snd.snd.snd.snd.snd.snd.snd.snd.snd.snd.fst, γ.snd.snd.snd.snd.snd.snd.snd.snd.snd.snd.snd.snd.fst,
          γ.snd.snd.snd.snd.snd.snd.snd.snd.snd.snd.snd.snd.snd.fst, some a,
          γ.snd.snd.snd.snd.snd.snd.snd.snd.snd.snd.snd.snd.snd.snd.snd))
    (body := seqF
        (fun γ =>
          (((T.of γ.snd.snd.snd.snd.snd.snd.snd.snd.snd.snd.snd.snd.snd.fst).bind fun x =>
                    ((((T.of γ.snd.snd.snd.snd.snd.snd.snd.snd.snd.snd.snd.fst).bind fun x =>
                                  (T.of γ.snd.snd.snd.snd.snd.snd.snd.snd.snd.snd.snd.snd.snd.fst).bind fun y =>
                                    T.of (bopI Bop.mul x y)).bind
                              fun x =>
                              (T.of γ.snd.snd.snd.snd.snd.snd.snd.snd.snd.snd.snd.snd.fst).bind fun y =>
                                T.of (bopI Bop.sub x y)).bind
                          fun x => T.ok (x, ())).bind
                      fun y => T.ok (x, y)).bind
                fun x => if small (InjR.injR x).length = true then T.ok ({ t := x } : P2) else T.no).bind
            fun x =>
            T.ok
              (Fw.nx
                (γ.fst, γ.snd.fst, γ.snd.snd.fst, γ.snd.snd.snd.fst, γ.snd.snd.snd.snd.fst, γ.snd.snd.snd.snd.snd.fst,
                  γ.snd.snd.snd.snd.snd.snd.fst, γ.snd.snd.snd.snd.snd.snd.snd.fst,
                  γ.snd.snd.snd.snd.snd.snd.snd.snd.fst, γ.snd.snd.snd.snd.snd.snd.snd.snd.snd.fst,
                  γ.snd.snd.snd.snd.snd.snd.snd.snd.snd.snd.fst, γ.snd.snd.snd.snd.snd.snd.snd.snd.snd.snd.snd.fst,
                  some x.t.fst, some x.t.snd.fst, γ.snd.snd.snd.snd.snd.snd.snd.snd.snd.snd.snd.snd.snd.snd)))
        fun γ => T.ok (Fw.nx γ))
    (mk := fun (b : Int × Int) (r : OI) => ((a0, a1, a2, a3, a4, a5, a6, ⟨some polys⟩, some (k : Int), a9, a10, some ((i : Int) - 4), some b.1, some b.2, r, a15, a16, a17, a18, a19, a20, a21) : GA))
    (step := stepV ((i : Int) - 4)) (ok := fun _ => True) (P := fun _ => True) (fun a b b' r _ _ h => by
      refine ⟨trivial, some (a : Int), ?_⟩
      unfold stepV at h
      cases z : szI ((i : Int) - 4) && szI b.2 with
      | false => rw [z] at h; cases h
      | true =>
        rw [z] at h
        cases h
        rw [Bool.and_eq_true] at z
        simp only [seqF, bo, ofs, bm z.1 z.2, bs, sm2, if_true]) (rgQ 0 k) (0, 1) b a14 (fun _ _ => trivial) trivial eb
  obtain ⟨_, r14, e14⟩ := e14
  have g1 : rg1 (k : Int) = some ((rgQ 0 k).map Int.ofNat) := by
    rw [rg1_n (by omega)]
    exact congrArg some (rngI_q (lo := 0))
  refine seqE (γ' := (a0, a1, a2, a3, a4, a5, a6, ⟨some polys⟩, some (k : Int), a9, a10, some ((i : Int) - 4), some b.1, some b.2, r14, a15, a16, a17, a18, a19, a20, a21)) ?_ ?_
  · unfold t14
    simp only [bo, ofs, g1]
    exact e14
  refine AllT.seq ?_
  unfold t15
  simp only [bo, ofs, T.bind_assoc]
  refine draw (by omega) (by omega) fun t ht => ?_
  refine draw (by omega) (by omega) fun s hs => ?_
  simp only [bo, ofs, bs, sm2, if_true]
  refine AllT.ok ?_
  have ct := List.all_eq_true.mp (chT_all (k := t) (by omega)) s (List.mem_range.mpr (by omega))
  obtain ⟨v, f12, f21⟩ := numB_ok ct
  refine AllT.seq ?_
  unfold t16
  simp only [bo, ofs, f8, f12, f21, Option.map_some, gq]
  have sm3 : small (InjR.injR (q, v, ())).length = true := rfl
  have so2 : sOk 6 (inj ({ t := (q, v, ()) } : Hl (Po × Int × Unit))) = true := by
    show (Nat.ble 2 1000000 && (sOk 5 (inj q) && (sOk 5 (inj v) && true))) = true
    rw [so]
    rfl
  simp only [sm3, if_true, bo]
  rw [sameS so2]
  simp only [bo, Bool.not_true]
  refine AllT.ok ?_
  have eq1 : copI .eq b.2 b.2 = some true := congrArg some (decide_eq_true rfl)
  have dp : (Inj.dp Bool).blt 12 = true := rfl
  refine AllT.seq ?_
  unfold t17
  simp only [bo, ofs, f8, f22, eq1, dp, if_true]
  refine AllT.ok ?_
  exact rfl
theorem whole (K : KF m n rows g d) : AllT PA (fA (g0 m)) := by
  unfold fA
  refine seqE (e2 K) (seqE (e3 K) (seqE (e4 K) (seqE (e5 K) (seqE (e6 K) ?_))))
  obtain ⟨r, e, h⟩ := okB_ex K.b2
  cases r with
  | nx γ =>
    refine blk_then e (tail ?_)
    have h : (match γ.2.2.2.2.2.2.2.1.l with | some ps => eqPs ps polys | none => false) = true := h
    split at h
    · rename_i ps ep
      have e := eqPs_ok h
      subst e
      cases q : γ.2.2.2.2.2.2.2.1 with
      | mk l =>
        rw [q] at ep
        exact congrArg Ow.mk ep
    · cases h
  | bk γ => cases h
  | ct γ => cases h
  | rt x γ => cases h
end k75
end Eng
namespace Eng.k75
open PySem L2 Eng
theorem plain : LawTrue (callN tab fue dep) fue N_law.length b_law := law_typed fun i hi => by
  have : i = 0 ∨ i = 1 ∨ i = 2 ∨ i = 3 := by omega
  rcases this with rfl | rfl | rfl | rfl
  · exact whole kf1
  · exact whole kf2
  · exact whole kf3
  · exact whole kf4
end Eng.k75
open PySem PySem.W PyProof.Rows in
set_option maxRecDepth 100000 in
set_option maxHeartbeats 0 in
theorem PySem.Challenge.cw_knotpapers_k75_whole_tables_of_circles_holds : PySem.Challenge.rw_knotpapers_k75_whole_tables_of_circles.Holds := by
  w_on; o_law; k_head; (case hw => w_witness2)
  k_fill
  refine Eng.walk (l := PySem.Challenge.rw_knotpapers_k75_whole_tables_of_circles) (k := Eng.k75.dep + 1) (cf := Eng.callN Eng.k75.tab Eng.k75.fue Eng.k75.dep) (fu := Eng.k75.fue) (nN := Eng.k75.N_law.length) (body := Eng.k75.b_law) rfl rfl Eng.k75.room (fun w h Y => PySem.W.kIn_of Y) Eng.k75.plain ?F
  case F =>
    intro w mg fa h KX G hmg
    refine' Eng.k75.all_mk KX G hmg ?a0 ?l0 ?c0 ?k0 ?a1 ?l1 ?c1 ?k1 ?a2 ?l2 ?c2 ?k2 ?a3 ?l3 ?c3 ?k3 ?a4 ?l4 ?c4 ?k4 ?a5 ?l5 ?c5 ?k5 ?a6 ?l6 ?c6 ?k6 ?a7 ?l7 ?c7 ?k7 ?a8 ?l8 ?c8 ?k8 ?a9 ?l9 ?c9 ?k9 ?a10 ?l10 ?c10 ?k10 ?a11 ?l11 ?c11 ?k11 ?a12 ?l12 ?c12 ?k12 ?a13 ?l13 ?c13 ?k13 ?a14 ?l14 ?c14 ?k14 ?a15 ?l15 ?c15 ?k15 ?a16 ?l16 ?c16 ?k16 ?a17 ?l17 ?c17 ?k17 ?a18 ?l18 ?c18 ?k18 ?a19 ?l19 ?c19 ?k19 ?a20 ?l20 ?c20 ?k20 ?a21 ?l21 ?c21 ?k21 ?a22 ?l22 ?c22 ?k22 ?a23 ?l23 ?c23 ?k23 ?z0 ?z1 ?z2 ?z3 ?z4 ?z5 ?z6 ?z7 ?z8 ?z9 ?z10 ?z11 ?z12 ?x_ONE ?y_ONE ?y_ONE_0
    (case a0 => k_is)
    (case l0 => k_is)
    (case c0 => k_is)
    (case k0 => k_is)
    (case a1 => k_is)
    (case l1 => k_is)
    (case c1 => k_is)
    (case k1 => k_is)
    (case a2 => k_is)
    (case l2 => k_is)
    (case c2 => k_is)
    (case k2 => k_is)
    (case a3 => k_is)
    (case l3 => k_is)
    (case c3 => k_is)
    (case k3 => k_is)
    (case a4 => k_is)
    (case l4 => k_is)
    (case c4 => k_is)
    (case k4 => k_is)
    (case a5 => k_is)
    (case l5 => k_is)
    (case c5 => k_is)
    (case k5 => k_is)
    (case a6 => k_is)
    (case l6 => k_is)
    (case c6 => k_is)
    (case k6 => k_is)
    (case a7 => k_is)
    (case l7 => k_is)
    (case c7 => k_is)
    (case k7 => k_is)
    (case a8 => k_is)
    (case l8 => k_is)
    (case c8 => k_is)
    (case k8 => k_is)
    (case a9 => k_is)
    (case l9 => k_is)
    (case c9 => k_is)
    (case k9 => k_is)
    (case a10 => k_is)
    (case l10 => k_is)
    (case c10 => k_is)
    (case k10 => k_is)
    (case a11 => k_is)
    (case l11 => k_is)
    (case c11 => k_is)
    (case k11 => k_is)
    (case a12 => k_is)
    (case l12 => k_is)
    (case c12 => k_is)
    (case k12 => k_is)
    (case a13 => k_is)
    (case l13 => k_is)
    (case c13 => k_is)
    (case k13 => k_is)
    (case a14 => k_is)
    (case l14 => k_is)
    (case c14 => k_is)
    (case k14 => k_is)
    (case a15 => k_is)
    (case l15 => k_is)
    (case c15 => k_is)
    (case k15 => k_is)
    (case a16 => k_is)
    (case l16 => k_is)
    (case c16 => k_is)
    (case k16 => k_is)
    (case a17 => k_is)
    (case l17 => k_is)
    (case c17 => k_is)
    (case k17 => k_is)
    (case a18 => k_is)
    (case l18 => k_is)
    (case c18 => k_is)
    (case k18 => k_is)
    (case a19 => k_is)
    (case l19 => k_is)
    (case c19 => k_is)
    (case k19 => k_is)
    (case a20 => k_is)
    (case l20 => k_is)
    (case c20 => k_is)
    (case k20 => k_is)
    (case a21 => k_is)
    (case l21 => k_is)
    (case c21 => k_is)
    (case k21 => k_is)
    (case a22 => k_is)
    (case l22 => k_is)
    (case c22 => k_is)
    (case k22 => k_is)
    (case a23 => k_is)
    (case l23 => k_is)
    (case c23 => k_is)
    (case k23 => k_is)
    (case z0 => k_is)
    (case z1 => k_is)
    (case z2 => k_is)
    (case z3 => k_is)
    (case z4 => k_is)
    (case z5 => k_is)
    (case z6 => k_is)
    (case z7 => k_is)
    (case z8 => k_is)
    (case z9 => k_is)
    (case z10 => k_is)
    (case z11 => k_is)
    (case z12 => k_is)
    (case x_ONE => k_is)
    (case y_ONE => k_is)
    (case y_ONE_0 => k_is)
