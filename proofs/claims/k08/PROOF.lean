import PyProof.Rows.All
import Wide.All
import OpenK.AllK
import Wide.FinOn
import HandS.ForExc
import HandS.Comp
import HandS.Dict
import HandS.DictComp
import HandS.Iter
import HandS.Walk
import KE.GoesEnum
import KE.KDictPairs
import HandS.HotCalls
import HandS.ForMost
import HandS.Deep
import HandS.IsInst
import HandS.TupAny
import HandS.Star
import HandS.Style
import HandS.Small
import PySem.Challenge.RW_surehouse_k08_whole_bundles
set_option Elab.async false
set_option linter.all false
set_option maxRecDepth 100000
set_option maxHeartbeats 4000000
/-! LibA: what the hand layer lacks for this program: enumerate over a tuple, dict of a tuple of pairs, a dict display by a comprehension given to a local name. -/
namespace PySem
open Sem (wp)
/-- enumerate(v) with no start, v by how its iterator begins -/
theorem meets_enumOne {v : Value} {o : Obj} {G : Heap → Prop} (B : Begins v o G) :
    Meets (Builtin.«enumerate.__new__» ⟨[.type "enumerate", v], []⟩) (fun _ R s => G s.heap ∧
      R (.ok (.ret (.ref (s.heap.push o).objs.size))) { s with heap := (s.heap.push o).push { cls := .type "enumerate", data := .fields #[.none, .bool false, .ref s.heap.objs.size, rawInt 0, .none, .none] } }) :=
  .of_wp fun prog w A R s h => by
    obtain ⟨hp, g, d, tk, os⟩ := s
    obtain ⟨h1, h⟩ := h
    have isub := sub_enumerate
    have begin_ : ∀ {A' : Around} {E : Value → Shared → Prop} {Q : Value → Shared → Prop}, Q (.ref hp.objs.size) ⟨hp.push o, g, d, tk, os⟩ → wpAny (model prog w) A' (pyIter v) Q E ⟨hp, g, d, tk, os⟩ :=
      fun q => B.iter prog w _ _ ⟨hp, g, d, tk, os⟩ _ h1 q
    wp_walk using begin_
    refine wpAny_stack_any fun st => wpAny_pure ?_
    split
    · rename_i c _ _ _ _ _
      cases (c == Value.type "enumerate") <;> (wp_walk using begin_; exact ⟨_, rfl, h⟩)
    · wp_walk using begin_
      exact ⟨_, rfl, h⟩
section
variable {prog : Program} {w : World} {A : Around} {E : Value → Shared → Prop} {s : Shared}
theorem enumOne_begins {v : Value} {o : Obj} {G : Heap → Prop} {Q : Value → Shared → Prop} (B : Begins v o G) (h1 : G s.heap)
    (h : ∀ h', IsEnum h' (s.heap.objs.size + 1) s.heap.objs.size 0 .none → h'.get? s.heap.objs.size = some o →
      (∀ b o, s.heap.get? b = some o → h'.get? b = some o) → Q (.ref (s.heap.objs.size + 1)) { s with heap := h' }) :
    wpAny (model prog w) A (call (.type "enumerate") [v]) Q E s := by
  refine callType_new F.called_enumerate (by decide) (F.typeCall_enumerate_1 _) (F.newCall_enumerate_1 _) (fun obj => F.args_object_init_2 obj _) F.entry_enumerate_new
    (meets_enumOne B) ⟨h1, ?_⟩
  have hz : (s.heap.push o).objs.size = s.heap.objs.size + 1 := Heap.size_push ..
  have hE := Heap.get?_push_size (s.heap.push o) (o := { cls := .type "enumerate", data := .fields #[.none, .bool false, .ref s.heap.objs.size, rawInt 0, .none, .none] }) rfl
  show _ ∧ _
  rw [hz]
  rw [hz] at hE
  refine ⟨⟨_, hE, rfl⟩, h _ hE (Heap.get?_push_of_some _ (Heap.get?_push_size _ B.free)) fun b o x => Heap.get?_push_of_some _ (Heap.get?_push_of_some _ x)⟩
end
end PySem
namespace L2
open PySem PySem.Spec PyProof.Rows
/-- the tuple at a, each item in a new pair with its place -/
def IteT (K : PySem.W.Frag) (a : Addr) (xs : List V) : It :=
  ⟨fun i H => SqT K H a xs ∧ i < xs.length, fun i H v H' => ∃ T x, v = .ref T ∧ H T = none ∧ H' = upd H T (.tup [.int (i : Nat), x]) ∧ xs[i]? = some x, fun i H => SqT K H a xs ∧ xs.length = i⟩
theorem turn_enumT {P : Program} {w : World} {K : PySem.W.Frag} {elts : List Expr} {kk : Nat} {tpos : Pos} (a e it : Addr) (xs : List V) :
    Turn P w K (.Tuple elts kk tpos) (IteT K a xs) [e, it] e (fun i h => (∃ old, IsEnum h e it ((i : Nat) : Int) old) ∧ h.IsTupleIter it a i ∧ e ≠ it ∧ a ≠ it ∧ a ≠ e) where
  mem := by simp
  obj := fun i h st b hb => by
    obtain ⟨⟨old, he⟩, ⟨o, ho, _, hd⟩, _⟩ := st
    rcases (show b = e ∨ b = it by simpa using hb) with z | z
    · subst z; exact ⟨_, he, fun v q => nomatch q⟩
    · subst z; exact ⟨o, ho, fun v q => by rw [hd] at q; cases q⟩
  keep := fun i h h' st k => by
    obtain ⟨⟨old, he⟩, hi, r⟩ := st
    exact ⟨⟨old, k e (by simp) _ he⟩, hi.at fun o q => k it (by simp) o q, r⟩
  item := by
    intro X hP hw hK hc i pins s σ H E I hf st hg
    subst hP hw hK
    obtain ⟨⟨old, he⟩, hit, hne, hai, hae⟩ := st
    obtain ⟨hq, hlt⟩ := hg
    obtain ⟨its, rv, p, hz⟩ := I.tuple hq
    have hl := rv.length
    have D : Draws X.prog X.w X.A.in1 it [it, a] its.toArray.size (fun i v => its.toArray[i]? = some v) (fun i h => h.IsTupleIter it a i ∧ h.IsTuple a its.toArray) :=
      Draws.tuple (show X.A.in1.handled = none from I.ok.hd hc) it a hai its.toArray
    have hel : e < s.heap.objs.size := Heap.lt_size he
    have hil : it < s.heap.objs.size := by obtain ⟨_, q, _⟩ := hit; exact Heap.lt_size q
    refine wpAny_pyNext_enum_itemC D he ⟨hit, p⟩ (by rw [List.size_toArray]; omega) hne (by simp [hne, Ne.symm hae]) fun u h' tk hu ho hst hT hsz hk => ?_
    obtain ⟨x, hx⟩ : ∃ x, xs[i]? = some x := ⟨xs[i], by simp [hlt]⟩
    obtain ⟨u', hu', ru⟩ := rv.get hx
    have eu : u' = u := by
      have z : its[i]? = some u := by simpa using hu
      rw [z] at hu'
      exact (Option.some.inj hu').symm
    subst eu
    refine ⟨_, rfl, wpAny_letOwnedTupleGo_enum (s := { s with heap := h', toks := tk + 1 }) ho fun h'' he' sb => ?_⟩
    have hT2 : h''.get? s.heap.objs.size = some { cls := .type "tuple", data := .seq #[.int i tk, u'] } := (sb.2 _ (Nat.ne_of_gt hel)).trans hT
    have new : ObjOk X.prog X.w (upd H s.heap.objs.size (.tup [.int (i : Nat), x])) h'' s.heap.objs.size (.tup [.int (i : Nat), x]) :=
      ⟨by show 2 ≤ sizeLine; decide, [.int i tk, u'], .cons ⟨_, rfl⟩ (.cons ru .nil), ⟨_, hT2, rfl, _, rfl⟩⟩
    have far : ∀ b o, b ∉ [e, it] → s.heap.get? b = some o → h''.get? b = some o := fun b o hb q =>
      (sb.2 b (fun z => hb (by simp [z]))).trans (hk b o (fun z => hb (by simp [z])) (fun z => hb (by simp [z])) q)
    have I1 : Inv X pins σ (upd H s.heap.objs.size (.tup [.int (i : Nat), x])) { s with heap := h'', toks := tk + 1 } :=
      I.turnedNew (t' := tk + 1) (ch := [e, it]) far hf (Nat.le_refl _) new
    refine ⟨.ref s.heap.objs.size, _, I1, rfl, ⟨_, x, rfl, I.hok.fresh (Nat.le_refl _), rfl, hx⟩, ⟨⟨u', ?_⟩, hst.1.at fun o q => (sb.2 it (Ne.symm hne)).trans q, hne, hai, hae⟩, fun b hb => ?_⟩
    · rw [show ((i + 1 : Nat) : Int) = (i : Int) + 1 by omega]
      exact he'
    · have hb' : b < s.heap.objs.size := by
        rcases (show b = e ∨ b = it by simpa using hb) with z | z <;> rw [z] <;> assumption
      rw [upd_ne (Nat.ne_of_lt hb')]
      exact (hf b hb).1
  done := by
    intro X hP hw hK hc i pins s σ H E I hf st hg
    subst hP hw hK
    obtain ⟨⟨old, he⟩, hit, hne, hai, hae⟩ := st
    obtain ⟨hq, hlt⟩ := hg
    obtain ⟨its, rv, p, hz⟩ := I.tuple hq
    have hl := rv.length
    have D : Draws X.prog X.w X.A.in1 it [it, a] its.toArray.size (fun i v => its.toArray[i]? = some v) (fun i h => h.IsTupleIter it a i ∧ h.IsTuple a its.toArray) :=
      Draws.tuple (show X.A.in1.handled = none from I.ok.hd hc) it a hai its.toArray
    have e1 : its.toArray.size = i := by rw [List.size_toArray]; omega
    obtain ⟨f0, f1, f2, f3, f4, f5⟩ := hf it (by simp)
    exact wpAny_pyNext_enum_endD D he (by rw [e1]; exact ⟨hit, p⟩) fun h' eb => ⟨rfl, I.turned (t' := s.toks) (fun b o hb q => eb b o hb q) f0 f1 f3 f4 f5⟩
  self := fun A i s Q E st h => by
    obtain ⟨⟨_, he⟩, _⟩ := st
    exact wpAny_pyIter_enum he h
def iEnumT (K : PySem.W.Frag) (ta : TA) : TI := fun σ H R => ta σ H fun vs H1 => ∃ a xs, vs = [.ref a] ∧ SqT K H1 a xs ∧ R (IteT K a xs) H1
theorem pi_enumT {X : Cx} {e : Expr} {ta : TA} {p pos tpos : Pos} {elts : List Expr} {kk : Nat} (hg : Gl X "enumerate") (hm : X.mg "enumerate" = none) (ha : PA X [e] ta) (hs : starEach [e] X.env = [(false, eval e X.env)] := by rfl) :
    PI X (.Tuple elts kk tpos) (.Call (.Name "enumerate" p) [e] [] pos) (iEnumT X.K ta) := by
  refine ⟨fun pins s σ H R I h => ?_⟩
  refine Call_ (ld_blt I hg hm boot_enumerate (PyProof.Rows.callWith_type1 (thn (ha.run pos pins s σ H _ I h) fun us s1 ⟨vs, H1, I1, r1, q1⟩ => ?_) hs rfl))
  obtain ⟨a, xs, ex, hq, q⟩ := q1
  subst ex
  obtain ⟨u, eu, ru⟩ := vals1 r1
  subst eu
  cases ru
  obtain ⟨its, rv, pt, hz⟩ := I1.tuple hq
  refine enumOne_begins (begins_tuple a its.toArray) (show s1.heap.IsTuple a its.toArray from pt) fun h' he hit hk => wpAny_pyIter_enum he ?_
  have I2 : Inv X pins σ H1 { s1 with heap := h' } := I1.kept (t' := s1.toks) hk
  have hal : a < s1.heap.objs.size := pt.lt
  refine ⟨s1.heap.objs.size + 1, [s1.heap.objs.size + 1, s1.heap.objs.size], _, _, H1, rfl, I2, turn_enumT a (s1.heap.objs.size + 1) s1.heap.objs.size xs,
    ⟨⟨.none, he⟩, ⟨_, hit, rfl, rfl⟩, Nat.succ_ne_self _, Nat.ne_of_lt hal, Nat.ne_of_lt (Nat.lt_succ_of_lt hal)⟩, fun b hb => ?_, q⟩
  have hle : s1.heap.objs.size ≤ b := by
    rcases (show b = s1.heap.objs.size + 1 ∨ b = s1.heap.objs.size by simpa using hb) with z | z
    · rw [z]; exact Nat.le_succ _
    · exact Nat.le_of_eq z.symm
  exact I1.fpOk hle (I1.hok.fresh hle)
theorem walk_enumT {K : PySem.W.Frag} {a : Addr} {xs : List V} : Walk (IteT K a xs) xs.length (fun H => SqT K H a xs) (YPair (fun i => some (.int (i : Nat))) (fun i => xs[i]?)) := by
  refine ⟨fun i _ hi q => ⟨q, hi⟩, fun _ q => ⟨q, rfl⟩, fun i H v H' _ q y => ?_⟩
  obtain ⟨T, x, h1, h2, h3, h4⟩ := y
  exact ⟨T, .int (i : Nat), x, h1, h2, h3, rfl, h4⟩
end L2
set_option maxRecDepth 100000
set_option maxHeartbeats 4000000
/-! LibB: a tuple known to its object, dict() of it, a dict comprehension given to a local name. -/
namespace L2
open PySem PySem.Spec PyProof.Rows
/-- a plain tuple, known to its object: read, never written -/
def PlainT (H : Hp) (a : Addr) (xs : List V) : Prop := ∃ o : Obj, H a = some (.frz o (.tup xs)) ∧ o.dict = none
theorem PlainT.sq {K : PySem.W.Frag} {H : Hp} {a : Addr} {xs : List V} (h : PlainT H a xs) : SqT K H a xs := by
  obtain ⟨o, e, _⟩ := h
  exact .inl (.inr ⟨o, e⟩)
section
variable {X : Cx}
/-- tuple(a list), the new tuple known to its object -/
theorem call_tupleF : CallR X (.type "tuple") (fun xs H Q => ∃ p ys, xs = [.ref p] ∧ SqL X.K H p ys ∧ ∀ l H', H l = none → (∀ b o, H b = some o → H' b = some o) → PlainT H' l ys → Q (.ref l) H') := by
  intro pins s σ H xs us Q I r h
  obtain ⟨p, ys, rfl, hq, q⟩ := h
  obtain ⟨u, rfl, rx⟩ := vals1 r
  cases rx
  obtain ⟨its, r', pl, hz⟩ := I.list hq
  have hlen := r'.length
  refine call_tuple_list pl.isList (fun h' kp => ?_) (by simp only [List.size_toArray] <;> omega)
  have I1 : Inv X pins σ H { s with heap := h' } := I.kept (t' := s.toks) kp
  have hf := I1.hok.fresh (Nat.le_refl _)
  have hg := Heap.get?_push_size h' (o := { cls := .type "tuple", data := .seq its.toArray }) rfl
  have I2 := I1.laid (o := .frz { cls := .type "tuple", data := .seq its.toArray } (.tup ys)) (t' := s.toks) (h' := h'.push { cls := .type "tuple", data := .seq its.toArray }) (fun b o e => Heap.get?_push_of_some _ e) (Nat.le_refl _)
    ⟨hg, hz, its, r', IsTup.new _ _⟩
  exact ⟨.ref h'.objs.size, _, I2, rfl, q _ _ hf (fun b o e => by rw [upd_ne (ne_of_none e hf)]; exact e) ⟨_, upd_same, rfl⟩⟩
/-- dict(t), t a plain tuple of pairs -/
theorem call_dictT (hcalm : X.calm = true) : CallR X (.type "dict") (fun xs H Q => ∃ (a : Addr) (ps : List Addr) (kvs : List (Key × V)), xs = [.ref a] ∧ PlainT H a (ps.map V.ref) ∧ Paired (fun p kv => SqT X.K H p [kV kv.1, kv.2]) ps kvs ∧
    ∀ p, H p = none → Q (.ref p) (upd H p (.dK (mergeK [] kvs)))) := by
  intro pins s σ H xs us Q I r q
  obtain ⟨a, ps, kvs, ex, ⟨o, hq, hod⟩, hp, q⟩ := q
  subst ex
  obtain ⟨u, eu, rx⟩ := vals1 r
  subst eu
  cases rx
  obtain ⟨ho, hz, its, rv, o', ho', hc, n, hdat⟩ := (show ObjOk X.prog X.w H s.heap a (.frz o (.tup (ps.map V.ref))) from I.hok a _ hq)
  rw [ho] at ho'
  cases ho'
  have ei := refs_at rv
  subst ei
  rw [List.length_map] at hz
  obtain ⟨prs, rel, hl, hpr⟩ := pairs_of I hp
  -- the pairs' own keys, as they stand
  have pick : ∀ j, j < prs.length → ∃ (b : Addr) (u v : Value) (k : Key), prs[j]? = some (k, v) ∧ ps[j]? = some b ∧ IsTup s.heap b #[u, v] ∧ keyIs k u = true := fun j hj => by
    obtain ⟨b, u, e1, e2, e3⟩ := hpr j prs[j] (List.getElem?_eq_getElem hj)
    exact ⟨b, u, prs[j].2, prs[j].1, List.getElem?_eq_getElem hj, e1, e2, e3⟩
  let keyAt : Nat → Value := fun j => if hj : j < prs.length then Classical.choose (Classical.choose_spec (pick j hj)) else .none
  have keyAt_ok : ∀ j (hj : j < prs.length), ∃ (b : Addr) (v : Value) (k : Key), prs[j]? = some (k, v) ∧ ps[j]? = some b ∧ IsTup s.heap b #[keyAt j, v] ∧ keyIs k (keyAt j) = true := fun j hj => by
    have z := Classical.choose_spec (Classical.choose_spec (pick j hj))
    obtain ⟨v, k, z1, z2, z3, z4⟩ := z
    refine ⟨_, v, k, z1, z2, ?_, ?_⟩
    · show IsTup _ _ #[dite _ _ _, _]
      rw [dif_pos hj]
      exact z3
    · show keyIs k (dite _ _ _) = true
      rw [dif_pos hj]
      exact z4
  let rows : List (Value × Value) := (List.range prs.length).map fun j => (keyAt j, ((prs[j]?).map (·.2)).getD .none)
  have rows_len : rows.length = prs.length := by simp [rows]
  have rows_at : ∀ j k v, rows[j]? = some (k, v) → ∃ hj : j < prs.length, k = keyAt j ∧ prs[j].2 = v := fun j k v e => by
    have hj : j < prs.length := by
      have := (List.getElem?_eq_some_iff.mp e).1
      omega
    refine ⟨hj, ?_⟩
    simp [rows, List.getElem?_map, List.getElem?_range hj, List.getElem?_eq_getElem hj] at e
    exact ⟨e.1.symm, e.2⟩
  have P := PairArg.tuple (prog := X.prog) (w := X.w) a ((ps.map Value.ref).toArray) (fun j => ps.getD j 0) rows
  refine PySem.call_dict_pairs (knd := mixKind X.prog X.w) (kvs := prs) P (I.ok.hd hcalm) ⟨⟨o, n, ho, hc, hod, hdat⟩, ?_, fun j k v e => ?_⟩ ⟨rows_len.symm, fun j key v e => ?_⟩ (by rw [rows_len, hl]; exact hz) fun h' tk hd' k => ?_
  · rw [rows_len, hl]
    simp
  · obtain ⟨hj, ek, ev⟩ := rows_at j k v e
    obtain ⟨b, v', k', z1, z2, z3, z4⟩ := keyAt_ok j hj
    rw [List.getElem?_eq_getElem hj] at z1
    have z1 := Option.some.inj z1
    have eb : ps.getD j 0 = b := by simp [List.getD_eq_getElem?_getD, z2]
    refine ⟨by simp [z2, eb], .inl ?_⟩
    show IsTup s.heap (ps.getD j 0) #[k, v]
    rw [eb, ek, ← ev, z1]
    exact z3
  · obtain ⟨hj, ek, ev⟩ := rows_at j key v e
    obtain ⟨b, v', k', z1, z2, z3, z4⟩ := keyAt_ok j hj
    have z1' := z1
    rw [List.getElem?_eq_getElem hj] at z1'
    have z1' := Option.some.inj z1'
    refine ⟨k', ?_, ?_⟩
    · rw [z1, ← ev, z1']
    · rw [ek]
      exact z4
  · have hm : (s.heap.objs.size == sysModules) = false := beq_eq_false_iff_ne.mpr (Nat.ne_of_gt I.big)
    have hlen : (mergeK [] kvs).length ≤ sizeLine := by
      refine Nat.le_trans (length_mergeK kvs []) ?_
      have := rel.length
      simp only [List.length_nil]
      omega
    exact ⟨.ref s.heap.objs.size, upd H s.heap.objs.size (.dK (mergeK [] kvs)), I.laid (t' := tk) (fun b o e => k b o (by simp) e) (Nat.le_refl _) (show ObjOk X.prog X.w _ _ _ (.dK (mergeK [] kvs)) from ⟨hlen, hm, merged [] prs, KV.merge rel .nil, hd'⟩), rfl, q _ (I.hok.fresh (Nat.le_refl _))⟩
/-- name = {k: v for ..} on one line, the name a local -/
theorem ps_setDc {i : Nat} {y : Str} {py : Pos} {kx vx tg iter : Expr} {ifs : List Expr} {scope : Scope} {own : List (Str × Nat)} {pos spos : Pos} {wi : TI} {g : TG} {tt : TT} {tk tv : TE}
    (hc : X.calm = true) (hN : X.N.Nodup) (hy : X.N[i]? = some y) (hyl : X.env.scope.names.lookup y = some .local)
    (hsw : swapsWith (.DictComp kx vx [⟨tg, iter, ifs, 0⟩] scope pos) (some (.Name y py)) spos.line X.env = pure true) (hi : PI X tg iter wi) (ok : BlkOk X.N X.env.scope scope own)
    (hg : ∀ (s : Shared) (H : Hp) (C : Addr) (cl : List (Str × Addr)) (fp : List Addr), PG (X.blk s H scope (compEnvC scope cl C X.env) fp) tg g)
    (ht : ∀ (s : Shared) (H : Hp) (C : Addr) (cl : List (Str × Addr)) (fp : List Addr), PTs (X.blk s H scope (compEnvC scope cl C X.env) fp) ifs tt)
    (hk : ∀ (s : Shared) (H : Hp) (C : Addr) (cl : List (Str × Addr)) (fp : List Addr), PE (X.blk s H scope (compEnvC scope cl C X.env) fp) kx tk)
    (he : ∀ (s : Shared) (H : Hp) (C : Addr) (cl : List (Str × Addr)) (fp : List Addr), PE (X.blk s H scope (compEnvC scope cl C X.env) fp) vx tv)
    (hs : ∀ x, foldedSetIterable iter X.env x = pure x := by intro _; rfl) :
    PS X (.Assign [.Name y py] (.DictComp kx vx [⟨tg, iter, ifs, 0⟩] scope pos) spos) (tAsg (tDc wi g tt tk tv (own.map (·.2))) (gName i)) := by
  refine ⟨fun pins s σ H D I h => ?_⟩
  rw [exec_Assign_Name_used _ _ _ _ hsw]
  refine wpAny_bind (wpAny_standAt (wpAny_bind ?_))
  show wpAny _ X.A (do let _ ← comprehension (.DictComp kx vx [⟨tg, iter, ifs, 0⟩] scope pos) scope X.env (firstIterPos [⟨tg, iter, ifs, 0⟩] pos) newDict false (eval iter X.env) (some (assign (.Name y py) X.env))) _ _ s
  refine wpAny_bind (thn (dc_core (Q := fun x H1 => gName i x σ H1 D.nx) (Qf := fun _ s' => SP X pins D .next s') hc hN I hi ok hg ht hk he hs h fun L C s' m H' I' q hn f => ?_) fun _ s' hq => wpAny_pure (wpAny_pure hq))
  obtain ⟨f0, f1, f2, f3, f4, f5⟩ := f
  show wpAny _ _ (assign (.Name y py) X.env (.ref L)) _ _ _
  refine wpAny_assign_Name (store_ok2 (v := V.ref L) I' hN hy (.inl hyl) rfl (fun s2 I2 ⟨a, sb, ha⟩ => ?_) (.inr hyl))
  have apart : C ≠ a := ha.elim (fun z => by rw [z]; exact f1) fun z e => f4 y a z e.symm
  exact ⟨m, hn.sameBut sb apart, fun h3 sb3 => ⟨_, H', I2.turned (t' := s2.toks) (fun b o hb e => (sb3.2 b hb).trans e) f0 f1 f3 f4 f5, q⟩⟩
theorem sw_trueD {kx vx : Expr} {gs : List Comprehension} {scope : Scope} {pos py : Pos} {y : Str} {l : Nat} {env : Env} (hk : env.scope.kind = .function) (hy : env.scope.names.lookup y = some .local) (hl : (py.line == pos.line) = true)
    (ha : (scope.names.any fun (n, k) => n == y && (k == .local || k == .cell)) = false) : swapsWith (.DictComp kx vx gs scope pos) (some (.Name y py)) l env = pure true := by
  have ky : env.kindOf y = some .local := hy
  have hb : env.blockKind = .function := by
    unfold Env.blockKind
    rw [hk] <;> rfl
  unfold swapsWith
  simp only [hb, ky, ha, Expr.pos, hl] <;> rfl
end
end L2
set_option maxRecDepth 100000
set_option maxHeartbeats 4000000
/-! LibC: a list comprehension over a list, within an except suite; a def that may raise, its exceptions told with their context. -/
namespace HotL
open PySem PySem.Spec PyProof.Rows L2 HotX L2H
section
variable {prog : Program} {w : World} {A : Around} {E : Value → Shared → Prop} {s : Shared}
/-- a list's iterator at its end, while an exception is handled -/
theorem list_end_hot {it l x1 : Addr} {i : Nat} {items : Array Value} {Q : Option Value → Shared → Prop} (hot : HotAt A x1 s.heap) (hit : s.heap.IsListIter it l i) (hl : s.heap.IsList l items) (hx : items[i]? = none) (hxi : x1 ≠ it)
    (hQ : ∀ h', (∀ b o, b ≠ it → s.heap.get? b = some o → h'.get? b = some o) → Q none { s with heap := h' }) : wpAny (model prog w) A (pyNext (.ref it)) Q E s := by
  obtain ⟨hh, o1, vs1, h1, d1, c1⟩ := hot
  obtain ⟨o, ho, hc, hd⟩ := id hit
  obtain ⟨ol, hol, _, nl, hdl⟩ := hl
  unfold pyNext
  refine wpAny_bind (wpAny_attempt (wpAny_callSpecial?_slot (name := Str.ofString "__next__") hit.typeIs slot_listiter_next
    (wpAny_call_entry slot_listiter_next hit.typeIs entry_listiter_next ?_ (args_listiter_next _))))
  show wpAny _ _ (field (.ref it) 0 >>= _) _ _ s
  refine wpAny_bind (wpAny_field ho hd (x := .ref l) rfl ?_)
  show wpAny _ _ (if (Value.ref l == Value.none) = true then _ else _) _ _ s
  rw [if_neg (show ¬ ((Value.ref l == Value.none) = true) from Bool.false_ne_true)]
  show wpAny _ _ (field (.ref it) 1 >>= _) _ _ s
  refine wpAny_bind (wpAny_field ho hd (x := .int i 0) rfl ?_)
  show wpAny _ _ (seqItems? (.ref l) >>= _) _ _ s
  refine wpAny_bind (wpAny_seqItems hol hdl ?_)
  simp only [Int.toNat_natCast, hx]
  refine wpAny_bind (wpAny_rule (wpAny_bind (wpAny_setField ho hd (by simp) ?_)))
  show wpAny _ _ (newExc (.type "StopIteration") [] >>= _) _ _ _
  refine wpAny_bind ?_
  simp only [newExc, newTuple]
  have up : ∀ b ob, b ≠ it → s.heap.get? b = some ob → ∀ f, (s.heap.update it f).get? b = some ob := fun b ob hb e f => (Heap.get?_update_other _ _ (Ne.symm hb)).trans e
  refine wpAny_bind (wpAny_newObj_type ?_ (by size_fits))
  refine wpAny_bind (m := firstArgMember _ _) (wpAny_of_eq (a := Value.none) (by first | rfl | (simp only [firstArgMember]; rfl)) ?_)
  refine wpAny_newObj_type ?_ (by size_fits)
  have k1 := Heap.get?_push_of_some ({ cls := .type "tuple", data := .seq ([] : List Value).toArray } : Obj) (up x1 o1 hxi h1 (Obj.mapFields (·.setIfInBounds 0 .none)))
  refine raiseNew_hot ⟨hh, o1, vs1, Heap.get?_push_of_some _ k1, d1, c1⟩ (Nat.ne_of_lt (Heap.lt_size k1)) (Heap.get?_push_size _ rfl) rfl (by first | (simp; done) | (simp; omega) | (simp only [Array.size_append]; simp; omega)) ?_
  refine wpAny_bind (wpAny_isInstance (T := "StopIteration") (b := true) ⟨_, Heap.get?_update_self _ (Heap.get?_push_size _ rfl) rfl, rfl⟩ isSubtype_stop ?_)
  refine wpAny_pure (hQ _ fun b ob hb e => ?_)
  have e2 := Heap.get?_push_of_some ({ cls := .type "tuple", data := .seq ([] : List Value).toArray } : Obj) (up b ob hb e (Obj.mapFields (·.setIfInBounds 0 .none)))
  rw [Heap.get?_update_other _ _ (Nat.ne_of_gt (Heap.lt_size e2))]
  exact Heap.get?_push_of_some _ e2
end
/-- the turns of a list, within a suite -/
theorem turn_listH {P : Program} {w : World} {K : PySem.W.Frag} {tg : Expr} (a it : Addr) : TurnH P w K tg (Itl K a) [it] it (fun i h => h.IsListIter it a i) where
  mem := by simp
  obj := fun i h st b hb => by
    obtain rfl : b = it := by simpa using hb
    obtain ⟨o, e, _, d⟩ := st
    exact ⟨o, e, fun v z => by rw [d] at z; cases z⟩
  keep := fun i h h' st k => st.at fun o e => k it (by simp) o e
  item := by
    intro X hP hw hK hc i pins s σ H E I hf st hg
    subst hP hw hK
    obtain ⟨xs, x, hq, hx⟩ := hg
    obtain ⟨its, rv, p, hz⟩ := I.list hq
    obtain ⟨u, hu, ru⟩ := rv.get hx
    obtain ⟨f0, f1, f2, f3, f4, f5⟩ := hf it (by simp)
    refine wpAny_pyNext_list_item st p.isList (x := u) (by simpa using hu) fun h' st' sb => ?_
    have I1 : Inv X pins σ H { s with heap := h' } := I.turned (t' := s.toks) (fun b o hb e => (sb.2 b hb).trans e) f0 f1 f3 f4 f5
    obtain ⟨o, e, c, d⟩ := id st'
    exact ⟨u, rfl, go_of (s := { s with heap := h' }) e c d (by decide) ⟨x, H, I1, ru, ⟨rfl, fun ys hy => by rw [I.list_inj hy hq]; exact hx⟩, st', fun b hb => (hf b hb).1⟩⟩
  done := by
    intro X hP hw hK hc i pins s σ H E I hf st hg
    subst hP hw hK
    obtain ⟨xs, hq, hx⟩ := hg
    obtain ⟨its, rv, p, hz⟩ := I.list hq
    obtain ⟨f0, f1, f2, f3, f4, f5⟩ := hf it (by simp)
    have hl := rv.length
    obtain ⟨q, ⟨hh, v1, e1, c1⟩, hq⟩ := hc
    have hpin := I.pin q (List.mem_append_left _ hq)
    refine list_end_hot ⟨hh, q.2, v1, hpin.1, e1, c1⟩ st p.isList (by simp; omega) (f5 q (List.mem_append_left _ hq)) fun h' eb => ⟨rfl, I.turned (t' := s.toks) (fun b o hb e => eb b o hb e) f0 f1 f3 f4 f5⟩
  self := fun _ _ _ _ _ st h => wpAny_pyIter_listiter st h
section
variable {X : Cx} {tg : Expr}
theorem pi_listH {l : Expr} {tl : TE} (hl : PE X l tl) : PIH X tg l (iList X.K tl) := by
  refine ⟨fun pins s σ H R I h => thn (hl.run pins s σ H _ I h) fun v s1 ⟨x, H1, I1, r1, q1⟩ => ?_⟩
  obtain ⟨a, e, ⟨xs, hq⟩, q⟩ := q1
  subst e
  cases r1
  obtain ⟨its, rv, p, hz⟩ := I1.list hq
  refine wpAny_pyIter_list p.isList ⟨s1.heap.objs.size, [s1.heap.objs.size], _, _, H1, rfl, I1.kept (t' := s1.toks) fun b o e => Heap.get?_push_of_some _ e, turn_listH a _, ⟨_, Heap.get?_push_size _ rfl, rfl, rfl⟩, fun b hb => ?_, q⟩
  obtain rfl : b = s1.heap.objs.size := by simpa using hb
  exact I1.fpOk (Nat.le_refl _) (I1.hok.fresh (Nat.le_refl _))
/-- the block's context, the handled exception pinned in it -/
abbrev blkH (X : Cx) (q : Addr × Obj) (s : Shared) (H : Hp) (scope : Scope) (cenv : Env) (fp : List Addr) : Cx := { X.blk s H scope cenv fp with pn := [q] }
theorem Inv.withPin {Y : Cx} {σ : L2.St} {H : Hp} {s : Shared} {q : Addr × Obj} (I : Inv Y [] σ H s) (hn : Y.pn = []) (hq : s.heap.get? q.1 = some q.2 ∧ H q.1 = none ∧ q.1 ≠ Y.env.locals ∧ q.1 ∉ Y.fs ∧ ∀ v, q.2.data ≠ .cell v) : Inv { Y with pn := [q] } [] σ H s :=
  ⟨⟨I.ok.mod, I.ok.kind, I.ok.glob, I.ok.blt, I.ok.above, I.ok.inj, I.ok.has, I.ok.cab, I.ok.hd, I.ok.frames, I.ok.stk, I.ok.exf, I.ok.bs, I.ok.bsz, I.ok.noex, I.ok.exfs, I.ok.funs, I.ok.frf⟩,
    I.os, I.bare, I.base, I.loc, I.cell, I.free, I.freeC, fun p hp => by
      obtain rfl : p = q := by simpa using hp
      exact hq, I.hok, I.len⟩
theorem pe_lcH {elt tg iter : Expr} {ifs : List Expr} {scope : Scope} {own : List (Str × Nat)} {pos : Pos} {wi : TI} {g : TG} {tt : TT} {te : TE} {q : Addr × Obj} (hot : Hot1 X.A q) (hqp : q ∈ X.pn) (hN : X.N.Nodup) (hi : PIH X tg iter wi) (ok : BlkOk X.N X.env.scope scope own)
    (hg : ∀ (s : Shared) (H : Hp) (C : Addr) (cl : List (Str × Addr)) (fp : List Addr), PG (blkH X q s H scope (compEnvC scope cl C X.env) fp) tg g) (ht : ∀ (s : Shared) (H : Hp) (C : Addr) (cl : List (Str × Addr)) (fp : List Addr), PTs (blkH X q s H scope (compEnvC scope cl C X.env) fp) ifs tt)
    (he : ∀ (s : Shared) (H : Hp) (C : Addr) (cl : List (Str × Addr)) (fp : List Addr), PE (blkH X q s H scope (compEnvC scope cl C X.env) fp) elt te) (hs : ∀ x, foldedSetIterable iter X.env x = pure x := by intro _; rfl) :
    PE X (.ListComp elt [⟨tg, iter, ifs, 0⟩] scope pos) (tLc wi g tt te (own.map (·.2))) := by
  refine ⟨fun pins s σ H Q I h => ?_⟩
  rw [eval_ListComp]
  have hfree : ∀ y ∈ scope.names, y.2 = .free → ∃ c, X.env.cells.lookup y.1 = some c := fun y hy e =>
    (ok.free y hy e).elim (fun k => I.ok.has _ (.inl k)) fun k => I.ok.has _ (.inr k)
  refine wpAny_comprehension_free (use := none) rfl hs (closure_ok hfree) ok.kind (fun y hy e => by rw [ok.uniq y hy, e])
    (thn (hi.run pins s σ H _ I h) fun xv s1 hx => thn hx fun itv s2 h2 => ?_)
  obtain ⟨it, fp, tn, J, H2, e, I2, T, st2, f2, qT⟩ := h2
  subst e
  refine wpAny_newObj_type (newEnv_comp ?_) (by show 0 ≤ sizeLine; decide)
  generalize hD : s2.heap.objs.size = D
  have hDn : H2 D = none := I2.hok.fresh (Nat.le_of_eq hD)
  obtain ⟨W, ⟨m0, w0⟩, turn⟩ := qT D hDn
  generalize hs3 : ({ s2 with heap := s2.heap.push { cls := .type "list", data := .seq ([] : List Value).toArray } } : Shared) = s3
  have h3 : s3.heap = s2.heap.push { cls := .type "list", data := .seq ([] : List Value).toArray } := by rw [← hs3]
  have I3 : Inv X pins σ (upd H2 D (.lst [])) s3 := by
    rw [← hs3]
    refine I2.laid (t' := s2.toks) (fun b o e => Heap.get?_push_of_some _ e) (Nat.le_of_eq hD) ⟨Nat.zero_le _, [], 0, .nil, ?_⟩
    rw [← hD]
    exact Heap.get?_push_size _ rfl
  have hlow : ∀ b ∈ fp, b < s2.heap.objs.size := fun b hb => by
    obtain ⟨o, e, _⟩ := T.obj _ _ st2 b hb
    exact Heap.lt_size e
  have f3 : ∀ b ∈ fp, FpOk X pins (upd H2 D (.lst [])) b ∧ b < s3.heap.objs.size := fun b hb => by
    have hlt := hlow b hb
    refine ⟨⟨?_, (f2 b hb).2⟩, by rw [h3, Heap.size_push]; exact Nat.lt_succ_of_lt hlt⟩
    rw [upd_ne (by rw [← hD]; exact Nat.ne_of_lt hlt)]
    exact (f2 b hb).1
  have st3 : tn 0 s3.heap := T.keep _ _ _ st2 fun b _ o e => by rw [h3]; exact Heap.get?_push_of_some _ e
  have I4 := block_start I3 ok hN f3
  have pg := hg s3 (upd H2 D (.lst [])) s3.heap.objs.size (cellsFrom (s3.heap.objs.size + 1) scope.names (cloFrom X.env.cells scope.names [])) fp
  have pt := ht s3 (upd H2 D (.lst [])) s3.heap.objs.size (cellsFrom (s3.heap.objs.size + 1) scope.names (cloFrom X.env.cells scope.names [])) fp
  have pe := he s3 (upd H2 D (.lst [])) s3.heap.objs.size (cellsFrom (s3.heap.objs.size + 1) scope.names (cloFrom X.env.cells scope.names [])) fp
  show codeAny _ _ (.compStart (.ListComp elt [⟨tg, iter, ifs, 0⟩] scope pos) 0 (.ref it) (.ref D) (compEnvC scope (cellsFrom (s3.heap.objs.size + 1) scope.names (cloFrom X.env.cells scope.names [])) s3.heap.objs.size X.env)) (compPost (model X.prog X.w) X.A X.xe none (EP X pins σ Q) (.ref D) s3.heap.objs.size) { s3 with heap := pushCells (s3.heap.push { cls := .type "dict", data := .dict #[] }) scope.names }
  have nfp : ∀ b ∈ fp, (upd H2 D (.lst [])) b = none := fun b hb => (f3 b hb).1.1
  generalize hce : compEnvC scope (cellsFrom (s3.heap.objs.size + 1) scope.names (cloFrom X.env.cells scope.names [])) s3.heap.objs.size X.env = ce at I4 pg pt pe ⊢
  have cL : ce.locals = s3.heap.objs.size := by subst hce; rfl
  generalize hH3 : upd H2 D (.lst []) = H3 at I3 I4 pg pt pe w0 nfp f3
  generalize hs4 : ({ s3 with heap := pushCells (s3.heap.push { cls := .type "dict", data := .dict #[] }) scope.names } : Shared) = s4 at I4 ⊢
  -- the handled exception, pinned in the block
  have q3 := I3.pin q (List.mem_append_left _ hqp)
  have qfp : q.1 ∉ fp := fun hm => (f3 _ hm).1.2.2.2.2.2 q (List.mem_append_left _ hqp) rfl
  have qst : q.1 ∉ frs X.stack := fun hm => by
    rcases List.mem_cons.mp (I3.stkSub _ hm) with z | z
    · exact q3.2.2.1 z
    · exact q3.2.2.2.1 z
  have I4q : Inv (blkH X q s3 H3 scope ce fp) [] (wipe σ (own.map (·.2))) H3 s4 := Inv.withPin I4 rfl
    ⟨I4.base.keep q.1 q.2 q3.1 q3.2.1 qst qfp, q3.2.1, by
      show q.1 ≠ ce.locals
      rw [cL]
      exact Nat.ne_of_lt (Heap.lt_size q3.1), qst, q3.2.2.2.2⟩
  have hotY : HotC (blkH X q s3 H3 scope ce fp) := ⟨q, hot, List.mem_cons_self⟩
  have st4 : tn 0 s4.heap := T.keep _ _ _ st3 fun b _ o e => by rw [← hs4]; exact pushCells_keeps _ _ _ _ (Heap.get?_push_of_some _ e)
  have stat : ∀ {σ' : L2.St} {H' : Hp} {s' : Shared}, Inv (blkH X q s3 H3 scope ce fp) [] σ' H' s' → (∀ b ∈ fp, H' b = none) → ∀ b ∈ fp, FpOk (blkH X q s3 H3 scope ce fp) [] H' b := fun {σ' H' s'} I' hn b hb =>
    ⟨hn b hb, (I'.ok.exf b hb).1, I'.ok.exfs b hb, .inl hb, fun x c e => (I'.ok.exf b hb).2 x c e, fun p hp => by
      obtain rfl : p = q := by simpa using hp
      exact fun z => qfp (by rw [z]; exact hb)⟩
  have loop : codeAny (model X.prog X.w) X.A (.compLoop (.ListComp elt [⟨tg, iter, ifs, 0⟩] scope pos) 0 (.ref it) (.ref D) ce) (compPost (model X.prog X.w) X.A X.xe none (EP X pins σ Q) (.ref D) s3.heap.objs.size) s4 := by
    refine compLoop_any (fun n s' => ∃ i H', Inv (blkH X q s3 H3 scope ce fp) [] (wipe σ (own.map (·.2))) H' s' ∧ tn i s'.heap ∧ (∀ b ∈ fp, H' b = none) ∧ W i n H') ?_ m0 ⟨0, H3, I4q, st4, nfp, w0⟩
    rintro n s5 ⟨i, H5, I5, st5, n5, w5⟩
    rcases turn i n H5 w5 with ⟨stop, qq⟩ | ⟨go, Nx, hNx, step⟩
    · refine thnF (T.done (blkH X q s3 H3 scope ce fp) rfl rfl rfl hotY i [] s5 _ H5 (fun _ _ => False) I5 (stat I5 n5) st5 stop) fun r s6 ⟨hr, I6⟩ => ?_
      subst hr
      have I7 : Inv X pins σ H5 s6 := I3.call' (ch := fp) I6.os I6.base I6.hok I6.bare fun b hb => ⟨(f3 b hb).1.2.2.2.1, (f3 b hb).1.2.1, (f3 b hb).1.2.2.2.2.1, (f3 b hb).1.2.2.2.2.2⟩
      have nC : H5 s3.heap.objs.size = none := by
        have z : H5 ce.locals = none := I6.free
        rw [cL] at z
        exact z
      obtain ⟨m, hn, _⟩ := I6.loc
      have hn : s6.heap.Ns ce.locals m := hn
      rw [cL] at hn
      obtain ⟨g0, g1, g2, g3, g4, g5⟩ := I3.fpOk (Nat.le_refl _) nC
      exact ⟨m, hn, fun h'' sb => ⟨.ref D, H5, I7.turned (t' := s6.toks) (fun b o hb e => (sb.2 b hb).trans e) g0 g1 g3 g4 g5, rfl, qq⟩⟩
    · refine thnF (T.item (blkH X q s3 H3 scope ce fp) rfl rfl rfl hotY i [] s5 _ H5 (fun _ _ => False) I5 (stat I5 n5) st5 go) fun r s6 ⟨u, hr, h6⟩ => ?_
      subst hr
      refine thnF h6 fun _ s7 ⟨x, H7, I7, r7, y7, st7, n7⟩ => ?_
      refine thnF (pg.run _ s7 _ H7 x u _ (I7.pinned (stat I7 n7) (T.obj _ _ st7)) r7 (step x H7 y7)) fun _ s8 ⟨σ8, H8, I8, hw8, q8⟩ => ?_
      refine thnF (pt.run _ s8 σ8 H8 _ I8 q8) fun b s9 ⟨H9, I9, q9⟩ => ?_
      have fin : ∀ {s' : Shared} {H' : Hp}, Inv (blkH X q s3 H3 scope ce fp) ([] ++ pinsAt fp s7.heap) σ8 H' s' → Nx H' → ∃ m, m < n ∧ ∃ i H', Inv (blkH X q s3 H3 scope ce fp) [] (wipe σ (own.map (·.2))) H' s' ∧ tn i s'.heap ∧ (∀ b ∈ fp, H' b = none) ∧ W i m H' := fun {s' H'} I' nx => by
        obtain ⟨m', hm, w'⟩ := hNx H' nx
        have held : ∀ b ∈ fp, ∀ o, s7.heap.get? b = some o → s'.heap.get? b = some o ∧ H' b = none := fun b hb o e =>
          let z := I'.pin (b, o) (List.mem_append_right _ (List.mem_append_right _ (mem_pinsAt hb e)))
          ⟨z.1, z.2.1⟩
        have hl : (wipe σ (own.map (·.2))).length = σ8.length := by rw [← hw8, wipe_length]
        refine ⟨m', hm, i + 1, H', (I'.unpinned (pins := [])).weak hl (fun j v e => ?_), T.keep _ _ _ st7 fun b hb o e => (held b hb o e).1, fun b hb => ?_, w'⟩
        · rw [← hw8] at e
          exact (wipe_some e).1
        · obtain ⟨o, e, _⟩ := T.obj _ _ st7 b hb
          exact (held b hb o e).2
      cases b with
      | false =>
        simp only [Bool.false_eq_true, if_false] at q9 ⊢
        exact fin I9 q9
      | true =>
        simp only [if_true] at q9 ⊢
        refine thnF (pe.run _ s9 σ8 H9 _ I9 q9) fun z s10 ⟨yv, H10, I10, r10, acc, hD10, hz10, nx⟩ => ?_
        exact app_ok (X := blkH X q s3 H3 scope ce fp) I10 hD10 hz10 r10 fun s11 I11 => fin I11 nx
  exact codeAny_compStart_list loop (T.self X.A 0 _ _ _ st4 loop)
end
section
variable {P : Program} {w : World} {K : PySem.W.Frag} {mg : Str → Option Value} {base : Heap}
/-- a def that may raise: its exceptions with their context, None -/
theorem okN {x qual : Str} {st : Stmt} {f : Addr} {fd : FuncData} {N ps : List Str} {k : Nat} {sp : Sp} (F : Fun K x qual st f fd) (S : FnScope N ps (defScope st)) (len : ∀ vs H Q E, sp vs H Q E → vs.length = ps.length)
    (hbody : ∀ (cdv : Value) (A : Around) (outer : List Env) (s : Shared) (H : Hp) (vs : List V) (Q : VK) (E : XK), Room k (A.deeper (envOfC qual (defScope st) s.heap.objs.size f cdv)) → sp vs H Q E →
      ∃ t, PSs (cxOf (L2N.CX P w) P w K mg base N qual (defScope st) f cdv A outer s H E) (defBody st) t ∧ t { nx := fun _ H' => Q .non H', rt := Q } (start N vs) H) : FnOk P w K mg base (L2N.CX P w) (k + 1) f fd ps sp := by
  obtain ⟨_, _, _, _, _, _, cdv, _, _, rfl, there, hcd⟩ := F.ex
  exact fn_of there hcd S len fun A outer s H vs Q E hr hsp => hbody cdv A outer s H vs Q E hr hsp
/-- around a body nothing is let out -/
theorem takesN {X : Cx} : L2N.Takes X (fun _ _ _ _ => False) := fun _ _ ⟨_, _, _, _, _, _, _, _, _, _, _, _, _, _, _, _, z⟩ => z.elim
end
end HotL
set_option maxRecDepth 100000
set_option maxHeartbeats 4000000
namespace K8
open PySem PySem.Spec PyProof.Rows L2
/-! ### the text by its places -/
def topS (i : Nat) : Stmt := PySem.Challenge.pw_surehouse_k08_whole_bundles.main.body.getD i (.Pass ⟨0, 0, 0, 0⟩)
abbrev s_is_whole : Stmt := topS 14
abbrev N_is_whole : List Str := ["thing", "least", "most"]
abbrev P_is_whole : List Str := ["thing", "least", "most"]
theorem sc_is_whole : FnScope N_is_whole P_is_whole (defScope s_is_whole) := ⟨rfl, rfl, rfl, by decide +kernel, rfl, by decide +kernel, by decide +kernel⟩
abbrev s_is_name : Stmt := topS 15
abbrev N_is_name : List Str := ["thing", "sign"]
abbrev P_is_name : List Str := ["thing"]
theorem sc_is_name : FnScope N_is_name P_is_name (defScope s_is_name) := ⟨rfl, rfl, rfl, by decide +kernel, rfl, by decide +kernel, by decide +kernel⟩
abbrev s_are_unlike : Stmt := topS 16
abbrev N_are_unlike : List Str := ["things", "at"]
abbrev P_are_unlike : List Str := ["things"]
theorem sc_are_unlike : FnScope N_are_unlike P_are_unlike (defScope s_are_unlike) := ⟨rfl, rfl, rfl, by decide +kernel, rfl, by decide +kernel, by decide +kernel⟩
abbrev s_are_names : Stmt := topS 17
abbrev N_are_names : List Str := ["thing", "most", "one"]
abbrev P_are_names : List Str := ["thing", "most"]
theorem sc_are_names : FnScope N_are_names P_are_names (defScope s_are_names) := ⟨rfl, rfl, rfl, by decide +kernel, rfl, by decide +kernel, by decide +kernel⟩
abbrev s_are_rows : Stmt := topS 18
abbrev N_are_rows : List Str := ["thing", "most", "width", "one"]
abbrev P_are_rows : List Str := ["thing", "most", "width"]
theorem sc_are_rows : FnScope N_are_rows P_are_rows (defScope s_are_rows) := ⟨rfl, rfl, rfl, by decide +kernel, rfl, by decide +kernel, by decide +kernel⟩
abbrev s_is_lane : Stmt := topS 19
abbrev N_is_lane : List Str := ["thing", "houses", "regions", "house", "region", "least", "most", "price"]
abbrev P_is_lane : List Str := ["thing", "houses", "regions"]
theorem sc_is_lane : FnScope N_is_lane P_is_lane (defScope s_is_lane) := ⟨rfl, rfl, rfl, by decide +kernel, rfl, by decide +kernel, by decide +kernel⟩
abbrev s_is_supply : Stmt := topS 20
abbrev N_is_supply : List Str := ["thing", "houses", "items", "name", "house", "item", "day", "count"]
abbrev P_is_supply : List Str := ["thing", "houses", "items"]
theorem sc_is_supply : FnScope N_is_supply P_is_supply (defScope s_is_supply) := ⟨rfl, rfl, rfl, by decide +kernel, rfl, by decide +kernel, by decide +kernel⟩
abbrev s_is_catalog : Stmt := topS 21
abbrev N_is_catalog : List Str := ["thing", "houses", "regions", "items", "lanes", "supplies", "part", "lane", "supply"]
abbrev P_is_catalog : List Str := ["thing"]
theorem sc_is_catalog : FnScope N_is_catalog P_is_catalog (defScope s_is_catalog) := ⟨rfl, rfl, rfl, by decide +kernel, rfl, by decide +kernel, by decide +kernel⟩
abbrev s_need_catalog : Stmt := topS 22
abbrev N_need_catalog : List Str := ["catalog"]
abbrev P_need_catalog : List Str := ["catalog"]
theorem sc_need_catalog : FnScope N_need_catalog P_need_catalog (defScope s_need_catalog) := ⟨rfl, rfl, rfl, by decide +kernel, rfl, by decide +kernel, by decide +kernel⟩
abbrev s_is_bundle : Stmt := topS 24
abbrev N_is_bundle : List Str := ["thing", "items", "elder", "part"]
abbrev P_is_bundle : List Str := ["thing", "items", "elder"]
theorem sc_is_bundle : FnScope N_is_bundle P_is_bundle (defScope s_is_bundle) := ⟨rfl, rfl, rfl, by decide +kernel, rfl, by decide +kernel, by decide +kernel⟩
abbrev s_need_bundles : Stmt := topS 25
abbrev N_need_bundles : List Str := ["catalog", "bundles", "at", "bundle", "one"]
abbrev P_need_bundles : List Str := ["catalog", "bundles"]
theorem sc_need_bundles : FnScope N_need_bundles P_need_bundles (defScope s_need_bundles) := ⟨rfl, rfl, rfl, by decide +kernel, rfl, by decide +kernel, by decide +kernel⟩
abbrev s_counts_in : Stmt := topS 26
abbrev N_counts_in : List Str := ["catalog", "bundles", "name", "count", "parts", "found", "part", "own", "item", "many", "bundle"]
abbrev P_counts_in : List Str := ["catalog", "bundles", "name", "count"]
theorem sc_counts_in : FnScope N_counts_in P_counts_in (defScope s_counts_in) := ⟨rfl, rfl, rfl, by decide +kernel, rfl, by decide +kernel, by decide +kernel⟩
abbrev s_made_of : Stmt := topS 27
abbrev N_made_of : List Str := ["catalog", "bundles", "name", "count", "names", "found", "bundle", "item"]
abbrev P_made_of : List Str := ["catalog", "bundles", "name", "count"]
theorem sc_made_of : FnScope N_made_of P_made_of (defScope s_made_of) := ⟨rfl, rfl, rfl, by decide +kernel, rfl, by decide +kernel, by decide +kernel⟩
abbrev s_opened : Stmt := topS 28
abbrev N_opened : List Str := ["catalog", "bundles", "name", "region", "wants", "by", "worth", "names", "sums", "bundle", "count", "item", "many", "wishes", "one", "wish"]
abbrev P_opened : List Str := ["catalog", "bundles", "name", "region", "wants", "by", "worth"]
theorem sc_opened : FnScope N_opened P_opened (defScope s_opened) := ⟨rfl, rfl, rfl, by decide +kernel, rfl, by decide +kernel, by decide +kernel⟩
abbrev s_law_taken : Stmt := topS 30
abbrev N_law_taken : List Str := ["_law_row", "_law_many", "_law_found", "_law_cell"]
abbrev P_law_taken : List Str := ["_law_row", "_law_many"]
theorem sc_law_taken : FnScope N_law_taken P_law_taken (defScope s_law_taken) := ⟨rfl, rfl, rfl, by decide +kernel, rfl, by decide +kernel, by decide +kernel⟩
abbrev s_law_pick : Stmt := topS 31
abbrev N_law_pick : List Str := ["_law_row", "_law_things"]
abbrev P_law_pick : List Str := ["_law_row", "_law_things"]
theorem sc_law_pick : FnScope N_law_pick P_law_pick (defScope s_law_pick) := ⟨rfl, rfl, rfl, by decide +kernel, rfl, by decide +kernel, by decide +kernel⟩
abbrev s_law_alike : Stmt := topS 32
abbrev N_law_alike : List Str := ["_law_found", "_law_due", "_law_k"]
abbrev P_law_alike : List Str := ["_law_found", "_law_due"]
theorem sc_law_alike : FnScope N_law_alike P_law_alike (defScope s_law_alike) := ⟨rfl, rfl, rfl, by decide +kernel, rfl, by decide +kernel, by decide +kernel⟩
abbrev s_law_catalog : Stmt := topS 33
abbrev N_law_catalog : List Str := ["_law_row", "_law_houses", "_law_regions", "_law_items", "_law_lanes", "_law_supplies", "_law_house", "_law_region", "_law_least", "_law_at", "_law_item"]
abbrev P_law_catalog : List Str := ["_law_row"]
theorem sc_law_catalog : FnScope N_law_catalog P_law_catalog (defScope s_law_catalog) := ⟨rfl, rfl, rfl, by decide +kernel, rfl, by decide +kernel, by decide +kernel⟩
abbrev s_law_made : Stmt := topS 34
abbrev N_law_made : List Str := ["_law_items", "_law_bundles", "_law_name", "_law_count", "_law_found", "_law_part", "_law_own", "_law_item", "_law_one", "_law_two"]
abbrev P_law_made : List Str := ["_law_items", "_law_bundles", "_law_name", "_law_count"]
theorem sc_law_made : FnScope N_law_made P_law_made (defScope s_law_made) := ⟨rfl, rfl, rfl, by decide +kernel, rfl, by decide +kernel, by decide +kernel⟩
abbrev s_law : Stmt := topS 35
abbrev N_law : List Str := ["_law_script", "_law_row", "_law_catalog_here", "_law_items", "_law_bundles", "_law_at", "_law_names", "_law_parts", "_law_turn", "_law_name", "_law_count", "_law_due", "_law_wants", "_law_sums", "_law_told", "e", "_law_odd", "_law_wrong", "_law_bundle", "_law_item", "_law_many", "_law_one", "_law_two"]
abbrev P_law : List Str := ["_law_script"]
theorem sc_law : FnScope N_law P_law (defScope s_law) := ⟨rfl, rfl, rfl, by decide +kernel, rfl, by decide +kernel, by decide +kernel⟩
/-! ### rules whose reading names the written part K, K told -/
section
variable {X : Cx} {K : PySem.W.Frag}
theorem ixL (h : X.K = K := by rfl) : IxR X (rIxL K) := by subst h; exact ix_list
theorem ixT (h : X.K = K := by rfl) : IxR X (rIxT K) := by subst h; exact ix_tup
theorem slL (h : X.K = K := by rfl) : SlR X (rSlL K) := by subst h; exact sl_list
theorem slT (h : X.K = K := by rfl) : SlR X (rSlA K) := by subst h; exact sl_tupA
theorem opIn (h : X.K = K := by rfl) : OpR X (compareOp .In) (rIn K false) := by subst h; exact op_in_seq
theorem opNin (h : X.K = K := by rfl) : OpR X (compareOp .NotIn) (rIn K true) := by subst h; exact op_notIn_seq
theorem opNinD (hu : X.A.units + 65 < cLine) (h : X.K = K := by rfl) : OpR X (compareOp .NotIn) (rNotInD K) := by subst h; exact op_notInD hu
theorem opEqD (hu : X.A.units + 65 < cLine) (h : X.K = K := by rfl) : OpR X (compareOp .Eq) (rEqD K) := by subst h; exact op_eqD (by omega)
theorem opNeD (hu : X.A.units + 65 < cLine) (h : X.K = K := by rfl) : OpR X (compareOp .NotEq) (rNeD K) := by subst h; exact op_neD (by omega)
theorem cIsi (h : X.K = K := by rfl) : CallR X (.builtin "isinstance") (rIsi K) := by subst h; exact call_isi
theorem cIsiT (h : X.K = K := by rfl) : CallR X (.builtin "isinstance") (rIsiT K) := by subst h; exact call_isiT
theorem cLen (h : X.K = K := by rfl) : CallR X (.builtin "len") (fun xs H Q => ∃ p ys, xs = [V.ref p] ∧ (SqL K H p ys ∨ SqT K H p ys) ∧ Q (.int ys.length) H) := by subst h; exact call_len_seq
theorem cAll (hc : X.calm = true) (h : X.K = K := by rfl) : CallR X (.builtin "all") (rAll K) := by subst h; exact cr_all hc
theorem cList (h : X.K = K := by rfl) : CallR X (.type "list") (fun xs H Q => ∃ p ys, xs = [V.ref p] ∧ (SqL K H p ys ∨ SqT K H p ys) ∧ ∀ l, H l = none → Q (.ref l) (upd H l (.lst ys))) := by subst h; exact call_list_of
theorem cTuple (h : X.K = K := by rfl) : CallR X (.type "tuple") (fun xs H Q => ∃ p ys, xs = [V.ref p] ∧ ((SqL K H p ys ∧ ∀ l, H l = none → Q (.ref l) (upd H l (.tup ys))) ∨ (SqT K H p ys ∧ Q (.ref p) H))) := by subst h; exact call_tuple_of
theorem piL {tg l : Expr} {tl : TE} (hl : PE X l tl) (h : X.K = K := by rfl) : PI X tg l (iList K tl) := by subst h; exact pi_list hl
theorem piT {tg l : Expr} {tl : TE} (hl : PE X l tl) (h : X.K = K := by rfl) : PI X tg l (iTup K tl) := by subst h; exact pi_tup hl
theorem paS {e : Expr} {es : List Expr} {te : TE} {t : TA} {p : Pos} (he : PE X e te) (hr : PA X es t) (hs : starEach (.Starred e p :: es) X.env = (true, eval e X.env) :: starEach es X.env := by rfl) (h : X.K = K := by rfl) : PA X (.Starred e p :: es) (StX.tStar K te t) := by subst h; exact StX.pa_star he hr hs
theorem pgT {es : List Expr} {k : Nat} {t : TGs} {n : Nat} {pos : Pos} (hc : X.calm = true) (h : PGs X es t) (hn : (assignEach es X.env).length = n := by rfl) (hst : (assignEach es X.env).findIdx? (·.1) = none := by rfl) (hK : X.K = K := by rfl) : PG X (.Tuple es k pos) (gTup K n t) := by subst hK; exact pg_tup hc h hn hst
end
/-- the built-in names that the text uses, still built in -/
structure Blt (mg : Str → Option Value) : Prop where
  len : mg "len" = none
  isinstance : mg "isinstance" = none
  all : mg "all" = none
  min : mg "min" = none
  range : mg "range" = none
  enumerate : mg "enumerate" = none
  zip : mg "zip" = none
  int : mg "int" = none
  str : mg "str" = none
  bool : mg "bool" = none
  tuple : mg "tuple" = none
  list : mg "list" = none
  dict : mg "dict" = none
/-- a def of the text -/
structure Fn (K : PySem.W.Frag) (mg : Str → Option Value) (x : Str) (st : Stmt) (f : Addr) (fd : FuncData) : Prop where
  F : Fun K x x st f fd
  g : mg x = some (.ref f)
theorem Fn.kp {K : PySem.W.Frag} {mg : Str → Option Value} {x : Str} {st : Stmt} {f : Addr} {fd : FuncData} (h : Fn K mg x st f fd) : PySem.W.keepIn K (.ref f) = true := h.F.kp
/-- an own class of errors -/
structure Err (K : PySem.W.Frag) (mg : Str → Option Value) (x : Str) (C : Addr) : Prop where
  g : mg x = some (.ref C)
  x : PySem.W.excIn K C [.type "ValueError", .type "Exception", .type "BaseException", .type "object"] "ValueError.__new__" = true
  k : PySem.W.keepIn K (.ref C) = true
  b : PySem.W.subIn K (.ref C) (.type "BaseException") = some true
  t : PySem.W.typeIn K (.ref C) = some (.type "type")
  i : PySem.W.isClsIn K C = true
  s : PySem.W.subIn K (.ref C) (.ref C) = some true
/-- a def that stands there and keeps its promise, at level k -/
def Cal (P : Program) (w : World) (K : PySem.W.Frag) (mg : Str → Option Value) (base : Heap) (x : Str) (st : Stmt) (CX : CXT) (k : Nat) (ps : List Str) (sp : Sp) : Prop :=
  ∃ (f : Addr) (fd : FuncData), Fn K mg x st f fd ∧ Binds K fd ps [] ∧ FnOk P w K mg base CX k f fd ps sp
end K8
set_option maxRecDepth 100000
set_option maxHeartbeats 4000000
/-! EvK: what an expression's reading gives, as data; the heap only grows. -/
namespace K8
open PySem PySem.Spec PyProof.Rows L2
/-! ### heaps and data -/
theorem same_new {H : Hp} {p : Addr} (h : H p = none) (o : HO) : Same H (upd H p o) := fun b u q => by
  rw [upd_ne (ne_of_none q h)]
  exact q
theorem same_mut {H H' : Hp} {p : Addr} {o : HO} (e : Same H H') (h : H p = none) : Same H (upd H' p o) := fun b u q => by
  rw [upd_ne (ne_of_none q h)]
  exact e b u q
theorem sqt_mono {K : PySem.W.Frag} {H H' : Hp} {a : Addr} {xs : List V} (e : Same H H') (h : SqT K H a xs) : SqT K H' a xs := by
  rcases h with (h | ⟨o, h⟩) | h
  · exact .inl (.inl (e _ _ h))
  · exact .inl (.inr ⟨o, e _ _ h⟩)
  · exact .inr h
mutual
theorem dp_mono {K : PySem.W.Frag} {H H' : Hp} (e : Same H H') : ∀ {v : V} {d : PyData}, Dp K H v d → Dp K H' v d
  | _, _, .non => .non
  | _, _, .bl b => .bl b
  | _, _, .int i => .int i
  | _, _, .str x => .str x
  | _, _, .lst s a => .lst (e.seq s) (dpAll_mono e a)
  | _, _, .tup s a => .tup (sqt_mono e s) (dpAll_mono e a)
theorem dpAll_mono {K : PySem.W.Frag} {H H' : Hp} (e : Same H H') : ∀ {vs : List V} {ds : List PyData}, DpAll K H vs ds → DpAll K H' vs ds
  | _, _, .nil => .nil
  | _, _, .cons h t => .cons (dp_mono e h) (dpAll_mono e t)
end
theorem units65 {k : Nat} {A : Around} (hr : Room k A) : A.units + 65 < cLine := by have := hr.un; omega
theorem units64 {k : Nat} {A : Around} (hr : Room k A) : A.units + 64 < cLine := by have := hr.un; omega
theorem sz_of {n : Nat} (h : n ≤ 100000) : n ≤ sizeLine := Nat.le_trans h (by decide)
theorem sz_lt {n : Nat} (h : n < 100000) : n < sizeLine := Nat.lt_of_lt_of_le h (by decide)
section
variable {K : PySem.W.Frag} {H H' : Hp}
theorem dpl_len : ∀ {vs : List V} {ds : List PyData}, DpAll K H vs ds → vs.length = ds.length
  | _, _, .nil => rfl
  | _, _, .cons _ t => congrArg (· + 1) (dpl_len t)
theorem dpl_get : ∀ {vs : List V} {ds : List PyData} {i : Nat} {d : PyData}, DpAll K H vs ds → ds[i]? = some d → ∃ v, vs[i]? = some v ∧ Dp K H v d
  | _, _, i, d, .nil, h => by simp at h
  | _, _, 0, d, .cons h _, e => by
    obtain rfl := Option.some.inj e
    exact ⟨_, rfl, h⟩
  | _, _, i + 1, d, .cons _ t, e => dpl_get (i := i) t e
theorem dpl_at : ∀ {vs : List V} {ds : List PyData} {i : Nat} {v : V}, DpAll K H vs ds → vs[i]? = some v → ∃ d, ds[i]? = some d ∧ Dp K H v d
  | _, _, i, v, .nil, h => by simp at h
  | _, _, 0, v, .cons h _, e => by
    obtain rfl := Option.some.inj e
    exact ⟨_, rfl, h⟩
  | _, _, i + 1, v, .cons _ t, e => dpl_at (i := i) t e
theorem dpl_app : ∀ {vs ws : List V} {ds es : List PyData}, DpAll K H vs ds → DpAll K H ws es → DpAll K H (vs ++ ws) (ds ++ es)
  | _, _, _, _, .nil, h => h
  | _, _, _, _, .cons h t, k => .cons h (dpl_app t k)
theorem dpl_take : ∀ {vs : List V} {ds : List PyData} (n : Nat), DpAll K H vs ds → DpAll K H (vs.take n) (ds.take n)
  | _, _, 0, _ => .nil
  | _, _, n + 1, .nil => .nil
  | _, _, n + 1, .cons h t => .cons h (dpl_take n t)
theorem dp_int {v : V} {i : Int} (h : Dp K H v (.int i)) : v = .int i := by cases h <;> rfl
theorem dp_str {v : V} {x : Str} (h : Dp K H v (.str x)) : v = .str x := by cases h <;> rfl
theorem dp_bool {v : V} {b : Bool} (h : Dp K H v (.bool b)) : v = .bl b := by cases h <;> rfl
theorem dp_none {v : V} (h : Dp K H v .none) : v = .non := by cases h <;> rfl
theorem dp_tup {v : V} {ds : List PyData} (h : Dp K H v (.tuple ds)) : ∃ a xs, v = .ref a ∧ SqT K H a xs ∧ DpAll K H xs ds := by
  cases h with
  | tup s a => exact ⟨_, _, rfl, s, a⟩
theorem dp_lst {v : V} {ds : List PyData} (h : Dp K H v (.list ds)) : ∃ a xs, v = .ref a ∧ SqL K H a xs ∧ DpAll K H xs ds := by
  cases h with
  | lst s a => exact ⟨_, _, rfl, s, a⟩
theorem dp_strs : ∀ {vs : List V} {ss : List Str}, DpAll K H vs (ss.map .str) → vs = ss.map V.str
  | _, [], .nil => rfl
  | _, s :: ss, .cons h t => by
    rw [dp_str h, dp_strs t]
    rfl
theorem strs_dp : ∀ (ss : List Str), DpAll K H (ss.map V.str) (ss.map .str)
  | [] => .nil
  | s :: ss => .cons (.str s) (strs_dp ss)
theorem dp_bools : ∀ {vs : List V} {bs : List Bool}, DpAll K H vs (bs.map .bool) → vs = bs.map V.bl
  | _, [], .nil => rfl
  | _, s :: ss, .cons h t => by
    rw [dp_bool h, dp_bools t]
    rfl
end
def smallC : Str := "abcdefghijklmnopqrstuvwxyz"
def figC : Str := "0123456789"
theorem k_ii : kitB "int" "int" = some true := by decide +kernel
theorem k_ib : kitB "int" "bool" = some false := by decide +kernel
theorem k_is : kitB "int" "str" = some false := by decide +kernel
theorem k_it : kitB "int" "tuple" = some false := by decide +kernel
theorem k_il : kitB "int" "list" = some false := by decide +kernel
theorem k_ss : kitB "str" "str" = some true := by decide +kernel
theorem k_st : kitB "str" "tuple" = some false := by decide +kernel
theorem k_sl : kitB "str" "list" = some false := by decide +kernel
theorem k_tt : kitB "tuple" "tuple" = some true := by decide +kernel
theorem k_tl : kitB "tuple" "list" = some false := by decide +kernel
theorem k_nt : kitB "NoneType" "tuple" = some false := by decide +kernel
/-! data that == is told of -/
def Flat (d : PyData) : Prop := d.canLay0 = true ∧ d.depth ≤ 60
theorem lay_all : ∀ {es : List PyData}, (∀ d ∈ es, Flat d) → PyData.canLayAll0 es = true ∧ PyData.depthAll es ≤ 60
  | [], _ => by simp [PyData.canLayAll0, PyData.depthAll]
  | d :: es, h => by
    have h1 := h d List.mem_cons_self
    have h2 := lay_all (es := es) fun x hx => h x (List.mem_cons_of_mem _ hx)
    simp only [PyData.canLayAll0, PyData.depthAll]
    refine ⟨by rw [h1.1, h2.1]; rfl, ?_⟩
    have := h1.2
    have := h2.2
    omega
theorem shaped_of {d : PyData} (h : Flat d) : SeqAt.shaped d = true := by
  unfold SeqAt.shaped
  rw [h.1, Bool.true_and]
  exact decide_eq_true (by have := h.2; omega)
theorem shaped_list {es : List PyData} (h : ∀ d ∈ es, Flat d) : SeqAt.shaped (.list es) = true := by
  have := lay_all h
  unfold SeqAt.shaped
  simp only [PyData.canLay0, PyData.depth]
  rw [this.1, Bool.true_and]
  exact decide_eq_true (by omega)
theorem shaped_tuple {es : List PyData} (h : ∀ d ∈ es, Flat d) : SeqAt.shaped (.tuple es) = true := by
  have := lay_all h
  unfold SeqAt.shaped
  simp only [PyData.canLay0, PyData.depth]
  rw [this.1, Bool.true_and]
  exact decide_eq_true (by omega)
def okStr (x : Str) : Bool := x.cps.all (· < 0x110000)
theorem flat_str {x : Str} (h : okStr x = true) : Flat (.str x) := by
  refine ⟨?_, by simp [PyData.depth]⟩
  simp only [PyData.canLay0]
  exact h
theorem flat_int (i : Int) : Flat (.int i) := ⟨by simp [PyData.canLay0], by simp [PyData.depth]⟩
/-! ### what comes of a reading -/
def EvD (K : PySem.W.Frag) (te : TE) (σ : L2.St) (H : Hp) (d : PyData) : Prop := ∀ H1, Same H H1 → ∀ Q : VK, (∀ v H2, Same H1 H2 → Dp K H2 v d → Q v H2) → te σ H1 Q
def EvB (tt : TT) (σ : L2.St) (H : Hp) (b : Bool) : Prop := ∀ H1, Same H H1 → ∀ Q : Bool → Hp → Prop, (∀ H2, Same H1 H2 → Q b H2) → tt σ H1 Q
def EvA (K : PySem.W.Frag) (ta : TA) (σ : L2.St) (H : Hp) (ds : List PyData) : Prop := ∀ H1, Same H H1 → ∀ Q : List V → Hp → Prop, (∀ vs H2, Same H1 H2 → DpAll K H2 vs ds → Q vs H2) → ta σ H1 Q
section
variable {K : PySem.W.Frag} {σ : L2.St} {H H' : Hp} {te ta tb : TE} {t u : TT} {d e c : PyData} {ds es : List PyData} {i j : Int} {x y : Str} {a b : Bool}
theorem EvD.mono (s : Same H H') (h : EvD K te σ H d) : EvD K te σ H' d := fun H1 e Q q => h H1 (s.trans e) Q q
theorem EvB.mono (s : Same H H') (h : EvB t σ H b) : EvB t σ H' b := fun H1 e Q q => h H1 (s.trans e) Q q
theorem EvA.mono {ta : TA} (s : Same H H') (h : EvA K ta σ H ds) : EvA K ta σ H' ds := fun H1 e Q q => h H1 (s.trans e) Q q
theorem EvD.is (h : EvD K te σ H d) (z : d = e) : EvD K te σ H e := z ▸ h
theorem EvB.is (h : EvB t σ H a) (z : a = b) : EvB t σ H b := z ▸ h
theorem ed_var {k : Nat} {v : V} (h : σ[k]? = some (some v)) (hd : Dp K H v d) : EvD K (tVar k) σ H d := fun H1 e Q q => ⟨v, h, q v H1 (Same.refl _) (dp_mono e hd)⟩
theorem ed_c {v : V} (hd : ∀ H, Dp K H v d) : EvD K (tC v) σ H d := fun H1 _ Q q => q v H1 (Same.refl _) (hd H1)
theorem ed_int : EvD K (tC (.int i)) σ H (.int i) := ed_c fun _ => .int i
theorem ed_str : EvD K (tC (.str x)) σ H (.str x) := ed_c fun _ => .str x
theorem ed_bl : EvD K (tC (.bl b)) σ H (.bool b) := ed_c fun _ => .bl b
theorem ed_non : EvD K (tC .non) σ H .none := ed_c fun _ => .non
/-- two values, then an operation -/
theorem ed_op {r : R2} (ha : EvD K ta σ H d) (hb : EvD K tb σ H e) (hr : ∀ v w H1, Same H H1 → Dp K H1 v d → Dp K H1 w e → ∀ Q : VK, (∀ z H2, Same H1 H2 → Dp K H2 z c → Q z H2) → r v w H1 Q) : EvD K (tOp r ta tb) σ H c := fun H1 s Q q =>
  ha H1 s _ fun v H2 s2 hv => hb H2 (s.trans s2) _ fun w H3 s3 hw => hr v w H3 ((s.trans s2).trans s3) (dp_mono s3 hv) hw Q fun z H4 s4 hz => q z H4 ((s2.trans s3).trans s4) hz
theorem ed_I0b {p : Int → Int → Bool} (ha : EvD K ta σ H (.int i)) (hb : EvD K tb σ H (.int j)) : EvD K (tOp (rI0 fun i j => .bl (p i j)) ta tb) σ H (.bool (p i j)) :=
  ed_op ha hb fun v w H1 _ hv hw Q q => ⟨i, j, dp_int hv, dp_int hw, q _ H1 (Same.refl _) (.bl _)⟩
theorem ed_I0 {p : Int → Int → Int} (ha : EvD K ta σ H (.int i)) (hb : EvD K tb σ H (.int j)) : EvD K (tOp (rI0 fun i j => .int (p i j)) ta tb) σ H (.int (p i j)) :=
  ed_op ha hb fun v w H1 _ hv hw Q q => ⟨i, j, dp_int hv, dp_int hw, q _ H1 (Same.refl _) (.int _)⟩
theorem ed_I {C : Int → Int → Prop} {p : Int → Int → Int} (hc : C i j) (ha : EvD K ta σ H (.int i)) (hb : EvD K tb σ H (.int j)) : EvD K (tOp (rI C fun i j => .int (p i j)) ta tb) σ H (.int (p i j)) :=
  ed_op ha hb fun v w H1 _ hv hw Q q => ⟨i, j, dp_int hv, dp_int hw, hc, q _ H1 (Same.refl _) (.int _)⟩
theorem ed_eqI (ha : EvD K ta σ H (.int i)) (hb : EvD K tb σ H (.int j)) : EvD K (tOp rEq ta tb) σ H (.bool (decide (i = j))) :=
  ed_op ha hb fun v w H1 _ hv hw Q q => by
    obtain rfl := dp_int hv
    obtain rfl := dp_int hw
    refine ⟨rfl, q _ H1 (Same.refl _) ?_⟩
    rw [show decide (V.int i = V.int j) = decide (i = j) from by simp]
    exact .bl _
theorem ed_eqS (ha : EvD K ta σ H (.str x)) (hb : EvD K tb σ H (.str y)) : EvD K (tOp rEq ta tb) σ H (.bool (decide (x = y))) :=
  ed_op ha hb fun v w H1 _ hv hw Q q => by
    obtain rfl := dp_str hv
    obtain rfl := dp_str hw
    refine ⟨rfl, q _ H1 (Same.refl _) ?_⟩
    rw [show decide (V.str x = V.str y) = decide (x = y) from by simp]
    exact .bl _
theorem ed_eqB (ha : EvD K ta σ H (.bool a)) (hb : EvD K tb σ H (.bool b)) : EvD K (tOp rEq ta tb) σ H (.bool (decide (a = b))) :=
  ed_op ha hb fun v w H1 _ hv hw Q q => by
    obtain rfl := dp_bool hv
    obtain rfl := dp_bool hw
    refine ⟨rfl, q _ H1 (Same.refl _) ?_⟩
    rw [show decide (V.bl a = V.bl b) = decide (a = b) from by simp]
    exact .bl _
theorem ed_neB (ha : EvD K ta σ H (.bool a)) (hb : EvD K tb σ H (.bool b)) : EvD K (tOp rNe ta tb) σ H (.bool (!decide (a = b))) :=
  ed_op ha hb fun v w H1 _ hv hw Q q => by
    obtain rfl := dp_bool hv
    obtain rfl := dp_bool hw
    refine ⟨rfl, q _ H1 (Same.refl _) ?_⟩
    rw [show decide (V.bl a = V.bl b) = decide (a = b) from by simp]
    exact .bl _
theorem ed_neI (ha : EvD K ta σ H (.int i)) (hb : EvD K tb σ H (.int j)) : EvD K (tOp rNe ta tb) σ H (.bool (!decide (i = j))) :=
  ed_op ha hb fun v w H1 _ hv hw Q q => by
    obtain rfl := dp_int hv
    obtain rfl := dp_int hw
    refine ⟨rfl, q _ H1 (Same.refl _) ?_⟩
    rw [show decide (V.int i = V.int j) = decide (i = j) from by simp]
    exact .bl _
theorem ed_isN (ha : EvD K ta σ H d) : EvD K (tOp (fun x y H Q => y = .non ∧ Q (.bl (decide (x = .non))) H) ta (tC .non)) σ H (.bool (match d with | .none => true | _ => false)) :=
  ed_op ha ed_non fun v w H1 _ hv hw Q q => by
    refine ⟨dp_none hw, q _ H1 (Same.refl _) ?_⟩
    cases hv <;> exact .bl _
theorem ed_eqD (ha : EvD K ta σ H d) (hb : EvD K tb σ H e) (h1 : SeqAt.shaped d = true) (h2 : SeqAt.shaped e = true) : EvD K (tOp (rEqD K) ta tb) σ H (.bool (PyData.eqv d e)) :=
  ed_op ha hb fun v w H1 _ hv hw Q q => ⟨d, e, hv, hw, h1, h2, q _ H1 (Same.refl _) (.bl _)⟩
theorem ed_neD (ha : EvD K ta σ H d) (hb : EvD K tb σ H e) (h1 : SeqAt.shaped d = true) (h2 : SeqAt.shaped e = true) : EvD K (tOp (rNeD K) ta tb) σ H (.bool (!PyData.eqv d e)) :=
  ed_op ha hb fun v w H1 _ hv hw Q q => ⟨d, e, hv, hw, h1, h2, q _ H1 (Same.refl _) (.bl _)⟩
theorem ed_notInD (ha : EvD K ta σ H d) (hb : EvD K tb σ H (.list ds)) (h1 : SeqAt.shaped d = true) (h2 : SeqAt.shaped (.list ds) = true) : EvD K (tOp (rNotInD K) ta tb) σ H (.bool (!ds.any fun z => PyData.eqv z d)) :=
  ed_op ha hb fun v w H1 _ hv hw Q q => ⟨d, ds, hv, hw, h1, h2, q _ H1 (Same.refl _) (.bl _)⟩
theorem eqV_str (x y : Str) : eqV (.str x) (.str y) = decide (x = y) := by
  unfold eqV
  by_cases h : x = y
  · subst h
    simp
  · simp [h]
theorem inV_strs (x : Str) : ∀ ss : List Str, inV (.str x) (ss.map V.str) = decide (x ∈ ss)
  | [] => by simp [inV]
  | s :: ss => by
    have ih := inV_strs x ss
    unfold inV at ih ⊢
    rw [List.map_cons, List.any_cons, ih, eqV_str]
    by_cases h : s = x
    · subst h
      simp
    · have h' : ¬ x = s := fun z => h z.symm
      simp [h, h']
theorem flat_strs : ∀ ss : List Str, (ss.map V.str).all flatV = true
  | [] => rfl
  | s :: ss => by
    rw [List.map_cons, List.all_cons, flat_strs ss]
    rfl
theorem ed_in {ss : List Str} (ha : EvD K ta σ H (.str x)) (hb : EvD K tb σ H (.tuple (ss.map .str))) : EvD K (tOp (rIn K false) ta tb) σ H (.bool (decide (x ∈ ss))) :=
  ed_op ha hb fun v w H1 _ hv hw Q q => by
    obtain rfl := dp_str hv
    obtain ⟨p, xs, rfl, hs, hx⟩ := dp_tup hw
    obtain rfl := dp_strs hx
    refine ⟨p, _, rfl, .inr hs, rfl, flat_strs ss, q _ H1 (Same.refl _) ?_⟩
    rw [inV_strs]
    exact .bl _
theorem ed_inL {ss : List Str} (ha : EvD K ta σ H (.str x)) (hb : EvD K tb σ H (.list (ss.map .str))) : EvD K (tOp (rIn K false) ta tb) σ H (.bool (decide (x ∈ ss))) :=
  ed_op ha hb fun v w H1 _ hv hw Q q => by
    obtain rfl := dp_str hv
    obtain ⟨p, xs, rfl, hs, hx⟩ := dp_lst hw
    obtain rfl := dp_strs hx
    refine ⟨p, _, rfl, .inl hs, rfl, flat_strs ss, q _ H1 (Same.refl _) ?_⟩
    rw [inV_strs]
    exact .bl _
theorem ed_notIn {ss : List Str} (ha : EvD K ta σ H (.str x)) (hb : EvD K tb σ H (.tuple (ss.map .str))) : EvD K (tOp (rIn K true) ta tb) σ H (.bool (!decide (x ∈ ss))) :=
  ed_op ha hb fun v w H1 _ hv hw Q q => by
    obtain rfl := dp_str hv
    obtain ⟨p, xs, rfl, hs, hx⟩ := dp_tup hw
    obtain rfl := dp_strs hx
    refine ⟨p, _, rfl, .inr hs, rfl, flat_strs ss, q _ H1 (Same.refl _) ?_⟩
    rw [inV_strs]
    exact .bl _
theorem ed_notInL {ss : List Str} (ha : EvD K ta σ H (.str x)) (hb : EvD K tb σ H (.list (ss.map .str))) : EvD K (tOp (rIn K true) ta tb) σ H (.bool (!decide (x ∈ ss))) :=
  ed_op ha hb fun v w H1 _ hv hw Q q => by
    obtain rfl := dp_str hv
    obtain ⟨p, xs, rfl, hs, hx⟩ := dp_lst hw
    obtain rfl := dp_strs hx
    refine ⟨p, _, rfl, .inl hs, rfl, flat_strs ss, q _ H1 (Same.refl _) ?_⟩
    rw [inV_strs]
    exact .bl _
theorem ed_inC {k : Nat} (ha : EvD K ta σ H (.str ⟨#[k]⟩)) (hb : EvD K tb σ H (.str y)) : EvD K (tOp (fun x y H Q => ∃ (c : Nat) (z : Str), x = .str ⟨#[c]⟩ ∧ y = .str z ∧ Q (.bl (decide (c ∈ z.cps.toList))) H) ta tb) σ H (.bool (decide (k ∈ y.cps.toList))) :=
  ed_op ha hb fun v w H1 _ hv hw Q q => ⟨k, y, dp_str hv, dp_str hw, q _ H1 (Same.refl _) (.bl _)⟩
theorem ed_notInC {k : Nat} (ha : EvD K ta σ H (.str ⟨#[k]⟩)) (hb : EvD K tb σ H (.str y)) : EvD K (tOp (fun x y H Q => ∃ (c : Nat) (z : Str), x = .str ⟨#[c]⟩ ∧ y = .str z ∧ Q (.bl (!decide (c ∈ z.cps.toList))) H) ta tb) σ H (.bool (!decide (k ∈ y.cps.toList))) :=
  ed_op ha hb fun v w H1 _ hv hw Q q => ⟨k, y, dp_str hv, dp_str hw, q _ H1 (Same.refl _) (.bl _)⟩
theorem ed_ixT {k : Nat} (ha : EvD K ta σ H (.tuple ds)) (hb : EvD K tb σ H (.int (k : Int))) (h : ds[k]? = some d) : EvD K (tOp (rIxT K) ta tb) σ H d :=
  ed_op ha hb fun v w H1 _ hv hw Q q => by
    obtain ⟨p, xs, rfl, hs, hx⟩ := dp_tup hv
    obtain ⟨z, hz, hd⟩ := dpl_get hx h
    exact ⟨p, xs, k, z, rfl, dp_int hw, hs, atI_nat hz, q z H1 (Same.refl _) hd⟩
theorem ed_ixL {k : Nat} (ha : EvD K ta σ H (.list ds)) (hb : EvD K tb σ H (.int (k : Int))) (h : ds[k]? = some d) : EvD K (tOp (rIxL K) ta tb) σ H d :=
  ed_op ha hb fun v w H1 _ hv hw Q q => by
    obtain ⟨p, xs, rfl, hs, hx⟩ := dp_lst hv
    obtain ⟨z, hz, hd⟩ := dpl_get hx h
    exact ⟨p, xs, k, z, rfl, dp_int hw, hs, atI_nat hz, q z H1 (Same.refl _) hd⟩
theorem ed_ixS {k n : Nat} (ha : EvD K ta σ H (.str x)) (hb : EvD K tb σ H (.int (k : Int))) (hl : x.length ≤ 100000) (h : x.cps.toList[k]? = some n) : EvD K (tOp rIxS ta tb) σ H (.str ⟨#[n]⟩) :=
  ed_op ha hb fun v w H1 _ hv hw Q q => ⟨x, k, n, dp_str hv, dp_int hw, sz_of hl, atI_nat h, q _ H1 (Same.refl _) (.str _)⟩
theorem cut_take (xs : List V) (n : Nat) : cutV xs none (some (n : Int)) = xs.take n := by
  unfold cutV
  rw [HT.sIx_none, HT.sIx_nat, Nat.sub_zero, List.drop_zero]
  by_cases h : n ≤ xs.length
  · rw [Nat.min_eq_left h]
  · rw [Nat.min_eq_right (by omega), List.take_of_length_le (by omega), List.take_of_length_le (by omega)]
theorem ed_slL {n : Nat} (ha : EvD K ta σ H (.list ds)) (hb : EvD K tb σ H (.int (n : Int))) : EvD K (tSl (rSlL K) ta tNoPart (tPart tb)) σ H (.list (ds.take n)) := fun H1 s Q q =>
  ha H1 s _ fun v H2 s2 hv => hb H2 (s.trans s2) _ fun w H3 s3 hw => ⟨(n : Int), dp_int hw, by
    obtain ⟨p, xs, rfl, hs, hx⟩ := dp_lst (dp_mono s3 hv)
    refine ⟨p, xs, rfl, hs, fun l hl => q _ _ ((s2.trans s3).trans (same_new hl _)) ?_⟩
    rw [cut_take]
    exact .lst (SqL.of upd_same) (dpAll_mono (same_new hl _) (dpl_take n hx))⟩
theorem ed_slT {n : Nat} (ha : EvD K ta σ H (.tuple ds)) (hb : EvD K tb σ H (.int (n : Int))) : EvD K (tSl (rSlA K) ta tNoPart (tPart tb)) σ H (.tuple (ds.take n)) := fun H1 s Q q =>
  ha H1 s _ fun v H2 s2 hv => hb H2 (s.trans s2) _ fun w H3 s3 hw => ⟨(n : Int), dp_int hw, by
    obtain ⟨p, xs, rfl, hs, hx⟩ := dp_tup (dp_mono s3 hv)
    refine ⟨p, xs, rfl, hs, fun hw => q _ _ (s2.trans s3) ?_, fun _ l hl => q _ _ ((s2.trans s3).trans (same_new hl _)) ?_⟩
    · rw [HT.sIx_nat] at hw
      have hl := dpl_len hx
      have hn : ds.length ≤ n := by
        have := hw.2
        omega
      rw [List.take_of_length_le hn]
      exact .tup hs hx
    · rw [cut_take]
      exact .tup (SqT.of upd_same) (dpAll_mono (same_new hl _) (dpl_take n hx))⟩
theorem ed_slS {n : Nat} (ha : EvD K ta σ H (.list ds)) (hb : EvD K tb σ H (.int (n : Int))) : EvD K (tSl (rSlL K) ta tNoPart (tPart tb)) σ H (.list (ds.take n)) := ed_slL ha hb
/-! tests -/
theorem et_val (h : EvD K te σ H (.bool b)) : EvB (tTest te) σ H b := fun H1 s Q q => h H1 s _ fun v H2 s2 hv => ⟨b, dp_bool hv, q H2 s2⟩
theorem et_B (h : EvD K te σ H (.bool b)) : EvB (tB te) σ H b := fun H1 s Q q => h H1 s _ fun v H2 s2 hv => ⟨b, dp_bool hv, q H2 s2⟩
theorem et_and (h1 : EvB t σ H a) (h2 : a = true → EvB u σ H b) : EvB (tAnd t u) σ H (a && b) := fun H1 s Q q => h1 H1 s _ fun H2 s2 => by
  cases a with
  | true => exact iteT (h2 rfl H2 (s.trans s2) Q fun H3 s3 => q H3 (s2.trans s3))
  | false => exact iteF (q H2 s2)
theorem et_or (h1 : EvB t σ H a) (h2 : a = false → EvB u σ H b) : EvB (tOr t u) σ H (a || b) := fun H1 s Q q => h1 H1 s _ fun H2 s2 => by
  cases a with
  | true => exact iteT (q H2 s2)
  | false => exact iteF (h2 rfl H2 (s.trans s2) Q fun H3 s3 => q H3 (s2.trans s3))
theorem et_not (h : EvB t σ H a) : EvB (tNot t) σ H (!a) := fun H1 s Q q => h H1 s _ fun H2 s2 => q H2 s2
theorem et_yes : EvB tYes σ H true := fun H1 _ Q q => q H1 (Same.refl _)
/-! and, or, not as values; chains; if -/
theorem ed_and (h1 : EvD K ta σ H (.bool a)) (h2 : a = true → EvD K tb σ H (.bool b)) : EvD K (tAndV ta tb) σ H (.bool (a && b)) := fun H1 s Q q => h1 H1 s _ fun v H2 s2 hv => ⟨a, dp_bool hv, by
  cases a with
  | true => exact iteT (h2 rfl H2 (s.trans s2) Q fun v H3 s3 => q v H3 (s2.trans s3))
  | false => exact iteF (q _ H2 s2 (.bl false))⟩
theorem ed_or (h1 : EvD K ta σ H (.bool a)) (h2 : a = false → EvD K tb σ H (.bool b)) : EvD K (tOrV ta tb) σ H (.bool (a || b)) := fun H1 s Q q => h1 H1 s _ fun v H2 s2 hv => ⟨a, dp_bool hv, by
  cases a with
  | true => exact iteT (q _ H2 s2 (.bl true))
  | false => exact iteF (h2 rfl H2 (s.trans s2) Q fun v H3 s3 => q v H3 (s2.trans s3))⟩
theorem ed_not (h : EvD K ta σ H (.bool a)) : EvD K (tNotV ta) σ H (.bool (!a)) := fun H1 s Q q => h H1 s _ fun v H2 s2 hv => ⟨a, dp_bool hv, q _ H2 s2 (.bl _)⟩
theorem ed_chain {tc : TE} {k : Int} {p p' : Int → Int → Bool} (ha : EvD K ta σ H (.int i)) (hb : EvD K tb σ H (.int j)) (hc : EvD K tc σ H (.int k)) :
    EvD K (tChain (rI0 fun i j => .bl (p i j)) (rI0 fun i j => .bl (p' i j)) ta tb tc) σ H (.bool (p i j && p' j k)) := fun H1 s Q q =>
  ha H1 s _ fun v H2 s2 hv => hb H2 (s.trans s2) _ fun w H3 s3 hw => ⟨i, j, dp_int hv, dp_int hw, p i j, rfl, by
    cases hp : p i j with
    | true =>
      rw [hp, Bool.true_and] at q
      refine iteT (hc H3 ((s.trans s2).trans s3) _ fun z H4 s4 hz => ?_)
      rw [dp_int hw, dp_int hz]
      exact ⟨j, k, rfl, rfl, q _ H4 ((s2.trans s3).trans s4) (.bl _)⟩
    | false =>
      rw [hp, Bool.false_and] at q
      exact iteF (q _ H3 (s2.trans s3) (.bl false))⟩
theorem ed_if (h : EvB t σ H b) (h1 : b = true → EvD K ta σ H d) (h2 : b = false → EvD K tb σ H d) : EvD K (tIf t ta tb) σ H d := fun H1 s Q q => h H1 s _ fun H2 s2 => by
  cases b with
  | true => exact iteT (h1 rfl H2 (s.trans s2) Q fun v H3 s3 => q v H3 (s2.trans s3))
  | false => exact iteF (h2 rfl H2 (s.trans s2) Q fun v H3 s3 => q v H3 (s2.trans s3))
/-! arguments, displays, calls -/
theorem ea_nil : EvA K tNil σ H [] := fun H1 _ Q q => q [] H1 (Same.refl _) .nil
theorem ea_cons {tr : TA} (h : EvD K ta σ H d) (hr : EvA K tr σ H ds) : EvA K (tCons ta tr) σ H (d :: ds) := fun H1 s Q q =>
  h H1 s _ fun v H2 s2 hv => hr H2 (s.trans s2) _ fun vs H3 s3 hvs => q _ H3 (s2.trans s3) (.cons (dp_mono s3 hv) hvs)
theorem ea_starT {tr : TA} (h : EvD K ta σ H (.tuple es)) (hr : EvA K tr σ H ds) : EvA K (StX.tStar K ta tr) σ H (es ++ ds) := fun H1 s Q q =>
  h H1 s _ fun v H2 s2 hv => by
    obtain ⟨p, xs, rfl, hs, hx⟩ := dp_tup hv
    exact ⟨p, xs, rfl, .inl hs, hr H2 (s.trans s2) _ fun vs H3 s3 hvs => q _ H3 (s2.trans s3) (dpl_app (dpAll_mono s3 hx) hvs)⟩
theorem ea_starL {tr : TA} (h : EvD K ta σ H (.list es)) (hr : EvA K tr σ H ds) : EvA K (StX.tStar K ta tr) σ H (es ++ ds) := fun H1 s Q q =>
  h H1 s _ fun v H2 s2 hv => by
    obtain ⟨p, xs, rfl, hs, hx⟩ := dp_lst hv
    exact ⟨p, xs, rfl, .inr hs, hr H2 (s.trans s2) _ fun vs H3 s3 hvs => q _ H3 (s2.trans s3) (dpl_app (dpAll_mono s3 hx) hvs)⟩
theorem ed_tup {t : TA} (h : EvA K t σ H ds) (hl : ds.length ≤ 100000) : EvD K (tTup t) σ H (.tuple ds) := fun H1 s Q q =>
  h H1 s _ fun vs H2 s2 hv => ⟨by rw [dpl_len hv]; exact sz_of hl, fun p hp => q _ _ (s2.trans (same_new hp _)) (.tup (SqT.of upd_same) (dpAll_mono (same_new hp _) hv))⟩
theorem ed_lst {t : TA} (h : EvA K t σ H ds) (hl : ds.length ≤ 100000) : EvD K (tLst t) σ H (.list ds) := fun H1 s Q q =>
  h H1 s _ fun vs H2 s2 hv => ⟨by rw [dpl_len hv]; exact sz_of hl, fun p hp => q _ _ (s2.trans (same_new hp _)) (.lst (SqL.of upd_same) (dpAll_mono (same_new hp _) hv))⟩
theorem ed_cb {t : TA} {r : List V → Hp → VK → Prop} (h : EvA K t σ H ds) (hr : ∀ vs H1, Same H H1 → DpAll K H1 vs ds → ∀ Q : VK, (∀ z H2, Same H1 H2 → Dp K H2 z c → Q z H2) → r vs H1 Q) : EvD K (tCB r t) σ H c := fun H1 s Q q =>
  h H1 s _ fun vs H2 s2 hv => hr vs H2 (s.trans s2) hv Q fun z H3 s3 hz => q z H3 (s2.trans s3) hz
theorem dp1 {vs : List V} (h : DpAll K H vs [d]) : ∃ v, vs = [v] ∧ Dp K H v d := by
  cases h with
  | cons a b => cases b with | nil => exact ⟨_, rfl, a⟩
theorem dp2 {vs : List V} (h : DpAll K H vs [d, e]) : ∃ v w, vs = [v, w] ∧ Dp K H v d ∧ Dp K H w e := by
  cases h with
  | cons a b =>
    obtain ⟨w, rfl, hw⟩ := dp1 b
    exact ⟨_, _, rfl, a, hw⟩
def tyN : PyData → String
  | .none => "NoneType" | .bool _ => "bool" | .int _ => "int" | .str _ => "str" | .list _ => "list" | .tuple _ => "tuple" | .dict _ => "dict"
theorem ty_of {v : V} (h : Dp K H v d) : TyX K H v (.type (tyN d)) := by
  cases h with
  | non => exact .base .non
  | bl b => exact .base (.bl b)
  | int i => exact .base (.int i)
  | str x => exact .base (.str x)
  | lst s _ =>
    rcases s with (s | ⟨o, s⟩) | ⟨o, its, n, s, hc, _⟩
    · exact .base (.lst s)
    · exact .base (.frz s)
    · exact .kList s hc
  | tup s _ =>
    rcases s with (s | ⟨o, s⟩) | ⟨o, its, n, s, hc, _⟩
    · exact .base (.tup s)
    · exact .fTuple s
    · exact .kTuple s hc
theorem ed_isi {n : String} (ha : EvD K ta σ H d) (h : kitB (tyN d) n = some b) : EvD K (tCB (rIsi K) (tCons ta (tCons (tC (.ty n)) tNil))) σ H (.bool b) := fun H1 s Q q =>
  ha H1 s _ fun v H2 s2 hv => ⟨v, .ty n, .type (tyN d), .type n, b, rfl, .ty n, ty_of hv, kit_ty h, q _ H2 s2 (.bl b)⟩
theorem ed_isi2 {n m : String} {b1 b2 : Bool} (ha : EvD K ta σ H d) (h : kitB (tyN d) n = some b1) (h2 : kitB (tyN d) m = some b2) :
    EvD K (tCB (rIsiT K) (tCons ta (tCons (tTup (tCons (tC (.ty n)) (tCons (tC (.ty m)) tNil))) tNil))) σ H (.bool (b1 || b2)) := fun H1 s Q q =>
  ha H1 s _ fun v H2 s2 hv => ⟨by show 2 ≤ sizeLine; decide, fun p hp => ⟨v, p, [.ty n, .ty m], .type (tyN d), [.type n, .type m], b1 || b2, rfl, upd_same, .cons (.ty n) (.cons (.ty m) .nil), ty_of (dp_mono (same_new hp _) hv),
    kitAny_cons (kit_ty h) (fun e => kitAny_cons (kit_ty h2) (fun e2 => by rw [e, e2]; exact kitAny_nil) (fun e2 => by rw [e2, Bool.or_true])) (fun e => by rw [e, Bool.true_or]), q _ _ (s2.trans (same_new hp _)) (.bl _)⟩⟩
theorem ed_lenT (ha : EvD K ta σ H (.tuple ds)) : EvD K (tCB (fun xs H Q => ∃ p ys, xs = [V.ref p] ∧ (SqL K H p ys ∨ SqT K H p ys) ∧ Q (.int ys.length) H) (tCons ta tNil)) σ H (.int (ds.length : Int)) :=
  ed_cb (ea_cons ha ea_nil) fun vs H1 _ hv Q q => by
    obtain ⟨v, rfl, hv1⟩ := dp1 hv
    obtain ⟨p, xs, rfl, hs, hx⟩ := dp_tup hv1
    refine ⟨p, xs, rfl, .inr hs, ?_⟩
    rw [dpl_len hx]
    exact q _ H1 (Same.refl _) (.int _)
theorem ed_lenL (ha : EvD K ta σ H (.list ds)) : EvD K (tCB (fun xs H Q => ∃ p ys, xs = [V.ref p] ∧ (SqL K H p ys ∨ SqT K H p ys) ∧ Q (.int ys.length) H) (tCons ta tNil)) σ H (.int (ds.length : Int)) :=
  ed_cb (ea_cons ha ea_nil) fun vs H1 _ hv Q q => by
    obtain ⟨v, rfl, hv1⟩ := dp1 hv
    obtain ⟨p, xs, rfl, hs, hx⟩ := dp_lst hv1
    refine ⟨p, xs, rfl, .inl hs, ?_⟩
    rw [dpl_len hx]
    exact q _ H1 (Same.refl _) (.int _)
theorem ed_lenS (ha : EvD K ta σ H (.str x)) (hl : x.length ≤ 100000) : EvD K (tCB (fun xs H Q => ∃ z, xs = [V.str z] ∧ z.length ≤ sizeLine ∧ Q (.int z.length) H) (tCons ta tNil)) σ H (.int (x.length : Int)) :=
  ed_cb (ea_cons ha ea_nil) fun vs H1 _ hv Q q => by
    obtain ⟨v, rfl, hv1⟩ := dp1 hv
    obtain rfl := dp_str hv1
    exact ⟨x, rfl, sz_of hl, q _ H1 (Same.refl _) (.int _)⟩
theorem ed_all {bs : List Bool} (ha : EvD K ta σ H (.list (bs.map .bool))) : EvD K (tCB (rAll K) (tCons ta tNil)) σ H (.bool (bs.all id)) :=
  ed_cb (ea_cons ha ea_nil) fun vs H1 _ hv Q q => by
    obtain ⟨v, rfl, hv1⟩ := dp1 hv
    obtain ⟨p, xs, rfl, hs, hx⟩ := dp_lst hv1
    obtain rfl := dp_bools hx
    exact ⟨p, bs, rfl, hs, q _ H1 (Same.refl _) (.bl _)⟩
theorem ed_list (ha : EvD K ta σ H (.tuple ds)) : EvD K (tCB (fun xs H Q => ∃ p ys, xs = [V.ref p] ∧ (SqL K H p ys ∨ SqT K H p ys) ∧ ∀ l, H l = none → Q (.ref l) (upd H l (.lst ys))) (tCons ta tNil)) σ H (.list ds) :=
  ed_cb (ea_cons ha ea_nil) fun vs H1 _ hv Q q => by
    obtain ⟨v, rfl, hv1⟩ := dp1 hv
    obtain ⟨p, xs, rfl, hs, hx⟩ := dp_tup hv1
    exact ⟨p, xs, rfl, .inr hs, fun l hl => q _ _ (same_new hl _) (.lst (SqL.of upd_same) (dpAll_mono (same_new hl _) hx))⟩
theorem ed_tuple (ha : EvD K ta σ H (.list ds)) : EvD K (tCB (fun xs H Q => ∃ p ys, xs = [V.ref p] ∧ ((SqL K H p ys ∧ ∀ l, H l = none → Q (.ref l) (upd H l (.tup ys))) ∨ (SqT K H p ys ∧ Q (.ref p) H))) (tCons ta tNil)) σ H (.tuple ds) :=
  ed_cb (ea_cons ha ea_nil) fun vs H1 _ hv Q q => by
    obtain ⟨v, rfl, hv1⟩ := dp1 hv
    obtain ⟨p, xs, rfl, hs, hx⟩ := dp_lst hv1
    exact ⟨p, xs, rfl, .inl ⟨hs, fun l hl => q _ _ (same_new hl _) (.tup (SqT.of upd_same) (dpAll_mono (same_new hl _) hx))⟩⟩
/-- a def whose promise speaks of data alone -/
def PureSp (K : PySem.W.Frag) (rel : List PyData → PyData → Prop) : Sp := fun vs H Q _ => ∃ ds d, DpAll K H vs ds ∧ rel ds d ∧ ∀ v H', Same H H' → Dp K H' v d → Q v H'
theorem ed_call {t : TA} {rel : List PyData → PyData → Prop} {E : XK} (h : EvA K t σ H ds) (hr : rel ds c) : EvD K (tCall (PureSp K rel) [] E t) σ H c := fun H1 s Q q =>
  h H1 s _ fun vs H2 s2 hv => ⟨ds, c, by rw [List.append_nil]; exact hv, hr, fun v H3 s3 hd => q v H3 (s2.trans s3) hd⟩
/-! what a change of a list or dict leaves: data without lists -/
end
mutual
def noList : PyData → Bool
  | .tuple ds => noLists ds
  | .list _ => false
  | .dict _ => false
  | _ => true
def noLists : List PyData → Bool
  | [] => true
  | d :: ds => noList d && noLists ds
end
/-- a list or a dict: what may turn without a tuple being touched -/
def Soft : HO → Prop
  | .lst _ => True
  | .dK _ => True
  | _ => False
theorem sqt_upd {K : PySem.W.Frag} {H : Hp} {p a : Addr} {o u : HO} {xs : List V} (hp : H p = some o) (hs : Soft o) (h : SqT K H a xs) : SqT K (upd H p u) a xs := by
  rcases h with (h | ⟨ob, h⟩) | h
  · exact .inl (.inl (by rw [upd_ne (fun e => by rw [e, hp] at h; cases h; exact hs)]; exact h))
  · exact .inl (.inr ⟨ob, by rw [upd_ne (fun e => by rw [e, hp] at h; cases h; exact hs)]; exact h⟩)
  · exact .inr h
mutual
theorem dp_upd {K : PySem.W.Frag} {H : Hp} {p : Addr} {o u : HO} (hp : H p = some o) (hs : Soft o) : ∀ {v : V} {d : PyData}, noList d = true → Dp K H v d → Dp K (upd H p u) v d
  | _, _, _, .non => .non
  | _, _, _, .bl b => .bl b
  | _, _, _, .int i => .int i
  | _, _, _, .str x => .str x
  | _, _, n, .lst s a => by simp [noList] at n
  | _, _, n, .tup s a => .tup (sqt_upd hp hs s) (dps_upd hp hs (by simpa [noList] using n) a)
theorem dps_upd {K : PySem.W.Frag} {H : Hp} {p : Addr} {o u : HO} (hp : H p = some o) (hs : Soft o) : ∀ {vs : List V} {ds : List PyData}, noLists ds = true → DpAll K H vs ds → DpAll K (upd H p u) vs ds
  | _, _, _, .nil => .nil
  | _, _, n, .cons h t => .cons (dp_upd hp hs (by simp [noLists] at n; exact n.1) h) (dps_upd hp hs (by simp [noLists] at n; exact n.2) t)
end
theorem noLists_app : ∀ (ds es : List PyData), noLists (ds ++ es) = (noLists ds && noLists es)
  | [], es => by simp [noLists]
  | d :: ds, es => by
    show (noList d && noLists (ds ++ es)) = ((noList d && noLists ds) && noLists es)
    rw [noLists_app ds es, Bool.and_assoc]
section
variable {K : PySem.W.Frag} {σ : L2.St} {H H' : Hp} {te ta tb : TE} {t u : TT} {d e c : PyData} {ds es : List PyData} {i j : Int} {x y : Str} {a b : Bool}
/-! comprehensions: over a tuple, a list; each item's data gives the element's -/
def Made (K : PySem.W.Frag) (H : Hp) (Dl : Addr) (fs : List PyData) (H' : Hp) : Prop := H Dl = none ∧ Same H H' ∧ ∃ ys, H' Dl = some (.lst ys) ∧ DpAll K H' ys fs ∧ noLists fs = true
theorem Made.start {Dl : Addr} (h : H Dl = none) : Made K H Dl [] (upd H Dl (.lst [])) := ⟨h, same_new h _, [], upd_same, .nil, rfl⟩
theorem Made.grow {Dl : Addr} {fs : List PyData} {H2 : Hp} (m : Made K H Dl fs H') (s : Same H' H2) : Made K H Dl fs H2 := by
  obtain ⟨m1, m2, ys, m3, m4, m5⟩ := m
  exact ⟨m1, m2.trans s, ys, s _ _ m3, dpAll_mono s m4, m5⟩
theorem Made.ev {Dl : Addr} {fs : List PyData} (m : Made K H Dl fs H') (h : EvD K te σ H d) (hl : fs.length < 50000) (hn : noList d = true) :
    te σ H' fun y H4 => ∃ acc, H4 Dl = some (.lst acc) ∧ acc.length < sizeLine ∧ Made K H Dl (fs ++ [d]) (upd H4 Dl (.lst (acc ++ [y]))) := by
  obtain ⟨m1, m2, ys, m3, m4, m5⟩ := m
  refine h H' m2 _ fun v H2 s2 hv => ?_
  refine ⟨ys, s2 _ _ m3, by rw [dpl_len m4]; exact sz_lt (by omega), m1, same_mut (m2.trans s2) m1, _, upd_same, ?_, by rw [noLists_app, m5, Bool.true_and]; simp [noLists, hn]⟩
  exact dpl_app (dps_upd (s2 _ _ m3) trivial m5 (dpAll_mono s2 m4)) (.cons (dp_upd (s2 _ _ m3) trivial hn hv) .nil)
/-- a turn: the test, then the element -/
theorem Made.turn {Dl : Addr} {fs : List PyData} {σ2 : L2.St} {p : Bool} {Nx : Hp → Prop} (m : Made K H Dl fs H') (ht : EvB t σ2 H p) (he : p = true → EvD K te σ2 H d) (hl : fs.length < 50000) (hn : p = true → noList d = true)
    (hNx : ∀ H2, Made K H Dl (fs ++ (if p = true then [d] else [])) H2 → Nx H2) :
    t σ2 H' fun b H3 => if b = true then te σ2 H3 fun y H4 => ∃ acc, H4 Dl = some (.lst acc) ∧ acc.length < sizeLine ∧ Nx (upd H4 Dl (.lst (acc ++ [y]))) else Nx H3 := by
  refine ht H' m.2.1 _ fun H3 s3 => ?_
  have m3 := m.grow s3
  cases hp : p with
  | true =>
    rw [hp] at hNx
    refine iteT ?_
    obtain ⟨m1, m2, ys, m4, m5, m6⟩ := m3
    refine he hp H3 m2 _ fun v H2 s2 hv => ?_
    refine ⟨ys, s2 _ _ m4, by rw [dpl_len m5]; exact sz_lt (by omega), hNx _ ⟨m1, same_mut (m2.trans s2) m1, _, upd_same, ?_, ?_⟩⟩
    · exact dpl_app (dps_upd (s2 _ _ m4) trivial m6 (dpAll_mono s2 m5)) (.cons (dp_upd (s2 _ _ m4) trivial (hn hp) hv) .nil)
    · rw [noLists_app, m6, Bool.true_and]
      simp [noLists, hn hp]
  | false =>
    rw [hp] at hNx
    refine iteF (hNx _ ?_)
    simpa using m3
/-- the items that are kept, each as its element -/
def keepD (p : PyData → Bool) (g : PyData → PyData) (ds : List PyData) : List PyData := (ds.filter p).map g
theorem keepD_snoc (p : PyData → Bool) (g : PyData → PyData) (ds : List PyData) (d : PyData) : keepD p g (ds ++ [d]) = keepD p g ds ++ (if p d = true then [g d] else []) := by
  unfold keepD
  rw [List.filter_append, List.map_append]
  congr 1
  by_cases h : p d = true
  · rw [if_pos h, List.filter_cons, if_pos h]
    rfl
  · rw [if_neg h, List.filter_cons, if_neg h]
    rfl
theorem keepD_len (p : PyData → Bool) (g : PyData → PyData) (ds : List PyData) : (keepD p g ds).length ≤ ds.length := by
  unfold keepD
  rw [List.length_map]
  exact List.length_filter_le _ _
theorem take_snoc {α : Type} {l : List α} {i : Nat} {x : α} (h : l[i]? = some x) : l.take (i + 1) = l.take i ++ [x] := by
  rw [List.take_add_one, h]
  rfl
theorem ed_lcT {src : TE} {k : Nat} {vs : List Nat} (p : PyData → Bool) (g : PyData → PyData) (hs : EvD K src σ H (.tuple ds)) (hz : ds.length ≤ 40000) (hw : ∀ x, wipe ((wipe σ vs).set k (some x)) vs = wipe σ vs)
    (ht : ∀ d ∈ ds, ∀ x H1, Same H H1 → Dp K H1 x d → EvB t ((wipe σ vs).set k (some x)) H1 (p d)) (he : ∀ d ∈ ds, p d = true → ∀ x H1, Same H H1 → Dp K H1 x d → EvD K te ((wipe σ vs).set k (some x)) H1 (g d))
    (hn : ∀ d ∈ ds, p d = true → noList (g d) = true) : EvD K (tLc (iTup K src) (gName k) t te vs) σ H (.list (keepD p g ds)) := fun H0 s Q q =>
  hs H0 s _ fun v H1 s1 hv => by
    obtain ⟨a, xs, rfl, ha, hx⟩ := dp_tup hv
    refine ⟨a, rfl, ⟨xs, ha⟩, fun Dl hD => ?_⟩
    refine lc_tup (xs := xs) (fun i H' => Made K H1 Dl (keepD p g (ds.take i)) H') (Made.start hD) (fun i H' _ m => sqt_mono m.2.1 ha) (fun i x H' hi m => ?_) (fun H' m => ?_)
    · obtain ⟨d, hd, hxd⟩ := dpl_at hx hi
      have hm := List.mem_of_getElem? hd
      refine ⟨hw x, ?_⟩
      refine Made.turn m (p := p d) (d := g d) (ht d hm x H1 (s.trans s1) hxd) (fun hp => he d hm hp x H1 (s.trans s1) hxd) (Nat.lt_of_le_of_lt (keepD_len _ _ _) ?_) (hn d hm) fun H2 m2 => ?_
      · rw [List.length_take]
        omega
      · rw [take_snoc hd, keepD_snoc]
        exact m2
    · obtain ⟨m1, m2, ys, m3, m4, _⟩ := m
      rw [dpl_len hx, List.take_length] at m4
      exact q _ H' (s1.trans m2) (.lst (SqL.of m3) m4)
theorem ed_lcL {src : TE} {k : Nat} {vs : List Nat} (p : PyData → Bool) (g : PyData → PyData) (hs : EvD K src σ H (.list ds)) (hz : ds.length ≤ 40000) (hw : ∀ x, wipe ((wipe σ vs).set k (some x)) vs = wipe σ vs)
    (ht : ∀ d ∈ ds, ∀ x H1, Same H H1 → Dp K H1 x d → EvB t ((wipe σ vs).set k (some x)) H1 (p d)) (he : ∀ d ∈ ds, p d = true → ∀ x H1, Same H H1 → Dp K H1 x d → EvD K te ((wipe σ vs).set k (some x)) H1 (g d))
    (hn : ∀ d ∈ ds, p d = true → noList (g d) = true) : EvD K (tLc (iList K src) (gName k) t te vs) σ H (.list (keepD p g ds)) := fun H0 s Q q =>
  hs H0 s _ fun v H1 s1 hv => by
    obtain ⟨a, xs, rfl, ha, hx⟩ := dp_lst hv
    refine ⟨a, rfl, ⟨xs, ha⟩, fun Dl hD => ?_⟩
    refine lc_list (xs := xs) (fun i H' => Made K H1 Dl (keepD p g (ds.take i)) H') (Made.start hD) (fun i H' _ m => m.2.1.seq ha) (fun i x H' hi m => ?_) (fun H' m => ?_)
    · obtain ⟨d, hd, hxd⟩ := dpl_at hx hi
      have hm := List.mem_of_getElem? hd
      refine ⟨hw x, ?_⟩
      refine Made.turn m (p := p d) (d := g d) (ht d hm x H1 (s.trans s1) hxd) (fun hp => he d hm hp x H1 (s.trans s1) hxd) (Nat.lt_of_le_of_lt (keepD_len _ _ _) ?_) (hn d hm) fun H2 m2 => ?_
      · rw [List.length_take]
        omega
      · rw [take_snoc hd, keepD_snoc]
        exact m2
    · obtain ⟨m1, m2, ys, m3, m4, _⟩ := m
      rw [dpl_len hx, List.take_length] at m4
      exact q _ H' (s1.trans m2) (.lst (SqL.of m3) m4)
/-- over range(n), no test -/
theorem ed_lcR {ta : TA} {k n : Nat} {vs : List Nat} (g : Nat → PyData) (hs : EvA K ta σ H [.int (n : Int)]) (hz : n ≤ 40000) (hw : ∀ x, wipe ((wipe σ vs).set k (some x)) vs = wipe σ vs)
    (he : ∀ i, i < n → ∀ H1, Same H H1 → EvD K te ((wipe σ vs).set k (some (.int (i : Int)))) H1 (g i)) (hn : ∀ i, i < n → noList (g i) = true) : EvD K (tLc (iRng1 ta) (gName k) tYes te vs) σ H (.list ((List.range n).map g)) := fun H0 s Q q =>
  hs H0 s _ fun us H1 s1 hv => by
    obtain ⟨v, rfl, hv1⟩ := dp1 hv
    obtain rfl := dp_int hv1
    refine ⟨n, rfl, by omega, by omega, fun Dl hD => ?_⟩
    refine lc_range (lo := 0) (n := ((n : Int)).toNat) (fun i H' => Made K H1 Dl ((List.range i).map g) H') (Made.start hD) (fun i H' hi m => ?_) (fun H' m => ?_)
    · have hi' : i < n := by omega
      have e0 : (0 : Int) + (i : Int) = (i : Int) := Int.zero_add _
      rw [e0]
      refine ⟨hw _, ?_⟩
      refine Made.turn m (p := true) (d := g i) et_yes (fun _ => he i hi' H1 (s.trans s1)) (by rw [List.length_map, List.length_range]; omega) (fun _ => hn i hi') fun H2 m2 => ?_
      rw [List.range_succ, List.map_append]
      exact m2
    · obtain ⟨m1, m2, ys, m3, m4, _⟩ := m
      rw [Int.toNat_natCast] at m4
      exact q _ H' (s1.trans m2) (.lst (SqL.of m3) m4)
/-- over a text, sign by sign, no test -/
theorem ed_lcS {src : TE} {k : Nat} {vs : List Nat} (g : Nat → PyData) (hs : EvD K src σ H (.str x)) (hz : x.cps.toList.length ≤ 40000) (hw : ∀ x, wipe ((wipe σ vs).set k (some x)) vs = wipe σ vs)
    (he : ∀ c ∈ x.cps.toList, ∀ H1, Same H H1 → EvD K te ((wipe σ vs).set k (some (.str ⟨#[c]⟩))) H1 (g c)) (hn : ∀ c ∈ x.cps.toList, noList (g c) = true) : EvD K (tLc (iStr src) (gName k) tYes te vs) σ H (.list (x.cps.toList.map g)) := fun H0 s Q q =>
  hs H0 s _ fun v H1 s1 hv => by
    obtain rfl := dp_str hv
    refine ⟨x, rfl, fun Dl hD => ?_⟩
    refine lc_it walk_str (fun i H' => Made K H1 Dl ((x.cps.toList.take i).map g) H') (Made.start hD) (fun _ _ _ _ => trivial) (fun i y H' H'' hi m hy => ?_) (fun H' m => ?_)
    · obtain ⟨rfl, c, hc, rfl⟩ := hy
      have hc' : x.cps.toList[i]? = some c := by simpa using hc
      have hm := List.mem_of_getElem? hc'
      refine ⟨hw _, ?_⟩
      refine Made.turn m (p := true) (d := g c) et_yes (fun _ => he c hm H1 (s.trans s1)) (by rw [List.length_map, List.length_take]; omega) (fun _ => hn c hm) fun H2 m2 => ?_
      rw [take_snoc hc', List.map_append]
      exact m2
    · obtain ⟨m1, m2, ys, m3, m4, _⟩ := m
      rw [← Array.length_toList, List.take_length] at m4
      exact q _ H' (s1.trans m2) (.lst (SqL.of m3) m4)
theorem keepD_all (g : PyData → PyData) (ds : List PyData) : keepD (fun _ => true) g ds = ds.map g := by
  unfold keepD
  rw [List.filter_eq_self.mpr (fun _ _ => rfl)]
/-! statements -/
variable {D : Ends} {tu tw : TS}
theorem q_next (h : D.nx σ H) : tNext D σ H := h
theorem q_seq (h : tu { D with nx := tw D } σ H) : tSeq tu tw D σ H := h
theorem q_ret (h : EvD K te σ H d) (k : ∀ v H1, Same H H1 → Dp K H1 v d → D.rt v H1) : tRet te D σ H := h H (Same.refl _) _ k
theorem q_if (h : EvB t σ H b) (h1 : b = true → ∀ H1, Same H H1 → tu D σ H1) (h2 : b = false → ∀ H1, Same H H1 → tw D σ H1) : tIfS t tu tw D σ H := h H (Same.refl _) _ fun H1 s => by
  cases b with
  | true => exact iteT (h1 rfl H1 s)
  | false => exact iteF (h2 rfl H1 s)
theorem q_asg {n : Nat} (h : EvD K te σ H d) (k : ∀ v H1, Same H H1 → Dp K H1 v d → D.nx (σ.set n (some v)) H1) : tAsg te (gName n) D σ H := h H (Same.refl _) _ k
end
end K8
set_option maxRecDepth 100000
set_option maxHeartbeats 4000000
/-! FnA: is_whole, is_name, are_unlike, are_names, are_rows. -/
namespace K8
open PySem PySem.Spec PyProof.Rows L2
/-! ### the mathematics -/
def wholeB (i lo hi : Int) : Bool := decide (lo ≤ i) && decide (i ≤ hi)
def signB (c : Nat) : Bool := decide (c ∈ smallC.cps.toList) || decide (c ∈ figC.cps.toList)
def headB (x : Str) : Bool := match x.cps.toList with
  | [] => false
  | c :: _ => decide (c ∈ smallC.cps.toList)
def nameB (x : Str) : Bool := (decide (1 ≤ (x.length : Int)) && decide ((x.length : Int) ≤ 8)) && (headB x && x.cps.toList.all signB)
/-- no two alike, as the text reckons it -/
def unlikeB (ds : List PyData) : Bool := ((List.range ds.length).map fun i => !(ds.take i).any fun z => PyData.eqv z (ds.getD i .none)).all id
def namesB (ss : List Str) (most : Int) : Bool := (decide (1 ≤ (ss.length : Int)) && decide ((ss.length : Int) ≤ most)) && (ss.all nameB && unlikeB (ss.map .str))
def rowLen : PyData → Int
  | .tuple ds => ds.length
  | _ => -1
def isTup : PyData → Bool
  | .tuple _ => true
  | _ => false
def rowsB (ds : List PyData) (most width : Int) : Bool := decide ((ds.length : Int) ≤ most) && ds.all fun d => isTup d && decide (rowLen d = width)
/-! ### the promises -/
def rel_whole (ds : List PyData) (d : PyData) : Prop := ∃ i lo hi : Int, ds = [.int i, .int lo, .int hi] ∧ d = .bool (wholeB i lo hi)
def rel_name (ds : List PyData) (d : PyData) : Prop := ∃ x : Str, ds = [.str x] ∧ x.length ≤ 30000 ∧ d = .bool (nameB x)
def rel_unlike (ds : List PyData) (d : PyData) : Prop := ∃ es : List PyData, ds = [.list es] ∧ es.length ≤ 30000 ∧ (∀ d ∈ es, Flat d) ∧ d = .bool (unlikeB es)
def rel_names (ds : List PyData) (d : PyData) : Prop := ∃ (ss : List Str) (most : Int), ds = [.tuple (ss.map .str), .int most] ∧ ss.length ≤ 30000 ∧ (∀ x ∈ ss, x.length ≤ 30000 ∧ okStr x = true) ∧ d = .bool (namesB ss most)
def rel_rows (ds : List PyData) (d : PyData) : Prop := ∃ (e : PyData) (most width : Int), ds = [e, .int most, .int width] ∧
  ((e = .none ∧ d = .bool false) ∨ ∃ es, e = .tuple es ∧ es.length ≤ 30000 ∧ (∀ x ∈ es, isTup x = true) ∧ d = .bool (rowsB es most width))
section
variable {P : Program} {w : World} {K : PySem.W.Frag} {mg : Str → Option Value} {base : Heap} {f : Addr} {fd : FuncData}
theorem dp3 {H : Hp} {vs : List V} {d e c : PyData} (h : DpAll K H vs [d, e, c]) : ∃ v w z, vs = [v, w, z] ∧ Dp K H v d ∧ Dp K H w e ∧ Dp K H z c := by
  cases h with
  | cons a b =>
    obtain ⟨w, z, rfl, hw, hz⟩ := dp2 b
    exact ⟨_, _, _, rfl, a, hw, hz⟩
/-! ### is_whole -/
theorem ok_is_whole (B : Blt mg) (F : Fun K "is_whole" "is_whole" s_is_whole f fd) : FnOk P w K mg base CX0 1 f fd P_is_whole (PureSp K rel_whole) := by
  refine F.ok sc_is_whole (fun vs H Q E h => ?_) (fun cdv A outer s H vs Q E hr h => ?_)
  · obtain ⟨ds, d, hv, ⟨i, lo, hi, rfl, _⟩, _⟩ := h
    rw [dpl_len hv]
    rfl
  obtain ⟨ds, d, hv, ⟨i, lo, hi, rfl, rfl⟩, q⟩ := h
  obtain ⟨v1, v2, v3, rfl, h1, h2, h3⟩ := dp3 hv
  refine ⟨_, (pss_one (ps_ret (pe_and (pe_callB (cIsi (K := K)) (by rfl) B.isinstance (by decide +kernel) (pa_cons (pv 0) (pa_cons (pe_bltn (v := .ty "int") (by rfl) B.int (by decide +kernel) rfl) pa_nil))) (pe_and (pe_not (pe_callB (cIsi (K := K)) (by rfl) B.isinstance (by decide +kernel) (pa_cons (pv 0) (pa_cons (pe_bltn (v := .ty "bool") (by rfl) B.bool (by decide +kernel) rfl) pa_nil)))) (pe_one (pe_chain op_le op_le (pv 1) (pv 0) (pv 2))))))), ?_⟩
  refine q_ret (ed_and (ed_isi (ed_var rfl h1) k_ii) fun _ => ed_and (ed_not (ed_isi (ed_var rfl h1) k_ib)) fun _ => ed_chain (ed_var rfl h2) (ed_var rfl h1) (ed_var rfl h3)) q
/-! ### is_name -/
theorem ok_is_name (B : Blt mg) {t1 t2 : Tok} (g_SMALL : mg "SMALL" = some (.str smallC t1)) (g_FIGURES : mg "FIGURES" = some (.str figC t2)) (F : Fun K "is_name" "is_name" s_is_name f fd) : FnOk P w K mg base CX0 1 f fd P_is_name (PureSp K rel_name) := by
  refine F.ok sc_is_name (fun vs H Q E h => ?_) (fun cdv A outer s H vs Q E hr h => ?_)
  · obtain ⟨ds, d, hv, ⟨x, rfl, _⟩, _⟩ := h
    rw [dpl_len hv]
    rfl
  obtain ⟨ds, d, hv, ⟨x, rfl, hx, rfl⟩, q⟩ := h
  obtain ⟨v1, rfl, h1⟩ := dp1 hv
  have hxl : x.length = x.cps.toList.length := by
    show x.cps.size = _
    simp
  refine ⟨_, (pss_cons (ps_if (PW.pt (pw_or (pt_not (pt_val (pe_callB (cIsi (K := K)) (by rfl) B.isinstance (by decide +kernel) (pa_cons (pv 0) (pa_cons (pe_bltn (v := .ty "str") (by rfl) B.str (by decide +kernel) rfl) pa_nil))))) (pw_or (pt_not (pt_chain op_le op_le pe_int (pe_callB call_len_str (by rfl) B.len (by decide +kernel) (pa_cons (pv 0) pa_nil)) pe_int)) (pw_or1 (pt_cmpR op_notIn_sign (pe_ix ix_str (pv 0) pe_int (fun _ _ => rfl)) (pe_glob (v := .str smallC) (by rfl) g_SMALL ⟨_, rfl⟩) (by rfl)))))) (pss_one (ps_ret pe_bl)) pss_nil) (pss_one (ps_ret (pe_callB (cAll (K := K) rfl) (by rfl) B.all (by decide +kernel) (pa_cons (pe_lc (own := [("sign", 1)]) rfl sc_is_name.nd (pi_str (pv 0)) (blkOk_by (own := [("sign", 1)]) (N := N_is_name) (sc := defScope s_is_name) (by decide +kernel)) (fun _ _ _ _ _ => (pg_name (i := 1) sc_is_name.nd rfl (by first | exact Or.inl rfl | exact Or.inr rfl))) (fun _ _ _ _ _ => pts_nil) (fun _ _ _ _ _ => (pe_or (pe_cmpR op_in_sign (pv 1) (pe_glob (v := .str smallC) (by rfl) g_SMALL ⟨_, rfl⟩) (by rfl)) (pe_one (pe_cmpR op_in_sign (pv 1) (pe_glob (v := .str figC) (by rfl) g_FIGURES ⟨_, rfl⟩) (by rfl)))))) pa_nil))))), ?_⟩
  refine q_if (b := (!true || (!(decide (1 ≤ (x.length : Int)) && decide ((x.length : Int) ≤ 8)) || !headB x))) (et_or (et_not (et_B (ed_isi (ed_var rfl h1) k_ss))) fun _ => et_or (et_not (et_val (ed_chain ed_int (ed_lenS (ed_var rfl h1) (by omega)) ed_int))) fun hc => ?_) (fun hb H1 s1 => ?_) (fun hb H1 s1 => ?_)
  · cases hl : x.cps.toList with
    | nil =>
      rw [hl] at hxl
      simp [hxl] at hc
    | cons c r =>
      refine (et_val (ed_notInC (ed_ixS (k := 0) (n := c) (ed_var rfl h1) ed_int (by omega) (by rw [hl]; rfl)) (ed_str (x := smallC)))).is ?_
      unfold headB
      rw [hl]
  · refine q_ret (K := K) ed_bl fun v H2 s2 hd => q v H2 (s1.trans s2) ?_
    have e : nameB x = false := by
      unfold nameB
      cases h2 : (decide (1 ≤ (x.length : Int)) && decide ((x.length : Int) ≤ 8)) with
      | false => rfl
      | true =>
        rw [h2] at hb
        have : headB x = false := by simpa using hb
        rw [this]
        rfl
    rw [e]
    exact hd
  · have e : nameB x = (x.cps.toList.map fun c => signB c).all id := by
      unfold nameB
      simp only [Bool.not_true, Bool.false_or, Bool.or_eq_false_iff, Bool.not_eq_false'] at hb
      rw [hb.1, hb.2, Bool.true_and, Bool.true_and, List.all_map]
      rfl
    rw [e] at q
    dsimp only [tNext]
    refine q_ret (ed_all (bs := x.cps.toList.map fun c => signB c) ?_) ?_
    rotate_left
    · exact fun v H2 s2 hd => q v H2 (s1.trans s2) hd
    rw [List.map_map]
    refine ed_lcS (fun c => .bool (signB c)) (ed_var rfl (dp_mono s1 h1)) (by omega) (fun _ => rfl) (fun c _ H2 s2 => ?_) (fun _ _ => rfl)
    exact ed_or (ed_inC (ed_var rfl (.str _)) (ed_str (x := smallC))) fun _ => ed_inC (ed_var rfl (.str _)) (ed_str (x := figC))
/-! ### are_unlike -/
theorem ok_are_unlike (B : Blt mg) (F : Fun K "are_unlike" "are_unlike" s_are_unlike f fd) : FnOk P w K mg base CX0 1 f fd P_are_unlike (PureSp K rel_unlike) := by
  refine F.ok sc_are_unlike (fun vs H Q E h => ?_) (fun cdv A outer s H vs Q E hr h => ?_)
  · obtain ⟨ds, d, hv, ⟨x, rfl, _⟩, _⟩ := h
    rw [dpl_len hv]
    rfl
  obtain ⟨ds, d, hv, ⟨es, rfl, hz, hsh, rfl⟩, q⟩ := h
  obtain ⟨v1, rfl, h1⟩ := dp1 hv
  have hu := units65 hr
  refine ⟨_, (pss_one (ps_ret (pe_callB (cAll (K := K) rfl) (by rfl) B.all (by decide +kernel) (pa_cons (pe_lc (own := [("at", 1)]) rfl sc_are_unlike.nd (pi_range1 (by rfl) B.range (pa_cons (pe_callB (cLen (K := K)) (by rfl) B.len (by decide +kernel) (pa_cons (pv 0) pa_nil)) pa_nil)) (blkOk_by (own := [("at", 1)]) (N := N_are_unlike) (sc := defScope s_are_unlike) (by decide +kernel)) (fun _ _ _ _ _ => (pg_name (i := 1) sc_are_unlike.nd rfl (by first | exact Or.inl rfl | exact Or.inr rfl))) (fun _ _ _ _ _ => pts_nil) (fun _ _ _ _ _ => (pe_cmpR (opNinD (K := K) hu) (pe_ix (ixL (K := K)) (pv 0) (pv 1) (fun _ _ => rfl)) (pe_slice (slL (K := K)) (pv 0) po_none (po_some (pv 1))) (by rfl)))) pa_nil)))), ?_⟩
  refine q_ret (ed_all (bs := (List.range es.length).map fun i => !(es.take i).any fun z => PyData.eqv z (es.getD i .none)) ?_) q
  rw [List.map_map]
  refine ed_lcR _ (ea_cons (ed_lenL (ed_var rfl h1)) ea_nil) (by omega) (fun _ => rfl) (fun i hi H1 s1 => ?_) (fun _ _ => rfl)
  have hg : es[i]? = some (es.getD i .none) := by simp [List.getD_eq_getElem?_getD, hi]
  refine ed_notInD (ed_ixL (k := i) (ed_var rfl (dp_mono s1 h1)) (ed_var rfl (.int _)) hg) (ed_slL (n := i) (ed_var rfl (dp_mono s1 h1)) (ed_var rfl (.int _))) ?_ ?_
  · exact shaped_of (hsh _ (List.mem_of_getElem? hg))
  · exact shaped_list fun d hd => hsh d (List.mem_of_mem_take hd)
/-! ### are_names -/
theorem ok_are_names (B : Blt mg) (c_is_name : Cal P w K mg base "is_name" s_is_name CX0 1 P_is_name (PureSp K rel_name)) (c_are_unlike : Cal P w K mg base "are_unlike" s_are_unlike CX0 1 P_are_unlike (PureSp K rel_unlike))
    (F : Fun K "are_names" "are_names" s_are_names f fd) : FnOk P w K mg base CX0 2 f fd P_are_names (PureSp K rel_names) := by
  obtain ⟨_, _, F_is_name, b_is_name, G_is_name⟩ := c_is_name
  obtain ⟨_, _, F_are_unlike, b_are_unlike, G_are_unlike⟩ := c_are_unlike
  refine F.ok sc_are_names (fun vs H Q E h => ?_) (fun cdv A outer s H vs Q E hr h => ?_)
  · obtain ⟨ds, d, hv, ⟨ss, most, rfl, _⟩, _⟩ := h
    rw [dpl_len hv]
    rfl
  obtain ⟨ds, d, hv, ⟨ss, most, rfl, hz, hx, rfl⟩, q⟩ := h
  obtain ⟨v1, v2, rfl, h1, h2⟩ := dp2 hv
  refine ⟨_, (pss_cons (ps_if (PW.pt (pw_or (pt_not (pt_val (pe_callB (cIsi (K := K)) (by rfl) B.isinstance (by decide +kernel) (pa_cons (pv 0) (pa_cons (pe_bltn (v := .ty "tuple") (by rfl) B.tuple (by decide +kernel) rfl) pa_nil))))) (pw_or1 (pt_not (pt_chain op_le op_le pe_int (pe_callB (cLen (K := K)) (by rfl) B.len (by decide +kernel) (pa_cons (pv 0) pa_nil)) (pv 1)))))) (pss_one (ps_ret pe_bl)) pss_nil) (pss_one (ps_ret (pe_and (pe_callB (cAll (K := K) rfl) (by rfl) B.all (by decide +kernel) (pa_cons (pe_lc (own := [("one", 2)]) rfl sc_are_names.nd (piT (K := K) (pv 0)) (blkOk_by (own := [("one", 2)]) (N := N_are_names) (sc := defScope s_are_names) (by decide +kernel)) (fun _ _ _ _ _ => (pg_name (i := 2) sc_are_names.nd rfl (by first | exact Or.inl rfl | exact Or.inr rfl))) (fun _ _ _ _ _ => pts_nil) (fun _ _ _ _ _ => (pe_call G_is_name (hr.mono (by first | decide | omega)) (by rfl) F_is_name.g F_is_name.kp b_is_name .nil pass0 (pa_cons (pv 2) pa_nil)))) pa_nil)) (pe_one (pe_call G_are_unlike (hr.mono (by first | decide | omega)) (by rfl) F_are_unlike.g F_are_unlike.kp b_are_unlike .nil pass0 (pa_cons (pe_callTy (cList (K := K)) (by rfl) B.list (by decide +kernel) (pa_cons (pv 0) pa_nil)) pa_nil))))))), ?_⟩
  refine q_if (et_or (et_not (et_B (ed_isi (ed_var rfl h1) k_tt))) fun _ => et_not (et_val (ed_chain ed_int (ed_lenT (ed_var rfl h1)) (ed_var rfl h2)))) (fun hb H1 s1 => ?_) (fun hb H1 s1 => ?_)
  · refine q_ret (K := K) ed_bl fun v H2 s2 hd => q v H2 (s1.trans s2) ?_
    have e : namesB ss most = false := by
      unfold namesB
      simp only [Bool.not_true, Bool.false_or, Bool.not_eq_true', List.length_map] at hb
      rw [hb]
      rfl
    rw [e]
    exact hd
  · dsimp only [tNext]
    have e : namesB ss most = (ss.all nameB && unlikeB (ss.map .str)) := by
      unfold namesB
      simp only [Bool.not_true, Bool.false_or, Bool.not_eq_false', List.length_map] at hb
      rw [hb]
      rfl
    have e2 : ss.all nameB = (ss.map nameB).all id := by rw [List.all_map]; rfl
    rw [e, e2] at q
    refine q_ret (ed_and (ed_all (bs := ss.map nameB) ?_) fun _ => ed_call (ea_cons (ed_list (ed_var rfl (dp_mono s1 h1))) ea_nil) ⟨_, rfl, by rw [List.length_map]; exact hz, ?_, rfl⟩) ?_
    rotate_left
    · intro d hd
      obtain ⟨x, hm, rfl⟩ := List.mem_map.mp hd
      exact flat_str (hx x hm).2
    · exact fun v H2 s2 hd => q v H2 (s1.trans s2) hd
    have er : (ss.map nameB).map PyData.bool = (ss.map PyData.str).map fun d => match d with
      | .str x => .bool (nameB x)
      | d => d := by
      rw [List.map_map, List.map_map]
      rfl
    rw [er, ← keepD_all]
    refine ed_lcT _ _ (ed_var rfl (dp_mono s1 h1)) (by rw [List.length_map]; omega) (fun _ => rfl) (fun _ _ _ _ _ _ => et_yes) (fun d hd _ x H2 s2 hxd => ?_) (fun d hd _ => ?_)
    · obtain ⟨y, hm, rfl⟩ := List.mem_map.mp hd
      exact ed_call (ea_cons (ed_var rfl hxd) ea_nil) ⟨y, rfl, (hx y hm).1, rfl⟩
    · obtain ⟨y, hm, rfl⟩ := List.mem_map.mp hd
      rfl
/-! ### are_rows -/
theorem ok_are_rows (B : Blt mg) (F : Fun K "are_rows" "are_rows" s_are_rows f fd) : FnOk P w K mg base CX0 1 f fd P_are_rows (PureSp K rel_rows) := by
  refine F.ok sc_are_rows (fun vs H Q E h => ?_) (fun cdv A outer s H vs Q E hr h => ?_)
  · obtain ⟨ds, d, hv, ⟨e, most, width, rfl, _⟩, _⟩ := h
    rw [dpl_len hv]
    rfl
  obtain ⟨ds, d, hv, ⟨e, most, width, rfl, hd⟩, q⟩ := h
  obtain ⟨v1, v2, v3, rfl, h1, h2, h3⟩ := dp3 hv
  refine ⟨_, (pss_cons (ps_if (PW.pt (pw_or (pt_not (pt_val (pe_callB (cIsi (K := K)) (by rfl) B.isinstance (by decide +kernel) (pa_cons (pv 0) (pa_cons (pe_bltn (v := .ty "tuple") (by rfl) B.tuple (by decide +kernel) rfl) pa_nil))))) (pw_or1 (pt_cmpR op_gt (pe_callB (cLen (K := K)) (by rfl) B.len (by decide +kernel) (pa_cons (pv 0) pa_nil)) (pv 1) (nomark _))))) (pss_one (ps_ret pe_bl)) pss_nil) (pss_one (ps_ret (pe_callB (cAll (K := K) rfl) (by rfl) B.all (by decide +kernel) (pa_cons (pe_lc (own := [("one", 3)]) rfl sc_are_rows.nd (piT (K := K) (pv 0)) (blkOk_by (own := [("one", 3)]) (N := N_are_rows) (sc := defScope s_are_rows) (by decide +kernel)) (fun _ _ _ _ _ => (pg_name (i := 3) sc_are_rows.nd rfl (by first | exact Or.inl rfl | exact Or.inr rfl))) (fun _ _ _ _ _ => pts_nil) (fun _ _ _ _ _ => (pe_and (pe_callB (cIsi (K := K)) (by rfl) B.isinstance (by decide +kernel) (pa_cons (pv 3) (pa_cons (pe_bltn (v := .ty "tuple") (by rfl) B.tuple (by decide +kernel) rfl) pa_nil))) (pe_one (pe_cmpR op_eq (pe_callB (cLen (K := K)) (by rfl) B.len (by decide +kernel) (pa_cons (pv 3) pa_nil)) (pv 2) (nomark _)))))) pa_nil))))), ?_⟩
  rcases hd with ⟨rfl, rfl⟩ | ⟨es, rfl, hz, ht, rfl⟩
  · refine q_if (b := true) ((et_or (b := true) (et_not (et_B (ed_isi (ed_var rfl h1) k_nt))) fun z => Bool.noConfusion z)) (fun _ H1 s1 => ?_) (fun hb => Bool.noConfusion hb)
    exact q_ret (K := K) ed_bl fun v H2 s2 hd => q v H2 (s1.trans s2) hd
  · refine q_if (et_or (et_not (et_B (ed_isi (ed_var rfl h1) k_tt))) fun _ => et_val (ed_I0b (ed_lenT (ed_var rfl h1)) (ed_var rfl h2))) (fun hb H1 s1 => ?_) (fun hb H1 s1 => ?_)
    · refine q_ret (K := K) ed_bl fun v H2 s2 hd => q v H2 (s1.trans s2) ?_
      have e : rowsB es most width = false := by
        unfold rowsB
        have : most < (es.length : Int) := by simpa using hb
        rw [decide_eq_false (by omega)]
        rfl
      rw [e]
      exact hd
    · dsimp only [tNext]
      have e : rowsB es most width = (es.map fun d => (isTup d && decide (rowLen d = width))).all id := by
        unfold rowsB
        have : ¬ most < (es.length : Int) := by simpa using hb
        rw [decide_eq_true (by omega), Bool.true_and, List.all_map]
        rfl
      rw [e] at q
      refine q_ret (ed_all (bs := es.map fun d => (isTup d && decide (rowLen d = width))) ?_) ?_
      rotate_left
      · exact fun v H2 s2 hd => q v H2 (s1.trans s2) hd
      rw [List.map_map, ← keepD_all]
      refine ed_lcT _ _ (ed_var rfl (dp_mono s1 h1)) (by omega) (fun _ => rfl) (fun _ _ _ _ _ _ => et_yes) (fun d hd _ x H2 s2 hxd => ?_) (fun _ _ _ => rfl)
      have htd := ht d hd
      cases d with
      | tuple xs => exact ed_and (ed_isi (ed_var rfl hxd) k_tt) fun _ => ed_eqI (ed_lenT (ed_var rfl hxd)) (ed_var rfl (dp_mono (s1.trans s2) h3))
      | _ => exact Bool.noConfusion htd
end
end K8
set_option maxRecDepth 100000
set_option maxHeartbeats 4000000
/-! FnB: is_lane, is_supply, is_catalog, need_catalog: of a good catalog, True. -/
namespace K8
open PySem PySem.Spec PyProof.Rows L2
/-! ### catalogs -/
structure Lane where
  h : Str
  r : Str
  l : Int
  m : Int
  p : Int
structure Supply where
  n : Str
  h : Str
  i : Str
  d : Int
  c : Int
def laneD (l : Lane) : PyData := .tuple [.str l.h, .str l.r, .int l.l, .int l.m, .int l.p]
def supD (s : Supply) : PyData := .tuple [.str s.n, .str s.h, .str s.i, .int s.d, .int s.c]
structure Cat where
  hs : List Str
  rs : List Str
  is : List Str
  ls : List Lane
  ss : List Supply
def strsD (ss : List Str) : PyData := .tuple (ss.map .str)
def catD (C : Cat) : PyData := .tuple [strsD C.hs, strsD C.rs, strsD C.is, .tuple (C.ls.map laneD), .tuple (C.ss.map supD)]
/-- a text that the text's own tests may look at -/
def Fine (x : Str) : Prop := x.length ≤ 30000 ∧ okStr x = true
structure LaneOk (C : Cat) (l : Lane) : Prop where
  h1 : l.h ∈ C.hs
  r1 : l.r ∈ C.rs
  m1 : 0 ≤ l.m ∧ l.m ≤ 9
  l1 : 0 ≤ l.l ∧ l.l ≤ l.m
  p1 : 0 ≤ l.p ∧ l.p ≤ 99
structure SupOk (C : Cat) (s : Supply) : Prop where
  n1 : nameB s.n = true ∧ Fine s.n
  h1 : s.h ∈ C.hs
  i1 : s.i ∈ C.is
  d1 : 0 ≤ s.d ∧ s.d ≤ 60
  c1 : 0 ≤ s.c ∧ s.c ≤ 99
def keyD (l : Lane) : PyData := .tuple [.str l.h, .str l.r]
structure GoodCat (C : Cat) : Prop where
  hs : namesB C.hs 5 = true
  rs : namesB C.rs 5 = true
  is : namesB C.is 5 = true
  fine : ∀ x, x ∈ C.hs ∨ x ∈ C.rs ∨ x ∈ C.is → Fine x
  ll : C.ls.length ≤ 20
  sl : C.ss.length ≤ 14
  lanes : ∀ l ∈ C.ls, LaneOk C l
  sups : ∀ s ∈ C.ss, SupOk C s
  keys : unlikeB (C.ls.map keyD) = true
  names : unlikeB (C.ss.map fun s => .str s.n) = true
theorem names_len {ss : List Str} {m : Int} (h : namesB ss m = true) : 1 ≤ ss.length ∧ (ss.length : Int) ≤ m := by
  unfold namesB at h
  simp only [Bool.and_eq_true, decide_eq_true_eq] at h
  omega
theorem names_all {ss : List Str} {m : Int} (h : namesB ss m = true) : ∀ x ∈ ss, nameB x = true := by
  unfold namesB at h
  simp only [Bool.and_eq_true] at h
  exact List.all_eq_true.mp h.2.1
theorem rows_lanes (ls : List Lane) (h : ls.length ≤ 20) : rowsB (ls.map laneD) 20 5 = true := by
  unfold rowsB
  rw [List.length_map, decide_eq_true (by omega), Bool.true_and]
  exact List.all_eq_true.mpr fun d hd => by
    obtain ⟨l, _, rfl⟩ := List.mem_map.mp hd
    rfl
theorem rows_sups (ls : List Supply) (h : ls.length ≤ 14) : rowsB (ls.map supD) 14 5 = true := by
  unfold rowsB
  rw [List.length_map, decide_eq_true (by omega), Bool.true_and]
  exact List.all_eq_true.mpr fun d hd => by
    obtain ⟨l, _, rfl⟩ := List.mem_map.mp hd
    rfl
theorem whole_yes {i lo hi : Int} (h : lo ≤ i ∧ i ≤ hi) : wholeB i lo hi = true := by
  unfold wholeB
  rw [decide_eq_true h.1, decide_eq_true h.2]
  rfl
/-! ### the promises -/
def rel_lane (ds : List PyData) (d : PyData) : Prop := ∃ (C : Cat) (l : Lane), ds = [laneD l, strsD C.hs, strsD C.rs] ∧ GoodCat C ∧ LaneOk C l ∧ d = .bool true
def rel_supply (ds : List PyData) (d : PyData) : Prop := ∃ (C : Cat) (l : Supply), ds = [supD l, strsD C.hs, strsD C.is] ∧ GoodCat C ∧ SupOk C l ∧ d = .bool true
def rel_catalog (ds : List PyData) (d : PyData) : Prop := ∃ C : Cat, ds = [catD C] ∧ GoodCat C ∧ d = .bool true
def rel_need (ds : List PyData) (d : PyData) : Prop := ∃ C : Cat, ds = [catD C] ∧ GoodCat C ∧ d = .none
section
variable {P : Program} {w : World} {K : PySem.W.Frag} {mg : Str → Option Value} {base : Heap} {f : Addr} {fd : FuncData}
theorem dp5 {H : Hp} {vs : List V} {a b c d e : PyData} (h : DpAll K H vs [a, b, c, d, e]) : ∃ v1 v2 v3 v4 v5, vs = [v1, v2, v3, v4, v5] ∧ Dp K H v1 a ∧ Dp K H v2 b ∧ Dp K H v3 c ∧ Dp K H v4 d ∧ Dp K H v5 e := by
  cases h with
  | cons h1 h =>
    cases h with
    | cons h2 h =>
      obtain ⟨v3, v4, v5, rfl, h3, h4, h5⟩ := dp3 h
      exact ⟨_, _, _, _, _, rfl, h1, h2, h3, h4, h5⟩
/-! ### is_lane -/
theorem ok_is_lane (B : Blt mg) (c_is_name : Cal P w K mg base "is_name" s_is_name CX0 1 P_is_name (PureSp K rel_name)) (c_is_whole : Cal P w K mg base "is_whole" s_is_whole CX0 1 P_is_whole (PureSp K rel_whole))
    (F : Fun K "is_lane" "is_lane" s_is_lane f fd) : FnOk P w K mg base CX0 2 f fd P_is_lane (PureSp K rel_lane) := by
  obtain ⟨_, _, F_is_name, b_is_name, G_is_name⟩ := c_is_name
  obtain ⟨_, _, F_is_whole, b_is_whole, G_is_whole⟩ := c_is_whole
  refine F.ok sc_is_lane (fun vs H Q E h => ?_) (fun cdv A outer s H vs Q E hr h => ?_)
  · obtain ⟨ds, d, hv, ⟨C, l, rfl, _⟩, _⟩ := h
    rw [dpl_len hv]
    rfl
  obtain ⟨ds, d, hv, ⟨C, l, rfl, good, ok, rfl⟩, q⟩ := h
  obtain ⟨v1, v2, v3, rfl, h1, h2, h3⟩ := dp3 hv
  obtain ⟨a, xs, rfl, ha, hx⟩ := dp_tup h1
  obtain ⟨x1, x2, x3, x4, x5, rfl, g1, g2, g3, g4, g5⟩ := dp5 hx
  refine ⟨_, (pss_cons (ps_asg (pv 0) (pgT (K := K) rfl (pgs_cons (pg_name (i := 3) sc_is_lane.nd rfl (by first | exact Or.inl rfl | exact Or.inr rfl)) (pgs_cons (pg_name (i := 4) sc_is_lane.nd rfl (by first | exact Or.inl rfl | exact Or.inr rfl)) (pgs_cons (pg_name (i := 5) sc_is_lane.nd rfl (by first | exact Or.inl rfl | exact Or.inr rfl)) (pgs_cons (pg_name (i := 6) sc_is_lane.nd rfl (by first | exact Or.inl rfl | exact Or.inr rfl)) (pgs_cons (pg_name (i := 7) sc_is_lane.nd rfl (by first | exact Or.inl rfl | exact Or.inr rfl)) pgs_nil))))))) (pss_cons (ps_if (PW.pt (pw_or (pt_not (pt_val (pe_call G_is_name (hr.mono (by first | decide | omega)) (by rfl) F_is_name.g F_is_name.kp b_is_name .nil pass0 (pa_cons (pv 3) pa_nil)))) (pw_or (pt_not (pt_val (pe_call G_is_name (hr.mono (by first | decide | omega)) (by rfl) F_is_name.g F_is_name.kp b_is_name .nil pass0 (pa_cons (pv 4) pa_nil)))) (pw_or (pt_cmpR (opNin (K := K)) (pv 3) (pv 1) (by rfl)) (pw_or1 (pt_cmpR (opNin (K := K)) (pv 4) (pv 2) (by rfl))))))) (pss_one (ps_ret pe_bl)) pss_nil) (pss_one (ps_ret (pe_and (pe_call G_is_whole (hr.mono (by first | decide | omega)) (by rfl) F_is_whole.g F_is_whole.kp b_is_whole .nil pass0 (pa_cons (pv 6) (pa_cons pe_int (pa_cons pe_int pa_nil)))) (pe_and (pe_call G_is_whole (hr.mono (by first | decide | omega)) (by rfl) F_is_whole.g F_is_whole.kp b_is_whole .nil pass0 (pa_cons (pv 5) (pa_cons pe_int (pa_cons (pv 6) pa_nil)))) (pe_one (pe_call G_is_whole (hr.mono (by first | decide | omega)) (by rfl) F_is_whole.g F_is_whole.kp b_is_whole .nil pass0 (pa_cons (pv 7) (pa_cons pe_int (pa_cons pe_int pa_nil))))))))))), ?_⟩
  refine ⟨_, rfl, a, _, rfl, ha, rfl, x1, _, rfl, x2, _, rfl, x3, _, rfl, x4, _, rfl, x5, _, rfl, rfl, ?_⟩
  have nh : nameB l.h = true := names_all good.hs _ ok.h1
  have nr : nameB l.r = true := names_all good.rs _ ok.r1
  refine q_if (b := false) ((et_or (et_not (et_B (ed_call (ea_cons (ed_var rfl g1) ea_nil) ⟨_, rfl, (good.fine _ (.inl ok.h1)).1, rfl⟩))) fun _ => et_or (et_not (et_B (ed_call (ea_cons (ed_var rfl g2) ea_nil) ⟨_, rfl, (good.fine _ (.inr (.inl ok.r1))).1, rfl⟩)))
    fun _ => et_or (et_val (ed_notIn (ed_var rfl g1) (ed_var rfl h2))) fun _ => et_val (ed_notIn (ed_var rfl g2) (ed_var rfl h3))).is ?_) (fun hb => Bool.noConfusion hb) (fun _ H1 s1 => ?_)
  · rw [nh, nr, decide_eq_true ok.h1, decide_eq_true ok.r1]
    rfl
  · dsimp only [tNext]
    refine q_ret ((ed_and (ed_call (ea_cons (ed_var rfl (dp_mono s1 g4)) (ea_cons ed_int (ea_cons ed_int ea_nil))) ⟨_, _, _, rfl, rfl⟩) fun _ => ed_and (ed_call (ea_cons (ed_var rfl (dp_mono s1 g3)) (ea_cons ed_int (ea_cons (ed_var rfl (dp_mono s1 g4)) ea_nil))) ⟨_, _, _, rfl, rfl⟩)
      fun _ => ed_call (ea_cons (ed_var rfl (dp_mono s1 g5)) (ea_cons ed_int (ea_cons ed_int ea_nil))) ⟨_, _, _, rfl, rfl⟩).is ?_) (fun v H2 s2 hd => q v H2 (s1.trans s2) hd)
    rw [whole_yes ok.m1, whole_yes ok.l1, whole_yes ok.p1]
    rfl
/-! ### is_supply -/
theorem ok_is_supply (B : Blt mg) {t1 : Tok} (g_LAST_DAY : mg "LAST_DAY" = some (.int 60 t1)) (c_is_name : Cal P w K mg base "is_name" s_is_name CX0 1 P_is_name (PureSp K rel_name)) (c_is_whole : Cal P w K mg base "is_whole" s_is_whole CX0 1 P_is_whole (PureSp K rel_whole))
    (F : Fun K "is_supply" "is_supply" s_is_supply f fd) : FnOk P w K mg base CX0 2 f fd P_is_supply (PureSp K rel_supply) := by
  obtain ⟨_, _, F_is_name, b_is_name, G_is_name⟩ := c_is_name
  obtain ⟨_, _, F_is_whole, b_is_whole, G_is_whole⟩ := c_is_whole
  refine F.ok sc_is_supply (fun vs H Q E h => ?_) (fun cdv A outer s H vs Q E hr h => ?_)
  · obtain ⟨ds, d, hv, ⟨C, l, rfl, _⟩, _⟩ := h
    rw [dpl_len hv]
    rfl
  obtain ⟨ds, d, hv, ⟨C, l, rfl, good, ok, rfl⟩, q⟩ := h
  obtain ⟨v1, v2, v3, rfl, h1, h2, h3⟩ := dp3 hv
  obtain ⟨a, xs, rfl, ha, hx⟩ := dp_tup h1
  obtain ⟨x1, x2, x3, x4, x5, rfl, g1, g2, g3, g4, g5⟩ := dp5 hx
  refine ⟨_, (pss_cons (ps_asg (pv 0) (pgT (K := K) rfl (pgs_cons (pg_name (i := 3) sc_is_supply.nd rfl (by first | exact Or.inl rfl | exact Or.inr rfl)) (pgs_cons (pg_name (i := 4) sc_is_supply.nd rfl (by first | exact Or.inl rfl | exact Or.inr rfl)) (pgs_cons (pg_name (i := 5) sc_is_supply.nd rfl (by first | exact Or.inl rfl | exact Or.inr rfl)) (pgs_cons (pg_name (i := 6) sc_is_supply.nd rfl (by first | exact Or.inl rfl | exact Or.inr rfl)) (pgs_cons (pg_name (i := 7) sc_is_supply.nd rfl (by first | exact Or.inl rfl | exact Or.inr rfl)) pgs_nil))))))) (pss_cons (ps_if (PW.pt (pw_or (pt_not (pt_val (pe_call G_is_name (hr.mono (by first | decide | omega)) (by rfl) F_is_name.g F_is_name.kp b_is_name .nil pass0 (pa_cons (pv 3) pa_nil)))) (pw_or (pt_not (pt_val (pe_call G_is_name (hr.mono (by first | decide | omega)) (by rfl) F_is_name.g F_is_name.kp b_is_name .nil pass0 (pa_cons (pv 4) pa_nil)))) (pw_or (pt_not (pt_val (pe_call G_is_name (hr.mono (by first | decide | omega)) (by rfl) F_is_name.g F_is_name.kp b_is_name .nil pass0 (pa_cons (pv 5) pa_nil)))) (pw_or (pt_cmpR (opNin (K := K)) (pv 4) (pv 1) (by rfl)) (pw_or1 (pt_cmpR (opNin (K := K)) (pv 5) (pv 2) (by rfl)))))))) (pss_one (ps_ret pe_bl)) pss_nil) (pss_one (ps_ret (pe_and (pe_call G_is_whole (hr.mono (by first | decide | omega)) (by rfl) F_is_whole.g F_is_whole.kp b_is_whole .nil pass0 (pa_cons (pv 6) (pa_cons pe_int (pa_cons (pe_glob (v := .int 60) (by rfl) g_LAST_DAY ⟨_, rfl⟩) pa_nil)))) (pe_one (pe_call G_is_whole (hr.mono (by first | decide | omega)) (by rfl) F_is_whole.g F_is_whole.kp b_is_whole .nil pass0 (pa_cons (pv 7) (pa_cons pe_int (pa_cons pe_int pa_nil)))))))))), ?_⟩
  refine ⟨_, rfl, a, _, rfl, ha, rfl, x1, _, rfl, x2, _, rfl, x3, _, rfl, x4, _, rfl, x5, _, rfl, rfl, ?_⟩
  have nh : nameB l.h = true := names_all good.hs _ ok.h1
  have ni : nameB l.i = true := names_all good.is _ ok.i1
  refine q_if (b := false) ((et_or (et_not (et_B (ed_call (ea_cons (ed_var rfl g1) ea_nil) ⟨_, rfl, ok.n1.2.1, rfl⟩))) fun _ => et_or (et_not (et_B (ed_call (ea_cons (ed_var rfl g2) ea_nil) ⟨_, rfl, (good.fine _ (.inl ok.h1)).1, rfl⟩)))
    fun _ => et_or (et_not (et_B (ed_call (ea_cons (ed_var rfl g3) ea_nil) ⟨_, rfl, (good.fine _ (.inr (.inr ok.i1))).1, rfl⟩)))
    fun _ => et_or (et_val (ed_notIn (ed_var rfl g2) (ed_var rfl h2))) fun _ => et_val (ed_notIn (ed_var rfl g3) (ed_var rfl h3))).is ?_) (fun hb => Bool.noConfusion hb) (fun _ H1 s1 => ?_)
  · rw [ok.n1.1, nh, ni, decide_eq_true ok.h1, decide_eq_true ok.i1]
    rfl
  · dsimp only [tNext]
    refine q_ret ((ed_and (ed_call (ea_cons (ed_var rfl (dp_mono s1 g4)) (ea_cons ed_int (ea_cons ed_int ea_nil))) ⟨_, _, _, rfl, rfl⟩)
      fun _ => ed_call (ea_cons (ed_var rfl (dp_mono s1 g5)) (ea_cons ed_int (ea_cons ed_int ea_nil))) ⟨_, _, _, rfl, rfl⟩).is ?_) (fun v H2 s2 hd => q v H2 (s1.trans s2) hd)
    rw [whole_yes ok.d1, whole_yes ok.c1]
    rfl
/-! ### is_catalog -/
theorem all_true : ∀ {α : Type} (l : List α), (l.map fun _ => true).all id = true
  | _, [] => rfl
  | _, _ :: r => by
    rw [List.map_cons, List.all_cons, all_true r]
    rfl
theorem map_true {α : Type} (l : List α) : (l.map fun _ => PyData.bool true) = (l.map fun _ => true).map PyData.bool := by
  rw [List.map_map]
  rfl
theorem ok_is_catalog (B : Blt mg) {t1 t2 t3 : Tok} (g_MOST_PLACES : mg "MOST_PLACES" = some (.int 5 t1)) (g_MOST_LANES : mg "MOST_LANES" = some (.int 20 t2)) (g_MOST_SUPPLIES : mg "MOST_SUPPLIES" = some (.int 14 t3))
    (c_are_names : Cal P w K mg base "are_names" s_are_names CX0 2 P_are_names (PureSp K rel_names)) (c_are_rows : Cal P w K mg base "are_rows" s_are_rows CX0 1 P_are_rows (PureSp K rel_rows))
    (c_are_unlike : Cal P w K mg base "are_unlike" s_are_unlike CX0 1 P_are_unlike (PureSp K rel_unlike))
    (c_is_lane : Cal P w K mg base "is_lane" s_is_lane CX0 2 P_is_lane (PureSp K rel_lane)) (c_is_supply : Cal P w K mg base "is_supply" s_is_supply CX0 2 P_is_supply (PureSp K rel_supply))
    (F : Fun K "is_catalog" "is_catalog" s_is_catalog f fd) : FnOk P w K mg base CX0 3 f fd P_is_catalog (PureSp K rel_catalog) := by
  obtain ⟨_, _, F_are_names, b_are_names, G_are_names⟩ := c_are_names
  obtain ⟨_, _, F_are_rows, b_are_rows, G_are_rows⟩ := c_are_rows
  obtain ⟨_, _, F_are_unlike, b_are_unlike, G_are_unlike⟩ := c_are_unlike
  obtain ⟨_, _, F_is_lane, b_is_lane, G_is_lane⟩ := c_is_lane
  obtain ⟨_, _, F_is_supply, b_is_supply, G_is_supply⟩ := c_is_supply
  refine F.ok sc_is_catalog (fun vs H Q E h => ?_) (fun cdv A outer s H vs Q E hr h => ?_)
  · obtain ⟨ds, d, hv, ⟨C, rfl, _⟩, _⟩ := h
    rw [dpl_len hv]
    rfl
  obtain ⟨ds, d, hv, ⟨C, rfl, good, rfl⟩, q⟩ := h
  obtain ⟨v1, rfl, h1⟩ := dp1 hv
  refine ⟨_, (pss_cons (ps_if (PW.pt (pw_or (pt_not (pt_val (pe_callB (cIsi (K := K)) (by rfl) B.isinstance (by decide +kernel) (pa_cons (pv 0) (pa_cons (pe_bltn (v := .ty "tuple") (by rfl) B.tuple (by decide +kernel) rfl) pa_nil))))) (pw_or1 (pt_cmpR op_ne (pe_callB (cLen (K := K)) (by rfl) B.len (by decide +kernel) (pa_cons (pv 0) pa_nil)) pe_int (nomark _))))) (pss_one (ps_ret pe_bl)) pss_nil) (pss_cons (ps_asg (pv 0) (pgT (K := K) rfl (pgs_cons (pg_name (i := 1) sc_is_catalog.nd rfl (by first | exact Or.inl rfl | exact Or.inr rfl)) (pgs_cons (pg_name (i := 2) sc_is_catalog.nd rfl (by first | exact Or.inl rfl | exact Or.inr rfl)) (pgs_cons (pg_name (i := 3) sc_is_catalog.nd rfl (by first | exact Or.inl rfl | exact Or.inr rfl)) (pgs_cons (pg_name (i := 4) sc_is_catalog.nd rfl (by first | exact Or.inl rfl | exact Or.inr rfl)) (pgs_cons (pg_name (i := 5) sc_is_catalog.nd rfl (by first | exact Or.inl rfl | exact Or.inr rfl)) pgs_nil))))))) (pss_cons (ps_if (pt_not (pt_val (pe_callB (cAll (K := K) rfl) (by rfl) B.all (by decide +kernel) (pa_cons (pe_lc (own := [("part", 6)]) rfl sc_is_catalog.nd (piT (K := K) (pe_tup (pa_cons (pv 1) (pa_cons (pv 2) (pa_cons (pv 3) pa_nil))))) (blkOk_by (own := [("part", 6)]) (N := N_is_catalog) (sc := defScope s_is_catalog) (by decide +kernel)) (fun _ _ _ _ _ => (pg_name (i := 6) sc_is_catalog.nd rfl (by first | exact Or.inl rfl | exact Or.inr rfl))) (fun _ _ _ _ _ => pts_nil) (fun _ _ _ _ _ => (pe_call G_are_names (hr.mono (by first | decide | omega)) (by rfl) F_are_names.g F_are_names.kp b_are_names .nil pass0 (pa_cons (pv 6) (pa_cons (pe_glob (v := .int 5) (by rfl) g_MOST_PLACES ⟨_, rfl⟩) pa_nil))))) pa_nil)))) (pss_one (ps_ret pe_bl)) pss_nil) (pss_cons (ps_if (PW.pt (pw_or (pt_not (pt_val (pe_call G_are_rows (hr.mono (by first | decide | omega)) (by rfl) F_are_rows.g F_are_rows.kp b_are_rows .nil pass0 (pa_cons (pv 4) (pa_cons (pe_glob (v := .int 20) (by rfl) g_MOST_LANES ⟨_, rfl⟩) (pa_cons pe_int pa_nil)))))) (pw_or1 (pt_not (pt_val (pe_call G_are_rows (hr.mono (by first | decide | omega)) (by rfl) F_are_rows.g F_are_rows.kp b_are_rows .nil pass0 (pa_cons (pv 5) (pa_cons (pe_glob (v := .int 14) (by rfl) g_MOST_SUPPLIES ⟨_, rfl⟩) (pa_cons pe_int pa_nil))))))))) (pss_one (ps_ret pe_bl)) pss_nil) (pss_cons (ps_if (pt_not (pt_val (pe_callB (cAll (K := K) rfl) (by rfl) B.all (by decide +kernel) (pa_cons (pe_lc (own := [("lane", 7)]) rfl sc_is_catalog.nd (piT (K := K) (pv 4)) (blkOk_by (own := [("lane", 7)]) (N := N_is_catalog) (sc := defScope s_is_catalog) (by decide +kernel)) (fun _ _ _ _ _ => (pg_name (i := 7) sc_is_catalog.nd rfl (by first | exact Or.inl rfl | exact Or.inr rfl))) (fun _ _ _ _ _ => pts_nil) (fun _ _ _ _ _ => (pe_call G_is_lane (hr.mono (by first | decide | omega)) (by rfl) F_is_lane.g F_is_lane.kp b_is_lane .nil pass0 (pa_cons (pv 7) (pa_cons (pv 1) (pa_cons (pv 2) pa_nil)))))) pa_nil)))) (pss_one (ps_ret pe_bl)) pss_nil) (pss_cons (ps_if (pt_not (pt_val (pe_callB (cAll (K := K) rfl) (by rfl) B.all (by decide +kernel) (pa_cons (pe_lc (own := [("supply", 8)]) rfl sc_is_catalog.nd (piT (K := K) (pv 5)) (blkOk_by (own := [("supply", 8)]) (N := N_is_catalog) (sc := defScope s_is_catalog) (by decide +kernel)) (fun _ _ _ _ _ => (pg_name (i := 8) sc_is_catalog.nd rfl (by first | exact Or.inl rfl | exact Or.inr rfl))) (fun _ _ _ _ _ => pts_nil) (fun _ _ _ _ _ => (pe_call G_is_supply (hr.mono (by first | decide | omega)) (by rfl) F_is_supply.g F_is_supply.kp b_is_supply .nil pass0 (pa_cons (pv 8) (pa_cons (pv 1) (pa_cons (pv 3) pa_nil)))))) pa_nil)))) (pss_one (ps_ret pe_bl)) pss_nil) (pss_one (ps_ret (pe_and (pe_call G_are_unlike (hr.mono (by first | decide | omega)) (by rfl) F_are_unlike.g F_are_unlike.kp b_are_unlike .nil pass0 (pa_cons (pe_lc (own := [("lane", 7)]) rfl sc_is_catalog.nd (piT (K := K) (pv 4)) (blkOk_by (own := [("lane", 7)]) (N := N_is_catalog) (sc := defScope s_is_catalog) (by decide +kernel)) (fun _ _ _ _ _ => (pg_name (i := 7) sc_is_catalog.nd rfl (by first | exact Or.inl rfl | exact Or.inr rfl))) (fun _ _ _ _ _ => pts_nil) (fun _ _ _ _ _ => (pe_slice (slT (K := K)) (pv 7) po_none (po_some pe_int)))) pa_nil)) (pe_one (pe_call G_are_unlike (hr.mono (by first | decide | omega)) (by rfl) F_are_unlike.g F_are_unlike.kp b_are_unlike .nil pass0 (pa_cons (pe_lc (own := [("supply", 8)]) rfl sc_is_catalog.nd (piT (K := K) (pv 5)) (blkOk_by (own := [("supply", 8)]) (N := N_is_catalog) (sc := defScope s_is_catalog) (by decide +kernel)) (fun _ _ _ _ _ => (pg_name (i := 8) sc_is_catalog.nd rfl (by first | exact Or.inl rfl | exact Or.inr rfl))) (fun _ _ _ _ _ => pts_nil) (fun _ _ _ _ _ => (pe_ix (ixT (K := K)) (pv 8) pe_int (fun _ _ => rfl)))) pa_nil)))))))))))), ?_⟩
  refine q_if (b := false) (et_or (et_not (et_B (ed_isi (ed_var rfl h1) k_tt))) fun _ => et_val (ed_neI (ed_lenT (ed_var rfl h1)) ed_int)) (fun hb => Bool.noConfusion hb) (fun _ H1 s1 => ?_)
  dsimp only [tNext]
  obtain ⟨a, xs, rfl, ha, hx⟩ := dp_tup (dp_mono s1 h1)
  obtain ⟨x1, x2, x3, x4, x5, rfl, g1, g2, g3, g4, g5⟩ := dp5 hx
  refine ⟨_, rfl, a, _, rfl, ha, rfl, x1, _, rfl, x2, _, rfl, x3, _, rfl, x4, _, rfl, x5, _, rfl, rfl, ?_⟩
  -- the names of the places
  dsimp only [tSeq]
  refine q_if (b := false) ((et_not (et_B (ed_all (bs := [true, true, true]) ?_))).is rfl) (fun hb => Bool.noConfusion hb) (fun _ H2 s2 => ?_)
  · have e : ([true, true, true].map PyData.bool) = [strsD C.hs, strsD C.rs, strsD C.is].map fun _ => PyData.bool true := rfl
    rw [e, ← keepD_all]
    refine ed_lcT _ _ (ed_tup (ea_cons (ed_var rfl g1) (ea_cons (ed_var rfl g2) (ea_cons (ed_var rfl g3) ea_nil))) (by simp)) (by simp) (fun _ => rfl) (fun _ _ _ _ _ _ => et_yes) (fun d hd _ x H3 s3 hxd => ?_) (fun _ _ _ => rfl)
    have one : ∀ ss : List Str, namesB ss 5 = true → (∀ x ∈ ss, Fine x) → Dp K H3 x (strsD ss) → rel_names [strsD ss, .int 5] (.bool true) := fun ss h hf hxd => by
      have hl := names_len h
      exact ⟨ss, 5, rfl, by omega, fun y hy => hf y hy, by rw [h]⟩
    refine ed_call (ea_cons (ed_var rfl hxd) (ea_cons ed_int ea_nil)) ?_
    rcases List.mem_cons.mp hd with rfl | hd
    · exact one _ good.hs (fun y hy => good.fine y (.inl hy)) hxd
    · rcases List.mem_cons.mp hd with rfl | hd
      · exact one _ good.rs (fun y hy => good.fine y (.inr (.inl hy))) hxd
      · obtain rfl := List.mem_singleton.mp hd
        exact one _ good.is (fun y hy => good.fine y (.inr (.inr hy))) hxd
  -- the rows
  dsimp only [tNext]
  have hz1 : (C.ls.map laneD).length ≤ 30000 := by rw [List.length_map]; exact Nat.le_trans good.ll (by decide)
  have hz2 : (C.ss.map supD).length ≤ 30000 := by rw [List.length_map]; exact Nat.le_trans good.sl (by decide)
  have ht1 : ∀ d ∈ C.ls.map laneD, isTup d = true := fun d hd => by
    obtain ⟨l, _, rfl⟩ := List.mem_map.mp hd
    rfl
  have ht2 : ∀ d ∈ C.ss.map supD, isTup d = true := fun d hd => by
    obtain ⟨l, _, rfl⟩ := List.mem_map.mp hd
    rfl
  have hrow1 : EvD K (tCall (PureSp K rel_rows) [] E0 (tCons (tVar 4) (tCons (tC (.int 20)) (tCons (tC (.int 5)) tNil)))) ((((((L2.start N_is_catalog [V.ref a]).set 1 (some x1)).set 2 (some x2)).set 3 (some x3)).set 4 (some x4)).set 5 (some x5)) H2 (.bool true) :=
    ed_call (ea_cons (ed_var rfl (dp_mono s2 g4)) (ea_cons ed_int (ea_cons ed_int ea_nil))) ⟨_, _, _, rfl, .inr ⟨_, rfl, hz1, ht1, by rw [rows_lanes _ good.ll]⟩⟩
  have hrow2 : EvD K (tCall (PureSp K rel_rows) [] E0 (tCons (tVar 5) (tCons (tC (.int 14)) (tCons (tC (.int 5)) tNil)))) ((((((L2.start N_is_catalog [V.ref a]).set 1 (some x1)).set 2 (some x2)).set 3 (some x3)).set 4 (some x4)).set 5 (some x5)) H2 (.bool true) :=
    ed_call (ea_cons (ed_var rfl (dp_mono s2 g5)) (ea_cons ed_int (ea_cons ed_int ea_nil))) ⟨_, _, _, rfl, .inr ⟨_, rfl, hz2, ht2, by rw [rows_sups _ good.sl]⟩⟩
  refine q_if (b := false) (et_or (et_not (et_B hrow1)) fun _ => et_not (et_B hrow2)) (fun hb => Bool.noConfusion hb) (fun _ H3 s3 => ?_)
  -- each lane
  have s23 := s2.trans s3
  dsimp only [tNext]
  refine q_if (b := false) ((et_not (et_B (ed_all (bs := (C.ls.map laneD).map fun _ => true) ?_))).is (by rw [all_true]; rfl)) (fun hb => Bool.noConfusion hb) (fun _ H4 s4 => ?_)
  · rw [← map_true, ← keepD_all]
    refine ed_lcT _ _ (ed_var rfl (dp_mono s23 g4)) (by rw [List.length_map]; have := good.ll; omega) (fun _ => rfl) (fun _ _ _ _ _ _ => et_yes) (fun d hd _ x H5 s5 hxd => ?_) (fun _ _ _ => rfl)
    obtain ⟨l, hl, rfl⟩ := List.mem_map.mp hd
    exact ed_call (ea_cons (ed_var rfl hxd) (ea_cons (ed_var rfl (dp_mono (s23.trans s5) g1)) (ea_cons (ed_var rfl (dp_mono (s23.trans s5) g2)) ea_nil))) ⟨C, l, rfl, good, good.lanes l hl, rfl⟩
  -- each supply
  have s24 := s23.trans s4
  dsimp only [tNext]
  refine q_if (b := false) ((et_not (et_B (ed_all (bs := (C.ss.map supD).map fun _ => true) ?_))).is (by rw [all_true]; rfl)) (fun hb => Bool.noConfusion hb) (fun _ H6 s6 => ?_)
  · rw [← map_true, ← keepD_all]
    refine ed_lcT _ _ (ed_var rfl (dp_mono s24 g5)) (by rw [List.length_map]; have := good.sl; omega) (fun _ => rfl) (fun _ _ _ _ _ _ => et_yes) (fun d hd _ x H5 s5 hxd => ?_) (fun _ _ _ => rfl)
    obtain ⟨l, hl, rfl⟩ := List.mem_map.mp hd
    exact ed_call (ea_cons (ed_var rfl hxd) (ea_cons (ed_var rfl (dp_mono (s24.trans s5) g1)) (ea_cons (ed_var rfl (dp_mono (s24.trans s5) g3)) ea_nil))) ⟨C, l, rfl, good, good.sups l hl, rfl⟩
  -- no two alike
  have s26 := s24.trans s6
  dsimp only [tNext]
  have mk : ∀ l ∈ C.ls, ∀ x, x = l.h ∨ x = l.r → okStr x = true := fun l hl x hx => by
    have ok := good.lanes l hl
    rcases hx with rfl | rfl
    · exact (good.fine _ (.inl ok.h1)).2
    · exact (good.fine _ (.inr (.inl ok.r1))).2
  have keys_ok : ∀ d ∈ C.ls.map keyD, Flat d := fun d hd => by
    obtain ⟨l, hl, rfl⟩ := List.mem_map.mp hd
    have h1 : PyData.canLay0 (.str l.h) = true := (flat_str (mk l hl _ (.inl rfl))).1
    have h2 : PyData.canLay0 (.str l.r) = true := (flat_str (mk l hl _ (.inr rfl))).1
    refine ⟨?_, by simp [keyD, PyData.depth, PyData.depthAll]⟩
    simp [keyD, PyData.canLay0, PyData.canLayAll0] at h1 h2 ⊢
    exact ⟨h1, h2⟩
  have names_ok : ∀ d ∈ C.ss.map (fun s => PyData.str s.n), Flat d := fun d hd => by
    obtain ⟨l, hl, rfl⟩ := List.mem_map.mp hd
    exact flat_str (good.sups l hl).n1.2.2
  have e1 := ed_lcT (K := K) (σ := ((((((L2.start N_is_catalog [V.ref a]).set 1 (some x1)).set 2 (some x2)).set 3 (some x3)).set 4 (some x4)).set 5 (some x5))) (H := H6) (t := tYes) (te := tSl (rSlA K) (tVar 7) tNoPart (tPart (tC (V.int 2)))) (src := tVar 4) (k := 7) (vs := [7])
    (fun _ => true) (fun d => match d with | .tuple xs => .tuple (xs.take 2) | d => d) (ed_var rfl (dp_mono s26 g4)) (by rw [List.length_map]; have := good.ll; omega) (fun _ => rfl) (fun _ _ _ _ _ _ => et_yes)
    (fun d hd _ x H5 s5 hxd => by
      obtain ⟨l, hl, rfl⟩ := List.mem_map.mp hd
      exact ed_slT (n := 2) (ed_var rfl hxd) ed_int)
    (fun d hd _ => by
      obtain ⟨l, hl, rfl⟩ := List.mem_map.mp hd
      rfl)
  have e2 := ed_lcT (K := K) (σ := ((((((L2.start N_is_catalog [V.ref a]).set 1 (some x1)).set 2 (some x2)).set 3 (some x3)).set 4 (some x4)).set 5 (some x5))) (H := H6) (t := tYes) (te := tOp (rIxT K) (tVar 8) (tC (V.int 0))) (src := tVar 5) (k := 8) (vs := [8])
    (fun _ => true) (fun d => match d with | .tuple (x :: _) => x | d => d) (ed_var rfl (dp_mono s26 g5)) (by rw [List.length_map]; have := good.sl; omega) (fun _ => rfl) (fun _ _ _ _ _ _ => et_yes)
    (fun d hd _ x H5 s5 hxd => by
      obtain ⟨l, hl, rfl⟩ := List.mem_map.mp hd
      exact ed_ixT (k := 0) (ed_var rfl hxd) ed_int rfl)
    (fun d hd _ => by
      obtain ⟨l, hl, rfl⟩ := List.mem_map.mp hd
      rfl)
  rw [keepD_all, List.map_map] at e1 e2
  have e1 : EvD K _ _ _ (.list (C.ls.map keyD)) := e1
  have e2 : EvD K _ _ _ (.list (C.ss.map fun s => PyData.str s.n)) := e2
  refine q_ret (d := .bool true) (ed_and (a := true) (b := true) (ed_call (ea_cons e1 ea_nil) ⟨_, rfl, ?_, keys_ok, by rw [good.keys]⟩) fun _ => ed_call (ea_cons e2 ea_nil) ⟨_, rfl, ?_, names_ok, by rw [good.names]⟩) (fun v H7 s7 hd => q v H7 ((s1.trans s26).trans s7) hd)
  · rw [List.length_map]
    exact Nat.le_trans good.ll (by decide)
  · rw [List.length_map]
    exact Nat.le_trans good.sl (by decide)
/-! ### need_catalog -/
theorem ok_need_catalog (B : Blt mg) (c_is_catalog : Cal P w K mg base "is_catalog" s_is_catalog CX0 3 P_is_catalog (PureSp K rel_catalog)) (F : Fun K "need_catalog" "need_catalog" s_need_catalog f fd) : FnOk P w K mg base CX0 4 f fd P_need_catalog (PureSp K rel_need) := by
  obtain ⟨_, _, F_is_catalog, b_is_catalog, G_is_catalog⟩ := c_is_catalog
  refine F.ok sc_need_catalog (fun vs H Q E h => ?_) (fun cdv A outer s H vs Q E hr h => ?_)
  · obtain ⟨ds, d, hv, ⟨C, rfl, _⟩, _⟩ := h
    rw [dpl_len hv]
    rfl
  obtain ⟨ds, d, hv, ⟨C, rfl, good, rfl⟩, q⟩ := h
  obtain ⟨v1, rfl, h1⟩ := dp1 hv
  refine ⟨_, (pss_one (ps_if (pt_not (pt_val (pe_call G_is_catalog (hr.mono (by first | decide | omega)) (by rfl) F_is_catalog.g F_is_catalog.kp b_is_catalog .nil pass0 (pa_cons (pv 0) pa_nil)))) (pss_one ps_never) pss_nil)), ?_⟩
  refine q_if (b := false) (et_not (a := true) (et_B (ed_call (c := .bool true) (ea_cons (ed_var rfl h1) ea_nil) ⟨C, rfl, good, rfl⟩))) (fun hb => Bool.noConfusion hb) (fun _ H1 s1 => ?_)
  exact q _ H1 s1 .non
end
end K8
set_option maxRecDepth 100000
set_option maxHeartbeats 4000000
/-! FnC: is_bundle, need_bundles. -/
namespace K8
open PySem PySem.Spec PyProof.Rows L2
section
variable {X : Cx}
/-- a value's object is locked from now on: read, never written -/
def tLockV (t : TE) : TE := fun σ H Q => t σ H fun v H' => ∃ d u, v = .ref d ∧ H' d = some u ∧ Mut (some u) ∧ ∀ od, Q v (upd H' d (.frz od u))
theorem pe_lockV {e : Expr} {t : TE} (h : PE X e t) : PE X e (tLockV t) := by
  refine ⟨fun pins s σ H Q I hq => thn (h.run pins s σ H _ I hq) fun v s1 hv => ?_⟩
  obtain ⟨x, H1, I1, rx, d, u, rfl, hd, mu, q⟩ := hv
  obtain ⟨od, I2⟩ := I1.lock hd mu
  exact ⟨_, _, I2, rx, q od⟩
end
/-! ### bundles -/
abbrev Bun := Str × List (Str × Int)
def partD (p : Str × Int) : PyData := .tuple [.str p.1, .int p.2]
def bunD (b : Bun) : PyData := .tuple [.str b.1, .tuple (b.2.map partD)]
def bunsD (bs : List Bun) : PyData := .tuple (bs.map bunD)
def bundleB (b : Bun) (is el : List Str) : Bool :=
  if (!nameB b.1 || (decide (b.1 ∈ is) || (decide (b.1 ∈ el) || !rowsB (b.2.map partD) 4 2))) = true then false
  else if (PyData.eqv (.tuple (b.2.map partD)) (.tuple []) || !unlikeB (b.2.map fun p => .str p.1)) = true then false
  else b.2.all fun p => decide (p.1 ∈ is ++ el) && wholeB p.2 1 9
structure FineBun (b : Bun) : Prop where
  name : Fine b.1
  parts : ∀ p ∈ b.2, Fine p.1
  few : b.2.length ≤ 30000
theorem flat_part {p : Str × Int} (h : Fine p.1) : Flat (partD p) := by
  have h1 : PyData.canLay0 (.str p.1) = true := (flat_str h.2).1
  refine ⟨?_, by simp [partD, PyData.depth, PyData.depthAll]⟩
  simp [partD, PyData.canLay0, PyData.canLayAll0] at h1 ⊢
  exact h1
def rel_bundle (ds : List PyData) (d : PyData) : Prop := ∃ (b : Bun) (is el : List Str), ds = [bunD b, strsD is, .list (el.map .str)] ∧ FineBun b ∧ is.length ≤ 30000 ∧ el.length ≤ 30000 ∧ d = .bool (bundleB b is el)
section
variable {P : Program} {w : World} {K : PySem.W.Frag} {mg : Str → Option Value} {base : Heap} {f : Addr} {fd : FuncData}
theorem q_if' {σ : L2.St} {H : Hp} {t : TT} {b : Bool} {tu tw : TS} {D : Ends} (h : EvB t σ H b) (h1 : b = true → ∀ H1, Same H H1 → tu D σ H1) (h2 : b = false → ∀ H1, Same H H1 → tw D σ H1) : tIfS t tu tw D σ H := q_if h h1 h2
theorem ok_is_bundle (B : Blt mg) (c_is_name : Cal P w K mg base "is_name" s_is_name CX0 1 P_is_name (PureSp K rel_name)) (c_is_whole : Cal P w K mg base "is_whole" s_is_whole CX0 1 P_is_whole (PureSp K rel_whole))
    (c_are_rows : Cal P w K mg base "are_rows" s_are_rows CX0 1 P_are_rows (PureSp K rel_rows)) (c_are_unlike : Cal P w K mg base "are_unlike" s_are_unlike CX0 1 P_are_unlike (PureSp K rel_unlike))
    (F : Fun K "is_bundle" "is_bundle" s_is_bundle f fd) : FnOk P w K mg base CX0 2 f fd P_is_bundle (PureSp K rel_bundle) := by
  obtain ⟨_, _, F_is_name, b_is_name, G_is_name⟩ := c_is_name
  obtain ⟨_, _, F_is_whole, b_is_whole, G_is_whole⟩ := c_is_whole
  obtain ⟨_, _, F_are_rows, b_are_rows, G_are_rows⟩ := c_are_rows
  obtain ⟨_, _, F_are_unlike, b_are_unlike, G_are_unlike⟩ := c_are_unlike
  refine F.ok sc_is_bundle (fun vs H Q E h => ?_) (fun cdv A outer s H vs Q E hr h => ?_)
  · obtain ⟨ds, d, hv, ⟨b, is, el, rfl, _⟩, _⟩ := h
    rw [dpl_len hv]
    rfl
  obtain ⟨ds, d, hv, ⟨b, is, el, rfl, fine, hz1, hz2, rfl⟩, q⟩ := h
  obtain ⟨v1, v2, v3, rfl, h1, h2, h3⟩ := dp3 hv
  have hu := units65 hr
  refine ⟨_, (pss_cons (ps_if (PW.pt (pw_or (pt_not (pt_val (pe_call G_is_name (hr.mono (by first | decide | omega)) (by rfl) F_is_name.g F_is_name.kp b_is_name .nil pass0 (pa_cons (pe_ix (ixT (K := K)) (pv 0) pe_int (fun _ _ => rfl)) pa_nil)))) (pw_or (pt_cmpR (opIn (K := K)) (pe_ix (ixT (K := K)) (pv 0) pe_int (fun _ _ => rfl)) (pv 1) (by rfl)) (pw_or (pt_cmpR (opIn (K := K)) (pe_ix (ixT (K := K)) (pv 0) pe_int (fun _ _ => rfl)) (pv 2) (by rfl)) (pw_or1 (pt_not (pt_val (pe_call G_are_rows (hr.mono (by first | decide | omega)) (by rfl) F_are_rows.g F_are_rows.kp b_are_rows .nil pass0 (pa_cons (pe_ix (ixT (K := K)) (pv 0) pe_int (fun _ _ => rfl)) (pa_cons pe_int (pa_cons pe_int pa_nil))))))))))) (pss_one (ps_ret pe_bl)) pss_nil) (pss_cons (ps_if (PW.pt (pw_or (pt_cmpR (opEqD (K := K) hu) (pe_ix (ixT (K := K)) (pv 0) pe_int (fun _ _ => rfl)) (pe_tup pa_nil) (nomark _)) (pw_or1 (pt_not (pt_val (pe_call G_are_unlike (hr.mono (by first | decide | omega)) (by rfl) F_are_unlike.g F_are_unlike.kp b_are_unlike .nil pass0 (pa_cons (pe_lc (own := [("part", 3)]) rfl sc_is_bundle.nd (piT (K := K) (pe_ix (ixT (K := K)) (pv 0) pe_int (fun _ _ => rfl))) (blkOk_by (own := [("part", 3)]) (N := N_is_bundle) (sc := defScope s_is_bundle) (by decide +kernel)) (fun _ _ _ _ _ => (pg_name (i := 3) sc_is_bundle.nd rfl (by first | exact Or.inl rfl | exact Or.inr rfl))) (fun _ _ _ _ _ => pts_nil) (fun _ _ _ _ _ => (pe_ix (ixT (K := K)) (pv 3) pe_int (fun _ _ => rfl)))) pa_nil))))))) (pss_one (ps_ret pe_bl)) pss_nil) (pss_one (ps_ret (pe_callB (cAll (K := K) rfl) (by rfl) B.all (by decide +kernel) (pa_cons (pe_lc (own := [("part", 3)]) rfl sc_is_bundle.nd (piT (K := K) (pe_ix (ixT (K := K)) (pv 0) pe_int (fun _ _ => rfl))) (blkOk_by (own := [("part", 3)]) (N := N_is_bundle) (sc := defScope s_is_bundle) (by decide +kernel)) (fun _ _ _ _ _ => (pg_name (i := 3) sc_is_bundle.nd rfl (by first | exact Or.inl rfl | exact Or.inr rfl))) (fun _ _ _ _ _ => pts_nil) (fun _ _ _ _ _ => (pe_and (pe_cmpR (opIn (K := K)) (pe_ix (ixT (K := K)) (pv 3) pe_int (fun _ _ => rfl)) (pe_lst (paS (K := K) (pv 1) (paS (K := K) (pv 2) pa_nil))) (by rfl)) (pe_one (pe_call G_is_whole (hr.mono (by first | decide | omega)) (by rfl) F_is_whole.g F_is_whole.kp b_is_whole .nil pass0 (pa_cons (pe_ix (ixT (K := K)) (pv 3) pe_int (fun _ _ => rfl)) (pa_cons pe_int (pa_cons pe_int pa_nil)))))))) pa_nil)))))), ?_⟩
  -- thing[0], thing[1]
  have t0 : ∀ {σ : L2.St} {H1 : Hp}, Same H H1 → σ[0]? = some (some v1) → EvD K (tOp (rIxT K) (tVar 0) (tC (.int 0))) σ H1 (.str b.1) := fun s1 e => ed_ixT (k := 0) (ed_var e (dp_mono s1 h1)) ed_int rfl
  have t1 : ∀ {σ : L2.St} {H1 : Hp}, Same H H1 → σ[0]? = some (some v1) → EvD K (tOp (rIxT K) (tVar 0) (tC (.int 1))) σ H1 (.tuple (b.2.map partD)) := fun s1 e => ed_ixT (k := 1) (ed_var e (dp_mono s1 h1)) ed_int rfl
  have hz : (b.2.map partD).length ≤ 30000 := by rw [List.length_map]; exact fine.few
  have ht : ∀ d ∈ b.2.map partD, isTup d = true := fun d hd => by
    obtain ⟨p, _, rfl⟩ := List.mem_map.mp hd
    rfl
  have hfl : ∀ d ∈ b.2.map partD, Flat d := fun d hd => by
    obtain ⟨p, hp, rfl⟩ := List.mem_map.mp hd
    exact flat_part (fine.parts p hp)
  have hfn : ∀ d ∈ b.2.map (fun p => PyData.str p.1), Flat d := fun d hd => by
    obtain ⟨p, hp, rfl⟩ := List.mem_map.mp hd
    exact flat_str (fine.parts p hp).2
  unfold bundleB at q
  refine q_if (et_or (et_not (et_B (ed_call (c := .bool (nameB b.1)) (ea_cons (t0 (Same.refl _) rfl) ea_nil) ⟨_, rfl, fine.name.1, rfl⟩))) fun _ => et_or (et_val (ed_in (t0 (Same.refl _) rfl) (ed_var rfl h2))) fun _ => et_or (et_val (ed_inL (t0 (Same.refl _) rfl) (ed_var rfl h3)))
    fun _ => et_not (et_B (ed_call (c := .bool (rowsB (b.2.map partD) 4 2)) (ea_cons (t1 (Same.refl _) rfl) (ea_cons ed_int (ea_cons ed_int ea_nil))) ⟨_, _, _, rfl, .inr ⟨_, rfl, hz, ht, rfl⟩⟩))) (fun hb H1 s1 => ?_) (fun hb H1 s1 => ?_)
  · rw [if_pos hb] at q
    exact q_ret (K := K) ed_bl fun v H2 s2 hd => q v H2 (s1.trans s2) hd
  rw [if_neg (Bool.eq_false_iff.mp hb)] at q
  dsimp only [tNext, tSeq]
  have e1 := ed_lcT (K := K) (σ := L2.start N_is_bundle [v1, v2, v3]) (H := H1) (t := tYes) (te := tOp (rIxT K) (tVar 3) (tC (V.int 0))) (src := tOp (rIxT K) (tVar 0) (tC (.int 1))) (k := 3) (vs := [3])
    (fun _ => true) (fun d => match d with | .tuple (x :: _) => x | d => d) (t1 s1 rfl) (by omega) (fun _ => rfl) (fun _ _ _ _ _ _ => et_yes)
    (fun d hd _ x H5 s5 hxd => by
      obtain ⟨l, hl, rfl⟩ := List.mem_map.mp hd
      exact ed_ixT (k := 0) (ed_var rfl hxd) ed_int rfl)
    (fun d hd _ => by
      obtain ⟨l, hl, rfl⟩ := List.mem_map.mp hd
      rfl)
  rw [keepD_all, List.map_map] at e1
  have e1 : EvD K _ _ _ (.list (b.2.map fun p => PyData.str p.1)) := e1
  refine q_if (et_or (et_val (ed_eqD (t1 s1 rfl) (ed_tup ea_nil (by simp)) (shaped_tuple hfl) (shaped_tuple (by simp)))) fun _ => et_not (et_B (ed_call (c := .bool (unlikeB (b.2.map fun p => PyData.str p.1))) (ea_cons e1 ea_nil) ⟨_, rfl, by rw [List.length_map]; exact fine.few, hfn, rfl⟩)))
    (fun hb2 H2 s2 => ?_) (fun hb2 H2 s2 => ?_)
  · rw [if_pos hb2] at q
    exact q_ret (K := K) ed_bl fun v H3 s3 hd => q v H3 ((s1.trans s2).trans s3) hd
  rw [if_neg (Bool.eq_false_iff.mp hb2)] at q
  dsimp only [tNext, tSeq]
  have s12 := s1.trans s2
  have e2 : b.2.all (fun p => decide (p.1 ∈ is ++ el) && wholeB p.2 1 9) = (b.2.map fun p => decide (p.1 ∈ is ++ el) && wholeB p.2 1 9).all id := by rw [List.all_map]; rfl
  rw [e2] at q
  have e3 := ed_lcT (K := K) (σ := L2.start N_is_bundle [v1, v2, v3]) (H := H2) (t := tYes) (te := tAndV (tOp (rIn K false) (tOp (rIxT K) (tVar 3) (tC (.int 0))) (tLst (StX.tStar K (tVar 1) (StX.tStar K (tVar 2) tNil)))) (tCall (PureSp K rel_whole) [] E0 (tCons (tOp (rIxT K) (tVar 3) (tC (.int 1))) (tCons (tC (.int 1)) (tCons (tC (.int 9)) tNil)))))
    (src := tOp (rIxT K) (tVar 0) (tC (.int 1))) (k := 3) (vs := [3])
    (fun _ => true) (fun d => match d with | .tuple [.str x, .int k] => .bool (decide (x ∈ is ++ el) && wholeB k 1 9) | d => d) (t1 s12 rfl) (by omega) (fun _ => rfl) (fun _ _ _ _ _ _ => et_yes)
    (fun d hd _ x H5 s5 hxd => by
      obtain ⟨p, hp, rfl⟩ := List.mem_map.mp hd
      refine ed_and (a := decide (p.1 ∈ is ++ el)) (ed_inL (ss := is ++ el) (ed_ixT (k := 0) (ed_var rfl hxd) ed_int rfl) ?_) fun _ => ed_call (ea_cons (ed_ixT (k := 1) (ed_var rfl hxd) ed_int rfl) (ea_cons ed_int (ea_cons ed_int ea_nil))) ⟨_, _, _, rfl, rfl⟩
      refine EvD.is (ed_lst (ea_starT (ed_var rfl (dp_mono (s12.trans s5) h2)) (ea_starL (ed_var rfl (dp_mono (s12.trans s5) h3)) ea_nil)) ?_) ?_
      · simp
        omega
      · rw [List.map_append, List.append_nil])
    (fun d hd _ => by
      obtain ⟨l, hl, rfl⟩ := List.mem_map.mp hd
      rfl)
  rw [keepD_all, List.map_map] at e3
  have e3 : EvD K _ _ _ (.list ((b.2.map fun p => decide (p.1 ∈ is ++ el) && wholeB p.2 1 9).map PyData.bool)) := e3.is (by rw [List.map_map]; rfl)
  exact q_ret (ed_all e3) fun v H3 s3 hd => q v H3 (s12.trans s3) hd
end
end K8
set_option maxRecDepth 100000
set_option maxHeartbeats 4000000
/-! FnD: need_bundles, of good bundles (None) and of wrong ones (BadItem). -/
namespace K8
open PySem PySem.Spec PyProof.Rows L2
structure GoodBuns (C : Cat) (bs : List Bun) : Prop where
  len : bs.length ≤ 6
  fine : ∀ b ∈ bs, FineBun b
  ok : ∀ i b, bs[i]? = some b → bundleB b C.is ((bs.take i).map (·.1)) = true
theorem rows_buns (bs : List Bun) (h : bs.length ≤ 6) : rowsB (bs.map bunD) 6 2 = true := by
  unfold rowsB
  rw [List.length_map, decide_eq_true (by omega), Bool.true_and]
  exact List.all_eq_true.mpr fun d hd => by
    obtain ⟨l, _, rfl⟩ := List.mem_map.mp hd
    rfl
def rel_needb (ds : List PyData) (d : PyData) : Prop := ∃ (C : Cat) (bs : List Bun), ds = [catD C, bunsD bs] ∧ GoodCat C ∧ GoodBuns C bs ∧ d = .none
section
variable {P : Program} {w : World} {K : PySem.W.Frag} {mg : Str → Option Value} {base : Heap} {f : Addr} {fd : FuncData}
theorem ok_need_bundles (B : Blt mg) {t1 : Tok} (g_ITEMS : mg "ITEMS" = some (.int 2 t1)) (c_need_catalog : Cal P w K mg base "need_catalog" s_need_catalog CX0 4 P_need_catalog (PureSp K rel_need)) (c_are_rows : Cal P w K mg base "are_rows" s_are_rows CX0 1 P_are_rows (PureSp K rel_rows))
    (c_is_bundle : Cal P w K mg base "is_bundle" s_is_bundle CX0 2 P_is_bundle (PureSp K rel_bundle)) (F : Fun K "need_bundles" "need_bundles" s_need_bundles f fd) : FnOk P w K mg base CX0 5 f fd P_need_bundles (PureSp K rel_needb) := by
  obtain ⟨_, _, F_need_catalog, b_need_catalog, G_need_catalog⟩ := c_need_catalog
  obtain ⟨_, _, F_are_rows, b_are_rows, G_are_rows⟩ := c_are_rows
  obtain ⟨_, _, F_is_bundle, b_is_bundle, G_is_bundle⟩ := c_is_bundle
  refine F.ok sc_need_bundles (fun vs H Q E h => ?_) (fun cdv A outer s H vs Q E hr h => ?_)
  · obtain ⟨ds, d, hv, ⟨C, bs, rfl, _⟩, _⟩ := h
    rw [dpl_len hv]
    rfl
  obtain ⟨ds, d, hv, ⟨C, bs, rfl, good, gb, rfl⟩, q⟩ := h
  obtain ⟨v1, v2, rfl, h1, h2⟩ := dp2 hv
  refine ⟨_, (pss_cons (ps_expr (pe_call G_need_catalog (hr.mono (by first | decide | omega)) (by rfl) F_need_catalog.g F_need_catalog.kp b_need_catalog .nil pass0 (pa_cons (pv 0) pa_nil))) (pss_cons (ps_if (pt_not (pt_val (pe_call G_are_rows (hr.mono (by first | decide | omega)) (by rfl) F_are_rows.g F_are_rows.kp b_are_rows .nil pass0 (pa_cons (pv 1) (pa_cons pe_int (pa_cons pe_int pa_nil)))))) (pss_one ps_never) pss_nil) (pss_one (ps_for PassesOwn.never rfl (pi_enumT (by rfl) B.enumerate (pa_cons (pv 1) pa_nil)) (pgT (K := K) rfl (pgs_cons (pg_name (i := 2) sc_need_bundles.nd rfl (by first | exact Or.inl rfl | exact Or.inr rfl)) (pgs_cons (pg_name (i := 3) sc_need_bundles.nd rfl (by first | exact Or.inl rfl | exact Or.inr rfl)) pgs_nil))) (pss_one (ps_if (pt_not (pt_val (pe_call G_is_bundle (hr.mono (by first | decide | omega)) (by rfl) F_is_bundle.g F_is_bundle.kp b_is_bundle .nil pass0 (pa_cons (pv 3) (pa_cons (pe_ix (ixT (K := K)) (pv 0) (pe_glob (v := .int 2) (by rfl) g_ITEMS ⟨_, rfl⟩) (fun _ _ => rfl)) (pa_cons (pe_lc (own := [("one", 4)]) rfl sc_need_bundles.nd (piT (K := K) (pe_slice (slT (K := K)) (pv 1) po_none (po_some (pv 2)))) (blkOk_by (own := [("one", 4)]) (N := N_need_bundles) (sc := defScope s_need_bundles) (by decide +kernel)) (fun _ _ _ _ _ => (pg_name (i := 4) sc_need_bundles.nd rfl (by first | exact Or.inl rfl | exact Or.inr rfl))) (fun _ _ _ _ _ => pts_nil) (fun _ _ _ _ _ => (pe_ix (ixT (K := K)) (pv 4) pe_int (fun _ _ => rfl)))) pa_nil)))))) (pss_one ps_never) pss_nil)))))), ?_⟩
  have hzb : (bs.map bunD).length ≤ 30000 := by rw [List.length_map]; exact Nat.le_trans gb.len (by decide)
  have htb : ∀ d ∈ bs.map bunD, isTup d = true := fun d hd => by
    obtain ⟨p, _, rfl⟩ := List.mem_map.mp hd
    rfl
  refine (ed_call (c := .none) (ea_cons (ed_var rfl h1) ea_nil) ⟨C, rfl, good, rfl⟩) H (Same.refl _) _ fun _ H1 s1 _ => ?_
  dsimp only [tNext, tSeq]
  refine q_if (b := false) (et_not (a := true) (et_B (ed_call (c := .bool true) (ea_cons (ed_var rfl (dp_mono s1 h2)) (ea_cons ed_int (ea_cons ed_int ea_nil))) ⟨_, _, _, rfl, .inr ⟨_, rfl, hzb, htb, by rw [rows_buns _ gb.len]⟩⟩))) (fun hb => Bool.noConfusion hb) (fun _ H2 s2 => ?_)
  dsimp only [tNext, tSeq]
  obtain ⟨a, xs, rfl, ha, hx⟩ := dp_tup (dp_mono (s1.trans s2) h2)
  have hlen : xs.length = bs.length := by rw [dpl_len hx, List.length_map]
  refine ⟨_, rfl, a, xs, rfl, ha, ?_⟩
  refine for_it walk_enumT (fun i σ' H' => Same H2 H' ∧ ∃ y2 y3 y4, σ' = [some v1, some (.ref a), y2, y3, y4]) ⟨Same.refl _, none, none, none, rfl⟩ (fun i σ' H' _ p => sqt_mono p.1 ha) (fun i x σ' H' H'' hi p hy => ?_) (fun σ' H' p => ?_)
  · obtain ⟨s3, y2, y3, y4, rfl⟩ := p
    obtain ⟨T, x1, x2, rfl, nT, rfl, e1, e2⟩ := hy
    cases e1
    have sT := same_new nT (.tup [V.int i, x2])
    obtain ⟨d, hd, hxd⟩ := dpl_at hx e2
    rw [List.getElem?_map] at hd
    obtain ⟨b, hb, rfl⟩ := Option.map_eq_some_iff.mp hd
    have s4 := s3.trans sT
    have s14 := (s1.trans s2).trans s4
    refine ⟨T, _, rfl, SqT.of upd_same, rfl, V.int i, _, rfl, x2, _, rfl, rfl, ?_⟩
    have hfine := gb.fine b (List.mem_of_getElem? hb)
    have elder := ed_lcT (K := K) (σ := (([some v1, some (V.ref a), y2, y3, y4].set 2 (some (V.int i))).set 3 (some x2))) (H := upd H' T (.tup [V.int i, x2])) (t := tYes) (te := tOp (rIxT K) (tVar 4) (tC (V.int 0))) (src := tSl (rSlA K) (tVar 1) tNoPart (tPart (tVar 2))) (k := 4) (vs := [4])
      (fun _ => true) (fun d => match d with | .tuple (x :: _) => x | d => d) (ed_slT (n := i) (ed_var rfl (dp_mono s14 h2)) (ed_var rfl (.int _))) (by rw [List.length_take]; omega) (fun _ => rfl) (fun _ _ _ _ _ _ => et_yes)
      (fun d hd _ x H5 s5 hxd => by
        obtain ⟨l, hl, rfl⟩ := List.mem_map.mp (List.mem_of_mem_take hd)
        exact ed_ixT (k := 0) (ed_var rfl hxd) ed_int rfl)
      (fun d hd _ => by
        obtain ⟨l, hl, rfl⟩ := List.mem_map.mp (List.mem_of_mem_take hd)
        rfl)
    rw [keepD_all, ← List.map_take, List.map_map] at elder
    have elder : EvD K _ _ _ (.list (((bs.take i).map (·.1)).map .str)) := elder.is (by rw [List.map_map]; rfl)
    have hzi : C.is.length ≤ 30000 := by have := names_len good.is; omega
    have hze : ((bs.take i).map (·.1)).length ≤ 30000 := by rw [List.length_map, List.length_take]; have := gb.len; omega
    refine q_if (b := false) (et_not (a := true) (et_B (ed_call (c := .bool true) (ea_cons (ed_var rfl (dp_mono s4 hxd)) (ea_cons (ed_ixT (k := 2) (ed_var rfl (dp_mono s14 h1)) ed_int rfl) (ea_cons elder ea_nil))) ⟨b, C.is, _, rfl, hfine, hzi, hze, by rw [gb.ok i b hb]⟩))) (fun hb => Bool.noConfusion hb) (fun _ H5 s5 => ?_)
    exact ⟨s4.trans s5, _, _, _, rfl⟩
  · exact q _ H' ((s1.trans s2).trans p.1) .non
/-! ### need_bundles, of what are no bundles -/
def BadBuns (C : Cat) (d : PyData) : Prop := d = .none ∨ ∃ b : Bun, d = bunsD [b] ∧ FineBun b ∧ bundleB b C.is [] = false
def sp_need_bad (K : PySem.W.Frag) (CB : Addr) : Sp := fun vs H Q E => ∃ (C : Cat) (d : PyData), DpAll K H vs [catD C, d] ∧ GoodCat C ∧ BadBuns C d ∧ ∀ H', Same H H' → E (.ref CB) none H'
theorem ok_need_bad (B : Blt mg) {CB : Addr} (E_BadItem : Err K mg "BadItem" CB) {t1 : Tok} (g_ITEMS : mg "ITEMS" = some (.int 2 t1)) (c_need_catalog : Cal P w K mg base "need_catalog" s_need_catalog CX0 4 P_need_catalog (PureSp K rel_need)) (c_are_rows : Cal P w K mg base "are_rows" s_are_rows CX0 1 P_are_rows (PureSp K rel_rows))
    (c_is_bundle : Cal P w K mg base "is_bundle" s_is_bundle CX0 2 P_is_bundle (PureSp K rel_bundle)) (F : Fun K "need_bundles" "need_bundles" s_need_bundles f fd) : FnOk P w K mg base (L2N.CX P w) 5 f fd P_need_bundles (sp_need_bad K CB) := by
  obtain ⟨_, _, F_need_catalog, b_need_catalog, G_need_catalog⟩ := c_need_catalog
  obtain ⟨_, _, F_are_rows, b_are_rows, G_are_rows⟩ := c_are_rows
  obtain ⟨_, _, F_is_bundle, b_is_bundle, G_is_bundle⟩ := c_is_bundle
  refine HotL.okN F sc_need_bundles (fun vs H Q E h => ?_) (fun cdv A outer s H vs Q E hr h => ?_)
  · obtain ⟨C, d, hv, _⟩ := h
    rw [dpl_len hv]
    rfl
  obtain ⟨C, d, hv, good, bad, q⟩ := h
  obtain ⟨v1, v2, rfl, h1, h2⟩ := dp2 hv
  refine ⟨_, (pss_cons (ps_expr (pe_call G_need_catalog (hr.mono (by first | decide | omega)) (by rfl) F_need_catalog.g F_need_catalog.kp b_need_catalog .nil pass0 (pa_cons (pv 0) pa_nil))) (pss_cons (ps_if (pt_not (pt_val (pe_call G_are_rows (hr.mono (by first | decide | omega)) (by rfl) F_are_rows.g F_are_rows.kp b_are_rows .nil pass0 (pa_cons (pv 1) (pa_cons pe_int (pa_cons pe_int pa_nil)))))) (pss_one (L2N.ps_raise rfl (L2N.takes_of rfl rfl rfl rfl) (L2N.pmk_own PySem.F.excBase_ValueError E_BadItem.x E_BadItem.g E_BadItem.k (raises_own E_BadItem.b E_BadItem.t) (by rfl)))) pss_nil) (pss_one (ps_for (passes_of rfl) rfl (pi_enumT (by rfl) B.enumerate (pa_cons (pv 1) pa_nil)) (pgT (K := K) rfl (pgs_cons (pg_name (i := 2) sc_need_bundles.nd rfl (by first | exact Or.inl rfl | exact Or.inr rfl)) (pgs_cons (pg_name (i := 3) sc_need_bundles.nd rfl (by first | exact Or.inl rfl | exact Or.inr rfl)) pgs_nil))) (pss_one (ps_if (pt_not (pt_val (pe_call G_is_bundle (hr.mono (by first | decide | omega)) (by rfl) F_is_bundle.g F_is_bundle.kp b_is_bundle .nil pass0 (pa_cons (pv 3) (pa_cons (pe_ix (ixT (K := K)) (pv 0) (pe_glob (v := .int 2) (by rfl) g_ITEMS ⟨_, rfl⟩) (fun _ _ => rfl)) (pa_cons (pe_lc (own := [("one", 4)]) rfl sc_need_bundles.nd (piT (K := K) (pe_slice (slT (K := K)) (pv 1) po_none (po_some (pv 2)))) (blkOk_by (own := [("one", 4)]) (N := N_need_bundles) (sc := defScope s_need_bundles) (by decide +kernel)) (fun _ _ _ _ _ => (pg_name (i := 4) sc_need_bundles.nd rfl (by first | exact Or.inl rfl | exact Or.inr rfl))) (fun _ _ _ _ _ => pts_nil) (fun _ _ _ _ _ => (pe_ix (ixT (K := K)) (pv 4) pe_int (fun _ _ => rfl)))) pa_nil)))))) (pss_one (L2N.ps_raise rfl (L2N.takes_of rfl rfl rfl rfl) (L2N.pmk_own PySem.F.excBase_ValueError E_BadItem.x E_BadItem.g E_BadItem.k (raises_own E_BadItem.b E_BadItem.t) (by rfl)))) pss_nil)))))), ?_⟩
  refine (ed_call (c := .none) (ea_cons (ed_var rfl h1) ea_nil) ⟨C, rfl, good, rfl⟩) H (Same.refl _) _ fun _ H1 s1 _ => ?_
  dsimp only [tNext, tSeq]
  rcases bad with rfl | ⟨b, rfl, fine, hb⟩
  · refine q_if (b := true) (et_not (a := false) (et_B (ed_call (c := .bool false) (ea_cons (ed_var rfl (dp_mono s1 h2)) (ea_cons ed_int (ea_cons ed_int ea_nil))) ⟨_, _, _, rfl, .inl ⟨rfl, rfl⟩⟩))) (fun _ H2 s2 => ?_) (fun hb => Bool.noConfusion hb)
    exact q H2 (s1.trans s2)
  have hzb : ([b].map bunD).length ≤ 30000 := by simp
  have htb : ∀ d ∈ [b].map bunD, isTup d = true := fun d hd => by
    obtain ⟨p, _, rfl⟩ := List.mem_map.mp hd
    rfl
  refine q_if (b := false) (et_not (a := true) (et_B (ed_call (c := .bool true) (ea_cons (ed_var rfl (dp_mono s1 h2)) (ea_cons ed_int (ea_cons ed_int ea_nil))) ⟨_, _, _, rfl, .inr ⟨_, rfl, hzb, htb, by rw [rows_buns _ (by simp)]⟩⟩))) (fun hb => Bool.noConfusion hb) (fun _ H2 s2 => ?_)
  dsimp only [tNext, tSeq]
  obtain ⟨a, xs, rfl, ha, hx⟩ := dp_tup (dp_mono (s1.trans s2) h2)
  have hlen : xs.length = 1 := by rw [dpl_len hx]; rfl
  refine ⟨_, rfl, a, xs, rfl, ha, ?_⟩
  -- the first turn raises
  refine for_it walk_enumT (fun i σ' H' => i = 0 ∧ Same H2 H' ∧ ∃ y2 y3 y4, σ' = [some v1, some (.ref a), y2, y3, y4]) ⟨rfl, Same.refl _, none, none, none, rfl⟩ (fun i σ' H' _ p => sqt_mono p.2.1 ha) (fun i x σ' H' H'' hi p hy => ?_) (fun σ' H' p => by rw [hlen] at p; exact absurd p.1 (by decide))
  obtain ⟨rfl, s3, y2, y3, y4, rfl⟩ := p
  obtain ⟨T, x1, x2, rfl, nT, rfl, e1, e2⟩ := hy
  cases e1
  have sT := same_new nT (.tup [V.int 0, x2])
  obtain ⟨d, hd, hxd⟩ := dpl_at hx e2
  obtain rfl : bunD b = d := Option.some.inj hd
  have s4 := s3.trans sT
  have s14 := (s1.trans s2).trans s4
  refine ⟨T, _, rfl, SqT.of upd_same, rfl, V.int 0, _, rfl, x2, _, rfl, rfl, ?_⟩
  have elder := ed_lcT (K := K) (σ := (([some v1, some (V.ref a), y2, y3, y4].set 2 (some (V.int 0))).set 3 (some x2))) (H := upd H' T (.tup [V.int 0, x2])) (t := tYes) (te := tOp (rIxT K) (tVar 4) (tC (V.int 0))) (src := tSl (rSlA K) (tVar 1) tNoPart (tPart (tVar 2))) (k := 4) (vs := [4])
    (fun _ => true) (fun d => match d with | .tuple (x :: _) => x | d => d) (ed_slT (n := 0) (ed_var rfl (dp_mono s14 h2)) (ed_var rfl (.int _))) (by simp) (fun _ => rfl) (fun _ _ _ _ _ _ => et_yes)
    (fun d hd _ x H5 s5 hxd => by simp at hd)
    (fun d hd _ => by simp at hd)
  rw [keepD_all] at elder
  have elder : EvD K _ _ _ (.list (([] : List Str).map .str)) := elder
  have hzi : C.is.length ≤ 30000 := by have := names_len good.is; omega
  refine q_if (b := true) (et_not (a := false) (et_B (ed_call (c := .bool false) (ea_cons (ed_var rfl (dp_mono s4 hxd)) (ea_cons (ed_ixT (k := 2) (ed_var rfl (dp_mono s14 h1)) ed_int rfl) (ea_cons elder ea_nil))) ⟨b, C.is, _, rfl, fine, hzi, by simp, by rw [hb]⟩))) (fun _ H5 s5 => ?_) (fun hb => Bool.noConfusion hb)
  exact q H5 (s14.trans s5)
end
end K8
set_option maxRecDepth 100000
set_option maxHeartbeats 4000000
/-! MathK: how many of each item a bundle is made of, in plain Lean; dicts of such counts. -/
namespace K8
open PySem PySem.Spec PyProof.Rows L2
/-- the parts of a bundle -/
def lookB (bs : List Bun) (n : Str) : List (Str × Int) := ((bs.find? fun b => decide (b.1 = n)).map (·.2)).getD []
/-- how many of x a count c of name is made of, n levels deep -/
def cnt (is : List Str) (bs : List Bun) : Nat → Str → Int → Str → Int
  | 0, _, _, _ => 0
  | n + 1, name, c, x => if name ∈ is then (if x = name then c else 0) else ((lookB bs name).map fun p => cnt is bs n p.1 (p.2 * c) x).sum
/-- n levels are enough -/
def Ranked (is : List Str) (bs : List Bun) : Nat → Str → Prop
  | 0, _ => False
  | n + 1, name => name ∈ is ∨ (name ∉ is ∧ ∃ b ∈ bs, b.1 = name ∧ ∀ p ∈ b.2, Ranked is bs n p.1 ∧ 1 ≤ p.2 ∧ p.2 ≤ 9)
theorem Ranked.up {is : List Str} {bs : List Bun} : ∀ {n : Nat} {name : Str}, Ranked is bs n name → Ranked is bs (n + 1) name
  | 0, _, h => h.elim
  | n + 1, name, h => by
    rcases h with h | ⟨h, b, hb, e, hp⟩
    · exact .inl h
    · exact .inr ⟨h, b, hb, e, fun p m => ⟨(hp p m).1.up, (hp p m).2⟩⟩
theorem sum_nonneg {α : Type} {g : α → Int} : ∀ {l : List α}, (∀ a ∈ l, 0 ≤ g a) → 0 ≤ (l.map g).sum
  | [], _ => by simp
  | a :: r, h => by
    have h1 := h a List.mem_cons_self
    have h2 := sum_nonneg (l := r) fun b hb => h b (List.mem_cons_of_mem _ hb)
    rw [List.map_cons, List.sum_cons]
    omega
theorem take_sum {α : Type} {g : α → Int} {l : List α} {i : Nat} {a : α} (h : l[i]? = some a) : ((l.take (i + 1)).map g).sum = ((l.take i).map g).sum + g a := by
  rw [take_snoc h, List.map_append, List.sum_append]
  simp
/-- unlike names: each bundle is found under its own -/
structure Named (bs : List Bun) : Prop where
  one : ∀ (i j : Nat) (b c : Bun), bs[i]? = some b → bs[j]? = some c → b.1 = c.1 → i = j
theorem Named.look {bs : List Bun} (h : Named bs) {b : Bun} (hb : b ∈ bs) : lookB bs b.1 = b.2 := by
  unfold lookB
  cases e : bs.find? fun c => decide (c.1 = b.1) with
  | none =>
    have := List.find?_eq_none.mp e b hb
    simp at this
  | some c =>
    have hc : c.1 = b.1 := by simpa using List.find?_some e
    have hm := List.mem_of_find?_eq_some e
    obtain ⟨i, hi⟩ := List.getElem?_of_mem hb
    obtain ⟨j, hj⟩ := List.getElem?_of_mem hm
    have := h.one i j b c hi hj hc.symm
    subst this
    rw [hi] at hj
    obtain rfl := Option.some.inj hj
    rfl
theorem cnt_nonneg {is : List Str} {bs : List Bun} (hn : Named bs) (x : Str) : ∀ (n : Nat) (name : Str) (c : Int), Ranked is bs n name → 0 ≤ c → 0 ≤ cnt is bs n name c x
  | 0, _, _, _, _ => Int.le_refl 0
  | n + 1, name, c, h, hc => by
    unfold cnt
    rcases h with h | ⟨h, b, hb, e, hp⟩
    · rw [if_pos h]
      split <;> omega
    · rw [if_neg h, ← e, hn.look hb]
      exact sum_nonneg fun p m => cnt_nonneg hn x n p.1 _ (hp p m).1 (Int.mul_nonneg (by have := (hp p m).2.1; omega) hc)
/-! ### dicts of counts -/
def pos (z : Int) : Option V := if 0 < z then some (.int z) else none
/-- the number that a dict holds at x, 0 where it has none -/
def valZ (kvs : List (Key × V)) (x : Str) : Int := match valV kvs (.inr x) with
  | some (.int z) => z
  | _ => 0
structure Counts (is : List Str) (kvs : List (Key × V)) (g : Str → Int) : Prop where
  nd : (kvs.map (·.1)).Nodup
  keys : ∀ k ∈ kvs.map (·.1), ∃ x ∈ is, k = Sum.inr x
  val : ∀ x, valV kvs (.inr x) = pos (g x)
theorem nodup_len {α : Type} [DecidableEq α] : ∀ {l m : List α}, l.Nodup → (∀ a ∈ l, a ∈ m) → l.length ≤ m.length
  | [], _, _, _ => Nat.zero_le _
  | a :: r, m, h, hm => by
    obtain ⟨h1, h2⟩ := List.nodup_cons.mp h
    have ha := hm a List.mem_cons_self
    have ih := nodup_len (l := r) (m := m.erase a) h2 fun b hb => (List.mem_erase_of_ne (fun e => h1 (by rw [← e]; exact hb))).mpr (hm b (List.mem_cons_of_mem _ hb))
    rw [List.length_erase_of_mem ha] at ih
    have : 0 < m.length := List.length_pos_of_mem ha
    rw [List.length_cons]
    omega
theorem Counts.len {is : List Str} {kvs : List (Key × V)} {g : Str → Int} (h : Counts is kvs g) : kvs.length ≤ is.length := by
  have := nodup_len (m := is.map Sum.inr) h.nd fun k hk => by
    obtain ⟨x, hx, rfl⟩ := h.keys k hk
    exact List.mem_map.mpr ⟨x, hx, rfl⟩
  simpa using this
theorem Counts.nil {is : List Str} : Counts is [] (fun _ => 0) := ⟨List.nodup_nil, fun k hk => by simp at hk, fun x => rfl⟩
theorem Counts.congr {is : List Str} {kvs : List (Key × V)} {g g' : Str → Int} (h : Counts is kvs g) (e : ∀ x, g x = g' x) : Counts is kvs g' := ⟨h.nd, h.keys, fun x => by rw [h.val, e]⟩
theorem valZ_pos {kvs : List (Key × V)} {x : Str} {z : Int} (h : valV kvs (.inr x) = pos z) (hz : 0 ≤ z) : valZ kvs x = z := by
  unfold valZ
  rw [h]
  unfold pos
  by_cases h0 : 0 < z
  · rw [if_pos h0]
  · rw [if_neg h0]
    show (0 : Int) = z
    omega
theorem put_keys {kvs : List (Key × V)} {k : Key} {v : V} {j : Key} (h : j ∈ (putK kvs k v).map (·.1)) : j = k ∨ j ∈ kvs.map (·.1) := by
  have h1 : valV (putK kvs k v) j ≠ none := by
    intro e
    have := valV_any j (putK kvs k v)
    rw [e] at this
    obtain ⟨p, hp, e2⟩ := List.mem_map.mp h
    have : ((putK kvs k v).any fun kv => decide (kv.1 = j)) = true := List.any_eq_true.mpr ⟨p, hp, decide_eq_true e2⟩
    simp_all
  rw [valV_put] at h1
  by_cases e : j = k
  · exact .inl e
  · rw [if_neg e] at h1
    obtain ⟨v, hv⟩ := Option.ne_none_iff_exists'.mp h1
    exact .inr (valV_in hv)
theorem put_nodup {kvs : List (Key × V)} {k : Key} {v : V} (h : (kvs.map (·.1)).Nodup) : ((putK kvs k v).map (·.1)).Nodup := by
  cases e : valV kvs k with
  | none => exact nd_putK v h e
  | some u =>
    have : (putK kvs k v).map (·.1) = kvs.map (·.1) := by
      unfold putK
      have ha := valV_any k kvs
      rw [e] at ha
      rw [if_pos (by simpa using ha), List.map_map]
      refine List.map_congr_left fun p _ => ?_
      show (if p.1 = k then (p.1, v) else p).1 = p.1
      split <;> rfl
    rw [this]
    exact h
/-- one more of x0 -/
theorem Counts.put {is : List Str} {kvs : List (Key × V)} {g : Str → Int} {x0 : Str} {z : Int} (h : Counts is kvs g) (hx : x0 ∈ is) (hz : 0 < z) : Counts is (putK kvs (.inr x0) (.int z)) (fun x => if x = x0 then z else g x) := by
  refine ⟨put_nodup h.nd, fun k hk => ?_, fun x => ?_⟩
  · rcases put_keys hk with rfl | hk
    · exact ⟨x0, hx, rfl⟩
    · exact h.keys k hk
  · rw [valV_put]
    by_cases e : x = x0
    · subst e
      rw [if_pos rfl, if_pos rfl]
      unfold pos
      rw [if_pos hz]
    · rw [if_neg (fun q => e (Sum.inr.inj q)), if_neg e, h.val]
/-- the k-th pair of a dict of counts -/
theorem Counts.at {is : List Str} {kvs : List (Key × V)} {g : Str → Int} (h : Counts is kvs g) {i : Nat} {k : Key} {v : V} (hi : kvs[i]? = some (k, v)) : ∃ x ∈ is, k = .inr x ∧ 0 < g x ∧ v = .int (g x) ∧ Sum.inr x ∉ (kvs.take i).map (·.1) := by
  obtain ⟨x, hx, rfl⟩ := h.keys k (List.mem_map.mpr ⟨_, List.mem_of_getElem? hi, rfl⟩)
  have notIn : Sum.inr x ∉ (kvs.take i).map (·.1) := by
    intro hm
    rw [List.map_take] at hm
    obtain ⟨j, hj⟩ := List.getElem?_of_mem hm
    have hlt : j < i := by
      have := (List.getElem?_eq_some_iff.mp hj).1
      rw [List.length_take] at this
      omega
    rw [List.getElem?_take_of_lt hlt] at hj
    have hi' : (kvs.map (·.1))[i]? = some (Sum.inr x) := by rw [List.getElem?_map, hi]; rfl
    have := nd_ix h.nd hj hi'
    omega
  have hv : valV kvs (.inr x) = some v := by
    have e : kvs = kvs.take i ++ (Sum.inr x, v) :: kvs.drop (i + 1) := by
      obtain ⟨hl, e⟩ := List.getElem?_eq_some_iff.mp hi
      rw [← e, ← List.drop_eq_getElem_cons hl, List.take_append_drop]
    unfold valV
    rw [e, List.find?_append]
    have : (kvs.take i).find? (fun kv => decide (kv.1 = Sum.inr x)) = none := List.find?_eq_none.mpr fun p hp q => notIn (List.mem_map.mpr ⟨p, hp, by simpa using q⟩)
    rw [this, Option.none_or, List.find?_cons_of_pos (by simp)]
    rfl
  rw [h.val] at hv
  unfold pos at hv
  by_cases h0 : 0 < g x
  · rw [if_pos h0] at hv
    exact ⟨x, hx, rfl, h0, (Option.some.inj hv).symm, notIn⟩
  · rw [if_neg h0] at hv
    cases hv
theorem valZ_none {kvs : List (Key × V)} {x : Str} (h : Sum.inr x ∉ kvs.map (·.1)) : valZ kvs x = 0 := by
  unfold valZ
  cases e : valV kvs (.inr x) with
  | none => rfl
  | some v => exact absurd (valV_in e) h
theorem valZ_snoc {kvs : List (Key × V)} {x0 x : Str} {z : Int} (h : Sum.inr x0 ∉ kvs.map (·.1)) : valZ (kvs ++ [(.inr x0, .int z)]) x = if x = x0 then z else valZ kvs x := by
  have hn : valV kvs (.inr x0) = none := by
    cases e : valV kvs (.inr x0) with
    | none => rfl
    | some v => exact absurd (valV_in e) h
  unfold valZ
  rw [valV_snoc _ _ _ _ hn]
  by_cases e : x = x0
  · subst e
    rw [if_pos rfl, if_pos rfl]
  · rw [if_neg (fun q => e (Sum.inr.inj q)), if_neg e]
end K8
set_option maxRecDepth 100000
set_option maxHeartbeats 4000000
/-! FnE: counts_in, by the number of levels. -/
namespace K8
open PySem PySem.Spec PyProof.Rows L2
theorem bundle_new {b : Bun} {is el : List Str} (h : bundleB b is el = true) : b.1 ∉ is ∧ b.1 ∉ el := by
  unfold bundleB at h
  by_cases c : (!nameB b.1 || (decide (b.1 ∈ is) || (decide (b.1 ∈ el) || !rowsB (b.2.map partD) 4 2))) = true
  · rw [if_pos c] at h
    cases h
  · simp only [Bool.or_eq_true, decide_eq_true_eq, not_or] at c
    exact ⟨c.2.1, c.2.2.1⟩
theorem GoodBuns.named {C : Cat} {bs : List Bun} (h : GoodBuns C bs) : Named bs := by
  have key : ∀ (i j : Nat) (b c : Bun), i < j → bs[i]? = some b → bs[j]? = some c → b.1 ≠ c.1 := fun i j b c hl hi hj e => by
    refine (bundle_new (h.ok j c hj)).2 (List.mem_map.mpr ⟨b, ?_, e⟩)
    exact List.mem_of_getElem? (i := i) (by rw [List.getElem?_take_of_lt hl]; exact hi)
  refine ⟨fun i j b c hi hj e => ?_⟩
  rcases Nat.lt_trichotomy i j with hl | hl | hl
  · exact absurd e (key i j b c hl hi hj)
  · exact hl
  · exact absurd e.symm (key j i c b hl hj hi)
def sp_counts (K : PySem.W.Frag) (n : Nat) : Sp := fun vs H Q _ => ∃ (C : Cat) (bs : List Bun) (name : Str) (c : Int), DpAll K H vs [catD C, bunsD bs, .str name, .int c] ∧ GoodCat C ∧ GoodBuns C bs ∧ Ranked C.is bs n name ∧ 1 ≤ c ∧
  ∀ p H' kvs, Same H H' → H p = none → H' p = some (.dK kvs) → Counts C.is kvs (cnt C.is bs n name c) → Q (.ref p) H'
theorem dp4 {K : PySem.W.Frag} {H : Hp} {vs : List V} {a b c d : PyData} (h : DpAll K H vs [a, b, c, d]) : ∃ v1 v2 v3 v4, vs = [v1, v2, v3, v4] ∧ Dp K H v1 a ∧ Dp K H v2 b ∧ Dp K H v3 c ∧ Dp K H v4 d := by
  cases h with
  | cons h1 h =>
    obtain ⟨v2, v3, v4, rfl, h2, h3, h4⟩ := dp3 h
    exact ⟨_, _, _, _, rfl, h1, h2, h3, h4⟩
section
variable {P : Program} {w : World} {K : PySem.W.Frag} {mg : Str → Option Value} {base : Heap} {f : Addr} {fd : FuncData}
theorem none_counts : FnOk P w K mg base CX0 0 f fd P_counts_in (sp_counts K 0) := by
  have no : ∀ vs H Q E, ¬ sp_counts K 0 vs H Q E := fun vs H Q E h => by
    obtain ⟨C, bs, name, c, _, _, _, hr, _⟩ := h
    exact hr
  exact ⟨fun vs H Q E h => absurd h (no vs H Q E), fun A outer s H args us vs Q E _ _ _ _ h => absurd h (no vs H Q E)⟩
theorem ok_counts_in {n : Nat} {t1 : Tok} (g_ITEMS : mg "ITEMS" = some (.int 2 t1)) (F_counts_in : Fn K mg "counts_in" s_counts_in f fd) (b_counts_in : Binds K fd P_counts_in []) (G_counts_in : FnOk P w K mg base CX0 n f fd P_counts_in (sp_counts K n)) :
    FnOk P w K mg base CX0 (n + 1) f fd P_counts_in (sp_counts K (n + 1)) := by
  refine F_counts_in.F.ok sc_counts_in (fun vs H Q E h => ?_) (fun cdv A outer s H vs Q E hr h => ?_)
  · obtain ⟨C, bs, name, c, hv, _⟩ := h
    rw [dpl_len hv]
    rfl
  obtain ⟨C, bs, name, c, hv, good, gb, rk, hc, q⟩ := h
  obtain ⟨v1, v2, v3, v4, rfl, h1, h2, h3, h4⟩ := dp4 hv
  obtain rfl := dp_str h3
  obtain rfl := dp_int h4
  have hu := units65 hr
  have hu1 := hu_of hr
  refine ⟨_, (pss_cons (ps_setDc (i := 4) (own := [("bundle", 10)]) rfl sc_counts_in.nd rfl rfl (sw_trueD rfl rfl rfl (by decide +kernel)) (piT (K := K) (pv 1)) (blkOk_by (own := [("bundle", 10)]) (N := N_counts_in) (sc := defScope s_counts_in) (by decide +kernel)) (fun _ _ _ _ _ => (pg_name (i := 10) sc_counts_in.nd rfl (by first | exact Or.inl rfl | exact Or.inr rfl))) (fun _ _ _ _ _ => pts_nil) (fun _ _ _ _ _ => (pe_ix (ixT (K := K)) (pv 10) pe_int (fun _ _ => rfl))) (fun _ _ _ _ _ => (pe_ix (ixT (K := K)) (pv 10) pe_int (fun _ _ => rfl)))) (pss_cons (ps_if (pt_cmpR (opIn (K := K)) (pv 2) (pe_ix (ixT (K := K)) (pv 0) (pe_glob (v := .int 2) (by rfl) g_ITEMS ⟨_, rfl⟩) (fun _ _ => rfl)) (by rfl)) (pss_one (ps_ret (pe_disp (pps_cons (pv 2) (pv 3) pps_nil) (by rfl) (by rfl) (fun z => by cases z) (by decide)))) pss_nil) (pss_cons (ps_set (i := 5) sc_counts_in.nd rfl (by first | exact Or.inl rfl | exact Or.inr rfl) (pe_dnewK)) (pss_cons (ps_for PassesOwn.never rfl (piT (K := K) (pe_dget hu1 (pv 4) (pv 2) (fun _ _ => rfl))) (pgT (K := K) rfl (pgs_cons (pg_name (i := 6) sc_counts_in.nd rfl (by first | exact Or.inl rfl | exact Or.inr rfl)) (pgs_cons (pg_name (i := 7) sc_counts_in.nd rfl (by first | exact Or.inl rfl | exact Or.inr rfl)) pgs_nil))) (pss_one (ps_for PassesOwn.never rfl (pi_items (pe_lockV (pe_call G_counts_in (hr.mono (by first | decide | omega)) (by rfl) F_counts_in.g F_counts_in.kp b_counts_in .nil pass0 (pa_cons (pv 0) (pa_cons (pv 1) (pa_cons (pv 6) (pa_cons (pe_op op_mul (pv 7) (pv 3)) pa_nil))))))) (pgT (K := K) rfl (pgs_cons (pg_name (i := 8) sc_counts_in.nd rfl (by first | exact Or.inl rfl | exact Or.inr rfl)) (pgs_cons (pg_name (i := 9) sc_counts_in.nd rfl (by first | exact Or.inl rfl | exact Or.inr rfl)) pgs_nil))) (pss_one (ps_dput hu1 (pv 5) (pv 8) (pe_op op_add (pe_dget2 hu1 (pv 5) (pv 8) pe_int ⟨rfl, rfl, rfl, rfl⟩) (pv 9)) rfl))))) (pss_one (ps_ret (pv 5))))))), ?_⟩
  -- parts = {..}
  obtain ⟨a, xs, rfl, ha, hx⟩ := dp_tup h2
  have hlen : xs.length = bs.length := by rw [dpl_len hx, List.length_map]
  refine ⟨_, rfl, a, rfl, ⟨xs, ha⟩, fun dp hdp => ?_⟩
  refine dc_tup (xs := xs) (fun i H' => Same H H' ∧ ∃ kvs, H' dp = some (.dK kvs) ∧ kvs.length ≤ i ∧ ∀ (j : Nat) (b : Bun), j < i → bs[j]? = some b → ∃ y, valV kvs (.inr b.1) = some y ∧ Dp K H y (.tuple (b.2.map partD)))
    ⟨same_new hdp _, [], upd_same, Nat.le_refl _, fun j b hj => absurd hj (by omega)⟩ (fun i H' _ p => sqt_mono p.1 ha) (fun i x H' hi p => ?_) (fun H' p => ?_)
  · obtain ⟨s1, kvs, e1, hl1, hall⟩ := p
    obtain ⟨d, hd, hxd⟩ := dpl_at hx hi
    rw [List.getElem?_map] at hd
    obtain ⟨b, hb, rfl⟩ := Option.map_eq_some_iff.mp hd
    obtain ⟨ab, ys, rfl, hab, hys⟩ := dp_tup hxd
    obtain ⟨y1, y2, rfl, hy1, hy2⟩ := dp2 hys
    obtain rfl := dp_str hy1
    have hib : i < bs.length := (List.getElem?_eq_some_iff.mp hb).1
    refine ⟨rfl, ?_⟩
    dsimp only [tYes]
    refine iteT ?_
    refine ⟨_, rfl, ab, _, 0, _, rfl, rfl, sqt_mono s1 hab, atI_nat (j := 0) rfl, _, rfl, ab, _, 1, _, rfl, rfl, sqt_mono s1 hab, atI_nat (j := 1) rfl, ?_⟩
    refine ⟨kvs, .inr b.1, rfl, e1, sz_lt (by have := gb.len; omega), same_mut s1 hdp, _, upd_same, Nat.le_trans (length_putK _ _ _) (by omega), fun j c hj hc => ?_⟩
    rw [valV_put]
    by_cases e : j = i
    · subst e
      rw [hb] at hc
      obtain rfl := Option.some.inj hc
      exact ⟨y2, if_pos rfl, hy2⟩
    · have hne : ¬ (Sum.inr c.1 : Key) = Sum.inr b.1 := fun z => e (gb.named.one j i c b hc hb (Sum.inr.inj z))
      rw [if_neg hne]
      exact hall j c (by omega) hc
  obtain ⟨s1, kvs, e1, _, hall⟩ := p
  rw [hlen] at hall
  -- an item
  dsimp only [tNext, tSeq]
  refine q_if (et_val (ed_in (ed_var rfl (.str name)) (ed_ixT (k := 2) (ed_var rfl (dp_mono s1 h1)) ed_int rfl))) (fun hb H1 s2 => ?_) (fun hb H1 s2 => ?_)
  · have hin : name ∈ C.is := of_decide_eq_true hb
    refine fun p hp => ⟨_, rfl, _, rfl, upd_same, [(.inr name, .int c)], rfl, by show 1 ≤ 15; decide, ?_⟩
    have s3 := s1.trans s2
    refine q p _ [(.inr name, .int c)] (same_mut (s3.trans (same_new hp _)) ((s3.free hp))) (s3.free hp) upd_same ?_
    refine ⟨by simp, fun k hk => ⟨name, hin, by simpa using hk⟩, fun x => ?_⟩
    unfold cnt
    rw [if_pos hin]
    by_cases e : x = name
    · subst e
      rw [if_pos rfl, valV_pos rfl]
      unfold pos
      rw [if_pos (by omega)]
    · rw [if_neg e, valV_neg (fun z => e (Sum.inr.inj z).symm)]
      rfl
  have hnot : name ∉ C.is := of_decide_eq_false hb
  obtain ⟨b, hbm, rfl, hparts⟩ : ∃ b ∈ bs, b.1 = name ∧ ∀ p ∈ b.2, Ranked C.is bs n p.1 ∧ 1 ≤ p.2 ∧ p.2 ≤ 9 := by
    rcases rk with h | ⟨_, h⟩
    · exact absurd h hnot
    · exact h
  have hcnt : ∀ x, cnt C.is bs (n + 1) b.1 c x = (b.2.map fun p => cnt C.is bs n p.1 (p.2 * c) x).sum := fun x => by
    show (if b.1 ∈ C.is then _ else _) = _
    rw [if_neg hnot, gb.named.look hbm]
  obtain ⟨jb, hjb⟩ := List.getElem?_of_mem hbm
  obtain ⟨yv, hyv, hyd⟩ := hall jb b ((List.getElem?_eq_some_iff.mp hjb).1) hjb
  have s12 := s1.trans s2
  have e1' : H1 dp = some (.dK kvs) := s2 _ _ e1
  -- found = {}
  dsimp only [tNext, tSeq]
  intro fp hfp
  have sf := same_new hfp (.dK [])
  obtain ⟨ap, ys, rfl, hap, hys⟩ := dp_tup (dp_mono s12 hyd)
  have hfp0 : H fp = none := s12.free hfp
  have hysl : ys.length = b.2.length := by rw [dpl_len hys, List.length_map]
  refine ⟨_, rfl, _, rfl, dp, .ref ap, rfl, ?_, ap, rfl, ⟨ys, sqt_mono sf hap⟩, ?_⟩
  · have := DGet.k (k := Sum.inr b.1) (sf _ _ e1')
    rw [hyv] at this
    exact this
  -- the parts, one by one
  refine for_tup (xs := ys) (fun i σ' H' => Same H1 H' ∧ (∃ y6 y7 y8 y9 y10, σ' = [some v1, some (.ref a), some (.str b.1), some (.int c), some (.ref dp), some (.ref fp), y6, y7, y8, y9, y10]) ∧
    ∃ ks, H' fp = some (.dK ks) ∧ Counts C.is ks (fun x => ((b.2.take i).map fun p => cnt C.is bs n p.1 (p.2 * c) x).sum)) ⟨sf, ⟨_, _, _, _, _, rfl⟩, [], upd_same, Counts.nil⟩ (fun i σ' H' _ p => ?_) (fun i x σ' H' hi p => ?_) (fun σ' H' p => ?_)
  · exact sqt_mono p.1 hap
  · obtain ⟨s3, ⟨y6, y7, y8, y9, y10, rfl⟩, ks, eks, hks⟩ := p
    obtain ⟨d, hd, hxd⟩ := dpl_at hys hi
    rw [List.getElem?_map] at hd
    obtain ⟨pt, hpt, rfl⟩ := Option.map_eq_some_iff.mp hd
    obtain ⟨at_, zs, rfl, hat, hzs⟩ := dp_tup (dp_mono s3 hxd)
    obtain ⟨z1, z2, rfl, hz1, hz2⟩ := dp2 hzs
    obtain rfl := dp_str hz1
    obtain rfl := dp_int hz2
    have hp := hparts pt (List.mem_of_getElem? hpt)
    have s13 := s12.trans s3
    -- part, own = ..
    refine ⟨at_, _, rfl, hat, rfl, .str pt.1, _, rfl, .int pt.2, _, rfl, rfl, ?_⟩
    -- counts_in(catalog, bundles, part, own * count).items()
    refine ⟨_, rfl, _, rfl, _, rfl, _, rfl, _, rfl, pt.2, c, rfl, rfl, .inl ⟨by omega, by omega⟩, C, bs, pt.1, pt.2 * c, ?_, good, gb, hp.1, ?_, fun p' H4 sub s4 np e4 hsub => ?_⟩
    · exact .cons (dp_mono s13 h1) (.cons (dp_mono s13 h2) (.cons (.str _) (.cons (.int _) .nil)))
    · have := Int.mul_le_mul hp.2.1 hc (by omega) (by omega)
      omega
    refine ⟨p', _, rfl, e4, trivial, fun od => ⟨p', od, sub, rfl, upd_same, ?_⟩⟩
    have s45 : Same H' (upd H4 p' (.frz od (.dK sub))) := same_mut s4 np
    have hne : fp ≠ p' := fun z => by rw [z, np] at eks; cases eks
    refine for_it walk_items (fun k σ2 H2 => Same H1 H2 ∧ H2 p' = some (.frz od (.dK sub)) ∧ (∃ y8 y9, σ2 = [some v1, some (.ref a), some (.str b.1), some (.int c), some (.ref dp), some (.ref fp), some (.str pt.1), some (.int pt.2), y8, y9, y10]) ∧
      ∃ ks2, H2 fp = some (.dK ks2) ∧ Counts C.is ks2 (fun x => ((b.2.take i).map fun p => cnt C.is bs n p.1 (p.2 * c) x).sum + valZ (sub.take k) x)) ⟨s3.trans s45, upd_same, ⟨_, _, rfl⟩, ks, s45 _ _ eks, ?_⟩ (fun k σ2 H2 _ p => p.2.1) (fun k x σ2 H2 H3 hk p hy => ?_) (fun σ2 H2 p => ?_)
    · refine hks.congr fun x => ?_
      show _ = _ + valZ [] x
      have : valZ [] x = 0 := rfl
      omega
    · obtain ⟨s5, efr, ⟨y8', y9', rfl⟩, ks2, eks2, hks2⟩ := p
      obtain ⟨T, x1, x2, rfl, nT, rfl, g1, g2⟩ := hy
      obtain ⟨⟨key, v⟩, hkv⟩ : ∃ kv, sub[k]? = some kv := ⟨sub[k], List.getElem?_eq_getElem hk⟩
      dsimp only at g1 g2
      rw [hkv] at g1 g2
      obtain rfl : kV key = x1 := Option.some.inj g1
      obtain rfl : v = x2 := Option.some.inj g2
      obtain ⟨x0, hx0, rfl, hpos, rfl, hnotin⟩ := hsub.at hkv
      have sT := same_new nT (.tup [kV (.inr x0), .int (cnt C.is bs n pt.1 (pt.2 * c) x0)])
      refine ⟨T, _, rfl, SqT.of upd_same, rfl, .str x0, _, rfl, .int (cnt C.is bs n pt.1 (pt.2 * c) x0), _, rfl, rfl, ?_⟩
      have h0 : 0 ≤ ((b.2.take i).map fun p => cnt C.is bs n p.1 (p.2 * c) x0).sum := sum_nonneg fun p hp' => by
        have hq := hparts p (List.mem_of_mem_take hp')
        exact cnt_nonneg gb.named x0 n p.1 _ hq.1 (Int.mul_nonneg (by omega) (by omega))
      have hz0 : valZ (sub.take k) x0 = 0 := valZ_none hnotin
      have hget : ((valV ks2 (.inr x0)).getD (.int 0)) = .int ((b.2.take i).map fun p => cnt C.is bs n p.1 (p.2 * c) x0).sum := by
        rw [hks2.val, hz0, Int.add_zero]
        unfold pos
        by_cases hh : 0 < ((b.2.take i).map fun p => cnt C.is bs n p.1 (p.2 * c) x0).sum
        · rw [if_pos hh]
          rfl
        · rw [if_neg hh]
          show V.int 0 = V.int _
          congr 1
          omega
      refine ⟨_, rfl, fp, rfl, .inl ⟨ks2, .inl (sT _ _ eks2)⟩, _, rfl, valV ks2 (.inr x0), DGet.k (k := Sum.inr x0) (sT _ _ eks2), ?_⟩
      refine ⟨_, rfl, _, _, hget, rfl, ?_⟩
      refine ⟨_, rfl, _, rfl, fp, _, rfl, DPut.k (k := Sum.inr x0) (sT _ _ eks2) (sz_lt (Nat.lt_of_le_of_lt hks2.len (by have := names_len good.is; omega))), ?_⟩
      refine ⟨same_mut (s5.trans sT) hfp, ?_, ⟨_, _, rfl⟩, _, upd_same, ?_⟩
      · rw [upd_ne hne.symm]
        exact sT _ _ efr
      · refine (hks2.put hx0 (z := ((b.2.take i).map fun p => cnt C.is bs n p.1 (p.2 * c) x0).sum + cnt C.is bs n pt.1 (pt.2 * c) x0) (by omega)).congr fun x => ?_
        rw [take_snoc hkv, valZ_snoc hnotin]
        by_cases e : x = x0
        · subst e
          rw [if_pos rfl, if_pos rfl]
        · rw [if_neg e, if_neg e]
    · obtain ⟨s5, _, ⟨y8', y9', rfl⟩, ks2, eks2, hks2⟩ := p
      refine ⟨s5, ⟨_, _, _, _, _, rfl⟩, ks2, eks2, hks2.congr fun x => ?_⟩
      rw [List.take_length, take_sum hpt, valZ_pos (hsub.val x) (cnt_nonneg gb.named x n pt.1 _ hp.1 (Int.mul_nonneg (by omega) (by omega)))]
  · obtain ⟨s3, ⟨y6, y7, y8, y9, y10, rfl⟩, ks, eks, hks⟩ := p
    refine ⟨_, rfl, ?_⟩
    refine q fp H' ks (s12.trans s3) hfp0 eks (hks.congr fun x => ?_)
    rw [hcnt, hysl, List.take_length]
theorem all_counts {t1 : Tok} (g_ITEMS : mg "ITEMS" = some (.int 2 t1)) (F : Fn K mg "counts_in" s_counts_in f fd) (b : Binds K fd P_counts_in []) : ∀ n, FnOk P w K mg base CX0 n f fd P_counts_in (sp_counts K n)
  | 0 => none_counts
  | n + 1 => ok_counts_in g_ITEMS F b (all_counts g_ITEMS F b n)
end
end K8
set_option maxRecDepth 100000
set_option maxHeartbeats 4000000
/-! FnF: made_of, of good arguments and over wrong bundles. -/
namespace K8
open PySem PySem.Spec PyProof.Rows L2
/-- the names that a want may bear -/
def namesOf (C : Cat) (bs : List Bun) : List Str := C.is ++ bs.map (·.1)
def madeL (C : Cat) (bs : List Bun) (name : Str) (c : Int) : List Str := C.is.filter fun x => decide (0 < cnt C.is bs 4 name c x)
def madeD (C : Cat) (bs : List Bun) (name : Str) (c : Int) : PyData := .tuple ((madeL C bs name c).map fun x => .tuple [.str x, .int (cnt C.is bs 4 name c x)])
def rel_made (ds : List PyData) (d : PyData) : Prop := ∃ (C : Cat) (bs : List Bun) (name : Str) (c : Int), ds = [catD C, bunsD bs, .str name, .int c] ∧ GoodCat C ∧ GoodBuns C bs ∧ nameB name = true ∧ Fine name ∧ Ranked C.is bs 4 name ∧ 1 ≤ c ∧ c ≤ 99 ∧ d = madeD C bs name c
theorem Ranked.mem {C : Cat} {bs : List Bun} {n : Nat} {name : Str} (h : Ranked C.is bs n name) : name ∈ namesOf C bs := by
  cases n with
  | zero => exact h.elim
  | succ n =>
    rcases h with h | ⟨_, b, hb, rfl, _⟩
    · exact List.mem_append_left _ h
    · exact List.mem_append_right _ (List.mem_map.mpr ⟨b, hb, rfl⟩)
section
variable {K : PySem.W.Frag} {σ : L2.St} {H : Hp} {ty : TE}
theorem et_din {k : Nat} {p : Addr} {kvs : List (Key × V)} {x : Str} (hx : EvD K ty σ H (.str x)) (hd : σ[k]? = some (some (.ref p))) (h : H p = some (.dK kvs)) : EvB (tB (tDIn ty (tVar k))) σ H (valV kvs (.inr x)).isSome := fun H1 s Q q =>
  hx H1 s _ fun v H2 s2 hv => by
    obtain rfl := dp_str hv
    exact ⟨_, hd, p, _, rfl, DGet.k (k := Sum.inr x) (s2 _ _ (s _ _ h)), _, rfl, q H2 s2⟩
theorem ed_dget {k : Nat} {p : Addr} {kvs : List (Key × V)} {x : Str} {z : Int} (hx : EvD K ty σ H (.str x)) (hd : σ[k]? = some (some (.ref p))) (h : H p = some (.dK kvs)) (hz : valV kvs (.inr x) = some (.int z)) : EvD K (tDGet (tVar k) ty) σ H (.int z) := fun H1 s Q q =>
  ⟨_, hd, hx H1 s _ fun v H2 s2 hv => by
    obtain rfl := dp_str hv
    have g := DGet.k (k := Sum.inr x) (s2 _ _ (s _ _ h))
    rw [hz] at g
    exact ⟨p, _, rfl, g, q _ H2 s2 (.int z)⟩⟩
end
section
variable {P : Program} {w : World} {K : PySem.W.Frag} {mg : Str → Option Value} {base : Heap} {f : Addr} {fd : FuncData}
theorem ok_made_of (B : Blt mg) {t1 : Tok} (g_ITEMS : mg "ITEMS" = some (.int 2 t1)) (c_need_bundles : Cal P w K mg base "need_bundles" s_need_bundles CX0 5 P_need_bundles (PureSp K rel_needb)) (c_is_name : Cal P w K mg base "is_name" s_is_name CX0 1 P_is_name (PureSp K rel_name))
    (c_is_whole : Cal P w K mg base "is_whole" s_is_whole CX0 1 P_is_whole (PureSp K rel_whole)) (c_counts_in : Cal P w K mg base "counts_in" s_counts_in CX0 4 P_counts_in (sp_counts K 4)) (F : Fun K "made_of" "made_of" s_made_of f fd) : FnOk P w K mg base CX0 6 f fd P_made_of (PureSp K rel_made) := by
  obtain ⟨_, _, F_need_bundles, b_need_bundles, G_need_bundles⟩ := c_need_bundles
  obtain ⟨_, _, F_is_name, b_is_name, G_is_name⟩ := c_is_name
  obtain ⟨_, _, F_is_whole, b_is_whole, G_is_whole⟩ := c_is_whole
  obtain ⟨_, _, F_counts_in, b_counts_in, G_counts_in⟩ := c_counts_in
  refine F.ok sc_made_of (fun vs H Q E h => ?_) (fun cdv A outer s H vs Q E hr h => ?_)
  · obtain ⟨ds, d, hv, ⟨C, bs, name, c, rfl, _⟩, _⟩ := h
    rw [dpl_len hv]
    rfl
  obtain ⟨ds, d, hv, ⟨C, bs, name, c, rfl, good, gb, nn, fine, rk, hc1, hc2, rfl⟩, q⟩ := h
  obtain ⟨v1, v2, v3, v4, rfl, h1, h2, h3, h4⟩ := dp4 hv
  have hu := units65 hr
  have hu1 := hu_of hr
  have hil := names_len good.is
  refine ⟨_, (pss_cons (ps_expr (pe_call G_need_bundles (hr.mono (by first | decide | omega)) (by rfl) F_need_bundles.g F_need_bundles.kp b_need_bundles .nil pass0 (pa_cons (pv 0) (pa_cons (pv 1) pa_nil)))) (pss_cons (ps_set (i := 4) sc_made_of.nd rfl (by first | exact Or.inl rfl | exact Or.inr rfl) (pe_lst (paS (K := K) (pe_ix (ixT (K := K)) (pv 0) (pe_glob (v := .int 2) (by rfl) g_ITEMS ⟨_, rfl⟩) (fun _ _ => rfl)) (paS (K := K) (pe_lc (own := [("bundle", 6)]) rfl sc_made_of.nd (piT (K := K) (pv 1)) (blkOk_by (own := [("bundle", 6)]) (N := N_made_of) (sc := defScope s_made_of) (by decide +kernel)) (fun _ _ _ _ _ => (pg_name (i := 6) sc_made_of.nd rfl (by first | exact Or.inl rfl | exact Or.inr rfl))) (fun _ _ _ _ _ => pts_nil) (fun _ _ _ _ _ => (pe_ix (ixT (K := K)) (pv 6) pe_int (fun _ _ => rfl)))) pa_nil)))) (pss_cons (ps_if (PW.pt (pw_or (pt_not (pt_val (pe_call G_is_name (hr.mono (by first | decide | omega)) (by rfl) F_is_name.g F_is_name.kp b_is_name .nil pass0 (pa_cons (pv 2) pa_nil)))) (pw_or (pt_cmpR (opNin (K := K)) (pv 2) (pv 4) (by rfl)) (pw_or1 (pt_not (pt_val (pe_call G_is_whole (hr.mono (by first | decide | omega)) (by rfl) F_is_whole.g F_is_whole.kp b_is_whole .nil pass0 (pa_cons (pv 3) (pa_cons pe_int (pa_cons pe_int pa_nil)))))))))) (pss_one ps_never) pss_nil) (pss_cons (ps_set (i := 5) sc_made_of.nd rfl (by first | exact Or.inl rfl | exact Or.inr rfl) (pe_call G_counts_in (hr.mono (by first | decide | omega)) (by rfl) F_counts_in.g F_counts_in.kp b_counts_in .nil pass0 (pa_cons (pv 0) (pa_cons (pv 1) (pa_cons (pv 2) (pa_cons (pv 3) pa_nil)))))) (pss_one (ps_ret (pe_callTy (cTuple (K := K)) (by rfl) B.tuple (by decide +kernel) (pa_cons (pe_lc (own := [("item", 7)]) rfl sc_made_of.nd (piT (K := K) (pe_ix (ixT (K := K)) (pv 0) (pe_glob (v := .int 2) (by rfl) g_ITEMS ⟨_, rfl⟩) (fun _ _ => rfl))) (blkOk_by (own := [("item", 7)]) (N := N_made_of) (sc := defScope s_made_of) (by decide +kernel)) (fun _ _ _ _ _ => (pg_name (i := 7) sc_made_of.nd rfl (by first | exact Or.inl rfl | exact Or.inr rfl))) (fun _ _ _ _ _ => (pts_one (pt_cmp (pc_din hu1 (pv 7) (pv 5))))) (fun _ _ _ _ _ => (pe_tup (pa_cons (pv 7) (pa_cons (pe_dget hu1 (pv 5) (pv 7) (fun _ _ => rfl)) pa_nil))))) pa_nil)))))))), ?_⟩
  refine (ed_call (c := .none) (ea_cons (ed_var rfl h1) (ea_cons (ed_var rfl h2) ea_nil)) ⟨C, bs, rfl, good, gb, rfl⟩) H (Same.refl _) _ fun _ H1 s1 _ => ?_
  dsimp only [tNext, tSeq]
  -- names
  have e1 := ed_lcT (K := K) (σ := L2.start N_made_of [v1, v2, v3, v4]) (H := H1) (t := tYes) (te := tOp (rIxT K) (tVar 6) (tC (V.int 0))) (src := tVar 1) (k := 6) (vs := [6])
    (fun _ => true) (fun d => match d with | .tuple (x :: _) => x | d => d) (ed_var rfl (dp_mono s1 h2)) (by rw [List.length_map]; have := gb.len; omega) (fun _ => rfl) (fun _ _ _ _ _ _ => et_yes)
    (fun d hd _ x H5 s5 hxd => by
      obtain ⟨l, hl, rfl⟩ := List.mem_map.mp hd
      exact ed_ixT (k := 0) (ed_var rfl hxd) ed_int rfl)
    (fun d hd _ => by
      obtain ⟨l, hl, rfl⟩ := List.mem_map.mp hd
      rfl)
  rw [keepD_all, List.map_map] at e1
  have e1 : EvD K _ _ _ (.list ((bs.map (·.1)).map .str)) := e1.is (by rw [List.map_map]; rfl)
  have e2 : EvD K _ _ _ (.list ((namesOf C bs).map .str)) := EvD.is (ed_lst (ea_starT (ed_ixT (k := 2) (ed_var (σ := L2.start N_made_of [v1, v2, v3, v4]) (k := 0) rfl (dp_mono s1 h1)) ed_int rfl) (ea_starL e1 ea_nil)) (by simp; have := gb.len; omega)) (by unfold namesOf; rw [List.map_append, List.append_nil])
  refine q_asg e2 fun v5 H2 s2 h5 => ?_
  dsimp only [tNext, tSeq]
  have s12 := s1.trans s2
  refine q_if (b := false) ((et_or (et_not (et_B (ed_call (ea_cons (ed_var rfl (dp_mono s12 h3)) ea_nil) ⟨_, rfl, fine.1, rfl⟩))) fun _ => et_or (et_val (ed_notInL (ed_var rfl (dp_mono s12 h3)) (ed_var rfl h5))) fun _ => et_not (et_B (ed_call (ea_cons (ed_var rfl (dp_mono s12 h4)) (ea_cons ed_int (ea_cons ed_int ea_nil))) ⟨_, _, _, rfl, rfl⟩))).is
    (by rw [nn, decide_eq_true rk.mem, whole_yes ⟨hc1, hc2⟩]; rfl)) (fun hb => Bool.noConfusion hb) (fun _ H3 s3 => ?_)
  dsimp only [tNext, tSeq]
  have s13 := s12.trans s3
  -- found
  obtain rfl := dp_str h3
  obtain rfl := dp_int h4
  refine ⟨_, rfl, _, rfl, _, rfl, _, rfl, C, bs, name, c, ?_, good, gb, rk, hc1, fun p H4 kvs s4 np hp hk => ?_⟩
  · exact .cons (dp_mono s13 h1) (.cons (dp_mono s13 h2) (.cons (.str _) (.cons (.int _) .nil)))
  have s14 := s13.trans s4
  have e5 := ed_lcT (K := K) (σ := ((L2.start N_made_of [v1, v2, V.str name, V.int c]).set 4 (some v5)).set 5 (some (V.ref p))) (H := H4) (t := tB (tDIn (tVar 7) (tVar 5))) (te := tTup (tCons (tVar 7) (tCons (tDGet (tVar 5) (tVar 7)) tNil))) (src := tOp (rIxT K) (tVar 0) (tC (V.int ((2 : Nat) : Int)))) (k := 7) (vs := [7])
    (fun d => match d with | .str x => (valV kvs (.inr x)).isSome | _ => false) (fun d => match d with | .str x => .tuple [.str x, .int (cnt C.is bs 4 name c x)] | d => d) (ed_ixT (k := 2) (ed_var rfl (dp_mono s14 h1)) ed_int rfl) (by rw [List.length_map]; omega) (fun _ => rfl)
    (fun d hd x H5 s5 hxd => by
      obtain ⟨y, hy, rfl⟩ := List.mem_map.mp hd
      exact et_din (ed_var rfl hxd) rfl (s5 _ _ hp))
    (fun d hd hpd x H5 s5 hxd => by
      obtain ⟨y, hy, rfl⟩ := List.mem_map.mp hd
      have hv : valV kvs (.inr y) = some (.int (cnt C.is bs 4 name c y)) := by
        have hpd : (valV kvs (.inr y)).isSome = true := hpd
        rw [hk.val] at hpd ⊢
        unfold pos at hpd ⊢
        by_cases h0 : 0 < cnt C.is bs 4 name c y
        · rw [if_pos h0]
        · rw [if_neg h0] at hpd
          cases hpd
      exact ed_tup (ea_cons (ed_var rfl hxd) (ea_cons (ed_dget (ed_var rfl hxd) rfl (s5 _ _ hp) hv) ea_nil)) (by simp))
    (fun d hd _ => by
      obtain ⟨y, hy, rfl⟩ := List.mem_map.mp hd
      rfl)
  have e6 : PyData.tuple (keepD (fun d => match d with | .str x => (valV kvs (.inr x)).isSome | _ => false) (fun d => match d with | .str x => .tuple [.str x, .int (cnt C.is bs 4 name c x)] | d => d) (C.is.map .str)) = madeD C bs name c := by
    unfold madeD madeL keepD
    rw [List.filter_map, List.map_map]
    have : (List.filter ((fun d => match d with | PyData.str x => (valV kvs (.inr x)).isSome | _ => false) ∘ PyData.str) C.is) = List.filter (fun x => decide (0 < cnt C.is bs 4 name c x)) C.is := by
      refine List.filter_congr fun x _ => ?_
      show (valV kvs (.inr x)).isSome = _
      rw [hk.val]
      unfold pos
      by_cases h0 : 0 < cnt C.is bs 4 name c x
      · rw [if_pos h0, decide_eq_true h0]
        rfl
      · rw [if_neg h0, decide_eq_false h0]
        rfl
    rw [this]
    rfl
  refine q_ret (EvD.is (ed_tuple e5) e6) fun v H5 s5 hd => q v H5 (s14.trans s5) hd
/-! ### over wrong bundles -/
def sp_made_bad (K : PySem.W.Frag) (CB : Addr) : Sp := fun vs H Q E => ∃ (C : Cat) (d d2 d3 : PyData), DpAll K H vs [catD C, d, d2, d3] ∧ GoodCat C ∧ BadBuns C d ∧ ∀ H', Same H H' → E (.ref CB) none H'
theorem ok_made_bad {CB : Addr} (c_need_bundles : Cal P w K mg base "need_bundles" s_need_bundles (L2N.CX P w) 5 P_need_bundles (sp_need_bad K CB)) (F : Fun K "made_of" "made_of" s_made_of f fd) : FnOk P w K mg base (L2N.CX P w) 6 f fd P_made_of (sp_made_bad K CB) := by
  obtain ⟨_, _, F_need_bundles, b_need_bundles, G_need_bundles⟩ := c_need_bundles
  refine HotL.okN F sc_made_of (fun vs H Q E h => ?_) (fun cdv A outer s H vs Q E hr h => ?_)
  · obtain ⟨C, d, d2, d3, hv, _⟩ := h
    rw [dpl_len hv]
    rfl
  obtain ⟨C, d, d2, d3, hv, good, bad, q⟩ := h
  obtain ⟨v1, v2, v3, v4, rfl, h1, h2, h3, h4⟩ := dp4 hv
  refine ⟨_, (pss_cons (ps_expr (pe_callS G_need_bundles hr (by rfl) F_need_bundles.g F_need_bundles.kp b_need_bundles (fun σ => L2N.passAt (L2N.takes_of rfl rfl rfl rfl) σ) (pa_cons (pv 0) (pa_cons (pv 1) pa_nil)))) pss_never), ?_⟩
  exact ⟨_, rfl, _, rfl, C, d, .cons h1 (.cons h2 .nil), good, bad, fun H' s => q H' s⟩
end
end K8
set_option maxRecDepth 100000
set_option maxHeartbeats 4000000
/-! FnG: opened. -/
namespace K8
open PySem PySem.Spec PyProof.Rows L2
/-! ### the mathematics -/
def sumsOf (C : Cat) (bs : List Bun) (ws : List (Str × Int)) (x : Str) : Int := (ws.map fun w => cnt C.is bs 4 w.1 w.2 x).sum
def wishL (C : Cat) (bs : List Bun) (ws : List (Str × Int)) : List Str := C.is.filter fun x => decide (0 < sumsOf C bs ws x)
def wishD (C : Cat) (bs : List Bun) (ws : List (Str × Int)) : PyData := .tuple ((wishL C bs ws).map fun x => .tuple [.tuple [.str x], .int (sumsOf C bs ws x)])
def wantsB (C : Cat) (bs : List Bun) (ws : List (Str × Int)) : Bool := !ws.isEmpty && (ws.all (fun w => nameB w.1 && decide (w.1 ∈ namesOf C bs)) && ws.all fun w => wholeB w.2 1 99)
def fewB (C : Cat) (bs : List Bun) (ws : List (Str × Int)) : Bool := (wishL C bs ws).all fun x => decide (sumsOf C bs ws x ≤ 99)
theorem eqv_str (x y : Str) : PyData.eqv (.str x) (.str y) = decide (x = y) := by
  show (x == y) = _
  by_cases h : x = y
  · subst h
    simp
  · simp [h]
theorem names_nodup {ss : List Str} (h : unlikeB (ss.map .str) = true) : ss.Nodup := by
  rw [List.nodup_iff_pairwise_ne, List.pairwise_iff_getElem]
  intro i j hi hj hij e
  unfold unlikeB at h
  rw [List.all_map] at h
  have h2 := List.all_eq_true.mp h j (List.mem_range.mpr (by simpa using hj))
  have h3 : (((ss.map PyData.str).take j).any fun z => PyData.eqv z ((ss.map PyData.str).getD j .none)) = true := by
    refine List.any_eq_true.mpr ⟨.str ss[i], ?_, ?_⟩
    · exact List.mem_of_getElem? (i := i) (by rw [List.getElem?_take_of_lt hij, List.getElem?_map, List.getElem?_eq_getElem hi]; rfl)
    · have : (ss.map PyData.str).getD j .none = .str ss[j] := by simp [List.getD_eq_getElem?_getD, List.getElem?_map, List.getElem?_eq_getElem hj]
      rw [this, eqv_str, e]
      simp
  simp only [Function.comp, id, Bool.not_eq_true'] at h2
  rw [h3] at h2
  cases h2
theorem GoodCat.nodup {C : Cat} (h : GoodCat C) : C.is.Nodup := by
  have := h.is
  unfold namesB at this
  simp only [Bool.and_eq_true] at this
  exact names_nodup this.2.2
theorem cnt_out {is : List Str} {bs : List Bun} {x : Str} (hx : x ∉ is) : ∀ (n : Nat) (name : Str) (c : Int), cnt is bs n name c x = 0
  | 0, _, _ => rfl
  | n + 1, name, c => by
    unfold cnt
    by_cases h : name ∈ is
    · rw [if_pos h, if_neg (fun e => hx (by rw [e]; exact h))]
    · rw [if_neg h]
      have : ((lookB bs name).map fun p => cnt is bs n p.1 (p.2 * c) x) = (lookB bs name).map fun _ => (0 : Int) := List.map_congr_left fun p _ => cnt_out hx n p.1 _
      rw [this]
      induction lookB bs name with
      | nil => rfl
      | cons a r ih => rw [List.map_cons, List.sum_cons, ih]; rfl
def bad (H : Hp) (E : XK) (CO : Addr) : Prop := ∀ H', Same H H' → E (.ref CO) none H'
def sp_opened (K : PySem.W.Frag) (CO : Addr) : Sp := fun vs H Q E => ∃ (C : Cat) (bs : List Bun) (dn dr dw db dt : PyData), DpAll K H vs [catD C, bunsD bs, dn, dr, dw, db, dt] ∧ GoodCat C ∧ GoodBuns C bs ∧ C.is.length ≤ 3 ∧ (∀ x ∈ namesOf C bs, Ranked C.is bs 4 x) ∧
  ((dw = .none ∧ bad H E CO) ∨ ∃ ws : List (Str × Int), dw = .tuple (ws.map partD) ∧ ws.length ≤ 6 ∧ (∀ w ∈ ws, Fine w.1) ∧ (wantsB C bs ws = false → bad H E CO) ∧ (wantsB C bs ws = true → fewB C bs ws = false → bad H E CO) ∧
    (wantsB C bs ws = true → fewB C bs ws = true → ∀ v H', Same H H' → Dp K H' v (.tuple [dn, dr, wishD C bs ws, db, dt]) → Q v H'))
theorem dp7 {K : PySem.W.Frag} {H : Hp} {vs : List V} {a b c d e f g : PyData} (h : DpAll K H vs [a, b, c, d, e, f, g]) : ∃ v1 v2 v3 v4 v5 v6 v7, vs = [v1, v2, v3, v4, v5, v6, v7] ∧ Dp K H v1 a ∧ Dp K H v2 b ∧ Dp K H v3 c ∧ Dp K H v4 d ∧ Dp K H v5 e ∧ Dp K H v6 f ∧ Dp K H v7 g := by
  cases h with
  | cons h1 h =>
    cases h with
    | cons h2 h =>
      obtain ⟨v3, v4, v5, v6, v7, rfl, h3, h4, h5, h6, h7⟩ := dp5 h
      exact ⟨_, _, _, _, _, _, _, rfl, h1, h2, h3, h4, h5, h6, h7⟩
section
variable {P : Program} {w : World} {K : PySem.W.Frag} {mg : Str → Option Value} {base : Heap} {f : Addr} {fd : FuncData}
theorem ok_opened (B : Blt mg) {CO : Addr} (E_BadOrder : Err K mg "BadOrder" CO) {t1 t2 : Tok} (g_ITEMS : mg "ITEMS" = some (.int 2 t1)) (g_MOST_WISHES : mg "MOST_WISHES" = some (.int 3 t2)) (c_need_bundles : Cal P w K mg base "need_bundles" s_need_bundles CX0 5 P_need_bundles (PureSp K rel_needb))
    (c_are_rows : Cal P w K mg base "are_rows" s_are_rows CX0 1 P_are_rows (PureSp K rel_rows)) (c_is_name : Cal P w K mg base "is_name" s_is_name CX0 1 P_is_name (PureSp K rel_name))
    (c_is_whole : Cal P w K mg base "is_whole" s_is_whole CX0 1 P_is_whole (PureSp K rel_whole)) (c_made_of : Cal P w K mg base "made_of" s_made_of CX0 6 P_made_of (PureSp K rel_made)) (F : Fun K "opened" "opened" s_opened f fd) :
    FnOk P w K mg base (L2N.CX P w) 7 f fd P_opened (sp_opened K CO) := by
  obtain ⟨_, _, F_need_bundles, b_need_bundles, G_need_bundles⟩ := c_need_bundles
  obtain ⟨_, _, F_are_rows, b_are_rows, G_are_rows⟩ := c_are_rows
  obtain ⟨_, _, F_is_name, b_is_name, G_is_name⟩ := c_is_name
  obtain ⟨_, _, F_is_whole, b_is_whole, G_is_whole⟩ := c_is_whole
  obtain ⟨_, _, F_made_of, b_made_of, G_made_of⟩ := c_made_of
  refine HotL.okN F sc_opened (fun vs H Q E h => ?_) (fun cdv A outer s H vs Q E hr h => ?_)
  · obtain ⟨C, bs, dn, dr, dw, db, dt, hv, _⟩ := h
    rw [dpl_len hv]
    rfl
  obtain ⟨C, bs, dn, dr, dw, db, dt, hv, good, gb, h3i, rkd, hw⟩ := h
  obtain ⟨v1, v2, v3, v4, v5, v6, v7, rfl, h1, h2, h3, h4, h5, h6, h7⟩ := dp7 hv
  have hu := units65 hr
  have hu1 := hu_of hr
  have hil := names_len good.is
  refine ⟨_, (pss_cons (ps_expr (pe_call G_need_bundles (hr.mono (by first | decide | omega)) (by rfl) F_need_bundles.g F_need_bundles.kp b_need_bundles .nil pass0 (pa_cons (pv 0) (pa_cons (pv 1) pa_nil)))) (pss_cons (ps_set (i := 7) sc_opened.nd rfl (by first | exact Or.inl rfl | exact Or.inr rfl) (pe_lst (paS (K := K) (pe_ix (ixT (K := K)) (pv 0) (pe_glob (v := .int 2) (by rfl) g_ITEMS ⟨_, rfl⟩) (fun _ _ => rfl)) (paS (K := K) (pe_lc (own := [("bundle", 9)]) rfl sc_opened.nd (piT (K := K) (pv 1)) (blkOk_by (own := [("bundle", 9)]) (N := N_opened) (sc := defScope s_opened) (by decide +kernel)) (fun _ _ _ _ _ => (pg_name (i := 9) sc_opened.nd rfl (by first | exact Or.inl rfl | exact Or.inr rfl))) (fun _ _ _ _ _ => pts_nil) (fun _ _ _ _ _ => (pe_ix (ixT (K := K)) (pv 9) pe_int (fun _ _ => rfl)))) pa_nil)))) (pss_cons (ps_if (PW.pt (pw_or (pt_not (pt_val (pe_call G_are_rows (hr.mono (by first | decide | omega)) (by rfl) F_are_rows.g F_are_rows.kp b_are_rows .nil pass0 (pa_cons (pv 4) (pa_cons pe_int (pa_cons pe_int pa_nil)))))) (pw_or (pt_cmpR (opEqD (K := K) hu) (pv 4) (pe_tup pa_nil) (nomark _)) (pw_or1 (pt_not (pt_val (pe_callB (cAll (K := K) rfl) (by rfl) B.all (by decide +kernel) (pa_cons (pe_lc (own := [("one", 14)]) rfl sc_opened.nd (piT (K := K) (pv 4)) (blkOk_by (own := [("one", 14)]) (N := N_opened) (sc := defScope s_opened) (by decide +kernel)) (fun _ _ _ _ _ => (pg_name (i := 14) sc_opened.nd rfl (by first | exact Or.inl rfl | exact Or.inr rfl))) (fun _ _ _ _ _ => pts_nil) (fun _ _ _ _ _ => (pe_and (pe_call G_is_name (hr.mono (by first | decide | omega)) (by rfl) F_is_name.g F_is_name.kp b_is_name .nil pass0 (pa_cons (pe_ix (ixT (K := K)) (pv 14) pe_int (fun _ _ => rfl)) pa_nil)) (pe_one (pe_cmpR (opIn (K := K)) (pe_ix (ixT (K := K)) (pv 14) pe_int (fun _ _ => rfl)) (pv 7) (by rfl)))))) pa_nil)))))))) (pss_one (L2N.ps_raise rfl (L2N.takes_of rfl rfl rfl rfl) (L2N.pmk_own PySem.F.excBase_ValueError E_BadOrder.x E_BadOrder.g E_BadOrder.k (raises_own E_BadOrder.b E_BadOrder.t) (by rfl)))) pss_nil) (pss_cons (ps_if (pt_not (pt_val (pe_callB (cAll (K := K) rfl) (by rfl) B.all (by decide +kernel) (pa_cons (pe_lc (own := [("one", 14)]) rfl sc_opened.nd (piT (K := K) (pv 4)) (blkOk_by (own := [("one", 14)]) (N := N_opened) (sc := defScope s_opened) (by decide +kernel)) (fun _ _ _ _ _ => (pg_name (i := 14) sc_opened.nd rfl (by first | exact Or.inl rfl | exact Or.inr rfl))) (fun _ _ _ _ _ => pts_nil) (fun _ _ _ _ _ => (pe_call G_is_whole (hr.mono (by first | decide | omega)) (by rfl) F_is_whole.g F_is_whole.kp b_is_whole .nil pass0 (pa_cons (pe_ix (ixT (K := K)) (pv 14) pe_int (fun _ _ => rfl)) (pa_cons pe_int (pa_cons pe_int pa_nil)))))) pa_nil)))) (pss_one (L2N.ps_raise rfl (L2N.takes_of rfl rfl rfl rfl) (L2N.pmk_own PySem.F.excBase_ValueError E_BadOrder.x E_BadOrder.g E_BadOrder.k (raises_own E_BadOrder.b E_BadOrder.t) (by rfl)))) pss_nil) (pss_cons (ps_set (i := 8) sc_opened.nd rfl (by first | exact Or.inl rfl | exact Or.inr rfl) (pe_dnewK)) (pss_cons (ps_for (passes_of rfl) rfl (piT (K := K) (pv 4)) (pgT (K := K) rfl (pgs_cons (pg_name (i := 9) sc_opened.nd rfl (by first | exact Or.inl rfl | exact Or.inr rfl)) (pgs_cons (pg_name (i := 10) sc_opened.nd rfl (by first | exact Or.inl rfl | exact Or.inr rfl)) pgs_nil))) (pss_one (ps_for (passes_of rfl) rfl (piT (K := K) (pe_call G_made_of (hr.mono (by first | decide | omega)) (by rfl) F_made_of.g F_made_of.kp b_made_of .nil pass0 (pa_cons (pv 0) (pa_cons (pv 1) (pa_cons (pv 9) (pa_cons (pv 10) pa_nil)))))) (pgT (K := K) rfl (pgs_cons (pg_name (i := 11) sc_opened.nd rfl (by first | exact Or.inl rfl | exact Or.inr rfl)) (pgs_cons (pg_name (i := 12) sc_opened.nd rfl (by first | exact Or.inl rfl | exact Or.inr rfl)) pgs_nil))) (pss_one (ps_dput hu1 (pv 8) (pv 11) (pe_op op_add (pe_dget2 hu1 (pv 8) (pv 11) pe_int ⟨rfl, rfl, rfl, rfl⟩) (pv 12)) rfl))))) (pss_cons (ps_set (i := 13) sc_opened.nd rfl (by first | exact Or.inl rfl | exact Or.inr rfl) (pe_callTy (cTuple (K := K)) (by rfl) B.tuple (by decide +kernel) (pa_cons (pe_lc (own := [("item", 11)]) rfl sc_opened.nd (piT (K := K) (pe_ix (ixT (K := K)) (pv 0) (pe_glob (v := .int 2) (by rfl) g_ITEMS ⟨_, rfl⟩) (fun _ _ => rfl))) (blkOk_by (own := [("item", 11)]) (N := N_opened) (sc := defScope s_opened) (by decide +kernel)) (fun _ _ _ _ _ => (pg_name (i := 11) sc_opened.nd rfl (by first | exact Or.inl rfl | exact Or.inr rfl))) (fun _ _ _ _ _ => (pts_one (pt_cmp (pc_din hu1 (pv 11) (pv 8))))) (fun _ _ _ _ _ => (pe_tup (pa_cons (pe_tup (pa_cons (pv 11) pa_nil)) (pa_cons (pe_dget hu1 (pv 8) (pv 11) (fun _ _ => rfl)) pa_nil))))) pa_nil))) (pss_cons (ps_if (PW.pt (pw_or (pt_cmpR op_gt (pe_callB (cLen (K := K)) (by rfl) B.len (by decide +kernel) (pa_cons (pv 13) pa_nil)) (pe_glob (v := .int 3) (by rfl) g_MOST_WISHES ⟨_, rfl⟩) (nomark _)) (pw_or1 (pt_not (pt_val (pe_callB (cAll (K := K) rfl) (by rfl) B.all (by decide +kernel) (pa_cons (pe_lc (own := [("wish", 15)]) rfl sc_opened.nd (piT (K := K) (pv 13)) (blkOk_by (own := [("wish", 15)]) (N := N_opened) (sc := defScope s_opened) (by decide +kernel)) (fun _ _ _ _ _ => (pg_name (i := 15) sc_opened.nd rfl (by first | exact Or.inl rfl | exact Or.inr rfl))) (fun _ _ _ _ _ => pts_nil) (fun _ _ _ _ _ => (pe_cmpR op_le (pe_ix (ixT (K := K)) (pv 15) pe_int (fun _ _ => rfl)) pe_int (nomark _)))) pa_nil))))))) (pss_one (L2N.ps_raise rfl (L2N.takes_of rfl rfl rfl rfl) (L2N.pmk_own PySem.F.excBase_ValueError E_BadOrder.x E_BadOrder.g E_BadOrder.k (raises_own E_BadOrder.b E_BadOrder.t) (by rfl)))) pss_nil) (pss_one (ps_ret (pe_tup (pa_cons (pv 2) (pa_cons (pv 3) (pa_cons (pv 13) (pa_cons (pv 5) (pa_cons (pv 6) pa_nil)))))))))))))))), ?_⟩
  refine (ed_call (c := .none) (ea_cons (ed_var rfl h1) (ea_cons (ed_var rfl h2) ea_nil)) ⟨C, bs, rfl, good, gb, rfl⟩) H (Same.refl _) _ fun _ H1 s1 _ => ?_
  dsimp only [tNext, tSeq]
  -- names
  have e1 := ed_lcT (K := K) (σ := L2.start N_opened [v1, v2, v3, v4, v5, v6, v7]) (H := H1) (t := tYes) (te := tOp (rIxT K) (tVar 9) (tC (V.int 0))) (src := tVar 1) (k := 9) (vs := [9])
    (fun _ => true) (fun d => match d with | .tuple (x :: _) => x | d => d) (ed_var rfl (dp_mono s1 h2)) (by rw [List.length_map]; have := gb.len; omega) (fun _ => rfl) (fun _ _ _ _ _ _ => et_yes)
    (fun d hd _ x H5 s5 hxd => by
      obtain ⟨l, hl, rfl⟩ := List.mem_map.mp hd
      exact ed_ixT (k := 0) (ed_var rfl hxd) ed_int rfl)
    (fun d hd _ => by
      obtain ⟨l, hl, rfl⟩ := List.mem_map.mp hd
      rfl)
  rw [keepD_all, List.map_map] at e1
  have e1 : EvD K _ _ _ (.list ((bs.map (·.1)).map .str)) := e1.is (by rw [List.map_map]; rfl)
  have e2 : EvD K _ _ _ (.list ((namesOf C bs).map .str)) := EvD.is (ed_lst (ea_starT (ed_ixT (k := 2) (ed_var (σ := L2.start N_opened [v1, v2, v3, v4, v5, v6, v7]) (k := 0) rfl (dp_mono s1 h1)) ed_int rfl) (ea_starL e1 ea_nil)) (by simp; have := gb.len; omega)) (by unfold namesOf; rw [List.map_append, List.append_nil])
  refine q_asg e2 fun v8 H2 s2 h8 => ?_
  dsimp only [tNext, tSeq]
  have s12 := s1.trans s2
  rcases hw with ⟨rfl, hbad⟩ | ⟨ws, rfl, hwl, hwf, hbad1, hbad2, hgood⟩
  · -- wants None
    refine q_if (b := true) (et_or (b := true) (et_not (a := false) (et_B (ed_call (c := .bool false) (ea_cons (ed_var rfl (dp_mono s12 h5)) (ea_cons ed_int (ea_cons ed_int ea_nil))) ⟨_, _, _, rfl, .inl ⟨rfl, rfl⟩⟩))) fun z => Bool.noConfusion z) (fun _ H3 s3 => ?_) (fun hb => Bool.noConfusion hb)
    exact hbad H3 (s12.trans s3)
  have hzw : (ws.map partD).length ≤ 30000 := by rw [List.length_map]; omega
  have htw : ∀ d ∈ ws.map partD, isTup d = true := fun d hd => by
    obtain ⟨p, _, rfl⟩ := List.mem_map.mp hd
    rfl
  have hfw : ∀ d ∈ ws.map partD, Flat d := fun d hd => by
    obtain ⟨p, hp, rfl⟩ := List.mem_map.mp hd
    exact flat_part (hwf p hp)
  have hrow : rowsB (ws.map partD) 6 2 = true := by
    unfold rowsB
    rw [List.length_map, decide_eq_true (by omega), Bool.true_and]
    exact List.all_eq_true.mpr fun d hd => by
      obtain ⟨l, _, rfl⟩ := List.mem_map.mp hd
      rfl
  have hemp : PyData.eqv (.tuple (ws.map partD)) (.tuple []) = ws.isEmpty := by cases ws <;> rfl
  -- each want's name, each want's count
  have e3 := ed_lcT (K := K) (σ := (L2.start N_opened [v1, v2, v3, v4, v5, v6, v7]).set 7 (some v8)) (H := H2) (t := tYes)
    (te := tAndV (tCall (PureSp K rel_name) [] E0 (tCons (tOp (rIxT K) (tVar 14) (tC (V.int 0))) tNil)) (tOp (rIn K false) (tOp (rIxT K) (tVar 14) (tC (V.int 0))) (tVar 7))) (src := tVar 4) (k := 14) (vs := [14])
    (fun _ => true) (fun d => match d with | .tuple [.str x, .int _] => .bool (nameB x && decide (x ∈ namesOf C bs)) | d => d) (ed_var rfl (dp_mono s12 h5)) (by omega) (fun _ => rfl) (fun _ _ _ _ _ _ => et_yes)
    (fun d hd _ x H5 s5 hxd => by
      obtain ⟨p, hp, rfl⟩ := List.mem_map.mp hd
      exact ed_and (a := nameB p.1) (ed_call (ea_cons (ed_ixT (k := 0) (ed_var rfl hxd) ed_int rfl) ea_nil) ⟨_, rfl, (hwf p hp).1, rfl⟩) fun _ => ed_inL (ed_ixT (k := 0) (ed_var rfl hxd) ed_int rfl) (ed_var rfl (dp_mono s5 h8)))
    (fun d hd _ => by
      obtain ⟨l, hl, rfl⟩ := List.mem_map.mp hd
      rfl)
  rw [keepD_all, List.map_map] at e3
  have e3 : EvD K _ _ _ (.list ((ws.map fun w => nameB w.1 && decide (w.1 ∈ namesOf C bs)).map .bool)) := e3.is (by rw [List.map_map]; rfl)
  have a1 : (ws.map fun w => nameB w.1 && decide (w.1 ∈ namesOf C bs)).all id = ws.all fun w => nameB w.1 && decide (w.1 ∈ namesOf C bs) := by rw [List.all_map]; rfl
  refine q_if (et_or (et_not (a := true) (et_B (ed_call (c := .bool true) (ea_cons (ed_var rfl (dp_mono s12 h5)) (ea_cons ed_int (ea_cons ed_int ea_nil))) ⟨_, _, _, rfl, .inr ⟨_, rfl, hzw, htw, by rw [hrow]⟩⟩))) fun _ => et_or ((et_val (ed_eqD (ed_var rfl (dp_mono s12 h5)) (ed_tup ea_nil (by simp)) (shaped_tuple hfw) (shaped_tuple (by simp)))).is hemp)
    fun _ => et_not ((et_B (ed_all e3)).is a1)) (fun hb H3 s3 => ?_) (fun hb H3 s3 => ?_)
  · refine hbad1 ?_ H3 (s12.trans s3)
    unfold wantsB
    cases hE : ws.isEmpty with
    | true => rfl
    | false =>
      rw [hE] at hb
      have : (ws.all fun w => nameB w.1 && decide (w.1 ∈ namesOf C bs)) = false := by simpa using hb
      rw [this]
      rfl
  simp only [Bool.not_true, Bool.false_or, Bool.or_eq_false_iff, Bool.not_eq_false'] at hb
  obtain ⟨hne, hall1⟩ := hb
  dsimp only [tNext, tSeq]
  have s13 := s12.trans s3
  have e4 := ed_lcT (K := K) (σ := (L2.start N_opened [v1, v2, v3, v4, v5, v6, v7]).set 7 (some v8)) (H := H3) (t := tYes)
    (te := (tCall (PureSp K rel_whole) [] E0 (tCons (tOp (rIxT K) (tVar 14) (tC (V.int 1))) (tCons (tC (.int 1)) (tCons (tC (.int 99)) tNil))))) (src := tVar 4) (k := 14) (vs := [14])
    (fun _ => true) (fun d => match d with | .tuple [.str _, .int k] => .bool (wholeB k 1 99) | d => d) (ed_var rfl (dp_mono s13 h5)) (by omega) (fun _ => rfl) (fun _ _ _ _ _ _ => et_yes)
    (fun d hd _ x H5 s5 hxd => by
      obtain ⟨p, hp, rfl⟩ := List.mem_map.mp hd
      exact ed_call (ea_cons (ed_ixT (k := 1) (ed_var rfl hxd) ed_int rfl) (ea_cons ed_int (ea_cons ed_int ea_nil))) ⟨_, _, _, rfl, rfl⟩)
    (fun d hd _ => by
      obtain ⟨l, hl, rfl⟩ := List.mem_map.mp hd
      rfl)
  rw [keepD_all, List.map_map] at e4
  have e4 : EvD K _ _ _ (.list ((ws.map fun w => wholeB w.2 1 99).map .bool)) := e4.is (by rw [List.map_map]; rfl)
  have a2 : (ws.map fun w => wholeB w.2 1 99).all id = ws.all fun w => wholeB w.2 1 99 := by rw [List.all_map]; rfl
  refine q_if (et_not ((et_B (ed_all e4)).is a2)) (fun hb H4 s4 => ?_) (fun hb H4 s4 => ?_)
  · refine hbad1 ?_ H4 (s13.trans s4)
    unfold wantsB
    have : (ws.all fun w => wholeB w.2 1 99) = false := by simpa using hb
    rw [this, Bool.and_false, Bool.and_false]
  have hall2 : (ws.all fun w => wholeB w.2 1 99) = true := by simpa using hb
  have hwants : wantsB C bs ws = true := by
    unfold wantsB
    rw [hne, hall1, hall2]
    rfl
  dsimp only [tNext, tSeq]
  have s14 := s13.trans s4
  -- sums = {}
  intro fp hfp
  have sf := same_new hfp (.dK [])
  obtain ⟨aw, xs, rfl, haw, hxs⟩ := dp_tup (dp_mono s14 h5)
  have hxl : xs.length = ws.length := by rw [dpl_len hxs, List.length_map]
  refine ⟨_, rfl, aw, rfl, ⟨xs, sqt_mono sf haw⟩, ?_⟩
  refine for_tup (xs := xs) (fun i σ' H' => Same H4 H' ∧ (∃ y9 y10 y11 y12 y13 y14 y15, σ' = [some v1, some v2, some v3, some v4, some (.ref aw), some v6, some v7, some v8, some (.ref fp), y9, y10, y11, y12, y13, y14, y15]) ∧
    ∃ ks, H' fp = some (.dK ks) ∧ Counts C.is ks (fun x => sumsOf C bs (ws.take i) x)) ⟨sf, ⟨_, _, _, _, _, _, _, rfl⟩, [], upd_same, Counts.nil⟩ (fun i σ' H' _ p => sqt_mono p.1 haw) (fun i x σ' H' hi p => ?_) (fun σ' H' p => ?_)
  · obtain ⟨s5, ⟨y9, y10, y11, y12, y13, y14, y15, rfl⟩, ks, eks, hks⟩ := p
    obtain ⟨d, hd, hxd⟩ := dpl_at hxs hi
    rw [List.getElem?_map] at hd
    obtain ⟨wt, hwt, rfl⟩ := Option.map_eq_some_iff.mp hd
    obtain ⟨at_, zs, rfl, hat, hzs⟩ := dp_tup (dp_mono s5 hxd)
    obtain ⟨z1, z2, rfl, hz1, hz2⟩ := dp2 hzs
    obtain rfl := dp_str hz1
    obtain rfl := dp_int hz2
    have hwm := List.mem_of_getElem? hwt
    have hn1 := List.all_eq_true.mp hall1 wt hwm
    have hn2 := List.all_eq_true.mp hall2 wt hwm
    simp only [Bool.and_eq_true, decide_eq_true_eq] at hn1
    unfold wholeB at hn2
    simp only [Bool.and_eq_true, decide_eq_true_eq] at hn2
    have s15 := s14.trans s5
    have rk := rkd wt.1 hn1.2
    refine ⟨at_, _, rfl, hat, rfl, .str wt.1, _, rfl, .int wt.2, _, rfl, rfl, ?_⟩
    refine (ed_call (c := madeD C bs wt.1 wt.2) (ea_cons (ed_var rfl (dp_mono s15 h1)) (ea_cons (ed_var rfl (dp_mono s15 h2)) (ea_cons (ed_var rfl (.str _)) (ea_cons (ed_var rfl (.int _)) ea_nil)))) ⟨C, bs, wt.1, wt.2, rfl, good, gb, hn1.1, hwf wt hwm, rk, hn2.1, hn2.2, rfl⟩) H' (Same.refl _) _ fun vm H6 s6 hm => ?_
    obtain ⟨am, ms, rfl, ham, hms⟩ := dp_tup hm
    refine ⟨am, rfl, ⟨ms, ham⟩, ?_⟩
    have hml : ms.length = (madeL C bs wt.1 wt.2).length := by rw [dpl_len hms, List.length_map]
    have hLnd : (madeL C bs wt.1 wt.2).Nodup := good.nodup.filter _
    have hnl : noLists ((madeL C bs wt.1 wt.2).map fun x => PyData.tuple [.str x, .int (cnt C.is bs 4 wt.1 wt.2 x)]) = true := by
      generalize madeL C bs wt.1 wt.2 = L
      induction L with
      | nil => rfl
      | cons a r ih =>
        rw [List.map_cons]
        simp [noLists, noList, ih]
    refine for_tup (xs := ms) (fun k σ2 H2 => Same H4 H2 ∧ SqT K H2 am ms ∧ DpAll K H2 ms ((madeL C bs wt.1 wt.2).map fun x => PyData.tuple [.str x, .int (cnt C.is bs 4 wt.1 wt.2 x)]) ∧
      (∃ y11 y12 y13 y14 y15, σ2 = [some v1, some v2, some v3, some v4, some (.ref aw), some v6, some v7, some v8, some (.ref fp), some (.str wt.1), some (.int wt.2), y11, y12, y13, y14, y15]) ∧
      ∃ ks2, H2 fp = some (.dK ks2) ∧ Counts C.is ks2 (fun x => sumsOf C bs (ws.take i) x + if x ∈ (madeL C bs wt.1 wt.2).take k then cnt C.is bs 4 wt.1 wt.2 x else 0))
      ⟨s5.trans s6, ham, hms, ⟨_, _, _, _, _, rfl⟩, ks, s6 _ _ eks, hks.congr fun x => ?_⟩ (fun k σ2 H2 _ p => p.2.1) (fun k x σ2 H2 hk p => ?_) (fun σ2 H2 p => ?_)
    · rw [List.take_zero, if_neg List.not_mem_nil]
      omega
    · obtain ⟨s7, ham2, hms2, ⟨y11', y12', y13', y14', y15', rfl⟩, ks2, eks2, hks2⟩ := p
      obtain ⟨d, hd, hxd⟩ := dpl_at hms2 hk
      rw [List.getElem?_map] at hd
      obtain ⟨x0, hx0, rfl⟩ := Option.map_eq_some_iff.mp hd
      obtain ⟨ax, zs, rfl, hax, hzs2⟩ := dp_tup hxd
      obtain ⟨z1, z2, rfl, hz1, hz2⟩ := dp2 hzs2
      obtain rfl := dp_str hz1
      obtain rfl := dp_int hz2
      have hx0m := List.mem_of_getElem? hx0
      obtain ⟨hx0i, hx0p⟩ := List.mem_filter.mp hx0m
      have hpos : 0 < cnt C.is bs 4 wt.1 wt.2 x0 := of_decide_eq_true hx0p
      have hnotin : x0 ∉ (madeL C bs wt.1 wt.2).take k := fun hm => by
        obtain ⟨j, hj⟩ := List.getElem?_of_mem hm
        have hjk : j < k := by
          have := (List.getElem?_eq_some_iff.mp hj).1
          rw [List.length_take] at this
          omega
        rw [List.getElem?_take_of_lt hjk] at hj
        have := nd_ix hLnd hj hx0
        omega
      refine ⟨ax, _, rfl, hax, rfl, .str x0, _, rfl, .int (cnt C.is bs 4 wt.1 wt.2 x0), _, rfl, rfl, ?_⟩
      have h0 : 0 ≤ sumsOf C bs (ws.take i) x0 := sum_nonneg fun p hp' => by
        have hpm := List.mem_of_mem_take hp'
        have m1 := List.all_eq_true.mp hall1 p hpm
        have m2 := List.all_eq_true.mp hall2 p hpm
        simp only [Bool.and_eq_true, decide_eq_true_eq] at m1
        unfold wholeB at m2
        simp only [Bool.and_eq_true, decide_eq_true_eq] at m2
        exact cnt_nonneg gb.named x0 4 p.1 _ (rkd p.1 m1.2) (by omega)
      have hget : ((valV ks2 (.inr x0)).getD (.int 0)) = .int (sumsOf C bs (ws.take i) x0) := by
        rw [hks2.val, if_neg hnotin, Int.add_zero]
        unfold pos
        by_cases hh : 0 < sumsOf C bs (ws.take i) x0
        · rw [if_pos hh]
          rfl
        · rw [if_neg hh]
          show V.int 0 = V.int _
          congr 1
          omega
      refine ⟨_, rfl, fp, rfl, .inl ⟨ks2, .inl eks2⟩, _, rfl, valV ks2 (.inr x0), DGet.k (k := Sum.inr x0) eks2, ?_⟩
      refine ⟨_, rfl, _, _, hget, rfl, ?_⟩
      refine ⟨_, rfl, _, rfl, fp, _, rfl, DPut.k (k := Sum.inr x0) eks2 (sz_lt (Nat.lt_of_le_of_lt hks2.len (by omega))), ?_⟩
      refine ⟨same_mut s7 hfp, sqt_upd eks2 trivial ham2, dps_upd eks2 trivial hnl hms2, ⟨_, _, _, _, _, rfl⟩, _, upd_same, ?_⟩
      refine (hks2.put hx0i (z := sumsOf C bs (ws.take i) x0 + cnt C.is bs 4 wt.1 wt.2 x0) (by omega)).congr fun x => ?_
      rw [take_snoc hx0]
      by_cases e : x = x0
      · subst e
        rw [if_pos rfl, if_pos (by simp)]
      · rw [if_neg e]
        by_cases hm : x ∈ (madeL C bs wt.1 wt.2).take k
        · rw [if_pos hm, if_pos (List.mem_append_left _ hm)]
        · rw [if_neg hm, if_neg (fun z => (List.mem_append.mp z).elim hm fun z => e (List.mem_singleton.mp z))]
    · obtain ⟨s7, _, _, ⟨y11', y12', y13', y14', y15', rfl⟩, ks2, eks2, hks2⟩ := p
      refine ⟨s7, ⟨_, _, _, _, _, _, _, rfl⟩, ks2, eks2, hks2.congr fun x => ?_⟩
      have e : sumsOf C bs (ws.take (i + 1)) x = sumsOf C bs (ws.take i) x + cnt C.is bs 4 wt.1 wt.2 x := take_sum hwt
      rw [e, hml, List.take_length]
      by_cases hm : x ∈ madeL C bs wt.1 wt.2
      · rw [if_pos hm]
      · rw [if_neg hm]
        have : cnt C.is bs 4 wt.1 wt.2 x = 0 := by
          by_cases hi2 : x ∈ C.is
          · have h1 : ¬ 0 < cnt C.is bs 4 wt.1 wt.2 x := fun z => hm (List.mem_filter.mpr ⟨hi2, decide_eq_true z⟩)
            have h2 := cnt_nonneg gb.named x 4 wt.1 wt.2 rk (by omega)
            omega
          · exact cnt_out hi2 _ _ _
        omega
  · -- the order
    obtain ⟨s5, ⟨y9, y10, y11, y12, y13, y14, y15, rfl⟩, ks, eks, hks⟩ := p
    rw [hxl, List.take_length] at hks
    have s15 := s14.trans s5
    dsimp only [tNext, tSeq]
    have e5 := ed_lcT (K := K) (σ := [some v1, some v2, some v3, some v4, some (.ref aw), some v6, some v7, some v8, some (.ref fp), y9, y10, y11, y12, y13, y14, y15]) (H := H') (t := tB (tDIn (tVar 11) (tVar 8))) (te := tTup (tCons (tTup (tCons (tVar 11) tNil)) (tCons (tDGet (tVar 8) (tVar 11)) tNil))) (src := tOp (rIxT K) (tVar 0) (tC (V.int ((2 : Nat) : Int)))) (k := 11) (vs := [11])
      (fun d => match d with | .str x => (valV ks (.inr x)).isSome | _ => false) (fun d => match d with | .str x => .tuple [.tuple [.str x], .int (sumsOf C bs ws x)] | d => d) (ed_ixT (k := 2) (ed_var rfl (dp_mono s15 h1)) ed_int rfl) (by rw [List.length_map]; omega) (fun _ => rfl)
      (fun d hd x H5 s5 hxd => by
        obtain ⟨y, hy, rfl⟩ := List.mem_map.mp hd
        exact et_din (ed_var rfl hxd) rfl (s5 _ _ eks))
      (fun d hd hpd x H5 s5 hxd => by
        obtain ⟨y, hy, rfl⟩ := List.mem_map.mp hd
        have hv : valV ks (.inr y) = some (.int (sumsOf C bs ws y)) := by
          have hpd : (valV ks (.inr y)).isSome = true := hpd
          rw [hks.val] at hpd ⊢
          unfold pos at hpd ⊢
          by_cases h0 : 0 < sumsOf C bs ws y
          · rw [if_pos h0]
          · rw [if_neg h0] at hpd
            cases hpd
        exact ed_tup (ea_cons (ed_tup (ea_cons (ed_var rfl hxd) ea_nil) (by simp)) (ea_cons (ed_dget (ed_var rfl hxd) rfl (s5 _ _ eks) hv) ea_nil)) (by simp))
      (fun d hd _ => by
        obtain ⟨y, hy, rfl⟩ := List.mem_map.mp hd
        rfl)
    have e6 : PyData.tuple (keepD (fun d => match d with | .str x => (valV ks (.inr x)).isSome | _ => false) (fun d => match d with | .str x => .tuple [.tuple [.str x], .int (sumsOf C bs ws x)] | d => d) (C.is.map .str)) = wishD C bs ws := by
      unfold wishD wishL keepD
      rw [List.filter_map, List.map_map]
      have : (List.filter ((fun d => match d with | PyData.str x => (valV ks (.inr x)).isSome | _ => false) ∘ PyData.str) C.is) = List.filter (fun x => decide (0 < sumsOf C bs ws x)) C.is := by
        refine List.filter_congr fun x _ => ?_
        show (valV ks (.inr x)).isSome = _
        rw [hks.val]
        unfold pos
        by_cases h0 : 0 < sumsOf C bs ws x
        · rw [if_pos h0, decide_eq_true h0]
          rfl
        · rw [if_neg h0, decide_eq_false h0]
          rfl
      rw [this]
      rfl
    refine q_asg (EvD.is (ed_tuple e5) e6) fun v13 H6 s6 h13 => ?_
    dsimp only [tNext, tSeq]
    have s16 := s15.trans s6
    have hwlen : (wishL C bs ws).length ≤ 3 := Nat.le_trans (List.length_filter_le _ _) h3i
    have e7 := ed_lcT (K := K) (σ := ([some v1, some v2, some v3, some v4, some (.ref aw), some v6, some v7, some v8, some (.ref fp), y9, y10, y11, y12, y13, y14, y15].set 13 (some v13))) (H := H6) (t := tYes)
      (te := tOp (rI0 fun i j => .bl (decide (i ≤ j))) (tOp (rIxT K) (tVar 15) (tC (V.int 1))) (tC (V.int 99))) (src := tVar 13) (k := 15) (vs := [15])
      (fun _ => true) (fun d => match d with | .tuple [_, .int k] => .bool (decide (k ≤ 99)) | d => d) (ed_var rfl h13) (by rw [List.length_map]; omega) (fun _ => rfl) (fun _ _ _ _ _ _ => et_yes)
      (fun d hd _ x H5 s5 hxd => by
        obtain ⟨y, hy, rfl⟩ := List.mem_map.mp hd
        exact ed_I0b (ed_ixT (k := 1) (ed_var rfl hxd) ed_int rfl) ed_int)
      (fun d hd _ => by
        obtain ⟨y, hy, rfl⟩ := List.mem_map.mp hd
        rfl)
    rw [keepD_all, List.map_map] at e7
    have e7 : EvD K _ _ _ (.list (((wishL C bs ws).map fun x => decide (sumsOf C bs ws x ≤ 99)).map .bool)) := e7.is (by rw [List.map_map]; rfl)
    have a3 : ((wishL C bs ws).map fun x => decide (sumsOf C bs ws x ≤ 99)).all id = fewB C bs ws := by unfold fewB; rw [List.all_map]; rfl
    have hlen3 : decide ((3 : Int) < ((((wishL C bs ws).map fun x => PyData.tuple [.tuple [.str x], .int (sumsOf C bs ws x)]).length : Nat) : Int)) = false := by
      rw [List.length_map]
      exact decide_eq_false (by omega)
    refine q_if (et_or ((et_val (ed_I0b (ed_lenT (ed_var rfl h13)) ed_int)).is hlen3) fun _ => et_not ((et_B (ed_all e7)).is a3)) (fun hb H7 s7 => ?_) (fun hb H7 s7 => ?_)
    · exact hbad2 hwants (by simpa using hb) H7 (s16.trans s7)
    · dsimp only [tNext]
      have s17 := s16.trans s7
      refine q_ret (ed_tup (ea_cons (ed_var rfl (dp_mono s17 h3)) (ea_cons (ed_var rfl (dp_mono s17 h4)) (ea_cons (ed_var rfl (dp_mono s7 h13)) (ea_cons (ed_var rfl (dp_mono s17 h6)) (ea_cons (ed_var rfl (dp_mono s17 h7)) ea_nil))))) (by simp)) fun v H8 s8 hd => hgood hwants (by simpa using hb) v H8 (s17.trans s8) hd
end
end K8
set_option maxRecDepth 100000
set_option maxHeartbeats 4000000
/-! FnH: the draws, _law_taken and _law_pick. -/
namespace K8
open PySem PySem.Spec PyProof.Rows L2
/-- the row of draws at r: the script, its place, a mixed number below 2147483647, a rest -/
def RowAt (K : PySem.W.Frag) (c : Addr × List Int) (H : Hp) (r : Addr) : Prop := ∃ (p s q : Int), H r = some (.lst [.ref c.1, .int p, .int s, .int q]) ∧ SqL K H c.1 (c.2.map V.int) ∧ 0 ≤ p ∧ 0 ≤ s ∧ s < 2147483647
theorem row_keep {K : PySem.W.Frag} {H : Hp} {r a : Addr} {x : Addr} {xs ys : List V} {cells : List Int} (hr : H r = some (.lst (.ref x :: xs))) (h : SqL K H a (cells.map V.int)) : SqL K (upd H r (.lst ys)) a (cells.map V.int) := by
  rcases h with (h | ⟨o, h⟩) | h
  · refine .inl (.inl ?_)
    rw [upd_ne (fun e => ?_)]
    · exact h
    · rw [e, hr] at h
      cases cells with
      | nil => cases h
      | cons c cs =>
        have h := HO.lst.inj (Option.some.inj h)
        cases h
  · refine .inl (.inr ⟨o, ?_⟩)
    rw [upd_ne (fun e => by rw [e, hr] at h; cases h)]
    exact h
  · exact .inr h
theorem RowAt.put {K : PySem.W.Frag} {H : Hp} {r a x : Addr} {xs : List V} {cells : List Int} {p s q : Int} (hr : H r = some (.lst (.ref x :: xs))) (h : SqL K H a (cells.map V.int)) (hp : 0 ≤ p) (hs : 0 ≤ s) (hs2 : s < 2147483647) : RowAt K (a, cells) (upd H r (.lst [.ref a, .int p, .int s, .int q])) r :=
  ⟨p, s, q, upd_same, row_keep hr h, hp, hs, hs2⟩
def sp_taken (K : PySem.W.Frag) : Sp := fun vs H Q _ => ∃ (c : Addr × List Int) (r : Addr) (n : Int), vs = [.ref r, .int n] ∧ RowAt K c H r ∧ 1 ≤ n ∧ n ≤ 1000 ∧ ∀ (k : Int) (row : List V), 0 ≤ k → k < n → RowAt K c (upd H r (.lst row)) r → Q (.int k) (upd H r (.lst row))
theorem mod_low {x n : Int} (h : 1 ≤ n) : 0 ≤ x % n ∧ x % n < n := ⟨Int.emod_nonneg _ (by omega), Int.emod_lt_of_pos _ (by omega)⟩
section
variable {P : Program} {w : World} {K : PySem.W.Frag} {mg : Str → Option Value} {base : Heap} {f : Addr} {fd : FuncData}
theorem ok_taken (B : Blt mg) (F : Fun K "_law_taken" "_law_taken" s_law_taken f fd) : FnOk P w K mg base CX0 1 f fd P_law_taken (sp_taken K) := by
  refine F.ok sc_law_taken (fun vs H Q E h => ?_) (fun cdv A outer s H vs Q E hr h => ?_)
  · obtain ⟨c, r, n, rfl, _⟩ := h
    rfl
  obtain ⟨⟨a, cells⟩, r, n, rfl, ⟨p, sd, q, hrow, hsc, hp, hs1, hs2⟩, hn1, hn2, k⟩ := h
  dsimp only at hrow hsc
  refine ⟨_, (pss_cons (ps_if (pt_cmpR op_gt (pe_ix (ixL (K := K)) (pv 0) pe_int (fun _ _ => rfl)) pe_int (nomark _)) (pss_cons (ps_set (i := 2) sc_law_taken.nd rfl (by first | exact Or.inl rfl | exact Or.inr rfl) (pe_op op_mod (pe_callTy call_int1 (by rfl) B.int (by decide +kernel) (pa_cons (pe_ix (ixL (K := K)) (pv 0) pe_int (fun _ _ => rfl)) pa_nil)) (pv 1))) (pss_cons (ps_asg (pe_op op_fdiv (pe_ix (ixL (K := K)) (pv 0) pe_int (fun _ _ => rfl)) (pv 1)) (pg_sub (pv 0) pe_int set_list)) (pss_one (ps_ret (pv 2))))) pss_nil) (pss_cons (ps_asg (pe_op op_add (pe_ix (ixL (K := K)) (pv 0) pe_int (fun _ _ => rfl)) pe_int) (pg_sub (pv 0) pe_int set_list)) (pss_cons (ps_if (pt_cmpR op_gt (pe_ix (ixL (K := K)) (pv 0) pe_int (fun _ _ => rfl)) (pe_callB (cLen (K := K)) (by rfl) B.len (by decide +kernel) (pa_cons (pe_ix (ixL (K := K)) (pv 0) pe_int (fun _ _ => rfl)) pa_nil)) (nomark _)) (pss_cons (ps_asg (pe_op op_mod (pe_callTy call_int1 (by rfl) B.int (by decide +kernel) (pa_cons (pe_op op_add (pe_op op_mul (pe_ix (ixL (K := K)) (pv 0) pe_int (fun _ _ => rfl)) pe_int) pe_int) pa_nil)) pe_int) (pg_sub (pv 0) pe_int set_list)) (pss_one (ps_ret (pe_op op_mod (pe_callTy call_int1 (by rfl) B.int (by decide +kernel) (pa_cons (pe_op op_fdiv (pe_ix (ixL (K := K)) (pv 0) pe_int (fun _ _ => rfl)) pe_int) pa_nil)) (pv 1))))) pss_nil) (pss_cons (ps_set (i := 3) sc_law_taken.nd rfl (by first | exact Or.inl rfl | exact Or.inr rfl) (pe_ix (ixL (K := K)) (pe_ix (ixL (K := K)) (pv 0) pe_int (fun _ _ => rfl)) (pe_op op_sub (pe_ix (ixL (K := K)) (pv 0) pe_int (fun _ _ => rfl)) pe_int) (fun _ _ => rfl))) (pss_cons (ps_asg (pe_op op_mod (pe_callTy call_int1 (by rfl) B.int (by decide +kernel) (pa_cons (pe_op op_add (pe_op op_add (pe_op op_mul (pe_ix (ixL (K := K)) (pv 0) pe_int (fun _ _ => rfl)) pe_int) (pv 3)) pe_int) pa_nil)) pe_int) (pg_sub (pv 0) pe_int set_list)) (pss_cons (ps_if (pt_cmpR op_ge (pv 3) (pe_op op_pow pe_int pe_int) (nomark _)) (pss_one (ps_asg (pe_op op_fdiv (pv 3) (pv 1)) (pg_sub (pv 0) pe_int set_list))) pss_nil) (pss_one (ps_ret (pe_op op_mod (pe_callTy call_int1 (by rfl) B.int (by decide +kernel) (pa_cons (pv 3) pa_nil)) (pv 1)))))))))), ?_⟩
  have rd : ∀ {H' : Hp} {xs : List V}, H' r = some (.lst xs) → SqL K H' r xs := fun h => SqL.of h
  -- row[3] > 0
  refine ⟨_, rfl, r, _, 3, _, rfl, rfl, rd hrow, atI_nat (j := 3) rfl, q, 0, rfl, rfl, _, rfl, ite2 (fun c => ?_) (fun c => ?_)⟩
  · refine ⟨_, rfl, r, _, 3, _, rfl, rfl, rd hrow, atI_nat (j := 3) rfl, .inl ⟨q, rfl, ?_⟩⟩
    refine ⟨_, rfl, q, n, rfl, rfl, by show (0 : Int) < n; omega, ?_⟩
    refine ⟨_, rfl, r, _, 3, _, rfl, rfl, rd hrow, atI_nat (j := 3) rfl, _, rfl, q, n, rfl, rfl, ⟨by omega, by omega⟩, ?_⟩
    refine ⟨_, rfl, r, _, 3, 3, rfl, rfl, hrow, rfl, ?_⟩
    exact ⟨_, rfl, k _ _ (mod_low hn1).1 (mod_low hn1).2 (RowAt.put hrow hsc hp hs1 hs2)⟩
  -- row[1] = row[1] + 1
  refine ⟨_, rfl, r, _, 1, _, rfl, rfl, rd hrow, atI_nat (j := 1) rfl, p, 1, rfl, rfl, _, rfl, r, _, 1, 1, rfl, rfl, hrow, rfl, ?_⟩
  have hrow1 : (upd H r (.lst [.ref a, .int (p + 1), .int sd, .int q])) r = some (.lst [.ref a, .int (p + 1), .int sd, .int q]) := upd_same
  have hsc1 : SqL K (upd H r (.lst [.ref a, .int (p + 1), .int sd, .int q])) a (cells.map V.int) := row_keep hrow hsc
  refine ⟨_, rfl, r, _, 1, _, rfl, rfl, rd hrow1, atI_nat (j := 1) rfl, _, rfl, r, _, 0, _, rfl, rfl, rd hrow1, atI_nat (j := 0) rfl, a, _, rfl, .inl hsc1, p + 1, _, rfl, rfl, _, rfl, ite2 (fun c2 => ?_) (fun c2 => ?_)⟩
  · -- behind the script
    refine ⟨_, rfl, r, _, 2, _, rfl, rfl, rd hrow1, atI_nat (j := 2) rfl, sd, 48271, rfl, rfl, .inl ⟨by omega, by omega⟩, _, _, rfl, rfl, .inl ⟨_, rfl, ?_⟩⟩
    refine ⟨_, _, rfl, rfl, by show (0 : Int) < 2147483647; decide, ?_⟩
    refine ⟨_, rfl, r, _, 2, 2, rfl, rfl, hrow1, rfl, ?_⟩
    have hrow2 : (upd (upd H r (.lst [.ref a, .int (p + 1), .int sd, .int q])) r (.lst [.ref a, .int (p + 1), .int ((sd * 48271 + 11) % 2147483647), .int q])) r = some (.lst [.ref a, .int (p + 1), .int ((sd * 48271 + 11) % 2147483647), .int q]) := upd_same
    refine ⟨_, rfl, r, _, 2, _, rfl, rfl, rd hrow2, atI_nat (j := 2) rfl, _, 7, rfl, rfl, ⟨by decide, by decide⟩, .inl ⟨_, rfl, _, rfl, _, n, rfl, rfl, by show (0 : Int) < n; omega, ?_⟩⟩
    have := k (((sd * 48271 + 11) % 2147483647) / 7 % n) [.ref a, .int (p + 1), .int ((sd * 48271 + 11) % 2147483647), .int q] (mod_low hn1).1 (mod_low hn1).2 (RowAt.put hrow hsc (by omega) (Int.emod_nonneg _ (by decide)) (Int.emod_lt_of_pos _ (by decide)))
    rw [← upd_upd] at this
    exact this
  · -- a cell
    have hle : ¬ ((((cells.map V.int).length : Nat) : Int) < p + 1) := by simpa using c2
    rw [List.length_map] at hle
    have hix : p.toNat < cells.length := by omega
    have hat : atI (cells.map V.int) (p + 1 - 1) = some (.int cells[p.toNat]) := at_of (j := p.toNat) (by omega) (by rw [List.getElem?_map, List.getElem?_eq_getElem hix]; rfl)
    refine ⟨_, rfl, r, _, 0, _, rfl, rfl, rd hrow1, atI_nat (j := 0) rfl, _, rfl, r, _, 1, _, rfl, rfl, rd hrow1, atI_nat (j := 1) rfl, _, 1, rfl, rfl, a, _, _, _, rfl, rfl, hsc1, hat, ?_⟩
    generalize cells[p.toNat] = cell
    refine ⟨_, rfl, r, _, 2, _, rfl, rfl, rd hrow1, atI_nat (j := 2) rfl, sd, 48271, rfl, rfl, .inl ⟨by omega, by omega⟩, _, rfl, _, cell, rfl, rfl, _, _, rfl, rfl, .inl ⟨_, rfl, ?_⟩⟩
    refine ⟨_, _, rfl, rfl, by show (0 : Int) < 2147483647; decide, ?_⟩
    refine ⟨_, rfl, r, _, 2, 2, rfl, rfl, hrow1, rfl, ?_⟩
    have hrow2 : (upd (upd H r (.lst [.ref a, .int (p + 1), .int sd, .int q])) r (.lst [.ref a, .int (p + 1), .int ((sd * 48271 + cell + 11) % 2147483647), .int q])) r = some (.lst [.ref a, .int (p + 1), .int ((sd * 48271 + cell + 11) % 2147483647), .int q]) := upd_same
    refine ⟨_, rfl, _, _, rfl, rfl, ⟨by decide, by decide, by decide⟩, cell, _, rfl, rfl, _, rfl, ite2 (fun c3 => ?_) (fun c3 => ?_)⟩
    · refine ⟨_, rfl, _, rfl, cell, n, rfl, rfl, ⟨by omega, by omega⟩, ?_⟩
      refine ⟨_, rfl, r, _, 3, 3, rfl, rfl, hrow2, rfl, ?_⟩
      refine ⟨_, rfl, .inl ⟨_, rfl, _, rfl, cell, n, rfl, rfl, by show (0 : Int) < n; omega, ?_⟩⟩
      have := k (cell % n) [.ref a, .int (p + 1), .int ((sd * 48271 + cell + 11) % 2147483647), .int (cell / n)] (mod_low hn1).1 (mod_low hn1).2 (RowAt.put hrow hsc (by omega) (Int.emod_nonneg _ (by decide)) (Int.emod_lt_of_pos _ (by decide)))
      simp only [upd_upd]
      exact this
    · refine ⟨_, rfl, .inl ⟨_, rfl, _, rfl, cell, n, rfl, rfl, by show (0 : Int) < n; omega, ?_⟩⟩
      have := k (cell % n) [.ref a, .int (p + 1), .int ((sd * 48271 + cell + 11) % 2147483647), .int q] (mod_low hn1).1 (mod_low hn1).2 (RowAt.put hrow hsc (by omega) (Int.emod_nonneg _ (by decide)) (Int.emod_lt_of_pos _ (by decide)))
      rw [← upd_upd] at this
      exact this
def sp_pick (K : PySem.W.Frag) : Sp := fun vs H Q _ => ∃ (c : Addr × List Int) (r b : Addr) (xs : List V), vs = [.ref r, .ref b] ∧ RowAt K c H r ∧ 1 ≤ xs.length ∧ xs.length ≤ 1000 ∧ SqL K H b xs ∧ (∀ row, SqL K (upd H r (.lst row)) b xs) ∧ ∀ (i : Nat) (x : V) (row : List V), xs[i]? = some x → RowAt K c (upd H r (.lst row)) r → Q x (upd H r (.lst row))
theorem ok_pick (B : Blt mg) (F : Fun K "_law_pick" "_law_pick" s_law_pick f fd) (c_law_taken : Cal P w K mg base "_law_taken" s_law_taken CX0 1 P_law_taken (sp_taken K)) : FnOk P w K mg base CX0 2 f fd P_law_pick (sp_pick K) := by
  obtain ⟨_, _, F_law_taken, b_law_taken, G_law_taken⟩ := c_law_taken
  refine F.ok sc_law_pick (fun vs H Q E h => ?_) (fun cdv A outer s H vs Q E hr h => ?_)
  · obtain ⟨c, r, b, xs, rfl, _⟩ := h
    rfl
  obtain ⟨c, r, b, xs, rfl, hrow, h1, h2, hb, hk, k⟩ := h
  refine ⟨_, (pss_one (ps_ret (pe_ix (ixL (K := K)) (pv 1) (pe_call G_law_taken (hr.mono (by first | decide | omega)) (by rfl) F_law_taken.g F_law_taken.kp b_law_taken .nil pass0 (pa_cons (pv 0) (pa_cons (pe_callB (cLen (K := K)) (by rfl) B.len (by decide +kernel) (pa_cons (pv 1) pa_nil)) pa_nil))) (fun _ _ => rfl)))), ?_⟩
  refine ⟨_, rfl, _, rfl, _, rfl, b, xs, rfl, .inl hb, ?_⟩
  refine ⟨c, r, _, rfl, hrow, by omega, by omega, fun m row m0 m1 hrow' => ?_⟩
  have hm : m.toNat < xs.length := by omega
  refine ⟨b, _, m, _, rfl, rfl, hk row, at_of (j := m.toNat) (by omega) (List.getElem?_eq_getElem hm), k m.toNat _ row (List.getElem?_eq_getElem hm) hrow'⟩
end
end K8
set_option maxRecDepth 100000
set_option maxHeartbeats 4000000
/-! FnI: _law_alike, of the same data twice. -/
namespace K8
open PySem PySem.Spec PyProof.Rows L2
/-- whole numbers, texts and tuples of them, n levels deep -/
def Lv : Nat → PyData → Prop
  | 0, _ => False
  | n + 1, .int _ => True
  | n + 1, .str _ => True
  | n + 1, .tuple ds => ds.length ≤ 40000 ∧ ∀ d ∈ ds, Lv n d
  | _ + 1, _ => False
def rel_alike (n : Nat) (ds : List PyData) (d : PyData) : Prop := ∃ x, ds = [x, x] ∧ Lv n x ∧ d = .bool true
section
variable {K : PySem.W.Frag} {σ : L2.St} {H : Hp} {te : TE} {t : TT} {ta : TA}
/-- over range(n), a test that always fails -/
theorem ed_lcR0 {k n : Nat} {vs : List Nat} (hs : EvA K ta σ H [.int (n : Int)]) (hz : n ≤ 40000) (hw : ∀ x, wipe ((wipe σ vs).set k (some x)) vs = wipe σ vs)
    (ht : ∀ i, i < n → ∀ H1, Same H H1 → EvB t ((wipe σ vs).set k (some (.int (i : Int)))) H1 false) : EvD K (tLc (iRng1 ta) (gName k) t te vs) σ H (.list []) := fun H0 s Q q =>
  hs H0 s _ fun us H1 s1 hv => by
    obtain ⟨v, rfl, hv1⟩ := dp1 hv
    obtain rfl := dp_int hv1
    refine ⟨n, rfl, by omega, by omega, fun Dl hD => ?_⟩
    refine lc_range (lo := 0) (n := ((n : Int)).toNat) (fun i H' => Made K H1 Dl [] H') (Made.start hD) (fun i H' hi m => ?_) (fun H' m => ?_)
    · have hi' : i < n := by omega
      have e0 : (0 : Int) + (i : Int) = (i : Int) := Int.zero_add _
      rw [e0]
      refine ⟨hw _, ?_⟩
      refine Made.turn m (p := false) (d := .none) (ht i hi' H1 (s.trans s1)) (fun e => Bool.noConfusion e) (by simp) (fun e => Bool.noConfusion e) fun H2 m2 => ?_
      exact m2
    · obtain ⟨m1, m2, ys, m3, m4, _⟩ := m
      exact q _ H' (s1.trans m2) (.lst (SqL.of m3) m4)
end
section
variable {P : Program} {w : World} {K : PySem.W.Frag} {mg : Str → Option Value} {base : Heap} {f : Addr} {fd : FuncData}
theorem none_alike : FnOk P w K mg base CX0 0 f fd P_law_alike (PureSp K (rel_alike 0)) := by
  have no : ∀ vs H Q E, ¬ PureSp K (rel_alike 0) vs H Q E := fun vs H Q E h => by
    obtain ⟨ds, d, _, ⟨x, _, hr, _⟩, _⟩ := h
    exact hr
  exact ⟨fun vs H Q E h => absurd h (no vs H Q E), fun A outer s H args us vs Q E _ _ _ _ h => absurd h (no vs H Q E)⟩
theorem ok_alike {n : Nat} (B : Blt mg) (F_law_alike : Fn K mg "_law_alike" s_law_alike f fd) (b_law_alike : Binds K fd P_law_alike []) (G_law_alike : FnOk P w K mg base CX0 n f fd P_law_alike (PureSp K (rel_alike n))) :
    FnOk P w K mg base CX0 (n + 1) f fd P_law_alike (PureSp K (rel_alike (n + 1))) := by
  refine F_law_alike.F.ok sc_law_alike (fun vs H Q E h => ?_) (fun cdv A outer s H vs Q E hr h => ?_)
  · obtain ⟨ds, d, hv, ⟨x, rfl, _⟩, _⟩ := h
    rw [dpl_len hv]
    rfl
  obtain ⟨ds, d, hv, ⟨x, rfl, lv, rfl⟩, q⟩ := h
  obtain ⟨v1, v2, rfl, h1, h2⟩ := dp2 hv
  have hu := units65 hr
  have hu1 := hu_of hr
  refine ⟨_, (pss_cons (ps_if (pt_val (pe_callB (cIsiT (K := K)) (by rfl) B.isinstance (by decide +kernel) (pa_cons (pv 1) (pa_cons (pe_tup (pa_cons (pe_bltn (v := .ty "tuple") (by rfl) B.tuple (by decide +kernel) rfl) (pa_cons (pe_bltn (v := .ty "list") (by rfl) B.list (by decide +kernel) rfl) pa_nil))) pa_nil)))) (pss_cons (ps_if (PW.pt (pw_or (pt_not (pt_val (pe_callB (cIsiT (K := K)) (by rfl) B.isinstance (by decide +kernel) (pa_cons (pv 0) (pa_cons (pe_tup (pa_cons (pe_bltn (v := .ty "tuple") (by rfl) B.tuple (by decide +kernel) rfl) (pa_cons (pe_bltn (v := .ty "list") (by rfl) B.list (by decide +kernel) rfl) pa_nil))) pa_nil))))) (pw_or1 (pt_cmpR op_ne (pe_callB (cIsi (K := K)) (by rfl) B.isinstance (by decide +kernel) (pa_cons (pv 0) (pa_cons (pe_bltn (v := .ty "list") (by rfl) B.list (by decide +kernel) rfl) pa_nil))) (pe_callB (cIsi (K := K)) (by rfl) B.isinstance (by decide +kernel) (pa_cons (pv 1) (pa_cons (pe_bltn (v := .ty "list") (by rfl) B.list (by decide +kernel) rfl) pa_nil))) (nomark _))))) (pss_one (ps_ret pe_bl)) pss_nil) (pss_cons (ps_if (pt_cmpR op_ne (pe_callB (cLen (K := K)) (by rfl) B.len (by decide +kernel) (pa_cons (pv 0) pa_nil)) (pe_callB (cLen (K := K)) (by rfl) B.len (by decide +kernel) (pa_cons (pv 1) pa_nil)) (nomark _)) (pss_one (ps_ret pe_bl)) pss_nil) (pss_one (ps_ret (pe_cmpR (opEqD (K := K) hu) (pe_lc (own := [("_law_k", 2)]) rfl sc_law_alike.nd (pi_range1 (by rfl) B.range (pa_cons (pe_callB (cLen (K := K)) (by rfl) B.len (by decide +kernel) (pa_cons (pv 1) pa_nil)) pa_nil)) (blkOk_by (own := [("_law_k", 2)]) (N := N_law_alike) (sc := defScope s_law_alike) (by decide +kernel)) (fun _ _ _ _ _ => (pg_name (i := 2) sc_law_alike.nd rfl (by first | exact Or.inl rfl | exact Or.inr rfl))) (fun _ _ _ _ _ => (pts_one (pt_not (pt_val (pe_call G_law_alike (hr.mono (by first | decide | omega)) (by rfl) F_law_alike.g F_law_alike.kp b_law_alike .nil pass0 (pa_cons (pe_ix (ixT (K := K)) (pv 0) (pv 2) (fun _ _ => rfl)) (pa_cons (pe_ix (ixT (K := K)) (pv 1) (pv 2) (fun _ _ => rfl)) pa_nil))))))) (fun _ _ _ _ _ => (pv 2))) (pe_lst pa_nil) (nomark _)))))) pss_nil) (pss_cons (ps_if (PW.pt (pw_or (pt_cmpR op_isN (pv 1) pe_non (nomark _)) (pw_or1 (pt_val (pe_callB (cIsi (K := K)) (by rfl) B.isinstance (by decide +kernel) (pa_cons (pv 1) (pa_cons (pe_bltn (v := .ty "str") (by rfl) B.str (by decide +kernel) rfl) pa_nil))))))) (pss_one (ps_ret (pe_and (pe_cmpR op_eq (pv 0) (pv 1) (nomark _)) (pe_one (pe_cmpR op_eq (pe_callB (cIsi (K := K)) (by rfl) B.isinstance (by decide +kernel) (pa_cons (pv 0) (pa_cons (pe_bltn (v := .ty "str") (by rfl) B.str (by decide +kernel) rfl) pa_nil))) (pe_callB (cIsi (K := K)) (by rfl) B.isinstance (by decide +kernel) (pa_cons (pv 1) (pa_cons (pe_bltn (v := .ty "str") (by rfl) B.str (by decide +kernel) rfl) pa_nil))) (nomark _)))))) pss_nil) (pss_one (ps_ret (pe_and (pe_callB (cIsi (K := K)) (by rfl) B.isinstance (by decide +kernel) (pa_cons (pv 0) (pa_cons (pe_bltn (v := .ty "int") (by rfl) B.int (by decide +kernel) rfl) pa_nil))) (pe_and (pe_cmpR op_eq (pe_callB (cIsi (K := K)) (by rfl) B.isinstance (by decide +kernel) (pa_cons (pv 0) (pa_cons (pe_bltn (v := .ty "bool") (by rfl) B.bool (by decide +kernel) rfl) pa_nil))) (pe_callB (cIsi (K := K)) (by rfl) B.isinstance (by decide +kernel) (pa_cons (pv 1) (pa_cons (pe_bltn (v := .ty "bool") (by rfl) B.bool (by decide +kernel) rfl) pa_nil))) (nomark _)) (pe_one (pe_cmpR op_eq (pv 0) (pv 1) (nomark _))))))))), ?_⟩
  have r1 : EvD K (tVar 0) (L2.start N_law_alike [v1, v2]) H x := ed_var rfl h1
  have r2 : EvD K (tVar 1) (L2.start N_law_alike [v1, v2]) H x := ed_var rfl h2
  match x, lv with
  | .int i, _ =>
    refine q_if (et_B (ed_isi2 r2 k_it k_il)) (fun e => Bool.noConfusion e) (fun _ H1 s1 => ?_)
    dsimp only [tNext, tSeq]
    refine q_if (et_or (et_val (ed_isN (r2.mono s1))) fun _ => et_B (ed_isi (r2.mono s1) k_is)) (fun e => Bool.noConfusion e) (fun _ H2 s2 => ?_)
    dsimp only [tNext, tSeq]
    have s12 := s1.trans s2
    refine q_ret (EvD.is (ed_and (ed_isi (r1.mono s12) k_ii) fun _ => ed_and (ed_eqB (ed_isi (r1.mono s12) k_ib) (ed_isi (r2.mono s12) k_ib)) fun _ => ed_eqI (r1.mono s12) (r2.mono s12)) (by simp)) fun v H3 s3 hd => q v H3 (s12.trans s3) hd
  | .str y, _ =>
    refine q_if (et_B (ed_isi2 r2 k_st k_sl)) (fun e => Bool.noConfusion e) (fun _ H1 s1 => ?_)
    dsimp only [tNext, tSeq]
    refine q_if (et_or (et_val (ed_isN (r2.mono s1))) fun _ => et_B (ed_isi (r2.mono s1) k_ss)) (fun _ H2 s2 => ?_) (fun e => Bool.noConfusion e)
    have s12 := s1.trans s2
    refine q_ret (EvD.is (ed_and (ed_eqS (r1.mono s12) (r2.mono s12)) fun _ => ed_eqB (ed_isi (r1.mono s12) k_ss) (ed_isi (r2.mono s12) k_ss)) (by simp)) fun v H3 s3 hd => q v H3 (s12.trans s3) hd
  | .tuple es, lv =>
    obtain ⟨hl, hes⟩ : es.length ≤ 40000 ∧ ∀ d ∈ es, Lv n d := lv
    refine q_if (et_B (ed_isi2 r2 k_tt k_tl)) (fun _ H1 s1 => ?_) (fun e => Bool.noConfusion e)
    dsimp only [tNext, tSeq]
    refine q_if (et_or (et_not (et_B (ed_isi2 (r1.mono s1) k_tt k_tl))) fun _ => et_val (ed_neB (ed_isi (r1.mono s1) k_tl) (ed_isi (r2.mono s1) k_tl))) (fun e => Bool.noConfusion e) (fun _ H2 s2 => ?_)
    dsimp only [tNext, tSeq]
    have s12 := s1.trans s2
    refine q_if (b := false) ((et_val (ed_neI (ed_lenT (r1.mono s12)) (ed_lenT (r2.mono s12)))).is (by simp)) (fun e => Bool.noConfusion e) (fun _ H3 s3 => ?_)
    dsimp only [tNext, tSeq]
    have s13 := s12.trans s3
    have e1 := ed_lcR0 (K := K) (σ := L2.start N_law_alike [v1, v2]) (H := H3) (n := es.length) (k := 2) (vs := [2]) (te := tVar 2)
      (t := tNot (tB (tCall (PureSp K (rel_alike n)) [] E (tCons (tOp (rIxT K) (tVar 0) (tVar 2)) (tCons (tOp (rIxT K) (tVar 1) (tVar 2)) tNil))))) (ea_cons (ed_lenT (r2.mono s13)) ea_nil) hl (fun _ => rfl)
      (fun i hi H4 s4 => et_not (a := true) (et_B (ed_call (c := .bool true) (rel := rel_alike n) (E := E) (ea_cons (ed_ixT (k := i) (ed_var rfl (dp_mono (s13.trans s4) h1)) (ed_var rfl (.int _)) (List.getElem?_eq_getElem hi)) (ea_cons (ed_ixT (k := i) (ed_var rfl (dp_mono (s13.trans s4) h2)) (ed_var rfl (.int _)) (List.getElem?_eq_getElem hi)) ea_nil)) (by exact ⟨_, rfl, hes _ (List.getElem_mem hi), rfl⟩))))
    refine q_ret (EvD.is (ed_eqD e1 (ed_lst ea_nil (by simp)) (shaped_list (by simp)) (shaped_list (by simp))) (by first | rfl | simp [PyData.eqv])) fun v H4 s4 hd => q v H4 (s13.trans s4) hd
theorem all_alike (B : Blt mg) (F : Fn K mg "_law_alike" s_law_alike f fd) (b : Binds K fd P_law_alike []) : ∀ n, FnOk P w K mg base CX0 n f fd P_law_alike (PureSp K (rel_alike n))
  | 0 => none_alike
  | n + 1 => ok_alike B F b (all_alike B F b n)
end
end K8
set_option maxRecDepth 100000
set_option maxHeartbeats 4000000
/-! FnJ: lists over zip(); _law_made. -/
namespace K8
open PySem PySem.Spec PyProof.Rows L2
def keepP (p : PyData → PyData → Bool) (g : PyData → PyData → PyData) (l : List (PyData × PyData)) : List PyData := (l.filter fun q => p q.1 q.2).map fun q => g q.1 q.2
theorem keepP_snoc (p : PyData → PyData → Bool) (g : PyData → PyData → PyData) (l : List (PyData × PyData)) (q : PyData × PyData) : keepP p g (l ++ [q]) = keepP p g l ++ (if p q.1 q.2 = true then [g q.1 q.2] else []) := by
  unfold keepP
  rw [List.filter_append, List.map_append]
  congr 1
  by_cases h : p q.1 q.2 = true
  · rw [if_pos h, List.filter_cons, if_pos h]
    rfl
  · rw [if_neg h, List.filter_cons, if_neg h]
    rfl
theorem keepP_len (p : PyData → PyData → Bool) (g : PyData → PyData → PyData) (l : List (PyData × PyData)) : (keepP p g l).length ≤ l.length := by
  unfold keepP
  rw [List.length_map]
  exact List.length_filter_le _ _
section
variable {K : PySem.W.Frag} {σ : L2.St} {H : Hp} {te : TE} {t : TT} {ta : TA} {ds es : List PyData}
/-- over zip(a list, a list of the same length), two names -/
theorem ed_lcZ {i j : Nat} {vs : List Nat} (p : PyData → PyData → Bool) (g : PyData → PyData → PyData) (hs : EvA K ta σ H [.list ds, .list es]) (hle : ds.length = es.length) (hz : ds.length ≤ 40000) (hw : ∀ x y, wipe (((wipe σ vs).set i (some x)).set j (some y)) vs = wipe σ vs)
    (ht : ∀ (k : Nat) (d e : PyData), ds[k]? = some d → es[k]? = some e → ∀ x y H1, Same H H1 → Dp K H1 x d → Dp K H1 y e → EvB t (((wipe σ vs).set i (some x)).set j (some y)) H1 (p d e))
    (he : ∀ (k : Nat) (d e : PyData), ds[k]? = some d → es[k]? = some e → p d e = true → ∀ x y H1, Same H H1 → Dp K H1 x d → Dp K H1 y e → EvD K te (((wipe σ vs).set i (some x)).set j (some y)) H1 (g d e))
    (hn : ∀ (k : Nat) (d e : PyData), ds[k]? = some d → es[k]? = some e → p d e = true → noList (g d e) = true) : EvD K (tLc (iZip K ta) (gTup K 2 (gCons (gName i) (gCons (gName j) gNil))) t te vs) σ H (.list (keepP p g (ds.zip es))) := fun H0 s Q q =>
  hs H0 s _ fun us H1 s1 hv => by
    obtain ⟨v, w, rfl, hv1, hv2⟩ := dp2 hv
    obtain ⟨a, xs, rfl, ha, hx⟩ := dp_lst hv1
    obtain ⟨b, ys, rfl, hb, hy⟩ := dp_lst hv2
    have hlx := dpl_len hx
    have hly := dpl_len hy
    refine ⟨a, b, xs, ys, rfl, ha, hb, fun Dl hD => ?_⟩
    refine lc_it (walk_zip (n := ds.length) (xs := xs) (ys := ys) (by omega)) (fun k H' => Made K H1 Dl (keepP p g ((ds.zip es).take k)) H') (Made.start hD) (fun _ _ _ m => ⟨m.2.1.seq ha, m.2.1.seq hb⟩) (fun k x H' H'' hk m hyl => ?_) (fun H' m => ?_)
    · obtain ⟨T, x1, x2, rfl, nT, rfl, g1, g2⟩ := hyl
      obtain ⟨d, hd, hxd⟩ := dpl_at hx g1
      obtain ⟨e, he', hye⟩ := dpl_at hy g2
      have sT := same_new nT (.tup [x1, x2])
      have s2 := m.2.1
      refine ⟨T, _, rfl, SqT.of upd_same, rfl, x1, _, rfl, x2, _, rfl, rfl, hw _ _, ?_⟩
      have hzip : (ds.zip es)[k]? = some (d, e) := List.getElem?_zip_eq_some.mpr ⟨hd, he'⟩
      refine Made.turn (m.grow sT) (p := p d e) (d := g d e) (fun H2 s3 Q q => ht k d e hd he' x1 x2 H2 (((s.trans s1)).trans s3) (dp_mono s3 hxd) (dp_mono s3 hye) H2 (Same.refl _) Q q)
        (fun hp H2 s3 Q q => he k d e hd he' hp x1 x2 H2 ((s.trans s1).trans s3) (dp_mono s3 hxd) (dp_mono s3 hye) H2 (Same.refl _) Q q) (Nat.lt_of_le_of_lt (keepP_len _ _ _) ?_) (hn k d e hd he') fun H2 m2 => ?_
      · rw [List.length_take]
        omega
      · rw [take_snoc hzip, keepP_snoc]
        exact m2
    · obtain ⟨m1, m2, zs, m3, m4, _⟩ := m
      rw [List.take_of_length_le (by rw [List.length_zip]; omega)] at m4
      exact q _ H' (s1.trans m2) (.lst (SqL.of m3) m4)
end
theorem plainT_mono {H H' : Hp} {a : Addr} {xs : List V} (s : Same H H') (h : PlainT H a xs) : PlainT H' a xs := by
  obtain ⟨o, e, d⟩ := h
  exact ⟨o, s _ _ e, d⟩
theorem plainT_upd {H : Hp} {p a : Addr} {o u : HO} {xs : List V} (hp : H p = some o) (hs : Soft o) (h : PlainT H a xs) : PlainT (upd H p u) a xs := by
  obtain ⟨ob, e, d⟩ := h
  exact ⟨ob, by rw [upd_ne (fun z => by rw [z, hp] at e; cases e; exact hs)]; exact e, d⟩
theorem paired_map {α β γ : Type} {F : β → γ → Prop} {g : α → β} {h : α → γ} : ∀ (l : List α), (∀ x ∈ l, F (g x) (h x)) → Paired F (l.map g) (l.map h)
  | [], _ => .nil
  | x :: r, k => .cons (k x List.mem_cons_self) (paired_map r fun y m => k y (List.mem_cons_of_mem _ m))
/-- the value that a dict made of pairs has at a key that stands once -/
theorem merge_val {k : Key} {v : V} : ∀ (more acc : List (Key × V)), (more.map (·.1)).Nodup → (k, v) ∈ more → valV (mergeK acc more) k = some v
  | [], _, _, h => by cases h
  | (k', v') :: r, acc, nd, h => by
    obtain ⟨n1, n2⟩ := List.nodup_cons.mp (show (k' :: r.map (·.1)).Nodup from nd)
    show valV (mergeK (putK acc k' v') r) k = some v
    rcases List.mem_cons.mp h with e | h
    · have keep : ∀ (r acc : List (Key × V)), k ∉ r.map (·.1) → valV acc k = some v → valV (mergeK acc r) k = some v := by
        intro r
        induction r with
        | nil => intro acc _ h; exact h
        | cons p r ih =>
          intro acc hn h
          refine ih (putK acc p.1 p.2) (fun m => hn (List.mem_cons_of_mem _ m)) ?_
          rw [valV_put, if_neg (fun z => hn (by rw [z]; exact List.mem_cons_self))]
          exact h
      cases e
      exact keep r _ n1 (by rw [valV_put, if_pos rfl])
    · exact merge_val r _ n2 h
theorem rows_pairs {K : PySem.W.Frag} {H : Hp} : ∀ (bs : List Bun) {xs : List V}, DpAll K H xs (bs.map bunD) → ∃ (ps : List Addr) (kvs : List (Key × V)), xs = ps.map V.ref ∧ Paired (fun p (kv : Key × V) => SqT K H p [kV kv.1, kv.2]) ps kvs ∧ kvs.map (·.1) = bs.map (fun b => (Sum.inr b.1 : Key)) ∧ ∀ b ∈ bs, ∃ y, ((Sum.inr b.1 : Key), y) ∈ kvs ∧ Dp K H y (.tuple (b.2.map partD))
  | [], _, .nil => ⟨[], [], rfl, .nil, rfl, fun b hb => by cases hb⟩
  | b :: bs, _, .cons h t => by
    obtain ⟨ps, kvs, rfl, hp, hk, hall⟩ := rows_pairs bs t
    obtain ⟨a, zs, rfl, ha, hz⟩ := dp_tup h
    obtain ⟨z1, z2, rfl, h1, h2⟩ := dp2 hz
    obtain rfl := dp_str h1
    refine ⟨a :: ps, (Sum.inr b.1, z2) :: kvs, rfl, .cons ha hp, ?_, fun c hc => ?_⟩
    · rw [List.map_cons, List.map_cons, hk]
    · rcases List.mem_cons.mp hc with rfl | hc
      · exact ⟨z2, List.mem_cons_self, h2⟩
      · obtain ⟨y, hy, hd⟩ := hall c hc
        exact ⟨y, List.mem_cons_of_mem _ hy, hd⟩
theorem Named.nodup {bs : List Bun} (h : Named bs) : (bs.map fun b => (Sum.inr b.1 : Key)).Nodup := by
  rw [List.nodup_iff_pairwise_ne, List.pairwise_iff_getElem]
  intro i j hi hj hij e
  rw [List.getElem_map, List.getElem_map] at e
  have := h.one i j _ _ (List.getElem?_eq_getElem (by simpa using hi)) (List.getElem?_eq_getElem (by simpa using hj)) (Sum.inr.inj e)
  omega
theorem zeros_flat (n : Nat) : (List.replicate n [V.int 0]).flatten = List.replicate n (V.int 0) := by
  induction n with
  | zero => rfl
  | succ n ih => rw [List.replicate_succ, List.flatten_cons, ih, List.replicate_succ]; rfl
theorem zeros_dp {K : PySem.W.Frag} {H : Hp} {α : Type} : ∀ (l : List α), DpAll K H (List.replicate l.length (V.int 0)) (l.map fun _ => .int 0)
  | [] => .nil
  | _ :: r => .cons (.int 0) (zeros_dp r)
def addD (d e : PyData) : PyData := match d, e with
  | .int i, .int j => .int (i + j)
  | d, _ => d
theorem zip_add (is : List Str) (f g : Str → Int) : keepP (fun _ _ => true) addD ((is.map fun x => PyData.int (f x)).zip (is.map fun x => .int (g x))) = is.map fun x => .int (f x + g x) := by
  unfold keepP
  rw [List.zip_map', List.filter_eq_self.mpr (fun _ _ => rfl), List.map_map]
  rfl
theorem get_map {α β : Type} {f : α → β} {l : List α} {k : Nat} {d : β} (h : (l.map f)[k]? = some d) : ∃ x, l[k]? = some x ∧ d = f x := by
  rw [List.getElem?_map] at h
  obtain ⟨x, hx, e⟩ := Option.map_eq_some_iff.mp h
  exact ⟨x, hx, e.symm⟩
def sp_lmade (K : PySem.W.Frag) (n : Nat) : Sp := fun vs H Q _ => ∃ (is : List Str) (bs : List Bun) (v1 : V) (a : Addr) (xs : List V) (name : Str) (c : Int), vs = [v1, .ref a, .str name, .int c] ∧ Dp K H v1 (.list (is.map .str)) ∧ PlainT H a xs ∧ DpAll K H xs (bs.map bunD) ∧
  Named bs ∧ is.length ≤ 1000 ∧ bs.length ≤ 6 ∧ Ranked is bs n name ∧ 0 ≤ c ∧ (∀ b ∈ bs, b.2.length ≤ 1000) ∧ ∀ v H', Same H H' → Dp K H' v (.list (is.map fun x => .int (cnt is bs n name c x))) → Q v H'
section
variable {P : Program} {w : World} {K : PySem.W.Frag} {mg : Str → Option Value} {base : Heap} {f : Addr} {fd : FuncData}
theorem none_lmade : FnOk P w K mg base CX0 0 f fd P_law_made (sp_lmade K 0) := by
  have no : ∀ vs H Q E, ¬ sp_lmade K 0 vs H Q E := fun vs H Q E h => by
    obtain ⟨is, bs, v1, a, xs, name, c, _, _, _, _, _, _, _, hr, _⟩ := h
    exact hr
  exact ⟨fun vs H Q E h => absurd h (no vs H Q E), fun A outer s H args us vs Q E _ _ _ _ h => absurd h (no vs H Q E)⟩
theorem ok_lmade {n : Nat} (B : Blt mg) (F_law_made : Fn K mg "_law_made" s_law_made f fd) (b_law_made : Binds K fd P_law_made []) (G_law_made : FnOk P w K mg base CX0 n f fd P_law_made (sp_lmade K n)) :
    FnOk P w K mg base CX0 (n + 1) f fd P_law_made (sp_lmade K (n + 1)) := by
  refine F_law_made.F.ok sc_law_made (fun vs H Q E h => ?_) (fun cdv A outer s H vs Q E hr h => ?_)
  · obtain ⟨is, bs, v1, a, xs, name, c, rfl, _⟩ := h
    rfl
  obtain ⟨is, bs, v1, a, xs, name, c, rfl, h1, hpl, hx, nm, hil, hbl, rk, hc, hfew, q⟩ := h
  have hu := units65 hr
  have hu1 := hu_of hr
  refine ⟨_, (pss_cons (ps_if (pt_cmpR (opIn (K := K)) (pv 2) (pv 0) (by rfl)) (pss_one (ps_ret (pe_lc (own := [("_law_item", 7)]) rfl sc_law_made.nd (piL (K := K) (pv 0)) (blkOk_by (own := [("_law_item", 7)]) (N := N_law_made) (sc := defScope s_law_made) (by decide +kernel)) (fun _ _ _ _ _ => (pg_name (i := 7) sc_law_made.nd rfl (by first | exact Or.inl rfl | exact Or.inr rfl))) (fun _ _ _ _ _ => pts_nil) (fun _ _ _ _ _ => (pe_ifExp (pt_cmpR op_eq (pv 7) (pv 2) (nomark _)) (pv 3) pe_int))))) pss_nil) (pss_cons (ps_set (i := 4) sc_law_made.nd rfl (by first | exact Or.inl rfl | exact Or.inr rfl) (pe_op op_rep (pe_lst (pa_cons pe_int pa_nil)) (pe_callB (cLen (K := K)) (by rfl) B.len (by decide +kernel) (pa_cons (pv 0) pa_nil)))) (pss_cons (ps_for PassesOwn.never rfl (piT (K := K) (pe_dget hu1 (pe_callTy (call_dictT rfl) (by rfl) B.dict (by decide +kernel) (pa_cons (pv 1) pa_nil)) (pv 2) (fun _ _ => rfl))) (pgT (K := K) (n := 2) rfl (pgs_cons (pg_name (i := 5) sc_law_made.nd rfl (by first | exact Or.inl rfl | exact Or.inr rfl)) (pgs_cons (pg_name (i := 6) sc_law_made.nd rfl (by first | exact Or.inl rfl | exact Or.inr rfl)) pgs_nil))) (pss_one (ps_setLc (i := 4) (own := [("_law_one", 8), ("_law_two", 9)]) rfl sc_law_made.nd rfl rfl (sw_true rfl rfl rfl (by decide +kernel)) (pi_zip (by rfl) B.zip (pa_cons (pv 4) (pa_cons (pe_call G_law_made (hr.mono (by first | decide | omega)) (by rfl) F_law_made.g F_law_made.kp b_law_made .nil pass0 (pa_cons (pv 0) (pa_cons (pv 1) (pa_cons (pv 5) (pa_cons (pe_op op_mul (pv 6) (pv 3)) pa_nil))))) pa_nil))) (blkOk_by (own := [("_law_one", 8), ("_law_two", 9)]) (N := N_law_made) (sc := defScope s_law_made) (by decide +kernel)) (fun _ _ _ _ _ => (pgT (K := K) (n := 2) rfl (pgs_cons (pg_name (i := 8) sc_law_made.nd rfl (by first | exact Or.inl rfl | exact Or.inr rfl)) (pgs_cons (pg_name (i := 9) sc_law_made.nd rfl (by first | exact Or.inl rfl | exact Or.inr rfl)) pgs_nil)))) (fun _ _ _ _ _ => pts_nil) (fun _ _ _ _ _ => (pe_op op_add (pv 8) (pv 9)))))) (pss_one (ps_ret (pv 4)))))), ?_⟩
  refine q_if (et_val (ed_inL (ed_var rfl (.str name)) (ed_var rfl h1))) (fun hb H1 s1 => ?_) (fun hb H1 s1 => ?_)
  · have hin : name ∈ is := of_decide_eq_true hb
    refine q_ret (EvD.is (ed_lcL (fun _ => true) (fun d => match d with | .str x => .int (if x = name then c else 0) | d => d) (ed_var rfl (dp_mono s1 h1)) (by rw [List.length_map]; omega) (fun _ => rfl) (fun _ _ _ _ _ _ => et_yes)
      (fun d hd _ x H5 s5 hxd => by
        obtain ⟨y, hy, rfl⟩ := List.mem_map.mp hd
        refine ed_if (et_val (ed_eqS (ed_var rfl hxd) (ed_var rfl (.str name)))) (fun e => ?_) (fun e => ?_)
        · exact (ed_var rfl (.int c)).is (by rw [show y = name from of_decide_eq_true e]; simp)
        · exact ed_int.is (by have : ¬ y = name := of_decide_eq_false e; simp [this]))
      (fun d hd _ => by
        obtain ⟨y, hy, rfl⟩ := List.mem_map.mp hd
        rfl)) ?_) fun v H3 s3 hd => q v H3 (s1.trans s3) hd
    rw [keepD_all, List.map_map]
    congr 1
    refine List.map_congr_left fun x _ => ?_
    show PyData.int (if x = name then c else 0) = .int (cnt is bs (n + 1) name c x)
    unfold cnt
    rw [if_pos hin]
  have hnot : name ∉ is := of_decide_eq_false hb
  dsimp only [tNext, tSeq]
  obtain ⟨b, hbm, rfl, hparts⟩ : ∃ b ∈ bs, b.1 = name ∧ ∀ p ∈ b.2, Ranked is bs n p.1 ∧ 1 ≤ p.2 ∧ p.2 ≤ 9 := by
    rcases rk with h | ⟨_, h⟩
    · exact absurd h hnot
    · exact h
  have hcnt : ∀ x, cnt is bs (n + 1) b.1 c x = (b.2.map fun p => cnt is bs n p.1 (p.2 * c) x).sum := fun x => by
    show (if b.1 ∈ is then _ else _) = _
    rw [if_neg hnot, nm.look hbm]
  -- found = [0] * len(items)
  obtain ⟨al, ys1, rfl, hal, hys1⟩ := dp_lst (dp_mono s1 h1)
  have hl1 : ys1.length = is.length := by rw [dpl_len hys1, List.length_map]
  refine ⟨by show 1 ≤ sizeLine; decide, fun p hp => ?_⟩
  have s2 := same_new hp (.lst [V.int 0])
  refine ⟨_, rfl, al, ys1, rfl, .inl (s2.seq hal), p, _, _, rfl, rfl, upd_same, by omega, by omega, ?_, fun fp hfp => ?_⟩
  · have : ((ys1.length : Nat) : Int).toNat = ys1.length := Int.toNat_natCast _
    rw [this, List.length_singleton, Nat.one_mul]
    exact sz_of (by omega)
  have s3 := same_new hfp (.lst (List.replicate ((ys1.length : Nat) : Int).toNat [V.int 0]).flatten)
  have hfl : (List.replicate ((ys1.length : Nat) : Int).toNat [V.int 0]).flatten = List.replicate is.length (V.int 0) := by
    rw [Int.toNat_natCast, hl1, zeros_flat]
  rw [hfl] at s3 ⊢
  have s13 := (s1.trans s2).trans s3
  obtain ⟨ps, kvs, rfl, hps, hks, hall⟩ := rows_pairs bs (dpAll_mono s13 hx)
  refine ⟨_, rfl, a, ps, kvs, rfl, plainT_mono s13 hpl, hps, fun dp hdp => ⟨_, rfl, ?_⟩⟩
  obtain ⟨yv, hyv, hyd⟩ := hall b hbm
  have s4 := same_new hdp (.dK (mergeK [] kvs))
  have s14 := s13.trans s4
  obtain ⟨ap, ys, rfl, hap, hys⟩ := dp_tup hyd
  have hysl : ys.length = b.2.length := by rw [dpl_len hys, List.length_map]
  refine ⟨dp, .ref ap, rfl, ?_, ap, rfl, ⟨ys, sqt_mono s4 hap⟩, ?_⟩
  · have := DGet.k (k := Sum.inr b.1) (upd_same (H := upd (upd H1 p (.lst [V.int 0])) fp (.lst (List.replicate is.length (V.int 0)))) (a := dp) (o := .dK (mergeK [] kvs)))
    rw [merge_val kvs [] (by rw [hks]; exact nm.nodup) hyv] at this
    exact this
  refine for_tup (xs := ys) (fun i σ' H' => Same H H' ∧ Same (upd (upd H1 p (.lst [V.int 0])) fp (.lst (List.replicate is.length (V.int 0)))) H' ∧ ∃ vf y5 y6 y7 y8 y9, σ' = [some (.ref al), some (.ref a), some (.str b.1), some (.int c), some vf, y5, y6, y7, y8, y9] ∧
    Dp K H' vf (.list (is.map fun x => .int ((b.2.take i).map fun p => cnt is bs n p.1 (p.2 * c) x).sum))) ?_ (fun i σ' H' _ p => ?_) (fun i x σ' H' hi p => ?_) (fun σ' H' p => ?_)
  · exact ⟨s14, s4, _, _, _, _, _, _, rfl, .lst (SqL.of (s4 _ _ upd_same)) (zeros_dp is)⟩
  · exact sqt_mono p.2.1 hap
  · obtain ⟨s5, s5', vf, y5, y6, y7, y8, y9, rfl, hvf⟩ := p
    obtain ⟨d, hd, hxd⟩ := dpl_at hys hi
    rw [List.getElem?_map] at hd
    obtain ⟨pt, hpt, rfl⟩ := Option.map_eq_some_iff.mp hd
    obtain ⟨at_, zs, rfl, hat, hzs⟩ := dp_tup (dp_mono s5' hxd)
    obtain ⟨z1, z2, rfl, hz1, hz2⟩ := dp2 hzs
    obtain rfl := dp_str hz1
    obtain rfl := dp_int hz2
    have hp := hparts pt (List.mem_of_getElem? hpt)
    refine ⟨at_, _, rfl, hat, rfl, .str pt.1, _, rfl, .int pt.2, _, rfl, rfl, ?_⟩
    refine q_asg (EvD.is (ed_lcZ (ds := is.map fun x => .int ((b.2.take i).map fun p => cnt is bs n p.1 (p.2 * c) x).sum) (es := is.map fun x => .int (cnt is bs n pt.1 (pt.2 * c) x)) (fun _ _ => true) addD (ea_cons (ed_var rfl hvf) (ea_cons (fun H1 s1 Q q => ?_) ea_nil)) (by rw [List.length_map, List.length_map]) (by rw [List.length_map]; omega) (fun _ _ => rfl) (fun _ _ _ _ _ _ _ _ _ _ _ => et_yes)
      (fun k d e hd he _ x y H5 s5 hxd hye => ?_) (fun k d e hd he _ => ?_)) (congrArg PyData.list (zip_add is _ _))) fun v H6 s6 hv => ?_
    · refine ⟨_, rfl, _, rfl, _, rfl, _, rfl, _, rfl, pt.2, c, rfl, rfl, .inl ⟨by omega, by omega⟩, is, bs, _, a, _, pt.1, pt.2 * c, rfl, dp_mono (s5.trans s1) h1, plainT_mono (s5.trans s1) hpl, dpAll_mono (s5.trans s1) hx, nm, hil, hbl, hp.1, Int.mul_nonneg (by omega) (by omega), hfew, fun v H2 s2 hd => q v H2 s2 hd⟩
    · obtain ⟨x1, _, rfl⟩ := get_map hd
      obtain ⟨x2, _, rfl⟩ := get_map he
      exact ed_I0 (ed_var rfl hxd) (ed_var rfl hye)
    · obtain ⟨x1, _, rfl⟩ := get_map hd
      obtain ⟨x2, _, rfl⟩ := get_map he
      rfl
    · refine ⟨s5.trans s6, s5'.trans s6, _, _, _, _, _, _, rfl, ?_⟩
      have : (is.map fun x => PyData.int ((b.2.take (i + 1)).map fun p => cnt is bs n p.1 (p.2 * c) x).sum) = is.map fun x => .int (((b.2.take i).map fun p => cnt is bs n p.1 (p.2 * c) x).sum + cnt is bs n pt.1 (pt.2 * c) x) := List.map_congr_left fun x _ => by rw [take_sum hpt]
      rw [this]
      exact hv
  · obtain ⟨s5, s5', vf, y5, y6, y7, y8, y9, rfl, hvf⟩ := p
    refine ⟨_, rfl, ?_⟩
    refine q vf H' s5 ?_
    rw [hysl, List.take_length] at hvf
    have : (is.map fun x => PyData.int (cnt is bs (n + 1) b.1 c x)) = is.map fun x => .int ((b.2.map fun p => cnt is bs n p.1 (p.2 * c) x).sum) := List.map_congr_left fun x _ => by rw [hcnt]
    rw [this]
    exact hvf
theorem all_lmade (B : Blt mg) (F : Fn K mg "_law_made" s_law_made f fd) (b : Binds K fd P_law_made []) : ∀ n, FnOk P w K mg base CX0 n f fd P_law_made (sp_lmade K n)
  | 0 => none_lmade
  | n + 1 => ok_lmade B F b (all_lmade B F b n)
end
end K8
set_option maxRecDepth 100000
set_option maxHeartbeats 4000000
/-! FnK: _law_catalog draws a good catalog. -/
namespace K8
open PySem PySem.Spec PyProof.Rows L2
/-! ### heaps that change at the row alone -/
def Mv (r : Addr) (H H' : Hp) : Prop := ∀ b o, b ≠ r → H b = some o → H' b = some o
theorem Mv.refl {r : Addr} (H : Hp) : Mv r H H := fun _ _ _ e => e
theorem Mv.trans {r : Addr} {H H' H2 : Hp} (a : Mv r H H') (b : Mv r H' H2) : Mv r H H2 := fun c o n e => b c o n (a c o n e)
theorem Mv.same {r : Addr} {H H' : Hp} (a : Same H H') : Mv r H H' := fun c o _ e => a c o e
theorem Mv.upd {r : Addr} {H : Hp} (o : HO) : Mv r H (upd H r o) := fun c u n e => by
  rw [upd_ne n]
  exact e
theorem Mv.mut {r p : Addr} {H H' : Hp} (m : Mv r H H') (hp : H p = none) (o : HO) : Mv r H (L2.upd H' p o) := fun c u n e => by
  rw [upd_ne (fun z => by rw [z, hp] at e; cases e)]
  exact m c u n e
def RowHd (H : Hp) (r : Addr) : Prop := ∃ xs, H r = some (.lst xs)
theorem RowAt.hd {K : PySem.W.Frag} {c : Addr × List Int} {H : Hp} {r : Addr} (h : RowAt K c H r) : RowHd H r := by
  obtain ⟨_, _, _, h, _⟩ := h
  exact ⟨_, h⟩
def RowHdR (H : Hp) (r : Addr) : Prop := ∃ a xs, H r = some (.lst (.ref a :: xs))
theorem RowAt.hdR {K : PySem.W.Frag} {c : Addr × List Int} {H : Hp} {r : Addr} (h : RowAt K c H r) : RowHdR H r := by
  obtain ⟨_, _, _, h, _⟩ := h
  exact ⟨_, _, h⟩
theorem Mv.sqt {K : PySem.W.Frag} {r a : Addr} {H H' : Hp} {xs : List V} (m : Mv r H H') (hr : RowHd H r) (h : SqT K H a xs) : SqT K H' a xs := by
  obtain ⟨ys, hr⟩ := hr
  rcases h with (h | ⟨ob, h⟩) | h
  · exact .inl (.inl (m _ _ (fun e => by rw [e, hr] at h; cases h) h))
  · exact .inl (.inr ⟨ob, m _ _ (fun e => by rw [e, hr] at h; cases h) h⟩)
  · exact .inr h
theorem Mv.sql {K : PySem.W.Frag} {r a : Addr} {H H' : Hp} {xs : List V} (m : Mv r H H') (n : a ≠ r) (h : SqL K H a xs) : SqL K H' a xs := by
  rcases h with (h | ⟨ob, h⟩) | h
  · exact .inl (.inl (m _ _ n h))
  · exact .inl (.inr ⟨ob, m _ _ n h⟩)
  · exact .inr h
mutual
theorem Mv.dp {K : PySem.W.Frag} {r : Addr} {H H' : Hp} (m : Mv r H H') (hr : RowHd H r) : ∀ {v : V} {d : PyData}, noList d = true → Dp K H v d → Dp K H' v d
  | _, _, _, .non => .non
  | _, _, _, .bl b => .bl b
  | _, _, _, .int i => .int i
  | _, _, _, .str x => .str x
  | _, _, n, .lst s a => by simp [noList] at n
  | _, _, n, .tup s a => .tup (m.sqt hr s) (Mv.dps m hr (by simpa [noList] using n) a)
theorem Mv.dps {K : PySem.W.Frag} {r : Addr} {H H' : Hp} (m : Mv r H H') (hr : RowHd H r) : ∀ {vs : List V} {ds : List PyData}, noLists ds = true → DpAll K H vs ds → DpAll K H' vs ds
  | _, _, _, .nil => .nil
  | _, _, n, .cons h t => .cons (m.dp hr (by simp [noLists] at n; exact n.1) h) (Mv.dps m hr (by simp [noLists] at n; exact n.2) t)
end
theorem Mv.plain {r a : Addr} {H H' : Hp} {xs : List V} (m : Mv r H H') (hr : RowHd H r) (h : PlainT H a xs) : PlainT H' a xs := by
  obtain ⟨ys, hr⟩ := hr
  obtain ⟨ob, e, d⟩ := h
  exact ⟨ob, m _ _ (fun z => by rw [z, hr] at e; cases e) e, d⟩
theorem RowAt.mono {K : PySem.W.Frag} {c : Addr × List Int} {H H' : Hp} {r : Addr} (s : Same H H') (h : RowAt K c H r) : RowAt K c H' r := by
  obtain ⟨p, sd, q, h1, h2, h3⟩ := h
  exact ⟨p, sd, q, s _ _ h1, s.seq h2, h3⟩
theorem row_keepM {K : PySem.W.Frag} {H H' : Hp} {r a x : Addr} {xs : List V} {cells : List Int} (hr : H r = some (.lst (.ref x :: xs))) (m : Mv r H H') (h : SqL K H a (cells.map V.int)) : SqL K H' a (cells.map V.int) := by
  rcases h with (h | ⟨o, h⟩) | h
  · refine .inl (.inl (m _ _ (fun e => ?_) h))
    rw [e, hr] at h
    cases cells with
    | nil => cases h
    | cons c cs =>
      have h := HO.lst.inj (Option.some.inj h)
      cases h
  · exact .inl (.inr ⟨o, m _ _ (fun e => by rw [e, hr] at h; cases h) h⟩)
  · exact .inr h
/-- a change at a list made later -/
theorem RowAt.mut {K : PySem.W.Frag} {c : Addr × List Int} {H0 H : Hp} {r p : Addr} (h0 : RowAt K c H0 r) (m : Mv r H0 H) (hp : H0 p = none) (o : HO) (h : RowAt K c H r) : RowAt K c (L2.upd H p o) r := by
  obtain ⟨p0, s0, q0, e0, c0, _⟩ := h0
  obtain ⟨p1, s1, q1, e1, c1, h3⟩ := h
  exact ⟨p1, s1, q1, by rw [upd_ne (fun z => by rw [← z, e0] at hp; cases hp)]; exact e1, row_keepM e0 (m.mut hp o) c0, h3⟩
theorem noList_strs (ss : List Str) : noLists (ss.map .str) = true := by
  induction ss with
  | nil => rfl
  | cons s r ih => simp [noLists, noList, ih]
section
variable {K : PySem.W.Frag} {σ : L2.St} {H : Hp} {Q : VK}
theorem m_taken {c : Addr × List Int} {r : Addr} {i : Nat} {n : Int} {tn : TE} {E : XK} (h0 : σ[i]? = some (some (.ref r))) (hn : EvD K tn σ H (.int n)) (hr : RowAt K c H r) (h1 : 1 ≤ n) (h2 : n ≤ 1000)
    (k : ∀ k H', 0 ≤ k → k < n → Mv r H H' → RowAt K c H' r → Q (.int k) H') : tCall (sp_taken K) [] E (tCons (tVar i) (tCons tn tNil)) σ H Q :=
  ⟨_, h0, hn H (Same.refl _) _ fun v H2 s2 hv => by
    obtain rfl := dp_int hv
    exact ⟨c, r, n, rfl, hr.mono s2, h1, h2, fun j row k0 k1 hrow => k j _ k0 k1 ((Mv.same s2).trans (Mv.upd _)) hrow⟩⟩
/-- a list whose first item is no tuple is not the row -/
theorem keepL {r b : Addr} {H H' : Hp} {xs : List V} {d0 : PyData} {ds : List PyData} (hr : RowHdR H r) (m : Mv r H H') (hx : DpAll K H xs (d0 :: ds)) (h0 : isTup d0 = false ∧ noList d0 = true) (h : SqL K H b xs) : SqL K H' b xs := by
  obtain ⟨a, ys, hr⟩ := hr
  have no : xs ≠ .ref a :: ys := fun e => by
    subst e
    cases hx with
    | cons h _ =>
      cases h with
      | lst => exact Bool.noConfusion h0.2
      | tup => exact Bool.noConfusion h0.1
  rcases h with (h | ⟨o, h⟩) | h
  · exact .inl (.inl (m _ _ (fun e => by rw [e, hr] at h; exact no (HO.lst.inj (Option.some.inj h)).symm) h))
  · exact .inl (.inr ⟨o, m _ _ (fun e => by rw [e, hr] at h; cases h) h⟩)
  · exact .inr h
theorem m_pick {c : Addr × List Int} {r : Addr} {i : Nat} {tn : TE} {E : XK} {d0 : PyData} {ds : List PyData} (h0 : σ[i]? = some (some (.ref r))) (hn : EvD K tn σ H (.list (d0 :: ds))) (hd : isTup d0 = false ∧ noList d0 = true) (nl : noLists (d0 :: ds) = true) (hr : RowAt K c H r) (hl : ds.length ≤ 900)
    (k : ∀ (j : Nat) d v H', (d0 :: ds)[j]? = some d → Mv r H H' → RowAt K c H' r → Dp K H' v d → Q v H') : tCall (sp_pick K) [] E (tCons (tVar i) (tCons tn tNil)) σ H Q :=
  ⟨_, h0, hn H (Same.refl _) _ fun v H2 s2 hv => by
    obtain ⟨b, xs, rfl, hb, hx⟩ := dp_lst hv
    have hr2 := hr.mono s2
    have hlen := dpl_len hx
    rw [List.length_cons] at hlen
    refine ⟨c, r, b, xs, rfl, hr2, by omega, by omega, hb, fun row => keepL hr2.hdR (Mv.upd _) hx hd hb, fun j x row hj hrow => ?_⟩
    obtain ⟨d, hd', hxd⟩ := dpl_at hx hj
    have nd : noList d = true := by
      have all : ∀ (l : List PyData), noLists l = true → ∀ d ∈ l, noList d = true := by
        intro l
        induction l with
        | nil => intro _ d h; cases h
        | cons a l ih =>
          intro h d hd
          simp [noLists] at h
          rcases List.mem_cons.mp hd with rfl | hd
          · exact h.1
          · exact ih h.2 d hd
      exact all _ nl d (List.mem_of_getElem? hd')
    exact k j d x _ hd' ((Mv.same s2).trans (Mv.upd _)) hrow ((Mv.upd _).dp hr2.hd nd hxd)⟩
/-- (..)[:1 + taken(row, n)] -/
theorem m_cut {c : Addr × List Int} {r : Addr} {i : Nat} {n : Int} {ta : TA} {ds : List PyData} {E : XK} (ha : EvA K ta σ H ds) (hl : ds.length ≤ 1000) (nl : noLists ds = true) (h0 : σ[i]? = some (some (.ref r))) (hr : RowAt K c H r) (h1 : 1 ≤ n) (h2 : n ≤ 1000)
    (k : ∀ (j : Nat) v H', (j : Int) < n → Mv r H H' → RowAt K c H' r → Dp K H' v (.tuple (ds.take (1 + j))) → Q v H') :
    tSl (rSlA K) (tTup ta) tNoPart (tPart (tOp (rI0 fun i j => .int (i + j)) (tC (.int 1)) (tCall (sp_taken K) [] E (tCons (tVar i) (tCons (tC (.int n)) tNil))))) σ H Q :=
  ed_tup ha (by omega) H (Same.refl _) _ fun v H2 s2 hv => m_taken h0 ed_int (hr.mono s2) h1 h2 fun j H3 j0 j1 m3 hr3 => ⟨1, j, rfl, rfl, 1 + j, rfl, by
    have nt : noList (.tuple ds) = true := nl
    obtain ⟨p, xs, rfl, hs, hx⟩ := dp_tup (m3.dp (hr.mono s2).hd nt hv)
    have hj : (1 : Int) + j = ((1 + j.toNat : Nat) : Int) := by omega
    rw [hj]
    refine ⟨p, xs, rfl, hs, fun hw => k j.toNat _ _ (by omega) ((Mv.same s2).trans m3) hr3 ?_, fun _ l hl => k j.toNat _ _ (by omega) (((Mv.same s2).trans m3).trans (Mv.same (same_new hl _))) (hr3.mono (same_new hl _)) ?_⟩
    · rw [HT.sIx_nat] at hw
      have hl := dpl_len hx
      have := hw.2
      rw [List.take_of_length_le (by omega)]
      exact .tup hs hx
    · rw [cut_take]
      exact .tup (SqT.of upd_same) (dpAll_mono (same_new hl _) (dpl_take _ hx))⟩
end
/-! ### the mathematics -/
theorem unlike_of {ds : List PyData} (h : ∀ (i j : Nat) (d e : PyData), j < i → ds[i]? = some d → ds[j]? = some e → PyData.eqv e d = false) : unlikeB ds = true := by
  unfold unlikeB
  rw [List.all_map]
  refine List.all_eq_true.mpr fun i hi => ?_
  have hi' := List.mem_range.mp hi
  show (!(ds.take i).any fun z => PyData.eqv z (ds.getD i .none)) = true
  rw [Bool.not_eq_true', List.any_eq_false]
  intro z hz
  obtain ⟨j, hj⟩ := List.getElem?_of_mem hz
  have hlt : j < i := by
    have := (List.getElem?_eq_some_iff.mp hj).1
    rw [List.length_take] at this
    omega
  rw [List.getElem?_take_of_lt hlt] at hj
  rw [h i j _ z hlt (by rw [List.getD_eq_getElem?_getD, List.getElem?_eq_getElem hi']; rfl) hj]
  exact Bool.false_ne_true
theorem unlike_strs {ss : List Str} (h : ss.Nodup) : unlikeB (ss.map .str) = true := unlike_of fun i j d e hj hd he => by
  obtain ⟨x, hx, rfl⟩ := get_map hd
  obtain ⟨y, hy, rfl⟩ := get_map he
  rw [eqv_str]
  refine decide_eq_false fun z => ?_
  subst z
  have := nd_ix h hx hy
  omega
theorem unlike_keys {ls : List Lane} (h : (ls.map fun l => (l.h, l.r)).Nodup) : unlikeB (ls.map keyD) = true := unlike_of fun i j d e hj hd he => by
  obtain ⟨x, hx, rfl⟩ := get_map hd
  obtain ⟨y, hy, rfl⟩ := get_map he
  have e1 : PyData.eqv (keyD y) (keyD x) = (decide (y.h = x.h) && decide (y.r = x.r)) := by
    unfold keyD
    simp only [PyData.eqv, PyData.eqvAll, Bool.and_true]
    rw [show (y.h == x.h) = decide (y.h = x.h) from rfl, show (y.r == x.r) = decide (y.r = x.r) from rfl]
  rw [e1]
  by_cases z : y.h = x.h ∧ y.r = x.r
  · have e2 : ∀ (k : Nat) (l : Lane), ls[k]? = some l → (ls.map fun l => (l.h, l.r))[k]? = some (l.h, l.r) := fun k l hl => by rw [List.getElem?_map, hl]; rfl
    have := nd_ix h (e2 i x hx) (by rw [e2 j y hy, z.1, z.2])
    omega
  · by_cases z1 : y.h = x.h
    · rw [decide_eq_false (fun z2 => z ⟨z1, z2⟩), Bool.and_false]
    · rw [decide_eq_false z1, Bool.false_and]
def hs3 : List Str := ["east", "west", "hill"]
def rs2 : List Str := ["ra", "rb"]
def is3 : List Str := ["tea", "pot", "cup"]
def goodStr (x : Str) : Bool := nameB x && (decide (x.length ≤ 30000) && okStr x)
theorem goodStr_name {x : Str} (h : goodStr x = true) : nameB x = true ∧ Fine x := by
  unfold goodStr at h
  simp only [Bool.and_eq_true, decide_eq_true_eq] at h
  exact ⟨h.1, h.2.1, h.2.2⟩
theorem names_cut {ss : List Str} (h : ss.all goodStr = true) (hn : ss.Nodup) (h5 : ss.length ≤ 5) (h1 : 1 ≤ ss.length) (j : Nat) : namesB (ss.take (1 + j)) 5 = true := by
  unfold namesB
  have hl : (ss.take (1 + j)).length = min (1 + j) ss.length := List.length_take
  rw [decide_eq_true (by omega), decide_eq_true (by omega), unlike_strs (hn.sublist (List.take_sublist _ _)), Bool.and_true, Bool.true_and]
  simp only [Bool.and_true]
  exact List.all_eq_true.mpr fun x hx => (goodStr_name (List.all_eq_true.mp h x (List.mem_of_mem_take hx))).1
theorem hs3_good : hs3.all goodStr = true := by decide +kernel
theorem rs2_good : rs2.all goodStr = true := by decide +kernel
theorem is3_good : is3.all goodStr = true := by decide +kernel
theorem hs3_nd : hs3.Nodup := by decide +kernel
theorem rs2_nd : rs2.Nodup := by decide +kernel
theorem is3_nd : is3.Nodup := by decide +kernel
/-- the name of a supply; of a bundle -/
def supN (i : Nat) : Str := "s" ++ (toString ((i : Nat) : Int) : Str)
def bunN (i : Nat) : Str := "bun" ++ (toString ((i : Nat) : Int) : Str)
theorem log_small : ∀ i, i < 6 → i.log2 < 1920 := by decide +kernel
theorem supN_len : ∀ i, i < 6 → ("s" : Str).length + (toString ((i : Nat) : Int) : Str).length ≤ 30 := by decide +kernel
theorem bunN_len : ∀ i, i < 6 → ("bun" : Str).length + (toString ((i : Nat) : Int) : Str).length ≤ 30 := by decide +kernel
theorem supN_good : ∀ i, i < 5 → goodStr (supN i) = true := by decide +kernel
theorem bunN_good : ∀ i, i < 3 → goodStr (bunN i) = true := by decide +kernel
theorem supN_nd : ∀ k, k < 6 → ((List.range k).map supN).Nodup := by decide +kernel
theorem bunN_nd : ∀ k, k < 4 → ((List.range k).map bunN).Nodup := by decide +kernel
theorem bunN_out : ∀ i, i < 3 → bunN i ∉ is3 := by decide +kernel
/-- lanes, each of a house and a region before turn m -/
structure Lanes (hs rs : List Str) (m : Nat) (ls : List Lane) : Prop where
  at_ : ∀ l ∈ ls, (∃ i j, hs[i]? = some l.h ∧ rs[j]? = some l.r ∧ j < rs.length ∧ i * rs.length + j < m) ∧ (0 ≤ l.m ∧ l.m ≤ 9) ∧ (0 ≤ l.l ∧ l.l ≤ l.m) ∧ (0 ≤ l.p ∧ l.p ≤ 99)
  nd : (ls.map fun l => (l.h, l.r)).Nodup
  len : ls.length ≤ m
theorem Lanes.nil {hs rs : List Str} : Lanes hs rs 0 [] := ⟨fun l h => (by cases h), List.nodup_nil, Nat.le_refl _⟩
theorem Lanes.up {hs rs : List Str} {m n : Nat} {ls : List Lane} (h : Lanes hs rs m ls) (hn : m ≤ n) : Lanes hs rs n ls :=
  ⟨fun l hl => by
    obtain ⟨⟨i, j, a, b, c, d⟩, e⟩ := h.at_ l hl
    exact ⟨⟨i, j, a, b, c, by omega⟩, e⟩, h.nd, Nat.le_trans h.len hn⟩
theorem Lanes.more {hs rs : List Str} {i j : Nat} {ls : List Lane} {l : Lane} (h : Lanes hs rs (i * rs.length + j) ls) (hh : hs.Nodup) (hr : rs.Nodup) (h1 : hs[i]? = some l.h) (h2 : rs[j]? = some l.r) (hm : 0 ≤ l.m ∧ l.m ≤ 9) (hl : 0 ≤ l.l ∧ l.l ≤ l.m) (hp : 0 ≤ l.p ∧ l.p ≤ 99) : Lanes hs rs (i * rs.length + (j + 1)) (ls ++ [l]) := by
  have hj := (List.getElem?_eq_some_iff.mp h2).1
  refine ⟨fun k hk => ?_, ?_, by rw [List.length_append]; have := h.len; simp; omega⟩
  · rcases List.mem_append.mp hk with hk | hk
    · exact (h.up (by omega)).at_ k hk
    · obtain rfl := List.mem_singleton.mp hk
      exact ⟨⟨i, j, h1, h2, hj, by omega⟩, hm, hl, hp⟩
  · rw [List.map_append]
    refine nd_snoc h.nd fun z => ?_
    obtain ⟨k, hk, e⟩ := List.mem_map.mp z
    obtain ⟨⟨i', j', a, b, c, d⟩, _⟩ := h.at_ k hk
    have e1 : k.h = l.h := (Prod.mk.inj e).1
    have e2 : k.r = l.r := (Prod.mk.inj e).2
    rw [e1] at a
    rw [e2] at b
    have := nd_ix hh a h1
    have := nd_ix hr b h2
    subst_vars
    omega
end K8
set_option maxRecDepth 100000
set_option maxHeartbeats 4000000
/-! FnL: the walk through _law_catalog. -/
namespace K8
open PySem PySem.Spec PyProof.Rows L2
def sp_lcat (K : PySem.W.Frag) : Sp := fun vs H Q _ => ∃ (c : Addr × List Int) (r : Addr), vs = [.ref r] ∧ RowAt K c H r ∧ ∀ (C : Cat) (j : Nat) (v : V) (H' : Hp), GoodCat C → C.is = is3.take (1 + j) → Mv r H H' → RowAt K c H' r → Dp K H' v (catD C) → Q v H'
theorem noList_strsD (ss : List Str) : noList (strsD ss) = true := noList_strs ss
theorem noList_lanes (ls : List Lane) : noLists (ls.map laneD) = true := by
  induction ls with
  | nil => rfl
  | cons s r ih =>
    rw [List.map_cons]
    simp [noLists, noList, laneD, ih]
theorem noList_sups (ls : List Supply) : noLists (ls.map supD) = true := by
  induction ls with
  | nil => rfl
  | cons s r ih =>
    rw [List.map_cons]
    simp [noLists, noList, supD, ih]
theorem _root_.L2.Dp.is {K : PySem.W.Frag} {H : Hp} {v : V} {d e : PyData} (h : Dp K H v d) (z : d = e) : Dp K H v e := z ▸ h
/-- the lanes drawn so far -/
def LI (K : PySem.W.Frag) (c : Addr × List Int) (r : Addr) (Hb : Hp) (la sa : Addr) (hs rs : List Str) (m : Nat) (H : Hp) : Prop := Mv r Hb H ∧ RowAt K c H r ∧ H sa = some (.lst []) ∧ ∃ ls lv, H la = some (.lst lv) ∧ DpAll K H lv (ls.map laneD) ∧ Lanes hs rs m ls
structure Two (r : Addr) (Hb : Hp) (la sa : Addr) : Prop where
  l : Hb la = none
  s : Hb sa = none
  n : sa ≠ la
  lr : la ≠ r
  sr : sa ≠ r
section
variable {K : PySem.W.Frag} {c : Addr × List Int} {r la sa : Addr} {Hb H H' : Hp} {hs rs : List Str} {m n : Nat}
theorem LI.mv (t : Two r Hb la sa) (h : LI K c r Hb la sa hs rs m H) (mv : Mv r H H') (hr : RowAt K c H' r) : LI K c r Hb la sa hs rs m H' := by
  obtain ⟨h1, h2, h3, ls, lv, h4, h5, h6⟩ := h
  exact ⟨h1.trans mv, hr, mv _ _ t.sr h3, ls, lv, mv _ _ t.lr h4, mv.dps h2.hd (noList_lanes ls) h5, h6⟩
theorem LI.up (h : LI K c r Hb la sa hs rs m H) (hn : m ≤ n) : LI K c r Hb la sa hs rs n H := by
  obtain ⟨h1, h2, h3, ls, lv, h4, h5, h6⟩ := h
  exact ⟨h1, h2, h3, ls, lv, h4, h5, h6.up hn⟩
/-- lanes.append(a lane) -/
theorem LI.add {i j : Nat} {l : Lane} {v : V} (t : Two r Hb la sa) (hb : RowAt K c Hb r) (h : LI K c r Hb la sa hs rs (i * rs.length + j) H) (hm : i * rs.length + j ≤ 1000) (hv : Dp K H v (laneD l)) (hh : hs.Nodup) (hrs : rs.Nodup) (h1 : hs[i]? = some l.h) (h2 : rs[j]? = some l.r) (om : 0 ≤ l.m ∧ l.m ≤ 9) (ol : 0 ≤ l.l ∧ l.l ≤ l.m) (op : 0 ≤ l.p ∧ l.p ≤ 99) :
    ∃ xs, H la = some (.lst xs) ∧ xs.length < sizeLine ∧ LI K c r Hb la sa hs rs (i * rs.length + (j + 1)) (upd H la (.lst (xs ++ [v]))) := by
  obtain ⟨g1, g2, g3, ls, lv, g4, g5, g6⟩ := h
  refine ⟨lv, g4, ?_, g1.mut t.l _, hb.mut g1 t.l _ g2, by rw [upd_ne t.n]; exact g3, ls ++ [l], _, upd_same, ?_, g6.more hh hrs h1 h2 om ol op⟩
  · rw [dpl_len g5, List.length_map]
    have := g6.len
    exact sz_lt (by omega)
  · rw [List.map_append]
    exact dpl_app (dps_upd g4 trivial (noList_lanes ls) g5) (.cons (dp_upd g4 trivial rfl hv) .nil)
end
section
variable {P : Program} {w : World} {K : PySem.W.Frag} {mg : Str → Option Value} {base : Heap} {f : Addr} {fd : FuncData}
theorem ok_lcat (B : Blt mg) (F : Fun K "_law_catalog" "_law_catalog" s_law_catalog f fd) (c_law_taken : Cal P w K mg base "_law_taken" s_law_taken CX0 1 P_law_taken (sp_taken K)) (c_law_pick : Cal P w K mg base "_law_pick" s_law_pick CX0 2 P_law_pick (sp_pick K)) :
    FnOk P w K mg base CX0 3 f fd P_law_catalog (sp_lcat K) := by
  obtain ⟨_, _, F_law_taken, b_law_taken, G_law_taken⟩ := c_law_taken
  obtain ⟨_, _, F_law_pick, b_law_pick, G_law_pick⟩ := c_law_pick
  refine F.ok sc_law_catalog (fun vs H Q E h => ?_) (fun cdv A outer s H vs Q E hr h => ?_)
  · obtain ⟨c, r, rfl, _⟩ := h
    rfl
  obtain ⟨c, r, rfl, hrow, q⟩ := h
  refine ⟨_, (pss_cons (ps_par (i := 1) (j := 2) rfl sc_law_catalog.nd rfl rfl (by decide) rfl rfl (pa_cons (pe_slice (slT (K := K)) (pe_tup (pa_cons pe_str (pa_cons pe_str (pa_cons pe_str pa_nil)))) po_none (po_some (pe_op op_add pe_int (pe_call G_law_taken (hr.mono (by first | decide | omega)) (by rfl) F_law_taken.g F_law_taken.kp b_law_taken .nil pass0 (pa_cons (pv 0) (pa_cons pe_int pa_nil)))))) (pa_cons (pe_slice (slT (K := K)) (pe_tup (pa_cons pe_str (pa_cons pe_str pa_nil))) po_none (po_some (pe_op op_add pe_int (pe_call G_law_taken (hr.mono (by first | decide | omega)) (by rfl) F_law_taken.g F_law_taken.kp b_law_taken .nil pass0 (pa_cons (pv 0) (pa_cons pe_int pa_nil)))))) pa_nil)) (by rfl)) (pss_cons (ps_par3 (i := 3) (j := 4) (l := 5) rfl sc_law_catalog.nd rfl rfl rfl (by decide) (by decide) (by decide) rfl rfl rfl (pa_cons (pe_slice (slT (K := K)) (pe_tup (pa_cons pe_str (pa_cons pe_str (pa_cons pe_str pa_nil)))) po_none (po_some (pe_op op_add pe_int (pe_call G_law_taken (hr.mono (by first | decide | omega)) (by rfl) F_law_taken.g F_law_taken.kp b_law_taken .nil pass0 (pa_cons (pv 0) (pa_cons pe_int pa_nil)))))) (pa_cons (pe_lst pa_nil) (pa_cons (pe_lst pa_nil) pa_nil))) (by rfl)) (pss_cons (ps_for PassesOwn.never rfl (piT (K := K) (pv 1)) (pg_name (i := 6) sc_law_catalog.nd rfl (by first | exact Or.inl rfl | exact Or.inr rfl)) (pss_one (ps_for PassesOwn.never rfl (piT (K := K) (pv 2)) (pg_name (i := 7) sc_law_catalog.nd rfl (by first | exact Or.inl rfl | exact Or.inr rfl)) (pss_one (ps_if (pt_cmpR op_gt (pe_call G_law_taken (hr.mono (by first | decide | omega)) (by rfl) F_law_taken.g F_law_taken.kp b_law_taken .nil pass0 (pa_cons (pv 0) (pa_cons pe_int pa_nil))) pe_int (nomark _)) (pss_cons (ps_set (i := 8) sc_law_catalog.nd rfl (by first | exact Or.inl rfl | exact Or.inr rfl) (pe_call G_law_taken (hr.mono (by first | decide | omega)) (by rfl) F_law_taken.g F_law_taken.kp b_law_taken .nil pass0 (pa_cons (pv 0) (pa_cons pe_int pa_nil)))) (pss_one (ps_expr (pe_bm PySem.F.plainAttrs_list PySem.F.slot_list_append PySem.F.type_list_append mt_append (pv 4) (pa_cons (pe_tup (pa_cons (pv 6) (pa_cons (pv 7) (pa_cons (pv 8) (pa_cons (pe_op op_add (pv 8) (pe_call G_law_taken (hr.mono (by first | decide | omega)) (by rfl) F_law_taken.g F_law_taken.kp b_law_taken .nil pass0 (pa_cons (pv 0) (pa_cons pe_int pa_nil)))) (pa_cons (pe_call G_law_taken (hr.mono (by first | decide | omega)) (by rfl) F_law_taken.g F_law_taken.kp b_law_taken .nil pass0 (pa_cons (pv 0) (pa_cons pe_int pa_nil))) pa_nil)))))) pa_nil))))) pss_nil))))) (pss_cons (ps_for PassesOwn.never rfl (pi_range1 (by rfl) B.range (pa_cons (pe_call G_law_taken (hr.mono (by first | decide | omega)) (by rfl) F_law_taken.g F_law_taken.kp b_law_taken .nil pass0 (pa_cons (pv 0) (pa_cons pe_int pa_nil))) pa_nil)) (pg_name (i := 9) sc_law_catalog.nd rfl (by first | exact Or.inl rfl | exact Or.inr rfl)) (pss_cons (ps_par (i := 6) (j := 10) rfl sc_law_catalog.nd rfl rfl (by decide) rfl rfl (pa_cons (pe_call G_law_pick (hr.mono (by first | decide | omega)) (by rfl) F_law_pick.g F_law_pick.kp b_law_pick .nil pass0 (pa_cons (pv 0) (pa_cons (pe_callTy (cList (K := K)) (by rfl) B.list (by decide +kernel) (pa_cons (pv 1) pa_nil)) pa_nil))) (pa_cons (pe_call G_law_pick (hr.mono (by first | decide | omega)) (by rfl) F_law_pick.g F_law_pick.kp b_law_pick .nil pass0 (pa_cons (pv 0) (pa_cons (pe_callTy (cList (K := K)) (by rfl) B.list (by decide +kernel) (pa_cons (pv 3) pa_nil)) pa_nil))) pa_nil)) (by rfl)) (pss_one (ps_expr (pe_bm PySem.F.plainAttrs_list PySem.F.slot_list_append PySem.F.type_list_append mt_append (pv 5) (pa_cons (pe_tup (pa_cons (pe_op op_add_str pe_str (pe_callTy call_str_int (by rfl) B.str (by decide +kernel) (pa_cons (pv 9) pa_nil))) (pa_cons (pv 6) (pa_cons (pv 10) (pa_cons (pe_call G_law_taken (hr.mono (by first | decide | omega)) (by rfl) F_law_taken.g F_law_taken.kp b_law_taken .nil pass0 (pa_cons (pv 0) (pa_cons pe_int pa_nil))) (pa_cons (pe_call G_law_taken (hr.mono (by first | decide | omega)) (by rfl) F_law_taken.g F_law_taken.kp b_law_taken .nil pass0 (pa_cons (pv 0) (pa_cons pe_int pa_nil))) pa_nil)))))) pa_nil)))))) (pss_one (ps_ret (pe_tup (pa_cons (pv 1) (pa_cons (pv 2) (pa_cons (pv 3) (pa_cons (pe_callTy (cTuple (K := K)) (by rfl) B.tuple (by decide +kernel) (pa_cons (pv 4) pa_nil)) (pa_cons (pe_callTy (cTuple (K := K)) (by rfl) B.tuple (by decide +kernel) (pa_cons (pv 5) pa_nil)) pa_nil)))))))))))), ?_⟩
  -- houses, regions
  refine m_cut (c := c) (r := r) (ds := hs3.map .str) (ea_cons ed_str (ea_cons ed_str (ea_cons ed_str ea_nil))) (by decide) (noList_strs _) rfl hrow (by decide) (by decide) fun j1 v1 H1 n1 m1 r1 d1 => ?_
  refine m_cut (c := c) (r := r) (ds := rs2.map .str) (ea_cons ed_str (ea_cons ed_str ea_nil)) (by decide) (noList_strs _) rfl r1 (by decide) (by decide) fun j2 v2 H2 n2 m2 r2 d2 => ?_
  refine ⟨_, _, rfl, ?_⟩
  -- items, lanes, supplies
  refine m_cut (c := c) (r := r) (ds := is3.map .str) (ea_cons ed_str (ea_cons ed_str (ea_cons ed_str ea_nil))) (by decide) (noList_strs _) rfl r2 (by decide) (by decide) fun j3 v3 Hb n3 m3 rb d3 => ?_
  refine ⟨by show 0 ≤ sizeLine; decide, fun la hla => ⟨by show 0 ≤ sizeLine; decide, fun sa hsa => ⟨_, _, _, rfl, ?_⟩⟩⟩
  have sl := same_new hla (.lst [])
  have two : Two r Hb la sa := by
    obtain ⟨xr, hxr⟩ := rb.hd
    refine ⟨hla, sl.free hsa, fun z => ?_, fun z => ?_, fun z => ?_⟩
    · rw [z, upd_same] at hsa
      cases hsa
    · rw [z, hxr] at hla
      cases hla
    · have := sl.free hsa
      rw [z, hxr] at this
      cases this
  have dH : Dp K Hb v1 (strsD (hs3.take (1 + j1))) := by
    have := (m2.trans m3).dp r1.hd (by rw [← List.map_take]; exact noList_strs _) d1
    rw [← List.map_take] at this
    exact this
  have dR : Dp K Hb v2 (strsD (rs2.take (1 + j2))) := by
    have := m3.dp r2.hd (by rw [← List.map_take]; exact noList_strs _) d2
    rw [← List.map_take] at this
    exact this
  have dI : Dp K Hb v3 (strsD (is3.take (1 + j3))) := by
    rw [← List.map_take] at d3
    exact d3
  have ndH : (hs3.take (1 + j1)).Nodup := hs3_nd.sublist (List.take_sublist _ _)
  have ndR : (rs2.take (1 + j2)).Nodup := rs2_nd.sublist (List.take_sublist _ _)
  have lnH : (hs3.take (1 + j1)).length ≤ 3 := by rw [List.length_take]; exact Nat.min_le_right _ _
  have lnR : (rs2.take (1 + j2)).length ≤ 2 := by rw [List.length_take]; exact Nat.min_le_right _ _
  generalize ehs : hs3.take (1 + j1) = hs at dH ndH lnH
  generalize ers : rs2.take (1 + j2) = rs at dR ndR lnR
  obtain ⟨ah, xh, rfl, hah, hxh⟩ := dp_tup dH
  obtain ⟨ar, xr, rfl, har, hxr⟩ := dp_tup dR
  obtain rfl := dp_strs hxh
  obtain rfl := dp_strs hxr
  have LI0 : LI K c r Hb la sa hs rs 0 (upd (upd Hb la (.lst [])) sa (.lst [])) :=
    ⟨(Mv.same sl).trans (Mv.same (same_new hsa _)), (rb.mono sl).mono (same_new hsa _), upd_same, [], [], by rw [upd_ne two.n.symm]; exact upd_same, .nil, Lanes.nil⟩
  refine ⟨_, rfl, ah, rfl, ⟨_, LI0.1.sqt rb.hd hah⟩, ?_⟩
  refine for_tup (xs := hs.map V.str) (fun i σ' H' => (∃ y6 y7 y8 y9 y10, σ' = [some (.ref r), some (.ref ah), some (.ref ar), some v3, some (.ref la), some (.ref sa), y6, y7, y8, y9, y10]) ∧ LI K c r Hb la sa hs rs (i * rs.length) H') ⟨⟨_, _, _, _, _, rfl⟩, by rw [Nat.zero_mul]; exact LI0⟩
    (fun i σ' H' _ p => p.2.1.sqt rb.hd hah) (fun i x σ' H' hi p => ?_) (fun σ' H' p => ?_)
  · obtain ⟨⟨y6, y7, y8, y9, y10, rfl⟩, li⟩ := p
    obtain ⟨hn, hhn, rfl⟩ := get_map hi
    have hi3 : i < hs.length := (List.getElem?_eq_some_iff.mp hhn).1
    refine ⟨_, rfl, ar, rfl, ⟨_, li.1.sqt rb.hd har⟩, ?_⟩
    refine for_tup (xs := rs.map V.str) (fun k σ2 H2 => (∃ y7 y8 y9 y10, σ2 = [some (.ref r), some (.ref ah), some (.ref ar), some v3, some (.ref la), some (.ref sa), some (.str hn), y7, y8, y9, y10]) ∧ LI K c r Hb la sa hs rs (i * rs.length + k) H2) ⟨⟨_, _, _, _, rfl⟩, li⟩
      (fun k σ2 H2 _ p => p.2.1.sqt rb.hd har) (fun k x σ2 H2 hk p => ?_) (fun σ2 H2 p => ?_)
    · obtain ⟨⟨y7, y8, y9, y10, rfl⟩, li⟩ := p
      obtain ⟨rn, hrn, rfl⟩ := get_map hk
      have hk2 : k < rs.length := (List.getElem?_eq_some_iff.mp hrn).1
      have hik : i * rs.length + k ≤ 1000 := by
        have : i * rs.length ≤ 2 * 2 := Nat.mul_le_mul (by omega) lnR
        omega
      refine m_taken (c := c) (r := r) rfl ed_int li.2.1 (by decide) (by decide) fun t1 G1 a1 b1 w1 z1 => ?_
      have li1 := li.mv two w1 z1
      refine ⟨t1, 0, rfl, rfl, _, rfl, ite2 (fun c1 => ?_) (fun c1 => ?_)⟩
      · refine m_taken (c := c) (r := r) rfl ed_int z1 (by decide) (by decide) fun t2 G2 a2 b2 w2 z2 => ?_
        have li2 := li1.mv two w2 z2
        obtain ⟨lw, hlw⟩ : ∃ xs, G2 la = some (.lst xs) := by
          obtain ⟨_, _, _, _, lv, h4, _⟩ := li2
          exact ⟨lv, h4⟩
        refine ⟨_, rfl, .inl ⟨rfl, _, SqL.of hlw⟩, _, rfl, _, rfl, _, rfl, _, rfl, ?_⟩
        refine m_taken (c := c) (r := r) rfl ed_int z2 (by decide) (by decide) fun t3 G3 a3 b3 w3 z3 => ?_
        have li3 := li2.mv two w3 z3
        refine ⟨t2, t3, rfl, rfl, ?_⟩
        refine m_taken (c := c) (r := r) rfl ed_int z3 (by decide) (by decide) fun t4 G4 a4 b4 w4 z4 => ?_
        have li4 := li3.mv two w4 z4
        refine ⟨by show 5 ≤ sizeLine; decide, fun p hp => ?_⟩
        have sp := same_new hp (.tup [.str hn, .str rn, .int t2, .int (t2 + t3), .int t4])
        have li5 := li4.mv two (Mv.same sp) (z4.mono sp)
        obtain ⟨xs, g1, g2, g3⟩ := li5.add (l := ⟨hn, rn, t2, t2 + t3, t4⟩) (v := .ref p) two rb hik (.tup (SqT.of upd_same) (.cons (.str _) (.cons (.str _) (.cons (.int _) (.cons (.int _) (.cons (.int _) .nil)))))) ndH ndR hhn hrn (by constructor <;> dsimp only <;> omega) (by constructor <;> dsimp only <;> omega) (by constructor <;> dsimp only <;> omega)
        exact ⟨la, xs, _, rfl, rfl, g1, g2, ⟨_, _, _, _, rfl⟩, g3⟩
      · exact ⟨⟨_, _, _, _, rfl⟩, li1.up (by omega)⟩
    · obtain ⟨⟨y7, y8, y9, y10, rfl⟩, li⟩ := p
      refine ⟨⟨_, _, _, _, _, rfl⟩, ?_⟩
      rw [List.length_map] at li
      rw [Nat.succ_mul]
      exact li
  · obtain ⟨⟨y6, y7, y8, y9, y10, rfl⟩, li⟩ := p
    refine m_taken (c := c) (r := r) rfl ed_int li.2.1 (by decide) (by decide) fun n H7 k0 k1 w1 z1 => ?_
    have li1 := li.mv two w1 z1
    obtain ⟨g1, g2, g3, ls, lv, g4, g5, g6⟩ := li1
    refine ⟨n, rfl, by omega, by omega, ?_⟩
    have h3i : 1 ≤ (is3.take (1 + j3)).length ∧ (is3.take (1 + j3)).length ≤ 3 := by
      rw [List.length_take]
      exact ⟨by show 1 ≤ min (1 + j3) 3; omega, Nat.min_le_right _ _⟩
    have h1h : 1 ≤ hs.length := by
      rw [← ehs, List.length_take]
      show 1 ≤ min (1 + j1) 3
      omega
    generalize eis : is3.take (1 + j3) = is at dI h3i
    refine for_range (lo := 0) (n := n.toNat) (fun i σ' H' => (∃ y6 y7 y8 y9 y10, σ' = [some (.ref r), some (.ref ah), some (.ref ar), some v3, some (.ref la), some (.ref sa), y6, y7, y8, y9, y10]) ∧ Mv r Hb H' ∧ RowAt K c H' r ∧ (∃ lv, H' la = some (.lst lv) ∧ DpAll K H' lv (ls.map laneD)) ∧
      ∃ (ss : List Supply) (sv : List V), H' sa = some (.lst sv) ∧ DpAll K H' sv (ss.map supD) ∧ ss.map (·.n) = (List.range i).map supN ∧ ∀ s ∈ ss, s.h ∈ hs ∧ s.i ∈ is ∧ (0 ≤ s.d ∧ s.d ≤ 60) ∧ (0 ≤ s.c ∧ s.c ≤ 99)) ⟨⟨_, _, _, _, _, rfl⟩, g1, g2, ⟨lv, g4, g5⟩, [], [], g3, .nil, rfl, fun s h => (by cases h)⟩ (fun i σ' H' hi p => ?_) (fun σ' H' p => ?_)
    · obtain ⟨⟨y6, y7, y8, y9, y10, rfl⟩, p1, p2, ⟨lv, p3, p4⟩, ss, sv, p5, p6, p7, p8⟩ := p
      rw [Int.zero_add]
      obtain ⟨h0, hr0, eh⟩ : ∃ h0 hr0, hs = h0 :: hr0 := by
        cases hs with
        | nil => exact absurd h1h (by simp)
        | cons a b => exact ⟨a, b, rfl⟩
      obtain ⟨i0, ir0, ei⟩ : ∃ i0 ir0, is = i0 :: ir0 := by
        cases is with
        | nil => exact absurd h3i.1 (by simp)
        | cons a b => exact ⟨a, b, rfl⟩
      have lh0 : hr0.length ≤ 900 := by rw [eh, List.length_cons] at lnH; omega
      have li0 : ir0.length ≤ 900 := by have := h3i.2; rw [ei, List.length_cons] at this; omega
      -- house, item
      refine m_pick (c := c) (r := r) (d0 := .str h0) (ds := hr0.map .str) rfl (ed_list (ed_var rfl ((p1.dp rb.hd (noList_strsD _) dH).is (by rw [eh]; rfl)))) ⟨rfl, rfl⟩ (noList_strs (h0 :: hr0)) p2 (by rw [List.length_map]; exact lh0) fun jh dh vh G1 e1 w1 z1 t1 => ?_
      obtain ⟨xh, hxh', rfl⟩ := get_map (f := PyData.str) (l := h0 :: hr0) e1
      obtain rfl := dp_str t1
      refine m_pick (c := c) (r := r) (d0 := .str i0) (ds := ir0.map .str) rfl (ed_list (ed_var rfl (((p1.trans w1).dp rb.hd (noList_strsD _) dI).is (by rw [ei]; rfl)))) ⟨rfl, rfl⟩ (noList_strs (i0 :: ir0)) z1 (by rw [List.length_map]; exact li0) fun ji di vi G2 e2 w2 z2 t2 => ?_
      obtain ⟨xi, hxi', rfl⟩ := get_map (f := PyData.str) (l := i0 :: ir0) e2
      obtain rfl := dp_str t2
      refine ⟨_, _, rfl, ?_⟩
      have w12 := w1.trans w2
      have q3 := w12 _ _ two.lr p3
      have q5 := w12 _ _ two.sr p5
      have q4 := w12.dps p2.hd (noList_lanes ls) p4
      have q6 := w12.dps p2.hd (noList_sups ss) p6
      -- the supply
      refine ⟨_, rfl, .inl ⟨rfl, _, SqL.of q5⟩, ?_⟩
      refine ⟨_, rfl, (i : Int), rfl, ?_, "s", _, rfl, rfl, ?_, _, rfl, _, rfl, ?_⟩
      · rw [Int.natAbs_natCast]
        exact log_small i (by omega)
      · exact Nat.le_trans (supN_len i (by omega)) (by decide)
      refine m_taken (c := c) (r := r) rfl ed_int z2 (by decide) (by decide) fun t3 G3 a3 b3 w3 z3 => ?_
      refine m_taken (c := c) (r := r) rfl ed_int z3 (by decide) (by decide) fun t4 G4 a4 b4 w4 z4 => ?_
      have w34 := w3.trans w4
      refine ⟨by show 5 ≤ sizeLine; decide, fun p hp => ?_⟩
      have sp := same_new hp (.tup [.str (supN i), .str xh, .str xi, .int t3, .int t4])
      have w5 : Mv r G2 (upd G4 p (.tup [.str (supN i), .str xh, .str xi, .int t3, .int t4])) := w34.trans (Mv.same sp)
      have u3 := w5 _ _ two.lr q3
      have u5 := w5 _ _ two.sr q5
      have u4 := w5.dps z2.hd (noList_lanes ls) q4
      have u6 := w5.dps z2.hd (noList_sups ss) q6
      have hsl : ss.length = i := by
        have := congrArg List.length p7
        simpa using this
      refine ⟨sa, sv, _, rfl, rfl, u5, ?_, ⟨_, _, _, _, _, rfl⟩, ?_⟩
      · rw [dpl_len u6, List.length_map, hsl]
        exact sz_lt (by omega)
      have p15 := (p1.trans w12).trans w5
      refine ⟨p15.mut two.s _, rb.mut p15 two.s _ (z4.mono sp), ⟨lv, by rw [upd_ne two.n.symm]; exact u3, dps_upd u5 trivial (noList_lanes ls) u4⟩, ss ++ [⟨supN i, xh, xi, t3, t4⟩], _, upd_same, ?_, ?_, fun s hs' => ?_⟩
      · rw [List.map_append]
        exact dpl_app (dps_upd u5 trivial (noList_sups ss) u6) (.cons (.tup (sqt_upd u5 trivial (SqT.of upd_same)) (.cons (.str _) (.cons (.str _) (.cons (.str _) (.cons (.int _) (.cons (.int _) .nil)))))) .nil)
      · rw [List.map_append, List.range_succ, List.map_append, p7]
        rfl
      · rcases List.mem_append.mp hs' with h | h
        · exact p8 s h
        · obtain rfl := List.mem_singleton.mp h
          exact ⟨by rw [eh]; exact List.mem_of_getElem? hxh', by rw [ei]; exact List.mem_of_getElem? hxi', ⟨a3, by show t3 ≤ 60; omega⟩, a4, by show t4 ≤ 99; omega⟩
    · obtain ⟨⟨y6, y7, y8, y9, y10, rfl⟩, p1, p2, ⟨lv, p3, p4⟩, ss, sv, p5, p6, p7, p8⟩ := p
      have hsl : ss.length = n.toNat := by
        have := congrArg List.length p7
        simpa using this
      refine q_ret (ed_tup (ea_cons (ed_var rfl (p1.dp rb.hd (noList_strsD _) dH)) (ea_cons (ed_var rfl (p1.dp rb.hd (noList_strsD _) dR)) (ea_cons (ed_var rfl (p1.dp rb.hd (noList_strsD _) dI)) (ea_cons (ed_tuple (ed_var rfl (.lst (SqL.of p3) p4))) (ea_cons (ed_tuple (ed_var rfl (.lst (SqL.of p5) p6))) ea_nil))))) (by simp)) fun v H8 s8 hd => q ⟨hs, rs, is, ls, ss⟩ j3 v H8 ?_ eis.symm ?_ (p2.mono s8) hd
      · refine ⟨?_, ?_, ?_, fun x hx => ?_, ?_, ?_, fun l hl => ?_, fun s hs' => ?_, unlike_keys g6.nd, ?_⟩
        · rw [← ehs]
          exact names_cut hs3_good hs3_nd (by decide) (by decide) j1
        · rw [← ers]
          exact names_cut rs2_good rs2_nd (by decide) (by decide) j2
        · rw [← eis]
          exact names_cut is3_good is3_nd (by decide) (by decide) j3
        · rcases hx with h | h | h
          · exact (goodStr_name (List.all_eq_true.mp hs3_good x (List.mem_of_mem_take (ehs ▸ h)))).2
          · exact (goodStr_name (List.all_eq_true.mp rs2_good x (List.mem_of_mem_take (ers ▸ h)))).2
          · exact (goodStr_name (List.all_eq_true.mp is3_good x (List.mem_of_mem_take (eis ▸ h)))).2
        · have := g6.len
          have h2 : (List.map V.str hs).length * rs.length ≤ 3 * 2 := Nat.mul_le_mul (by rw [List.length_map]; exact lnH) lnR
          show ls.length ≤ 20
          omega
        · show ss.length ≤ 14
          omega
        · obtain ⟨⟨i, j, a, b, _⟩, hm, hl', hp⟩ := g6.at_ l hl
          exact ⟨List.mem_of_getElem? a, List.mem_of_getElem? b, hm, hl', hp⟩
        · obtain ⟨e1, e2, e3, e4⟩ := p8 s hs'
          refine ⟨?_, e1, e2, e3, e4⟩
          have : s.n ∈ ss.map (·.n) := List.mem_map.mpr ⟨s, hs', rfl⟩
          rw [p7] at this
          obtain ⟨i, hi, e⟩ := List.mem_map.mp this
          rw [← e]
          exact goodStr_name (supN_good i (by have := List.mem_range.mp hi; omega))
        · have e : (ss.map fun s => PyData.str s.n) = (ss.map (·.n)).map .str := by rw [List.map_map]; rfl
          show unlikeB (ss.map fun s => PyData.str s.n) = true
          rw [e, p7]
          exact unlike_strs (supN_nd n.toNat (by omega))
      · exact (((m1.trans m2).trans m3).trans p1).trans (Mv.same s8)
end
end K8
set_option maxRecDepth 100000
set_option maxHeartbeats 4000000
/-! FnM: the mathematics of the bundles drawn. -/
namespace K8
open PySem PySem.Spec PyProof.Rows L2
structure PartsOk (is : List Str) (el : List Str) (ps : List (Str × Int)) : Prop where
  ne : ps ≠ []
  len : ps.length ≤ 3
  nd : (ps.map (·.1)).Nodup
  at_ : ∀ p ∈ ps, p.1 ∈ is ++ el ∧ 1 ≤ p.2 ∧ p.2 ≤ 3
structure Drawn (is : List Str) (i : Nat) (bs : List Bun) : Prop where
  names : bs.map (·.1) = (List.range i).map bunN
  parts : ∀ (k : Nat) (b : Bun), bs[k]? = some b → PartsOk is ((bs.take k).map (·.1)) b.2
theorem Drawn.len {is : List Str} {i : Nat} {bs : List Bun} (h : Drawn is i bs) : bs.length = i := by
  have := congrArg List.length h.names
  simpa using this
theorem Drawn.nil {is : List Str} : Drawn is 0 [] := ⟨rfl, fun k b h => by simp at h⟩
theorem Drawn.more {is : List Str} {i : Nat} {bs : List Bun} {ps : List (Str × Int)} (h : Drawn is i bs) (hp : PartsOk is (bs.map (·.1)) ps) : Drawn is (i + 1) (bs ++ [(bunN i, ps)]) := by
  refine ⟨by rw [List.map_append, List.range_succ, List.map_append, h.names]; rfl, fun k b hb => ?_⟩
  rw [List.getElem?_append] at hb
  split at hb
  · rename_i hk
    have := h.parts k b hb
    rw [List.take_append_of_le_length (by omega)]
    exact this
  · rename_i hk
    have hk0 : k - bs.length = 0 := by
      have := (List.getElem?_eq_some_iff.mp hb).1
      simp at this
      omega
    rw [hk0] at hb
    obtain rfl := Option.some.inj hb
    have : k = bs.length := by omega
    subst this
    rw [List.take_append_of_le_length (Nat.le_refl _), List.take_length]
    exact hp
theorem Drawn.name_at {is : List Str} {i k : Nat} {bs : List Bun} {b : Bun} (h : Drawn is i bs) (hb : bs[k]? = some b) : b.1 = bunN k ∧ k < i := by
  have hk := (List.getElem?_eq_some_iff.mp hb).1
  rw [h.len] at hk
  have e : (bs.map (·.1))[k]? = some b.1 := by rw [List.getElem?_map, hb]; rfl
  rw [h.names, List.getElem?_map, List.getElem?_range hk] at e
  exact ⟨(Option.some.inj e).symm, hk⟩
section
variable {C : Cat} {i j : Nat} {bs : List Bun}
theorem item_fine (good : GoodCat C) {x : Str} (h : x ∈ C.is) : nameB x = true ∧ Fine x := ⟨names_all good.is x h, good.fine x (.inr (.inr h))⟩
theorem Drawn.name_fine (h : Drawn C.is i bs) (good : GoodCat C) (hi : i ≤ 3) {x : Str} (hx : x ∈ namesOf C bs) : nameB x = true ∧ Fine x := by
  rcases List.mem_append.mp hx with h1 | h1
  · exact item_fine good h1
  · rw [h.names] at h1
    obtain ⟨k, hk, rfl⟩ := List.mem_map.mp h1
    exact goodStr_name (bunN_good k (by have := List.mem_range.mp hk; omega))
theorem Drawn.part_name (h : Drawn C.is i bs) {b : Bun} (hb : b ∈ bs) {p : Str × Int} (hp : p ∈ b.2) : p.1 ∈ namesOf C bs := by
  obtain ⟨k, hk⟩ := List.getElem?_of_mem hb
  rcases List.mem_append.mp ((h.parts k b hk).at_ p hp).1 with h1 | h1
  · exact List.mem_append_left _ h1
  · obtain ⟨c, hc, e⟩ := List.mem_map.mp h1
    exact List.mem_append_right _ (List.mem_map.mpr ⟨c, List.mem_of_mem_take hc, e⟩)
theorem Drawn.good (h : Drawn C.is i bs) (good : GoodCat C) (hi : i ≤ 3) (hj : C.is = is3.take (1 + j)) : GoodBuns C bs := by
  refine ⟨by rw [h.len]; omega, fun b hb => ?_, fun k b hb => ?_⟩
  · obtain ⟨k, hk⟩ := List.getElem?_of_mem hb
    refine ⟨(h.name_fine good hi (List.mem_append_right _ (List.mem_map.mpr ⟨b, hb, rfl⟩))).2, fun p hp => (h.name_fine good hi (h.part_name hb hp)).2, by have := (h.parts k b hk).len; omega⟩
  · obtain ⟨e, hk⟩ := h.name_at hb
    have ok := h.parts k b hb
    have hm := List.mem_of_getElem? hb
    have n1 : nameB b.1 = true := (h.name_fine good hi (List.mem_append_right _ (List.mem_map.mpr ⟨b, hm, rfl⟩))).1
    have n2 : b.1 ∉ C.is := fun z => by
      rw [hj] at z
      exact bunN_out k (by omega) (e ▸ List.mem_of_mem_take z)
    have n3 : b.1 ∉ (bs.take k).map (·.1) := fun z => by
      rw [List.map_take, h.names, e, ← List.map_take, List.take_range] at z
      obtain ⟨m, hm2, e2⟩ := List.mem_map.mp z
      have hmk := List.mem_range.mp hm2
      have a1 : ((List.range i).map bunN)[k]? = some (bunN k) := by rw [List.getElem?_map, List.getElem?_range hk]; rfl
      have a2 : ((List.range i).map bunN)[m]? = some (bunN m) := by rw [List.getElem?_map, List.getElem?_range (by omega)]; rfl
      rw [e2] at a2
      have := nd_ix (bunN_nd i (by omega)) a1 a2
      omega
    have n4 : rowsB (b.2.map partD) 4 2 = true := by
      unfold rowsB
      rw [List.length_map, decide_eq_true (by have := ok.len; omega), Bool.true_and]
      exact List.all_eq_true.mpr fun d hd => by
        obtain ⟨l, _, rfl⟩ := List.mem_map.mp hd
        rfl
    have n5 : PyData.eqv (.tuple (b.2.map partD)) (.tuple []) = false := by
      cases hb2 : b.2 with
      | nil => exact absurd hb2 ok.ne
      | cons a r => simp only [List.map_cons, PyData.eqv, PyData.eqvAll]
    have n6 : unlikeB (b.2.map fun p => .str p.1) = true := by
      have e6 : (b.2.map fun p => PyData.str p.1) = (b.2.map (·.1)).map .str := by rw [List.map_map]; rfl
      rw [e6]
      exact unlike_strs ok.nd
    unfold bundleB
    rw [n1, decide_eq_false n2, decide_eq_false n3, n4, n5, n6]
    show (b.2.all fun p => decide (p.1 ∈ C.is ++ (bs.take k).map (·.1)) && wholeB p.2 1 9) = true
    refine List.all_eq_true.mpr fun p hp => ?_
    obtain ⟨m1, m2, m3⟩ := ok.at_ p hp
    rw [decide_eq_true m1, whole_yes ⟨m2, by omega⟩]
    rfl
theorem Ranked.upto {is : List Str} {bs : List Bun} {n m : Nat} {x : Str} (h : Ranked is bs n x) (hm : n ≤ m) : Ranked is bs m x := by
  induction hm with
  | refl => exact h
  | step _ ih => exact ih.up
theorem Drawn.rank_bun (h : Drawn C.is i bs) (hi : i ≤ 3) (hj : C.is = is3.take (1 + j)) : ∀ (k : Nat) (b : Bun), bs[k]? = some b → Ranked C.is bs (k + 2) b.1
  | k, b, hb => by
    obtain ⟨e, hk⟩ := h.name_at hb
    refine .inr ⟨fun z => ?_, b, List.mem_of_getElem? hb, rfl, fun p hp => ?_⟩
    · rw [hj] at z
      exact bunN_out k (by omega) (e ▸ List.mem_of_mem_take z)
    · obtain ⟨m1, m2, m3⟩ := (h.parts k b hb).at_ p hp
      refine ⟨?_, m2, by omega⟩
      rcases List.mem_append.mp m1 with q | q
      · exact Ranked.upto (n := 1) (.inl q) (by omega)
      · obtain ⟨c, hc, ec⟩ := List.mem_map.mp q
        obtain ⟨m, hm⟩ := List.getElem?_of_mem hc
        have hlt : m < k := by
          have := (List.getElem?_eq_some_iff.mp hm).1
          rw [List.length_take] at this
          omega
        rw [List.getElem?_take_of_lt hlt] at hm
        rw [← ec]
        exact (h.rank_bun hi hj m c hm).upto (by omega)
theorem Drawn.rank (h : Drawn C.is i bs) (hi : i ≤ 3) (hj : C.is = is3.take (1 + j)) : ∀ x ∈ namesOf C bs, Ranked C.is bs 4 x := fun x hx => by
  rcases List.mem_append.mp hx with q | q
  · exact Ranked.upto (n := 1) (.inl q) (by omega)
  · obtain ⟨b, hb, rfl⟩ := List.mem_map.mp q
    obtain ⟨k, hk⟩ := List.getElem?_of_mem hb
    have := (h.name_at hk).2
    exact (h.rank_bun hi hj k b hk).upto (by omega)
end
end K8
set_option maxRecDepth 100000
set_option maxHeartbeats 4000000
/-! FnN: pieces of law's walk. -/
namespace K8
open PySem PySem.Spec PyProof.Rows L2
theorem erase_map {α β : Type} (f : α → β) : ∀ (l : List α) (i : Nat), (l.map f).eraseIdx i = (l.eraseIdx i).map f
  | [], _ => rfl
  | _ :: _, 0 => rfl
  | a :: r, i + 1 => by
    show f a :: (r.map f).eraseIdx i = f a :: (r.eraseIdx i).map f
    rw [erase_map f r i]
theorem erase_perm {α : Type} {x : α} : ∀ {l : List α} {i : Nat}, l[i]? = some x → (x :: l.eraseIdx i).Perm l
  | [], _, h => by simp at h
  | a :: r, 0, h => by
    obtain rfl := Option.some.inj h
    exact List.Perm.refl _
  | a :: r, i + 1, h => (List.Perm.swap a x _).trans ((erase_perm (l := r) (i := i) h).cons a)
theorem erase_len {α : Type} {x : α} {l : List α} {i : Nat} (h : l[i]? = some x) : (l.eraseIdx i).length + 1 = l.length := (erase_perm h).length_eq
theorem seq_ix {i : Int} {n : Nat} (h0 : 0 ≤ i) (h1 : i < n) : seqIndex? i n = some i.toNat := by
  unfold seqIndex?
  have e : (if i < 0 then i + (n : Int) else i) = i := if_neg (by omega)
  simp only [e]
  rw [if_pos (by simp; omega)]
/-- what is left of the names, and the parts made of the rest -/
structure Left (total : List Str) (k : Nat) (ns : List Str) (ps : List (Str × Int)) : Prop where
  len : ns.length + k = total.length
  plen : ps.length = k
  nd : (ns ++ ps.map (·.1)).Nodup
  sub : ∀ x ∈ ns, x ∈ total
  at_ : ∀ p ∈ ps, p.1 ∈ total ∧ 1 ≤ p.2 ∧ p.2 ≤ 3
theorem Left.start {total : List Str} (h : total.Nodup) : Left total 0 total [] := ⟨rfl, rfl, by rw [List.map_nil, List.append_nil]; exact h, fun _ h => h, fun _ h => (by cases h)⟩
theorem Left.pop {total : List Str} {k i : Nat} {ns : List Str} {ps : List (Str × Int)} {x : Str} {c : Int} (h : Left total k ns ps) (hx : ns[i]? = some x) (h1 : 1 ≤ c) (h3 : c ≤ 3) : Left total (k + 1) (ns.eraseIdx i) (ps ++ [(x, c)]) := by
  have p := erase_perm hx
  have l := erase_len hx
  refine ⟨by have := h.len; omega, by rw [List.length_append, h.plen]; rfl, ?_, fun y hy => h.sub y ?_, fun q hq => ?_⟩
  · rw [List.map_append, ← List.append_assoc]
    have e : ((ns.eraseIdx i ++ ps.map (·.1)) ++ [x]).Perm (ns ++ ps.map (·.1)) :=
      (List.perm_append_comm (l₁ := ns.eraseIdx i ++ ps.map (·.1)) (l₂ := [x])).trans (by
        show (x :: (ns.eraseIdx i ++ ps.map (·.1))).Perm _
        exact p.append_right _)
    exact e.symm.nodup h.nd
  · exact p.subset (List.mem_cons_of_mem _ hy)
  · rcases List.mem_append.mp hq with m | m
    · exact h.at_ q m
    · obtain rfl := List.mem_singleton.mp m
      exact ⟨h.sub x (List.mem_of_getElem? hx), h1, h3⟩
section
variable {K : PySem.W.Frag} {σ : L2.St} {H : Hp} {Q : VK}
/-- items + [bundle[0] for bundle in bundles] -/
theorem m_names {is : List Str} {bs : List Bun} {bv : List V} {il bl : Addr} (h3 : σ[3]? = some (some (.ref il))) (h4 : σ[4]? = some (some (.ref bl))) (hw : ∀ x, wipe ((wipe σ [18]).set 18 (some x)) [18] = wipe σ [18]) (hg : ∀ x, ((wipe σ [18]).set 18 (some x))[18]? = some (some x))
    (e3 : H il = some (.lst (is.map V.str))) (e4 : H bl = some (.lst bv)) (hb : DpAll K H bv (bs.map bunD)) (l1 : is.length ≤ 1000) (l2 : bs.length ≤ 1000) (k : ∀ p H', Same H H' → H' p = none → Q (.ref p) (upd H' p (.lst ((is ++ bs.map (·.1)).map V.str)))) :
    tOp rCat (tVar 3) (tLc (iList K (tVar 4)) (gName 18) tYes (tOp (rIxT K) (tVar 18) (tC (.int 0))) [18]) σ H Q := by
  refine ⟨_, h3, _, h4, bl, rfl, ⟨bv, SqL.of e4⟩, fun D hD => ?_⟩
  have hbl : bv.length = bs.length := by rw [dpl_len hb, List.length_map]
  refine lc_list (xs := bv) (fun i H' => Made K H D ((bs.take i).map fun b => PyData.str b.1) H') (Made.start hD) (fun i H' _ m => SqL.of (m.2.1 _ _ e4)) (fun i x H' hi m => ?_) (fun H' m => ?_)
  · obtain ⟨d, hd, hxd⟩ := dpl_at hb hi
    obtain ⟨b, hbb, rfl⟩ := get_map hd
    refine ⟨hw x, ?_⟩
    refine Made.turn m (p := true) (d := .str b.1) et_yes (fun _ => ed_ixT (k := 0) (ed_var (hg x) hxd) ed_int rfl) (by rw [List.length_map, List.length_take]; omega) (fun _ => rfl) fun H2 m2 => ?_
    rw [take_snoc hbb, List.map_append]
    exact m2
  · obtain ⟨m1, m2, ys, m3, m4, _⟩ := m
    rw [hbl, List.take_length] at m4
    have m4 : DpAll K H' ys ((bs.map (·.1)).map .str) := by
      rw [List.map_map]
      exact m4
    obtain rfl := dp_strs m4
    refine ⟨il, D, _, _, rfl, rfl, m2 _ _ e3, m3, by rw [List.length_map, List.length_map, List.length_map]; exact sz_of (by omega), fun p hp => ?_⟩
    rw [← List.map_append]
    exact k p H' m2 hp
theorem ed_min {ta tb : TE} {i j : Int} (ha : EvD K ta σ H (.int i)) (hb : EvD K tb σ H (.int j)) : EvD K (tCB (fun xs H Q => ∃ i j, xs = [V.int i, V.int j] ∧ Q (.int (if j < i then j else i)) H) (tCons ta (tCons tb tNil))) σ H (.int (if j < i then j else i)) :=
  ed_cb (ea_cons ha (ea_cons hb ea_nil)) fun vs H1 _ hv Q q => by
    obtain ⟨v, w, rfl, hv1, hv2⟩ := dp2 hv
    obtain rfl := dp_int hv1
    obtain rfl := dp_int hv2
    exact ⟨i, j, rfl, q _ H1 (Same.refl _) (.int _)⟩
end
/-! the names that stand before bundle i -/
theorem Drawn.total_nd {C : Cat} {i j : Nat} {bs : List Bun} (h : Drawn C.is i bs) (hi : i ≤ 3) (hj : C.is = is3.take (1 + j)) : (namesOf C bs).Nodup := by
  unfold namesOf
  rw [List.nodup_append]
  refine ⟨by rw [hj]; exact is3_nd.sublist (List.take_sublist _ _), by rw [h.names]; exact bunN_nd i (by omega), fun a ha b hb e => ?_⟩
  subst e
  rw [h.names] at hb
  obtain ⟨k, hk, rfl⟩ := List.mem_map.mp hb
  rw [hj] at ha
  exact bunN_out k (by have := List.mem_range.mp hk; omega) (List.mem_of_mem_take ha)
theorem noList_cat (C : Cat) : noList (catD C) = true := by
  have h1 := noList_strsD C.hs
  have h2 := noList_strsD C.rs
  have h3 := noList_strsD C.is
  have h4 : noList (.tuple (C.ls.map laneD)) = true := noList_lanes C.ls
  have h5 : noList (.tuple (C.ss.map supD)) = true := noList_sups C.ss
  simp [catD, noList, noLists] at h1 h2 h3 h4 h5 ⊢
  simp [h1, h2, h3, h4, h5]
theorem noList_parts (ps : List (Str × Int)) : noLists (ps.map partD) = true := by
  induction ps with
  | nil => rfl
  | cons s r ih =>
    rw [List.map_cons]
    simp [noLists, noList, partD, ih]
theorem noList_buns (bs : List Bun) : noLists (bs.map bunD) = true := by
  induction bs with
  | nil => rfl
  | cons s r ih =>
    rw [List.map_cons]
    simp [noLists, noList, bunD, ih, noList_parts]
/-- the bundles drawn so far -/
def BI (K : PySem.W.Frag) (c : Addr × List Int) (r : Addr) (Hb : Hp) (bl : Addr) (is : List Str) (i : Nat) (H : Hp) : Prop := Mv r Hb H ∧ RowAt K c H r ∧ ∃ bs bv, H bl = some (.lst bv) ∧ DpAll K H bv (bs.map bunD) ∧ Drawn is i bs
/-- the names left and the parts drawn -/
def PI2 (K : PySem.W.Frag) (c : Addr × List Int) (r : Addr) (G : Hp) (nl pl : Addr) (total : List Str) (k : Nat) (H : Hp) : Prop := Mv r G H ∧ RowAt K c H r ∧ ∃ ns ps pv, H nl = some (.lst (ns.map V.str)) ∧ H pl = some (.lst pv) ∧ DpAll K H pv (ps.map partD) ∧ Left total k ns ps
theorem PI2.mv {K : PySem.W.Frag} {c : Addr × List Int} {r : Addr} {G : Hp} {nl pl : Addr} {total : List Str} {k : Nat} {H H' : Hp} (n1 : nl ≠ r) (n2 : pl ≠ r) (h : PI2 K c r G nl pl total k H) (mv : Mv r H H') (hr : RowAt K c H' r) : PI2 K c r G nl pl total k H' := by
  obtain ⟨h1, h2, ns, ps, pv, h3, h4, h5, h6⟩ := h
  exact ⟨h1.trans mv, hr, ns, ps, pv, mv _ _ n1 h3, mv _ _ n2 h4, mv.dps h2.hd (noList_parts ps) h5, h6⟩
/-- what stands from the bundles on -/
structure EnvL (K : PySem.W.Frag) (c : Addr × List Int) (r il nl bt ac : Addr) (bv : List V) (C : Cat) (bs : List Bun) (H : Hp) : Prop where
  row : RowAt K c H r
  hil : H il = some (.lst (C.is.map V.str))
  hnl : H nl = some (.lst ((namesOf C bs).map V.str))
  pt : PlainT H bt bv
  bd : DpAll K H bv (bs.map bunD)
  cd : Dp K H (.ref ac) (catD C)
  ir : il ≠ r
  nr : nl ≠ r
section
variable {K : PySem.W.Frag} {c : Addr × List Int} {r il nl bt ac : Addr} {bv : List V} {C : Cat} {bs : List Bun} {H H' : Hp}
theorem EnvL.mv (h : EnvL K c r il nl bt ac bv C bs H) (m : Mv r H H') (hr : RowAt K c H' r) : EnvL K c r il nl bt ac bv C bs H' :=
  ⟨hr, m _ _ h.ir h.hil, m _ _ h.nr h.hnl, m.plain h.row.hd h.pt, m.dps h.row.hd (noList_buns bs) h.bd, m.dp h.row.hd (noList_cat C) h.cd, h.ir, h.nr⟩
theorem EnvL.same (h : EnvL K c r il nl bt ac bv C bs H) (s : Same H H') : EnvL K c r il nl bt ac bv C bs H' := h.mv (Mv.same s) (h.row.mono s)
theorem EnvL.bun (h : EnvL K c r il nl bt ac bv C bs H) : Dp K H (.ref bt) (bunsD bs) := .tup h.pt.sq h.bd
theorem EnvL.its (h : EnvL K c r il nl bt ac bv C bs H) : Dp K H (.ref il) (.list (C.is.map .str)) := .lst (SqL.of h.hil) (strs_dp _)
end
/-- the bundles are what the law may draw -/
structure Law8 (C : Cat) (bs : List Bun) : Prop where
  good : GoodCat C
  gb : GoodBuns C bs
  rk : ∀ x ∈ namesOf C bs, Ranked C.is bs 4 x
  nf : ∀ x ∈ namesOf C bs, nameB x = true ∧ Fine x
  i1 : 1 ≤ C.is.length
  i3 : C.is.length ≤ 3
  few : ∀ b ∈ bs, b.2.length ≤ 1000
  out : ("none" : Str) ∉ namesOf C bs ∧ ("k" : Str) ∉ namesOf C bs
  tea : ("tea" : Str) ∈ C.is
def dueP (_ e : PyData) : Bool := match e with
  | .int i => decide (0 < i)
  | _ => false
def dueG (d e : PyData) : PyData := .tuple [d, e]
theorem due_eq (C : Cat) (bs : List Bun) (name : Str) (c : Int) : PyData.tuple (keepP dueP dueG ((C.is.map PyData.str).zip (C.is.map fun x => .int (cnt C.is bs 4 name c x)))) = madeD C bs name c := by
  unfold keepP madeD madeL
  rw [List.zip_map', List.filter_map, List.map_map]
  rfl
theorem lv_made (C : Cat) (bs : List Bun) (name : Str) (c : Int) (h : C.is.length ≤ 3) : Lv 5 (madeD C bs name c) := by
  refine ⟨?_, fun d hd => ?_⟩
  · rw [List.length_map]
    exact Nat.le_trans (List.length_filter_le _ _) (by omega)
  · obtain ⟨x, _, rfl⟩ := List.mem_map.mp hd
    refine ⟨by simp, fun e he => ?_⟩
    rcases List.mem_cons.mp he with rfl | he
    · trivial
    · obtain rfl := List.mem_singleton.mp he
      trivial
section
variable {K : PySem.W.Frag} {σ : L2.St} {H : Hp} {c : Addr × List Int} {r il nl bt ac : Addr} {bv : List V} {C : Cat} {bs : List Bun}
/-- _law_made(items, bundles, name, count) -/
theorem ed_lmade {i3 i4 : Nat} {tn tc : TE} {E : XK} {name : Str} {k : Int} (h : EnvL K c r il nl bt ac bv C bs H) (W : Law8 C bs) (h3 : σ[i3]? = some (some (.ref il))) (h4 : σ[i4]? = some (some (.ref bt))) (hn : EvD K tn σ H (.str name)) (hc : EvD K tc σ H (.int k)) (nm : name ∈ namesOf C bs) (k0 : 0 ≤ k) :
    EvD K (tCall (sp_lmade K 4) [] E (tCons (tVar i3) (tCons (tVar i4) (tCons tn (tCons tc tNil))))) σ H (.list (C.is.map fun x => .int (cnt C.is bs 4 name k x))) := fun H1 s Q q =>
  ⟨_, h3, _, h4, hn H1 s _ fun v H2 s2 hv => hc H2 (s.trans s2) _ fun u H3 s3 hu => by
    obtain rfl := dp_str hv
    obtain rfl := dp_int hu
    have e := h.same ((s.trans s2).trans s3)
    exact ⟨C.is, bs, _, bt, bv, name, k, rfl, e.its, e.pt, e.bd, W.gb.named, by have := W.i3; omega, W.gb.len, W.rk name nm, k0, W.few, fun v H4 s4 hd => q v H4 ((s2.trans s3).trans s4) hd⟩⟩
end
section
variable {K : PySem.W.Frag} {σ : L2.St} {H : Hp}
/-- [0] * len(a list) -/
theorem ed_zeros {ta : TE} {is : List Str} (ha : EvD K ta σ H (.list (is.map .str))) (hl : is.length ≤ 1000) :
    EvD K (tOp rRep (tLst (tCons (tC (.int 0)) tNil)) (tCB (fun xs H Q => ∃ p ys, xs = [V.ref p] ∧ (SqL K H p ys ∨ SqT K H p ys) ∧ Q (.int ys.length) H) (tCons ta tNil))) σ H (.list (is.map fun _ => .int 0)) := fun H1 s Q q =>
  ⟨by show 1 ≤ sizeLine; decide, fun p hp => ed_lenL ha _ (s.trans (same_new hp (.lst [.int 0]))) _ fun v H2 s2 hv => by
    have e := dp_int hv
    rw [List.length_map] at e
    refine ⟨p, _, _, rfl, e, s2 _ _ upd_same, by omega, by omega, ?_, fun fp hfp => ?_⟩
    · rw [Int.toNat_natCast, List.length_singleton, Nat.one_mul]
      exact sz_of (by omega)
    · rw [Int.toNat_natCast, zeros_flat]
      exact q _ _ (((same_new hp _).trans s2).trans (same_new hfp _)) (.lst (SqL.of upd_same) (zeros_dp is))⟩
end
def dueG2 (d e : PyData) : PyData := .tuple [.tuple [d], e]
theorem wish_eq (C : Cat) (bs : List Bun) (ws : List (Str × Int)) : PyData.tuple (keepP dueP dueG2 ((C.is.map PyData.str).zip (C.is.map fun x => .int (sumsOf C bs ws x)))) = wishD C bs ws := by
  unfold keepP wishD wishL
  rw [List.zip_map', List.filter_map, List.map_map]
  rfl
theorem q_ev {K : PySem.W.Frag} {σ : L2.St} {H : Hp} {te : TE} {d : PyData} {Q : VK} (h : EvD K te σ H d) (k : ∀ v H1, Same H H1 → Dp K H1 v d → Q v H1) : te σ H Q := h H (Same.refl _) _ k
theorem q_asgS {K : PySem.W.Frag} {σ : L2.St} {H : Hp} {sp : Sp} {E : L2.St → XK} {t : TA} {g : TG} {D : Ends} {ds : List PyData} (h : EvA K t σ H ds) (k : ∀ vs H1, Same H H1 → DpAll K H1 vs ds → sp vs H1 (fun v H2 => g v σ H2 D.nx) (E σ)) : tAsg (tCallS sp E t) g D σ H := h H (Same.refl _) _ k
theorem q_seqN {tu tw : TS} {D : Ends} {σ : L2.St} {H : Hp} (Pn : L2.St → Hp → Prop) (h1 : ∀ σ H, Pn σ H → tw D σ H) (h2 : ∀ D' : Ends, D'.rt = D.rt → (∀ σ H, Pn σ H → D'.nx σ H) → tu D' σ H) : tSeq tu tw D σ H := h2 { D with nx := tw D } rfl (fun σ H p => h1 σ H p)
theorem fix_names : (∀ i, i < 3 → bunN i ≠ "none" ∧ bunN i ≠ "k") ∧ ("none" : Str) ∉ is3 ∧ ("k" : Str) ∉ is3 := by decide +kernel
theorem Drawn.out {C : Cat} {i j : Nat} {bs : List Bun} (h : Drawn C.is i bs) (hi : i ≤ 3) (hj : C.is = is3.take (1 + j)) : ("none" : Str) ∉ namesOf C bs ∧ ("k" : Str) ∉ namesOf C bs := by
  obtain ⟨f1, f2, f3⟩ := fix_names
  refine ⟨fun z => ?_, fun z => ?_⟩
  all_goals
    rcases List.mem_append.mp z with z | z
    · rw [hj] at z
      first
        | exact f2 (List.mem_of_mem_take z)
        | exact f3 (List.mem_of_mem_take z)
    · rw [h.names] at z
      obtain ⟨k, hk, e⟩ := List.mem_map.mp z
      have := f1 k (by have := List.mem_range.mp hk; omega)
      first
        | exact this.1 e
        | exact this.2 e
theorem tea_in {C : Cat} {j : Nat} (hj : C.is = is3.take (1 + j)) : ("tea" : Str) ∈ C.is := by
  rw [hj]
  show ("tea" : Str) ∈ List.take (1 + j) (["tea", "pot", "cup"] : List Str)
  rw [Nat.add_comm, List.take_succ_cons]
  exact List.mem_cons_self
/-! sums above 99 -/
def bigP (d : PyData) : Bool := match d with
  | .int i => decide (99 < i)
  | _ => false
def bigL (C : Cat) (bs : List Bun) (ws : List (Str × Int)) : List PyData := keepD bigP (fun d => d) (C.is.map fun x => .int (sumsOf C bs ws x))
theorem big_flat (C : Cat) (bs : List Bun) (ws : List (Str × Int)) : ∀ d ∈ bigL C bs ws, Flat d := fun d hd => by
  unfold bigL keepD at hd
  obtain ⟨e, he, rfl⟩ := List.mem_map.mp hd
  obtain ⟨x, _, rfl⟩ := List.mem_map.mp (List.mem_filter.mp he).1
  exact flat_int _
theorem big_none {C : Cat} {bs : List Bun} {ws : List (Str × Int)} (h : fewB C bs ws = true) : bigL C bs ws = [] := by
  unfold bigL keepD
  rw [List.map_eq_nil_iff, List.filter_eq_nil_iff]
  intro d hd hp
  obtain ⟨x, hx, rfl⟩ := List.mem_map.mp hd
  have h1 : (99 : Int) < sumsOf C bs ws x := of_decide_eq_true hp
  have h2 := List.all_eq_true.mp h x (List.mem_filter.mpr ⟨hx, decide_eq_true (by omega)⟩)
  have h3 := of_decide_eq_true h2
  omega
theorem big_some {C : Cat} {bs : List Bun} {ws : List (Str × Int)} (h : fewB C bs ws = false) : bigL C bs ws ≠ [] := by
  intro e
  unfold fewB at h
  obtain ⟨x, hx, hp⟩ := List.all_eq_false.mp h
  have h1 := (List.mem_filter.mp hx).1
  have h2 : ¬ sumsOf C bs ws x ≤ 99 := fun z => hp (decide_eq_true z)
  have : PyData.int (sumsOf C bs ws x) ∈ bigL C bs ws := List.mem_map.mpr ⟨_, List.mem_filter.mpr ⟨List.mem_map.mpr ⟨x, h1, rfl⟩, decide_eq_true (by omega)⟩, rfl⟩
  rw [e] at this
  cases this
theorem eqv_empty (l : List PyData) : PyData.eqv (.list l) (.list []) = decide (l = []) := by
  cases l with
  | nil => simp [PyData.eqv, PyData.eqvAll]
  | cons a r => simp [PyData.eqv, PyData.eqvAll]
section
variable {K : PySem.W.Frag} {σ : L2.St} {H : Hp} {C : Cat} {bs : List Bun} {ws : List (Str × Int)}
/-- [many for many in sums if many > 99] -/
theorem ed_big {v : V} (h : σ[13]? = some (some v)) (hv : Dp K H v (.list (C.is.map fun x => .int (sumsOf C bs ws x)))) (hl : C.is.length ≤ 3) (hw : ∀ x, wipe ((wipe σ [20]).set 20 (some x)) [20] = wipe σ [20]) (hg : ∀ x, ((wipe σ [20]).set 20 (some x))[20]? = some (some x)) :
    EvD K (tLc (iList K (tVar 13)) (gName 20) (tTest (tOp (rI0 fun i j => .bl (decide (j < i))) (tVar 20) (tC (.int 99)))) (tVar 20) [20]) σ H (.list (bigL C bs ws)) :=
  ed_lcL bigP (fun d => d) (ed_var h hv) (by rw [List.length_map]; omega) hw
    (fun d hd x H5 s5 hxd => by
      obtain ⟨y, hy, rfl⟩ := List.mem_map.mp hd
      exact et_val (ed_I0b (ed_var (hg x) hxd) ed_int))
    (fun d hd _ x H5 s5 hxd => ed_var (hg x) hxd)
    (fun d hd _ => by
      obtain ⟨y, hy, rfl⟩ := List.mem_map.mp hd
      rfl)
end
theorem wants_good {C : Cat} {bs : List Bun} (W : Law8 C bs) {ws : List (Str × Int)} (h1 : 1 ≤ ws.length) (h : ∀ w ∈ ws, w.1 ∈ namesOf C bs ∧ 1 ≤ w.2 ∧ w.2 ≤ 2) : wantsB C bs ws = true := by
  unfold wantsB
  have e1 : ws.isEmpty = false := by
    cases ws with
    | nil => simp at h1
    | cons _ _ => rfl
  have e2 : (ws.all fun w => nameB w.1 && decide (w.1 ∈ namesOf C bs)) = true := List.all_eq_true.mpr fun w hw => by
    rw [(W.nf w.1 (h w hw).1).1, decide_eq_true (h w hw).1]
    rfl
  have e3 : (ws.all fun w => wholeB w.2 1 99) = true := List.all_eq_true.mpr fun w hw => whole_yes ⟨(h w hw).2.1, by have := (h w hw).2.2; omega⟩
  rw [e1, e2, e3]
  rfl
theorem lv_told (C : Cat) (bs : List Bun) (ws : List (Str × Int)) (r0 : Str) (h : C.is.length ≤ 3) : Lv 5 (.tuple [.str "o", .str r0, wishD C bs ws, .int 5, .int 2]) := by
  refine ⟨by simp, fun d hd => ?_⟩
  simp only [List.mem_cons, List.not_mem_nil, or_false] at hd
  rcases hd with rfl | rfl | rfl | rfl | rfl
  · trivial
  · trivial
  · refine ⟨?_, fun d hd => ?_⟩
    · rw [List.length_map]
      exact Nat.le_trans (List.length_filter_le _ _) (by omega)
    · obtain ⟨x, _, rfl⟩ := List.mem_map.mp hd
      refine ⟨by simp, fun e he => ?_⟩
      simp only [List.mem_cons, List.not_mem_nil, or_false] at he
      rcases he with rfl | rfl
      · refine ⟨by simp, fun e he => ?_⟩
        obtain rfl := List.mem_singleton.mp he
        trivial
      · trivial
  · trivial
  · trivial
/-- an error of the class at C is what except C names -/
theorem Err.te {K : PySem.W.Frag} {mg : Str → Option Value} {x : Str} {C : Addr} (h : Err K mg x C) : PySem.W.exmOne K (.ref C) (.ref C) = some true := by
  have e1 : (PySem.W.subIn K (.ref C) (.type "BaseException") == some true) = true := by rw [h.b] <;> rfl
  have e2 : ((PySem.W.clsIn K C).isSome && PySem.W.typeIn K (.ref C) == some (.type "type")) = true := by
    have h2' : (PySem.W.clsIn K C).isSome = true := h.i
    rw [h2', h.t] <;> rfl
  show (if (PySem.W.subIn K (.ref C) (.type "BaseException") == some true) = true then (if ((PySem.W.clsIn K C).isSome && PySem.W.typeIn K (.ref C) == some (.type "type")) = true then PySem.W.subIn K (.ref C) (.ref C) else none) else none) = some true
  rw [if_pos e1, if_pos e2]
  exact h.s
/-! odd wants, wrong bundles -/
def oddL (i0 : Str) : List PyData := [.none, .tuple [], .tuple [.tuple [.str "none", .int 1]], .tuple [.tuple [.str i0, .int 0]], .tuple [.tuple [.str i0, .int 100]]]
def wrongL (i0 : Str) : List PyData := [.none, .tuple [.tuple [.str "tea", .tuple [.tuple [.str "tea", .int 1]]]], .tuple [.tuple [.str "k", .tuple []]], .tuple [.tuple [.str "k", .tuple [.tuple [.str "k", .int 1]]]], .tuple [.tuple [.str "k", .tuple [.tuple [.str i0, .int 0]]]]]
theorem fine_none : Fine "none" := ⟨by decide +kernel, by decide +kernel⟩
theorem fine_k : Fine "k" := ⟨by decide +kernel, by decide +kernel⟩
theorem odd_at {C : Cat} {bs : List Bun} (W : Law8 C bs) {i0 : Str} (hi : i0 ∈ C.is) {j : Nat} {d : PyData} (h : (oddL i0)[j]? = some d) : d = .none ∨ ∃ ws : List (Str × Int), d = .tuple (ws.map partD) ∧ ws.length ≤ 6 ∧ (∀ w ∈ ws, Fine w.1) ∧ wantsB C bs ws = false := by
  match j, h with
  | 0, h => exact .inl (Option.some.inj h).symm
  | 1, h =>
    refine .inr ⟨[], (Option.some.inj h).symm, by simp, fun w hw => (by cases hw), rfl⟩
  | 2, h =>
    refine .inr ⟨[("none", 1)], (Option.some.inj h).symm, by simp, fun w hw => ?_, ?_⟩
    · obtain rfl := List.mem_singleton.mp hw
      exact fine_none
    · simp [wantsB, W.out.1]
  | 3, h =>
    refine .inr ⟨[(i0, 0)], (Option.some.inj h).symm, by simp, fun w hw => ?_, ?_⟩
    · obtain rfl := List.mem_singleton.mp hw
      exact (item_fine W.good hi).2
    · simp [wantsB, wholeB]
  | 4, h =>
    refine .inr ⟨[(i0, 100)], (Option.some.inj h).symm, by simp, fun w hw => ?_, ?_⟩
    · obtain rfl := List.mem_singleton.mp hw
      exact (item_fine W.good hi).2
    · simp [wantsB, wholeB]
  | j + 5, h => exact absurd h (by simp [oddL])
theorem wrong_at {C : Cat} {bs : List Bun} (W : Law8 C bs) {i0 : Str} (hi : i0 ∈ C.is) {j : Nat} {d : PyData} (h : (wrongL i0)[j]? = some d) : BadBuns C d := by
  have kout : ("k" : Str) ∉ C.is := fun z => W.out.2 (List.mem_append_left _ z)
  match j, h with
  | 0, h => exact .inl (Option.some.inj h).symm
  | 1, h =>
    refine .inr ⟨("tea", [("tea", 1)]), (Option.some.inj h).symm, ⟨(item_fine W.good W.tea).2, fun p hp => ?_, by simp⟩, ?_⟩
    · obtain rfl := List.mem_singleton.mp hp
      exact (item_fine W.good W.tea).2
    · unfold bundleB
      rw [if_pos (by simp [W.tea])]
  | 2, h =>
    refine .inr ⟨("k", []), (Option.some.inj h).symm, ⟨fine_k, fun p hp => (by cases hp), by simp⟩, ?_⟩
    unfold bundleB
    split
    · rfl
    · rw [if_pos (by simp [PyData.eqv, PyData.eqvAll])]
  | 3, h =>
    refine .inr ⟨("k", [("k", 1)]), (Option.some.inj h).symm, ⟨fine_k, fun p hp => ?_, by simp⟩, ?_⟩
    · obtain rfl := List.mem_singleton.mp hp
      exact fine_k
    · unfold bundleB
      split
      · rfl
      · split
        · rfl
        · simp [kout]
  | 4, h =>
    refine .inr ⟨("k", [(i0, 0)]), (Option.some.inj h).symm, ⟨fine_k, fun p hp => ?_, by simp⟩, ?_⟩
    · obtain rfl := List.mem_singleton.mp hp
      exact (item_fine W.good hi).2
    · unfold bundleB
      split
      · rfl
      · split
        · rfl
        · simp [wholeB]
  | j + 5, h => exact absurd h (by simp [wrongL])
end K8
set_option maxRecDepth 100000
set_option maxHeartbeats 4000000
/-! FnO: law. -/
namespace K8
open PySem PySem.Spec PyProof.Rows L2
theorem hot_of {A : Around} {a : Addr} {oe : Obj} {cls : Value} {d : Option Addr} (hz : L2N.Zn cls d oe) (hf : ∃ vs, oe.data = .fields vs) : L2H.Hot1 (A.mark (some (.ref a))) (a, oe) := by
  obtain ⟨vs, e⟩ := hf
  exact ⟨rfl, vs, e, hz.2.2 vs e⟩
section
variable {X : Cx} {K : PySem.W.Frag} {tg l : Expr} {tl : TE}
theorem piLH (hl : PE X l tl) (h : X.K = K := by rfl) : L2H.PIH X tg l (iList K tl) := by subst h; exact HotL.pi_listH hl
end
def sp_law (K : PySem.W.Frag) : Sp := fun vs H Q _ => ∃ (a : Addr) (ns : List Int), vs = [.ref a] ∧ SqL K H a (ns.map V.int) ∧ ∀ H', Q (.bl true) H'
section
variable {P : Program} {w : World} {K : PySem.W.Frag} {mg : Str → Option Value} {base : Heap} {f : Addr} {fd : FuncData}
theorem ok_law (B : Blt mg) {CO CI : Addr} (E_BadOrder : Err K mg "BadOrder" CO) (E_BadItem : Err K mg "BadItem" CI)
    (c_law_taken : Cal P w K mg base "_law_taken" s_law_taken CX0 1 P_law_taken (sp_taken K)) (c_law_pick : Cal P w K mg base "_law_pick" s_law_pick CX0 2 P_law_pick (sp_pick K))
    (c_law_catalog : Cal P w K mg base "_law_catalog" s_law_catalog CX0 3 P_law_catalog (sp_lcat K)) (c_law_made : Cal P w K mg base "_law_made" s_law_made CX0 4 P_law_made (sp_lmade K 4)) (c_law_alike : Cal P w K mg base "_law_alike" s_law_alike CX0 5 P_law_alike (PureSp K (rel_alike 5)))
    {fm : Addr} {fdm : FuncData} (F_made_of : Fn K mg "made_of" s_made_of fm fdm) (b_made_of : Binds K fdm P_made_of []) (G_made_of : FnOk P w K mg base CX0 6 fm fdm P_made_of (PureSp K rel_made)) (G_made_of_bad : FnOk P w K mg base (L2N.CX P w) 6 fm fdm P_made_of (sp_made_bad K CI))
    (c_opened : Cal P w K mg base "opened" s_opened (L2N.CX P w) 7 P_opened (sp_opened K CO)) (F : Fun K "law" "law" s_law f fd) : FnOk P w K mg base CX0 8 f fd P_law (sp_law K) := by
  obtain ⟨_, _, F_law_taken, b_law_taken, G_law_taken⟩ := c_law_taken
  obtain ⟨_, _, F_law_pick, b_law_pick, G_law_pick⟩ := c_law_pick
  obtain ⟨_, _, F_law_catalog, b_law_catalog, G_law_catalog⟩ := c_law_catalog
  obtain ⟨_, _, F_law_made, b_law_made, G_law_made⟩ := c_law_made
  obtain ⟨_, _, F_law_alike, b_law_alike, G_law_alike⟩ := c_law_alike
  obtain ⟨_, _, F_opened, b_opened, G_opened⟩ := c_opened
  refine F.ok sc_law (fun vs H Q E h => ?_) (fun cdv A outer s H vs Q E hr h => ?_)
  · obtain ⟨a, ns, rfl, _⟩ := h
    rfl
  obtain ⟨sa, cells, rfl, hsc, q⟩ := h
  have hu := units65 hr
  have hu1 := hu_of hr
  refine ⟨_, (pss_cons (ps_set (i := 1) sc_law.nd rfl (by first | exact Or.inl rfl | exact Or.inr rfl) (pe_lst (pa_cons (pv 0) (pa_cons pe_int (pa_cons pe_int (pa_cons pe_int pa_nil)))))) (pss_cons (ps_set (i := 2) sc_law.nd rfl (by first | exact Or.inl rfl | exact Or.inr rfl) (pe_call G_law_catalog (hr.mono (by first | decide | omega)) (by rfl) F_law_catalog.g F_law_catalog.kp b_law_catalog .nil pass0 (pa_cons (pv 1) pa_nil))) (pss_cons (ps_par (i := 3) (j := 4) rfl sc_law.nd rfl rfl (by decide) rfl rfl (pa_cons (pe_callTy (cList (K := K)) (by rfl) B.list (by decide +kernel) (pa_cons (pe_ix (ixT (K := K)) (pv 2) pe_int (fun _ _ => rfl)) pa_nil)) (pa_cons (pe_lst pa_nil) pa_nil)) (by rfl)) (pss_cons (ps_for PassesOwn.never rfl (pi_range1 (by rfl) B.range (pa_cons (pe_call G_law_taken (hr.mono (by first | decide | omega)) (by rfl) F_law_taken.g F_law_taken.kp b_law_taken .nil pass0 (pa_cons (pv 1) (pa_cons pe_int pa_nil))) pa_nil)) (pg_name (i := 5) sc_law.nd rfl (by first | exact Or.inl rfl | exact Or.inr rfl)) (pss_cons (ps_asg (pe_tup (pa_cons (pe_op op_cat (pv 3) (pe_lc (own := [("_law_bundle", 18)]) rfl sc_law.nd (piL (K := K) (pv 4)) (blkOk_by (own := [("_law_bundle", 18)]) (N := N_law) (sc := defScope s_law) (by decide +kernel)) (fun _ _ _ _ _ => (pg_name (i := 18) sc_law.nd rfl (by first | exact Or.inl rfl | exact Or.inr rfl))) (fun _ _ _ _ _ => pts_nil) (fun _ _ _ _ _ => (pe_ix (ixT (K := K)) (pv 18) pe_int (fun _ _ => rfl))))) (pa_cons (pe_lst pa_nil) pa_nil))) (pgT (K := K) (n := 2) rfl (pgs_cons (pg_name (i := 6) sc_law.nd rfl (by first | exact Or.inl rfl | exact Or.inr rfl)) (pgs_cons (pg_name (i := 7) sc_law.nd rfl (by first | exact Or.inl rfl | exact Or.inr rfl)) pgs_nil)))) (pss_cons (ps_for PassesOwn.never rfl (pi_range1 (by rfl) B.range (pa_cons (pe_op op_add pe_int (pe_call G_law_taken (hr.mono (by first | decide | omega)) (by rfl) F_law_taken.g F_law_taken.kp b_law_taken .nil pass0 (pa_cons (pv 1) (pa_cons (pe_callB (call_min2 rfl) (by rfl) B.min (by decide +kernel) (pa_cons pe_int (pa_cons (pe_callB (cLen (K := K)) (by rfl) B.len (by decide +kernel) (pa_cons (pv 6) pa_nil)) pa_nil))) pa_nil)))) pa_nil)) (pg_name (i := 8) sc_law.nd rfl (by first | exact Or.inl rfl | exact Or.inr rfl)) (pss_one (ps_expr (pe_bm PySem.F.plainAttrs_list PySem.F.slot_list_append PySem.F.type_list_append mt_append (pv 7) (pa_cons (pe_tup (pa_cons (pe_bm PySem.F.plainAttrs_list PySem.F.slot_list_pop PySem.F.type_list_pop mt_popAt (pv 6) (pa_cons (pe_call G_law_taken (hr.mono (by first | decide | omega)) (by rfl) F_law_taken.g F_law_taken.kp b_law_taken .nil pass0 (pa_cons (pv 1) (pa_cons (pe_callB (cLen (K := K)) (by rfl) B.len (by decide +kernel) (pa_cons (pv 6) pa_nil)) pa_nil))) pa_nil)) (pa_cons (pe_op op_add pe_int (pe_call G_law_taken (hr.mono (by first | decide | omega)) (by rfl) F_law_taken.g F_law_taken.kp b_law_taken .nil pass0 (pa_cons (pv 1) (pa_cons pe_int pa_nil)))) pa_nil))) pa_nil))))) (pss_one (ps_expr (pe_bm PySem.F.plainAttrs_list PySem.F.slot_list_append PySem.F.type_list_append mt_append (pv 4) (pa_cons (pe_tup (pa_cons (pe_op op_add_str pe_str (pe_callTy call_str_int (by rfl) B.str (by decide +kernel) (pa_cons (pv 5) pa_nil))) (pa_cons (pe_callTy (cTuple (K := K)) (by rfl) B.tuple (by decide +kernel) (pa_cons (pv 7) pa_nil)) pa_nil))) pa_nil))))))) (pss_cons (ps_asg (pe_tup (pa_cons (pe_callTy call_tupleF (by rfl) B.tuple (by decide +kernel) (pa_cons (pv 4) pa_nil)) (pa_cons (pe_op op_cat (pv 3) (pe_lc (own := [("_law_bundle", 18)]) rfl sc_law.nd (piL (K := K) (pv 4)) (blkOk_by (own := [("_law_bundle", 18)]) (N := N_law) (sc := defScope s_law) (by decide +kernel)) (fun _ _ _ _ _ => (pg_name (i := 18) sc_law.nd rfl (by first | exact Or.inl rfl | exact Or.inr rfl))) (fun _ _ _ _ _ => pts_nil) (fun _ _ _ _ _ => (pe_ix (ixT (K := K)) (pv 18) pe_int (fun _ _ => rfl))))) pa_nil))) (pgT (K := K) (n := 2) rfl (pgs_cons (pg_name (i := 4) sc_law.nd rfl (by first | exact Or.inl rfl | exact Or.inr rfl)) (pgs_cons (pg_name (i := 6) sc_law.nd rfl (by first | exact Or.inl rfl | exact Or.inr rfl)) pgs_nil)))) (pss_cons (ps_for PassesOwn.never rfl (piL (K := K) (pv 6)) (pg_name (i := 9) sc_law.nd rfl (by first | exact Or.inl rfl | exact Or.inr rfl)) (pss_cons (ps_set (i := 10) sc_law.nd rfl (by first | exact Or.inl rfl | exact Or.inr rfl) (pe_op op_add pe_int (pe_call G_law_taken (hr.mono (by first | decide | omega)) (by rfl) F_law_taken.g F_law_taken.kp b_law_taken .nil pass0 (pa_cons (pv 1) (pa_cons pe_int pa_nil))))) (pss_cons (ps_setLc (i := 11) (own := [("_law_item", 19), ("_law_many", 20)]) rfl sc_law.nd rfl rfl (sw_true rfl rfl rfl (by decide +kernel)) (pi_zip (by rfl) B.zip (pa_cons (pv 3) (pa_cons (pe_call G_law_made (hr.mono (by first | decide | omega)) (by rfl) F_law_made.g F_law_made.kp b_law_made .nil pass0 (pa_cons (pv 3) (pa_cons (pv 4) (pa_cons (pv 9) (pa_cons (pv 10) pa_nil))))) pa_nil))) (blkOk_by (own := [("_law_item", 19), ("_law_many", 20)]) (N := N_law) (sc := defScope s_law) (by decide +kernel)) (fun _ _ _ _ _ => (pgT (K := K) (n := 2) rfl (pgs_cons (pg_name (i := 19) sc_law.nd rfl (by first | exact Or.inl rfl | exact Or.inr rfl)) (pgs_cons (pg_name (i := 20) sc_law.nd rfl (by first | exact Or.inl rfl | exact Or.inr rfl)) pgs_nil)))) (fun _ _ _ _ _ => (pts_one (pt_cmpR op_gt (pv 20) pe_int (nomark _)))) (fun _ _ _ _ _ => (pe_tup (pa_cons (pv 19) (pa_cons (pv 20) pa_nil))))) (pss_one (ps_if (pt_not (pt_val (pe_call G_law_alike (hr.mono (by first | decide | omega)) (by rfl) F_law_alike.g F_law_alike.kp b_law_alike .nil pass0 (pa_cons (pe_call G_made_of (hr.mono (by first | decide | omega)) (by rfl) F_made_of.g F_made_of.kp b_made_of .nil pass0 (pa_cons (pv 2) (pa_cons (pv 4) (pa_cons (pv 9) (pa_cons (pv 10) pa_nil))))) (pa_cons (pe_callTy (cTuple (K := K)) (by rfl) B.tuple (by decide +kernel) (pa_cons (pv 11) pa_nil)) pa_nil))))) (pss_one (ps_ret pe_bl)) pss_nil))))) (pss_cons (ps_set (i := 12) sc_law.nd rfl (by first | exact Or.inl rfl | exact Or.inr rfl) (pe_callTy (cTuple (K := K)) (by rfl) B.tuple (by decide +kernel) (pa_cons (pe_lc (own := [("_law_turn", 8)]) rfl sc_law.nd (pi_range1 (by rfl) B.range (pa_cons (pe_op op_add pe_int (pe_call G_law_taken (hr.mono (by first | decide | omega)) (by rfl) F_law_taken.g F_law_taken.kp b_law_taken .nil pass0 (pa_cons (pv 1) (pa_cons pe_int pa_nil)))) pa_nil)) (blkOk_by (own := [("_law_turn", 8)]) (N := N_law) (sc := defScope s_law) (by decide +kernel)) (fun _ _ _ _ _ => (pg_name (i := 8) sc_law.nd rfl (by first | exact Or.inl rfl | exact Or.inr rfl))) (fun _ _ _ _ _ => pts_nil) (fun _ _ _ _ _ => (pe_tup (pa_cons (pe_call G_law_pick (hr.mono (by first | decide | omega)) (by rfl) F_law_pick.g F_law_pick.kp b_law_pick .nil pass0 (pa_cons (pv 1) (pa_cons (pv 6) pa_nil))) (pa_cons (pe_op op_add pe_int (pe_call G_law_taken (hr.mono (by first | decide | omega)) (by rfl) F_law_taken.g F_law_taken.kp b_law_taken .nil pass0 (pa_cons (pv 1) (pa_cons pe_int pa_nil)))) pa_nil))))) pa_nil))) (pss_cons (ps_set (i := 13) sc_law.nd rfl (by first | exact Or.inl rfl | exact Or.inr rfl) (pe_op op_rep (pe_lst (pa_cons pe_int pa_nil)) (pe_callB (cLen (K := K)) (by rfl) B.len (by decide +kernel) (pa_cons (pv 3) pa_nil)))) (pss_cons (ps_for PassesOwn.never rfl (piT (K := K) (pv 12)) (pgT (K := K) (n := 2) rfl (pgs_cons (pg_name (i := 9) sc_law.nd rfl (by first | exact Or.inl rfl | exact Or.inr rfl)) (pgs_cons (pg_name (i := 10) sc_law.nd rfl (by first | exact Or.inl rfl | exact Or.inr rfl)) pgs_nil))) (pss_one (ps_setLc (i := 13) (own := [("_law_one", 21), ("_law_two", 22)]) rfl sc_law.nd rfl rfl (sw_true rfl rfl rfl (by decide +kernel)) (pi_zip (by rfl) B.zip (pa_cons (pv 13) (pa_cons (pe_call G_law_made (hr.mono (by first | decide | omega)) (by rfl) F_law_made.g F_law_made.kp b_law_made .nil pass0 (pa_cons (pv 3) (pa_cons (pv 4) (pa_cons (pv 9) (pa_cons (pv 10) pa_nil))))) pa_nil))) (blkOk_by (own := [("_law_one", 21), ("_law_two", 22)]) (N := N_law) (sc := defScope s_law) (by decide +kernel)) (fun _ _ _ _ _ => (pgT (K := K) (n := 2) rfl (pgs_cons (pg_name (i := 21) sc_law.nd rfl (by first | exact Or.inl rfl | exact Or.inr rfl)) (pgs_cons (pg_name (i := 22) sc_law.nd rfl (by first | exact Or.inl rfl | exact Or.inr rfl)) pgs_nil)))) (fun _ _ _ _ _ => pts_nil) (fun _ _ _ _ _ => (pe_op op_add (pv 21) (pv 22)))))) (pss_cons (ps_set (i := 11) sc_law.nd rfl (by first | exact Or.inl rfl | exact Or.inr rfl) (pe_callTy (cTuple (K := K)) (by rfl) B.tuple (by decide +kernel) (pa_cons (pe_lc (own := [("_law_item", 19), ("_law_many", 20)]) rfl sc_law.nd (pi_zip (by rfl) B.zip (pa_cons (pv 3) (pa_cons (pv 13) pa_nil))) (blkOk_by (own := [("_law_item", 19), ("_law_many", 20)]) (N := N_law) (sc := defScope s_law) (by decide +kernel)) (fun _ _ _ _ _ => (pgT (K := K) (n := 2) rfl (pgs_cons (pg_name (i := 19) sc_law.nd rfl (by first | exact Or.inl rfl | exact Or.inr rfl)) (pgs_cons (pg_name (i := 20) sc_law.nd rfl (by first | exact Or.inl rfl | exact Or.inr rfl)) pgs_nil)))) (fun _ _ _ _ _ => (pts_one (pt_cmpR op_gt (pv 20) pe_int (nomark _)))) (fun _ _ _ _ _ => (pe_tup (pa_cons (pe_tup (pa_cons (pv 19) pa_nil)) (pa_cons (pv 20) pa_nil))))) pa_nil))) (pss_cons (L2N.ps_try_as (i := 15) (Wout := fun _ _ _ _ => False) rfl rfl sc_law.nd rfl rfl ⟨rfl, by decide, Or.inl E_BadOrder.g⟩ HotL.takesN (fun W pn xe tk _ => (pss_cons (ps_set (i := 14) sc_law.nd rfl (by first | exact Or.inl rfl | exact Or.inr rfl) (pe_callS G_opened (hr.mono (by first | decide | omega)) (by rfl) F_opened.g F_opened.kp b_opened (fun σ => L2N.passAt tk σ) (pa_cons (pv 2) (pa_cons (pv 4) (pa_cons pe_str (pa_cons (pe_ix (ixT (K := K)) (pe_ix (ixT (K := K)) (pv 2) pe_int (fun _ _ => rfl)) pe_int (fun _ _ => rfl)) (pa_cons (pv 12) (pa_cons pe_int (pa_cons pe_int pa_nil))))))))) (pss_one (ps_if (PW.pt (pw_or (pt_not (pt_val (pe_call G_law_alike (hr.mono (by first | decide | omega)) (by rfl) F_law_alike.g F_law_alike.kp b_law_alike .nil pass0 (pa_cons (pv 14) (pa_cons (pe_tup (pa_cons pe_str (pa_cons (pe_ix (ixT (K := K)) (pe_ix (ixT (K := K)) (pv 2) pe_int (fun _ _ => rfl)) pe_int (fun _ _ => rfl)) (pa_cons (pv 11) (pa_cons pe_int (pa_cons pe_int pa_nil)))))) pa_nil))))) (pw_or1 (pt_cmpR (opNeD (K := K) hu) (pe_lc (own := [("_law_many", 20)]) rfl sc_law.nd (piL (K := K) (pv 13)) (blkOk_by (own := [("_law_many", 20)]) (N := N_law) (sc := defScope s_law) (by decide +kernel)) (fun _ _ _ _ _ => (pg_name (i := 20) sc_law.nd rfl (by first | exact Or.inl rfl | exact Or.inr rfl))) (fun _ _ _ _ _ => (pts_one (pt_cmpR op_gt (pv 20) pe_int (nomark _)))) (fun _ _ _ _ _ => (pv 20))) (pe_lst pa_nil) (nomark _))))) (pss_one (ps_ret pe_bl)) pss_nil)))) (fun a oe cls d pn hz hf => (pss_one (ps_if (pt_cmpR (opEqD (K := K) hu) (HotL.pe_lcH (own := [("_law_many", 20)]) (hot_of hz hf) List.mem_cons_self sc_law.nd (piLH (K := K) (pv 13)) (blkOk_by (own := [("_law_many", 20)]) (N := N_law) (sc := defScope s_law) (by decide +kernel)) (fun _ _ _ _ _ => (pg_name (i := 20) sc_law.nd rfl (by first | exact Or.inl rfl | exact Or.inr rfl))) (fun _ _ _ _ _ => (pts_one (pt_cmpR op_gt (pv 20) pe_int (nomark _)))) (fun _ _ _ _ _ => (pv 20))) (pe_lst pa_nil) (nomark _)) (pss_one (ps_ret pe_bl)) pss_nil)))) (pss_cons (L2N.ps_try_as (i := 15) (Wout := fun _ _ _ _ => False) rfl rfl sc_law.nd rfl rfl ⟨rfl, by decide, Or.inl E_BadOrder.g⟩ HotL.takesN (fun W pn xe tk _ => (pss_cons (ps_set (i := 16) sc_law.nd rfl (by first | exact Or.inl rfl | exact Or.inr rfl) (pe_lst (pa_cons pe_non (pa_cons (pe_tup pa_nil) (pa_cons (pe_tup (pa_cons (pe_tup (pa_cons pe_str (pa_cons pe_int pa_nil))) pa_nil)) (pa_cons (pe_tup (pa_cons (pe_tup (pa_cons (pe_ix (ixL (K := K)) (pv 3) pe_int (fun _ _ => rfl)) (pa_cons pe_int pa_nil))) pa_nil)) (pa_cons (pe_tup (pa_cons (pe_tup (pa_cons (pe_ix (ixL (K := K)) (pv 3) pe_int (fun _ _ => rfl)) (pa_cons pe_int pa_nil))) pa_nil)) pa_nil))))))) (pss_cons (ps_expr (pe_callS G_opened (hr.mono (by first | decide | omega)) (by rfl) F_opened.g F_opened.kp b_opened (fun σ => L2N.passAt tk σ) (pa_cons (pv 2) (pa_cons (pv 4) (pa_cons pe_str (pa_cons (pe_ix (ixT (K := K)) (pe_ix (ixT (K := K)) (pv 2) pe_int (fun _ _ => rfl)) pe_int (fun _ _ => rfl)) (pa_cons (pe_call G_law_pick (hr.mono (by first | decide | omega)) (by rfl) F_law_pick.g F_law_pick.kp b_law_pick .nil pass0 (pa_cons (pv 1) (pa_cons (pv 16) pa_nil))) (pa_cons pe_int (pa_cons pe_int pa_nil))))))))) (pss_one (ps_ret pe_bl))))) (fun a oe cls d pn hz hf => (pss_one (ps_set (i := 11) sc_law.nd rfl (by first | exact Or.inl rfl | exact Or.inr rfl) (pe_tup pa_nil))))) (pss_cons (ps_set (i := 17) sc_law.nd rfl (by first | exact Or.inl rfl | exact Or.inr rfl) (pe_lst (pa_cons pe_non (pa_cons (pe_tup (pa_cons (pe_tup (pa_cons pe_str (pa_cons (pe_tup (pa_cons (pe_tup (pa_cons pe_str (pa_cons pe_int pa_nil))) pa_nil)) pa_nil))) pa_nil)) (pa_cons (pe_tup (pa_cons (pe_tup (pa_cons pe_str (pa_cons (pe_tup pa_nil) pa_nil))) pa_nil)) (pa_cons (pe_tup (pa_cons (pe_tup (pa_cons pe_str (pa_cons (pe_tup (pa_cons (pe_tup (pa_cons pe_str (pa_cons pe_int pa_nil))) pa_nil)) pa_nil))) pa_nil)) (pa_cons (pe_tup (pa_cons (pe_tup (pa_cons pe_str (pa_cons (pe_tup (pa_cons (pe_tup (pa_cons (pe_ix (ixL (K := K)) (pv 3) pe_int (fun _ _ => rfl)) (pa_cons pe_int pa_nil))) pa_nil)) pa_nil))) pa_nil)) pa_nil))))))) (pss_cons (L2N.ps_try_as (i := 15) (Wout := fun _ _ _ _ => False) rfl rfl sc_law.nd rfl rfl ⟨rfl, by decide, Or.inl E_BadItem.g⟩ HotL.takesN (fun W pn xe tk _ => (pss_one (ps_expr (pe_callS G_made_of_bad (hr.mono (by first | decide | omega)) (by rfl) F_made_of.g F_made_of.kp b_made_of (fun σ => L2N.passAt tk σ) (pa_cons (pv 2) (pa_cons (pe_call G_law_pick (hr.mono (by first | decide | omega)) (by rfl) F_law_pick.g F_law_pick.kp b_law_pick .nil pass0 (pa_cons (pv 1) (pa_cons (pv 17) pa_nil))) (pa_cons (pe_ix (ixL (K := K)) (pv 3) pe_int (fun _ _ => rfl)) (pa_cons pe_int pa_nil)))))))) (fun a oe cls d pn hz hf => (pss_one (ps_ret pe_bl)))) (pss_one (ps_ret pe_bl)))))))))))))))), ?_⟩
  -- row
  refine ⟨_, rfl, by show 4 ≤ sizeLine; decide, fun r hr0 => ?_⟩
  have row0 : RowAt K (sa, cells) (upd H r (.lst [.ref sa, .int 0, .int 7208, .int 0])) r := ⟨0, 7208, 0, upd_same, (same_new hr0 _).seq hsc, by omega, by omega, by omega⟩
  -- catalog
  refine ⟨_, rfl, (sa, cells), r, rfl, row0, fun C j vc H1 good hj m1 row1 dc => ?_⟩
  generalize (sa, cells) = c at row0 row1
  have h3i : 1 ≤ C.is.length ∧ C.is.length ≤ 3 := by
    rw [hj, List.length_take]
    exact ⟨by show 1 ≤ min (1 + j) 3; omega, Nat.min_le_right _ _⟩
  obtain ⟨ac, xc, rfl, hac, hxc⟩ := dp_tup dc
  obtain ⟨x1, x2, x3, x4, x5, rfl, g1, g2, g3, g4, g5⟩ := dp5 hxc
  obtain ⟨ai, xi, rfl, hai, hxi⟩ := dp_tup g3
  obtain rfl := dp_strs hxi
  -- items, bundles
  refine ⟨_, rfl, ac, _, 2, _, rfl, rfl, hac, atI_nat (j := 2) rfl, ai, _, rfl, .inr hai, fun il hil => ⟨by show 0 ≤ sizeLine; decide, fun bl hbl => ⟨_, _, rfl, ?_⟩⟩⟩
  have si := same_new hil (.lst (C.is.map V.str))
  have rowb := row1.mono si
  generalize eHb : upd H1 il (.lst (C.is.map V.str)) = Hb at hbl si rowb
  have hilH : Hb il = some (.lst (C.is.map V.str)) := by rw [← eHb]; exact upd_same
  have ilr : il ≠ r := fun z => by
    obtain ⟨xs, hx⟩ := row1.hd
    rw [z, hx] at hil
    cases hil
  have blr : bl ≠ r := fun z => by
    obtain ⟨xs, hx⟩ := rowb.hd
    rw [z, hx] at hbl
    cases hbl
  have dcb : Dp K Hb (.ref ac) (catD C) := dp_mono si dc
  have sb := same_new hbl (.lst [])
  have rowbb : RowAt K c Hb r := rowb
  -- the bundles
  refine m_taken (c := c) (r := r) rfl ed_int (rowb.mono sb) (by decide) (by decide) fun n G0 n0 n1 mg0 rg0 => ⟨n, rfl, by omega, by omega, ?_⟩
  refine for_range (lo := 0) (n := n.toNat) (fun i σ' H' => (∃ y5 y6 y7 y8 y9 y10 y11 y12 y13 y14 y15 y16 y17 y18 y19 y20 y21 y22, σ' = [some (.ref sa), some (.ref r), some (.ref ac), some (.ref il), some (.ref bl), y5, y6, y7, y8, y9, y10, y11, y12, y13, y14, y15, y16, y17, y18, y19, y20, y21, y22]) ∧ BI K c r Hb bl C.is i H') ?_ (fun i σ' H' hi p => ?_) (fun σ' H' p => ?_)
  · refine ⟨⟨_, _, _, _, _, _, _, _, _, _, _, _, _, _, _, _, _, _, rfl⟩, (Mv.same sb).trans mg0, rg0, [], [], mg0 _ _ blr upd_same, .nil, Drawn.nil⟩
  · obtain ⟨⟨y5, y6, y7, y8, y9, y10, y11, y12, y13, y14, y15, y16, y17, y18, y19, y20, y21, y22, rfl⟩, b1, b2, bs, bv, b3, b4, dr⟩ := p
    rw [Int.zero_add]
    have hi3 : i ≤ 3 := by omega
    have hbsl := dr.len
    -- names, parts
    refine m_names (is := C.is) (bs := bs) (bv := bv) rfl rfl (fun _ => rfl) (fun _ => rfl) (b1 _ _ ilr hilH) b3 b4 (by omega) (by omega) fun nl G1 s1 hnl => ?_
    refine ⟨by show 0 ≤ sizeLine; decide, fun pl hpl => ?_⟩
    refine ⟨by show 2 ≤ sizeLine; decide, fun T hT => ?_⟩
    refine ⟨T, _, rfl, SqT.of upd_same, rfl, _, _, rfl, _, _, rfl, rfl, ?_⟩
    have sN := same_new hnl (.lst ((C.is ++ bs.map (·.1)).map V.str))
    have sP := same_new hpl (.lst [])
    have sT := same_new hT (.tup [.ref nl, .ref pl])
    have s14 := (s1.trans sN).trans (sP.trans sT)
    have f1 : H' nl = none := s1.free hnl
    have f2 : H' pl = none := (s1.trans sN).free hpl
    have nlr : nl ≠ r := fun z => by
      obtain ⟨xs, hx⟩ := b2.hd
      rw [z, hx] at f1
      cases f1
    have plr : pl ≠ r := fun z => by
      obtain ⟨xs, hx⟩ := b2.hd
      rw [z, hx] at f2
      cases f2
    have pln : pl ≠ nl := fun z => by
      rw [z, upd_same] at hpl
      cases hpl
    have total_nd : (C.is ++ bs.map (·.1)).Nodup := dr.total_nd hi3 hj
    have total_len : (C.is ++ bs.map (·.1)).length = C.is.length + i := by rw [List.length_append, List.length_map, hbsl]
    have total_eq : C.is ++ bs.map (·.1) = namesOf C bs := rfl
    have hN4 := sT _ _ (sP _ _ (upd_same (H := G1) (a := nl) (o := .lst ((C.is ++ bs.map (·.1)).map V.str))))
    have hP4 := sT _ _ (upd_same (H := upd G1 nl (.lst ((C.is ++ bs.map (·.1)).map V.str))) (a := pl) (o := .lst []))
    have row4 := b2.mono s14
    generalize eG4 : upd (upd (upd G1 nl (.lst ((C.is ++ bs.map (·.1)).map V.str))) pl (.lst [])) T (.tup [.ref nl, .ref pl]) = G4 at hN4 hP4 row4 s14
    generalize etot : C.is ++ bs.map (·.1) = total at *
    have pi0 : PI2 K c r H' nl pl total 0 G4 := ⟨Mv.same s14, row4, total, [], [], hN4, hP4, .nil, Left.start total_nd⟩
    refine m_taken (c := c) (r := r) rfl (ed_min (ed_int (i := 3)) (ed_lenL (ed_var rfl (.lst (SqL.of hN4) (strs_dp total))))) row4 ?_ ?_ fun t G5 t0 t1 m5 r5 => ?_
    · rw [List.length_map]
      split <;> omega
    · split <;> omega
    rw [List.length_map] at t1
    have t1' : t < (total.length : Int) ∧ t < 3 := by
      split at t1 <;> omega
    have pi1 := pi0.mv nlr plr m5 r5
    refine ⟨1, t, rfl, rfl, 1 + t, rfl, by omega, by omega, ?_⟩
    refine for_range (lo := 0) (n := (1 + t).toNat) (fun k σ' H2 => (∃ y8 y9 y10 y11 y12 y13 y14 y15 y16 y17 y18 y19 y20 y21 y22, σ' = [some (.ref sa), some (.ref r), some (.ref ac), some (.ref il), some (.ref bl), some (.int i), some (.ref nl), some (.ref pl), y8, y9, y10, y11, y12, y13, y14, y15, y16, y17, y18, y19, y20, y21, y22]) ∧ PI2 K c r H' nl pl total k H2)
      ⟨⟨_, _, _, _, _, _, _, _, _, _, _, _, _, _, _, rfl⟩, pi1⟩ (fun k σ' H2 hk p => ?_) (fun σ' H2 p => ?_)
    · obtain ⟨⟨y8, y9, y10, y11, y12, y13, y14, y15, y16, y17, y18, y19, y20, y21, y22, rfl⟩, p1, p2, ns, ps, pv, p3, p4, p5, lf⟩ := p
      have hns : 1 ≤ ns.length := by have := lf.len; omega
      have hns2 : ns.length ≤ 100 := by have := lf.len; omega
      refine ⟨_, rfl, .inl ⟨rfl, _, SqL.of p4⟩, _, rfl, .inl ⟨rfl, _, SqL.of p3⟩, ?_⟩
      refine m_taken (c := c) (r := r) rfl (ed_lenL (ed_var rfl (.lst (SqL.of p3) (strs_dp ns)))) p2 (by rw [List.length_map]; omega) (by rw [List.length_map]; omega) fun d H3 d0 d1 m3 r3 => ?_
      rw [List.length_map] at d1
      have hdn : d.toNat < ns.length := by omega
      have hx : ns[d.toNat]? = some ns[d.toNat] := List.getElem?_eq_getElem hdn
      generalize ns[d.toNat] = x at hx
      have q3 := m3 _ _ nlr p3
      have q4 := m3 _ _ plr p4
      have q5 := m3.dps p2.hd (noList_parts ps) p5
      have q1 := p1.trans m3
      refine ⟨nl, _, d, d.toNat, .str x, rfl, rfl, q3, by omega, by omega, seq_ix d0 (by rw [List.length_map]; exact d1), by rw [List.getElem?_map, hx]; rfl, ?_⟩
      rw [erase_map]
      have r4 := RowAt.mut b2 q1 f1 (.lst ((ns.eraseIdx d.toNat).map V.str)) r3
      have u1 := q1.mut f1 (.lst ((ns.eraseIdx d.toNat).map V.str))
      have u3 : (upd H3 nl (.lst ((ns.eraseIdx d.toNat).map V.str))) nl = some (.lst ((ns.eraseIdx d.toNat).map V.str)) := upd_same
      have u4 : (upd H3 nl (.lst ((ns.eraseIdx d.toNat).map V.str))) pl = some (.lst pv) := by rw [upd_ne pln]; exact q4
      have u5 := dps_upd (u := .lst ((ns.eraseIdx d.toNat).map V.str)) q3 trivial (noList_parts ps) q5
      generalize upd H3 nl (.lst ((ns.eraseIdx d.toNat).map V.str)) = H4 at r4 u1 u3 u4 u5
      refine m_taken (c := c) (r := r) rfl ed_int r4 (by decide) (by decide) fun e H5 e0 e1 m6 r6 => ?_
      have w3 := m6 _ _ nlr u3
      have w4 := m6 _ _ plr u4
      have w5 := m6.dps r4.hd (noList_parts ps) u5
      have w1 := u1.trans m6
      refine ⟨1, e, rfl, rfl, by show 2 ≤ sizeLine; decide, fun T2 hT2 => ?_⟩
      have s2 := same_new hT2 (.tup [.str x, .int (1 + e)])
      refine ⟨pl, pv, _, rfl, rfl, s2 _ _ w4, by rw [dpl_len w5, List.length_map, lf.plen]; exact sz_lt (by omega), ⟨_, _, _, _, _, _, _, _, _, _, _, _, _, _, _, rfl⟩, ?_⟩
      refine ⟨(w1.trans (Mv.same s2)).mut f2 _, RowAt.mut b2 (w1.trans (Mv.same s2)) f2 _ (r6.mono s2), ns.eraseIdx d.toNat, ps ++ [(x, 1 + e)], _, by rw [upd_ne pln.symm]; exact s2 _ _ w3, upd_same, ?_, lf.pop hx (by omega) (by omega)⟩
      rw [List.map_append]
      exact dpl_app (dps_upd (s2 _ _ w4) trivial (noList_parts ps) (dpAll_mono s2 w5)) (.cons (.tup (sqt_upd (s2 _ _ w4) trivial (SqT.of upd_same)) (.cons (.str x) (.cons (.int (1 + e)) .nil))) .nil)
    · obtain ⟨⟨y8, y9, y10, y11, y12, y13, y14, y15, y16, y17, y18, y19, y20, y21, y22, rfl⟩, p1, p2, ns, ps, pv, p3, p4, p5, lf⟩ := p
      have v3 := p1 _ _ blr b3
      have v4 := p1.dps b2.hd (noList_buns bs) b4
      refine ⟨_, rfl, .inl ⟨rfl, _, SqL.of v3⟩, ?_⟩
      refine ⟨_, rfl, (i : Int), rfl, ?_, "bun", _, rfl, rfl, ?_, _, rfl, pl, pv, rfl, .inl ⟨SqL.of p4, fun tl htl => ⟨by show 2 ≤ sizeLine; decide, fun T3 hT3 => ?_⟩⟩⟩
      · rw [Int.natAbs_natCast]
        exact log_small i (by omega)
      · exact Nat.le_trans (bunN_len i (by omega)) (by decide)
      have s3 := same_new htl (.tup pv)
      have s4 := same_new hT3 (.tup [.str (bunN i), .ref tl])
      have s34 := s3.trans s4
      have hps : PartsOk C.is (bs.map (·.1)) ps := by
        have hl := lf.plen
        refine ⟨fun z => ?_, by omega, ?_, fun p hp => ?_⟩
        · rw [z] at hl
          have : (0 : Nat) = (1 + t).toNat := hl
          omega
        · exact (List.nodup_append.mp lf.nd).2.1
        · have := lf.at_ p hp
          rw [← etot] at this
          exact this
      refine ⟨bl, bv, _, rfl, rfl, s34 _ _ v3, by rw [dpl_len v4, List.length_map, hbsl]; exact sz_lt (by omega), ⟨_, _, _, _, _, _, _, _, _, _, _, _, _, _, _, _, _, _, rfl⟩, ?_⟩
      have w1 := (b1.trans p1).trans (Mv.same s34)
      refine ⟨w1.mut hbl _, RowAt.mut rowbb w1 hbl _ (p2.mono s34), bs ++ [(bunN i, ps)], _, upd_same, ?_, dr.more hps⟩
      rw [List.map_append]
      refine dpl_app (dps_upd (s34 _ _ v3) trivial (noList_buns bs) (dpAll_mono s34 v4)) (.cons (.tup (sqt_upd (s34 _ _ v3) trivial (SqT.of upd_same)) (.cons (.str _) (.cons (.tup (sqt_upd (s34 _ _ v3) trivial (SqT.of (s4 _ _ upd_same))) (dps_upd (s34 _ _ v3) trivial (noList_parts ps) (dpAll_mono s34 p5))) .nil))) .nil)
  · obtain ⟨⟨y5, y6, y7, y8, y9, y10, y11, y12, y13, y14, y15, y16, y17, y18, y19, y20, y21, y22, rfl⟩, b1, b2, bs, bv, b3, b4, dr⟩ := p
    have hn3 : n.toNat ≤ 3 := by omega
    have hbsl := dr.len
    have W8 : Law8 C bs := by
      refine ⟨good, dr.good good hn3 hj, dr.rank hn3 hj, fun x hx => dr.name_fine good hn3 hx, h3i.1, h3i.2, fun b hb => ?_, dr.out hn3 hj, tea_in hj⟩
      obtain ⟨k, hk⟩ := List.getElem?_of_mem hb
      have := (dr.parts k b hk).len
      omega
    -- bundles, names
    refine ⟨_, rfl, bl, bv, rfl, SqL.of b3, fun bt G1 hbt s1 plt => ?_⟩
    refine m_names (is := C.is) (bs := bs) (bv := bv) rfl rfl (fun _ => rfl) (fun _ => rfl) (s1 _ _ (b1 _ _ ilr hilH)) (s1 _ _ b3) (dpAll_mono s1 b4) (by omega) (by omega) fun nl G2 s2 hnl => ?_
    refine ⟨by show 2 ≤ sizeLine; decide, fun T hT => ?_⟩
    refine ⟨T, _, rfl, SqT.of upd_same, rfl, _, _, rfl, _, _, rfl, rfl, ?_⟩
    have sN := same_new hnl (.lst ((C.is ++ bs.map (·.1)).map V.str))
    have sT := same_new hT (.tup [.ref bt, .ref nl])
    have s24 := (s2.trans sN).trans sT
    have s14 : Same H' _ := (Same.trans s1 s2).trans (sN.trans sT)
    have env : EnvL K c r il nl bt ac bv C bs (upd (upd G2 nl (.lst ((C.is ++ bs.map (·.1)).map V.str))) T (.tup [.ref bt, .ref nl])) := by
      refine ⟨b2.mono s14, s14 _ _ (b1 _ _ ilr hilH), sT _ _ upd_same, plainT_mono s24 plt, dpAll_mono s14 b4, dp_mono s14 (b1.dp rowb.hd (noList_cat C) dcb), ilr, fun z => ?_⟩
      obtain ⟨xs, hx⟩ := b2.hd
      have := s2 _ _ (s1 _ _ hx)
      rw [z, this] at hnl
      cases hnl
    generalize upd (upd G2 nl (.lst ((C.is ++ bs.map (·.1)).map V.str))) T (.tup [.ref bt, .ref nl]) = HB at env
    clear s1 s2 sN sT s24 s14 plt hT hnl hbt
    -- each name
    refine ⟨_, rfl, nl, rfl, ⟨_, SqL.of env.hnl⟩, ?_⟩
    refine for_list (xs := (namesOf C bs).map V.str) (fun i σ' H' => (∃ y5 y7 y8 y9 y10 y11 y12 y13 y14 y15 y16 y17 y18 y19 y20 y21 y22, σ' = [some (.ref sa), some (.ref r), some (.ref ac), some (.ref il), some (.ref bt), y5, some (.ref nl), y7, y8, y9, y10, y11, y12, y13, y14, y15, y16, y17, y18, y19, y20, y21, y22]) ∧ EnvL K c r il nl bt ac bv C bs H')
      ⟨⟨_, _, _, _, _, _, _, _, _, _, _, _, _, _, _, _, _, rfl⟩, env⟩ (fun i σ' H' _ p => SqL.of p.2.hnl) (fun i x σ' H' hi p => ?_) (fun σ' H' p => ?_)
    · obtain ⟨⟨y5, y7, y8, y9, y10, y11, y12, y13, y14, y15, y16, y17, y18, y19, y20, y21, y22, rfl⟩, en⟩ := p
      obtain ⟨name, hname, rfl⟩ := get_map hi
      have nm := List.mem_of_getElem? hname
      refine m_taken (c := c) (r := r) rfl ed_int en.row (by decide) (by decide) fun t G4 t0 t1 m4 r4 => ⟨1, t, rfl, rfl, ?_⟩
      have en4 := en.mv m4 r4
      have k1 : (1 : Int) ≤ 1 + t := by omega
      have k2 : (1 : Int) + t ≤ 99 := by omega
      dsimp only
      generalize (1 : Int) + t = k at k1 k2 ⊢
      refine q_asg (ed_lcZ (ds := C.is.map .str) (es := C.is.map fun x => .int (cnt C.is bs 4 name k x)) dueP dueG (ea_cons (ed_var rfl en4.its) (ea_cons (ed_lmade en4 W8 rfl rfl (ed_var rfl (.str name)) (ed_var rfl (.int k)) nm (by omega)) ea_nil)) (by rw [List.length_map, List.length_map]) (by rw [List.length_map]; omega) (fun _ _ => rfl)
        (fun k d e hd he x y H5 s5 hxd hye => ?_) (fun k d e hd he _ x y H5 s5 hxd hye => ?_) (fun k d e hd he _ => ?_)) fun v11 H6 s6 h11 => ?_
      · obtain ⟨x2, _, rfl⟩ := get_map he
        exact et_val (ed_I0b (ed_var rfl hye) ed_int)
      · exact ed_tup (ea_cons (ed_var rfl hxd) (ea_cons (ed_var rfl hye) ea_nil)) (by simp)
      · obtain ⟨x1, _, rfl⟩ := get_map hd
        obtain ⟨x2, _, rfl⟩ := get_map he
        rfl
      have en6 := en4.same s6
      dsimp only [tNext, tSeq]
      refine q_if (b := false) (et_not (a := true) (et_val (ed_call (c := .bool true) (ea_cons (ed_call (c := madeD C bs name k) (ea_cons (ed_var rfl en6.cd) (ea_cons (ed_var rfl en6.bun) (ea_cons (ed_var rfl (.str name)) (ea_cons (ed_var rfl (.int k)) ea_nil)))) ⟨C, bs, name, k, rfl, good, W8.gb, (W8.nf name nm).1, (W8.nf name nm).2, W8.rk name nm, k1, k2, rfl⟩) (ea_cons (EvD.is (ed_tuple (ed_var rfl h11)) (due_eq C bs name k)) ea_nil)) ⟨_, rfl, lv_made C bs name k h3i.2, rfl⟩))) (fun e => Bool.noConfusion e) (fun _ H7 s7 => ?_)
      exact ⟨⟨_, _, _, _, _, _, _, _, _, _, _, _, _, _, _, _, _, rfl⟩, en6.same s7⟩
    · obtain ⟨⟨y5, y7, y8, y9, y10, y11, y12, y13, y14, y15, y16, y17, y18, y19, y20, y21, y22, rfl⟩, en⟩ := p
      clear env
      -- wants
      refine m_taken (c := c) (r := r) rfl ed_int en.row (by decide) (by decide) fun t G4 t0 t1 m4 r4 => ⟨1, t, rfl, rfl, 1 + t, rfl, by omega, by omega, fun D hD => ?_⟩
      have en4 := en.mv m4 r4
      have hDr : D ≠ r := fun z => by
        obtain ⟨xs, hx⟩ := r4.hd
        rw [z, hx] at hD
        cases hD
      obtain ⟨n0, nr, enames⟩ : ∃ n0 nr, namesOf C bs = n0 :: nr := by
        cases e : namesOf C bs with
        | nil =>
          have : (namesOf C bs).length = 0 := by rw [e]; rfl
          unfold namesOf at this
          rw [List.length_append] at this
          omega
        | cons a b => exact ⟨a, b, rfl⟩
      have hnr : nr.length ≤ 900 := by
        have : (namesOf C bs).length = nr.length + 1 := by rw [enames]; rfl
        unfold namesOf at this
        rw [List.length_append, List.length_map] at this
        omega
      refine lc_range (lo := 0) (n := (1 + t).toNat) (fun i H2 => Mv r G4 H2 ∧ RowAt K c H2 r ∧ ∃ (ws : List (Str × Int)) (wv : List V), H2 D = some (.lst wv) ∧ DpAll K H2 wv (ws.map partD) ∧ ws.length = i ∧ ∀ w ∈ ws, w.1 ∈ namesOf C bs ∧ 1 ≤ w.2 ∧ w.2 ≤ 2)
        ⟨Mv.same (same_new hD _), r4.mono (same_new hD _), [], [], upd_same, .nil, rfl, fun w h => (by cases h)⟩ (fun i H2 hi p => ?_) (fun H2 p => ?_)
      · obtain ⟨p1, p2, ws, wv, p3, p4, p5, p6⟩ := p
        refine ⟨rfl, ?_⟩
        dsimp only [tYes]
        refine iteT ?_
        have en5 := en4.mv p1 p2
        refine m_pick (c := c) (r := r) (d0 := .str n0) (ds := nr.map .str) rfl (ed_var rfl ((Dp.lst (SqL.of en5.hnl) (strs_dp _)).is (by rw [enames]; rfl))) ⟨rfl, rfl⟩ (noList_strs (n0 :: nr)) p2 (by rw [List.length_map]; exact hnr) fun k d v H3 hk m3 r3 hd => ?_
        obtain ⟨x, hx, rfl⟩ := get_map (f := PyData.str) (l := n0 :: nr) hk
        obtain rfl := dp_str hd
        refine m_taken (c := c) (r := r) rfl ed_int r3 (by decide) (by decide) fun e H4 e0 e1 m5 r5 => ⟨1, e, rfl, rfl, by show 2 ≤ sizeLine; decide, fun T hT => ?_⟩
        have sT := same_new hT (.tup [.str x, .int (1 + e)])
        have m35 := (m3.trans m5).trans (Mv.same sT)
        have q3 := m35 _ _ hDr p3
        have q4 := m35.dps p2.hd (noList_parts ws) p4
        refine ⟨wv, q3, by rw [dpl_len q4, List.length_map, p5]; exact sz_lt (by omega), (p1.trans m35).mut hD _, RowAt.mut r4 (p1.trans m35) hD _ (r5.mono sT), ws ++ [(x, 1 + e)], _, upd_same, ?_, by rw [List.length_append, p5]; rfl, fun w hw => ?_⟩
        · rw [List.map_append]
          exact dpl_app (dps_upd q3 trivial (noList_parts ws) q4) (.cons (.tup (sqt_upd q3 trivial (SqT.of upd_same)) (.cons (.str x) (.cons (.int (1 + e)) .nil))) .nil)
        · rcases List.mem_append.mp hw with m | m
          · exact p6 w m
          · obtain rfl := List.mem_singleton.mp m
            refine ⟨by rw [enames]; exact List.mem_of_getElem? hx, ?_, ?_⟩
            · show 1 ≤ 1 + e
              omega
            · show 1 + e ≤ 2
              omega
      obtain ⟨p1, p2, ws, wv, p3, p4, p5, p6⟩ := p
      refine ⟨D, wv, rfl, .inl ⟨SqL.of p3, fun aw haw => ?_⟩⟩
      have sw := same_new haw (.tup wv)
      have en5 := (en4.mv p1 p2).same sw
      have hws : Dp K (upd H2 aw (.tup wv)) (.ref aw) (.tuple (ws.map partD)) := .tup (SqT.of upd_same) (dpAll_mono sw p4)
      have hwl : ws.length ≤ 3 := by omega
      have hw1 : 1 ≤ ws.length := by omega
      generalize upd H2 aw (.tup wv) = H5 at en5 hws
      clear p1 p2 p3 p4 p5 sw haw hD en4 r4 m4 en
      -- sums
      refine q_asg (ed_zeros (ed_var rfl en5.its) (by omega)) fun v13 H6 s6 h13 => ?_
      have en6 := en5.same s6
      obtain ⟨aw', xs, ew, haw, hxs⟩ := dp_tup (dp_mono s6 hws)
      obtain rfl := V.ref.inj ew
      have hxl : xs.length = ws.length := by rw [dpl_len hxs, List.length_map]
      refine ⟨_, rfl, aw, rfl, ⟨xs, haw⟩, ?_⟩
      refine for_tup (xs := xs) (fun i σ' H' => (∃ y5 y7 y8 y9 y10 y11 v13 y14 y15 y16 y17 y18 y19 y20 y21 y22, σ' = [some (.ref sa), some (.ref r), some (.ref ac), some (.ref il), some (.ref bt), y5, some (.ref nl), y7, y8, y9, y10, y11, some (.ref aw), some v13, y14, y15, y16, y17, y18, y19, y20, y21, y22] ∧ Dp K H' v13 (.list (C.is.map fun x => .int (sumsOf C bs (ws.take i) x)))) ∧ Same H6 H')
        ⟨⟨_, _, _, _, _, _, _, _, _, _, _, _, _, _, _, _, rfl, h13⟩, Same.refl _⟩ (fun i σ' H' _ p => sqt_mono p.2 haw) (fun i x σ' H' hi p => ?_) (fun σ' H' p => ?_)
      · obtain ⟨⟨y5, y7, y8, y9, y10, y11, v13, y14, y15, y16, y17, y18, y19, y20, y21, y22, rfl, h13⟩, s7⟩ := p
        obtain ⟨d, hd, hxd⟩ := dpl_at hxs hi
        obtain ⟨wt, hwt, rfl⟩ := get_map hd
        have hwm := p6 wt (List.mem_of_getElem? hwt)
        obtain ⟨at_, zs, rfl, hat, hzs⟩ := dp_tup (dp_mono s7 hxd)
        obtain ⟨z1, z2, rfl, hz1, hz2⟩ := dp2 hzs
        obtain rfl := dp_str hz1
        obtain rfl := dp_int hz2
        have en7 := en6.same s7
        refine ⟨at_, _, rfl, hat, rfl, .str wt.1, _, rfl, .int wt.2, _, rfl, rfl, ?_⟩
        refine q_asg (EvD.is (ed_lcZ (ds := C.is.map fun x => .int (sumsOf C bs (ws.take i) x)) (es := C.is.map fun x => .int (cnt C.is bs 4 wt.1 wt.2 x)) (fun _ _ => true) addD (ea_cons (ed_var rfl h13) (ea_cons (ed_lmade en7 W8 rfl rfl (ed_var rfl (.str wt.1)) (ed_var rfl (.int wt.2)) hwm.1 (by omega)) ea_nil)) (by rw [List.length_map, List.length_map]) (by rw [List.length_map]; omega) (fun _ _ => rfl) (fun _ _ _ _ _ _ _ _ _ _ _ => et_yes)
          (fun k d e hd he _ x y H5 s5 hxd hye => ?_) (fun k d e hd he _ => ?_)) (congrArg PyData.list (zip_add C.is _ _))) fun v H8 s8 hv => ?_
        · obtain ⟨x1, _, rfl⟩ := get_map hd
          obtain ⟨x2, _, rfl⟩ := get_map he
          exact ed_I0 (ed_var rfl hxd) (ed_var rfl hye)
        · obtain ⟨x1, _, rfl⟩ := get_map hd
          obtain ⟨x2, _, rfl⟩ := get_map he
          rfl
        · refine ⟨⟨_, _, _, _, _, _, _, _, _, _, _, _, _, _, _, _, rfl, ?_⟩, s7.trans s8⟩
          have : (C.is.map fun x => PyData.int (sumsOf C bs (ws.take (i + 1)) x)) = C.is.map fun x => .int (sumsOf C bs (ws.take i) x + cnt C.is bs 4 wt.1 wt.2 x) := List.map_congr_left fun x _ => by
            unfold sumsOf
            rw [take_sum hwt]
          rw [this]
          exact hv
      obtain ⟨⟨y5, y7, y8, y9, y10, y11, v13', y14, y15, y16, y17, y18, y19, y20, y21, y22, rfl, h13'⟩, s7⟩ := p
      rw [hxl, List.take_length] at h13'
      have en7 := en6.same s7
      have hws7 := dp_mono (s6.trans s7) hws
      clear h13 en6 en5 hws haw hxs
      dsimp only [tNext, tSeq]
      -- due
      refine q_asg (EvD.is (ed_tuple (ed_lcZ (ds := C.is.map .str) (es := C.is.map fun x => .int (sumsOf C bs ws x)) dueP dueG2 (ea_cons (ed_var rfl en7.its) (ea_cons (ed_var rfl h13') ea_nil)) (by rw [List.length_map, List.length_map]) (by rw [List.length_map]; omega) (fun _ _ => rfl)
        (fun k d e hd he x y H5 s5 hxd hye => ?_) (fun k d e hd he _ x y H5 s5 hxd hye => ?_) (fun k d e hd he _ => ?_))) (wish_eq C bs ws)) fun v11 H8 s8 h11 => ?_
      · obtain ⟨x2, _, rfl⟩ := get_map he
        exact et_val (ed_I0b (ed_var rfl hye) ed_int)
      · exact ed_tup (ea_cons (ed_tup (ea_cons (ed_var rfl hxd) ea_nil) (by simp)) (ea_cons (ed_var rfl hye) ea_nil)) (by simp)
      · obtain ⟨x1, _, rfl⟩ := get_map hd
        obtain ⟨x2, _, rfl⟩ := get_map he
        rfl
      have en8 := en7.same s8
      have h13 := dp_mono s8 h13'
      have hws8 := dp_mono s8 hws7
      clear en7 h13' hws7
      obtain ⟨i0, hi0⟩ : ∃ i0, C.is[0]? = some i0 := ⟨C.is[0]'h3i.1, List.getElem?_eq_getElem _⟩
      have hi0m := List.mem_of_getElem? hi0
      have hrs : 1 ≤ C.rs.length := (names_len good.rs).1
      obtain ⟨r0, hr0s⟩ : ∃ r0, C.rs[0]? = some r0 := ⟨C.rs[0]'hrs, List.getElem?_eq_getElem _⟩
      have region : ∀ {σ : L2.St} {H1 : Hp}, EnvL K c r il nl bt ac bv C bs H1 → σ[2]? = some (some (.ref ac)) → EvD K (tOp (rIxT K) (tOp (rIxT K) (tVar 2) (tC (.int 1))) (tC (.int 0))) σ H1 (.str r0) := fun e h =>
        ed_ixT (k := 0) (ed_ixT (k := 1) (ed_var h e.cd) ed_int rfl) ed_int (by rw [List.getElem?_map, hr0s]; rfl)
      have item0 : ∀ {σ : L2.St} {H1 : Hp}, EnvL K c r il nl bt ac bv C bs H1 → σ[3]? = some (some (.ref il)) → EvD K (tOp (rIxL K) (tVar 3) (tC (.int 0))) σ H1 (.str i0) := fun e h =>
        ed_ixL (k := 0) (ed_var h e.its) ed_int (by rw [List.getElem?_map, hi0]; rfl)
      have fineW : ∀ w ∈ ws, Fine w.1 := fun w hw => (W8.nf w.1 (p6 w hw).1).2
      have wg := wants_good W8 hw1 p6
      dsimp only
      refine q_seqN (fun σ' H' => (∃ y5 y7 y8 y9 y10 y11 y12 y13 y14 y15 y16 y17 y18 y19 y20 y21 y22, σ' = [some (.ref sa), some (.ref r), some (.ref ac), some (.ref il), some (.ref bt), y5, some (.ref nl), y7, y8, y9, y10, y11, y12, y13, y14, y15, y16, y17, y18, y19, y20, y21, y22]) ∧ EnvL K c r il nl bt ac bv C bs H') (fun σ' H' p => ?_) (fun D' hrt hnx => ?_)
      rotate_left
      · -- the order itself
        refine q_asgS (ea_cons (ed_var rfl en8.cd) (ea_cons (ed_var rfl en8.bun) (ea_cons ed_str (ea_cons (region en8 rfl) (ea_cons (ed_var rfl hws8) (ea_cons ed_int (ea_cons ed_int ea_nil))))))) fun vs H9 s9 hvs => ?_
        refine ⟨C, bs, _, _, _, _, _, hvs, good, W8.gb, h3i.2, W8.rk, .inr ⟨ws, rfl, by omega, fineW, fun z => absurd (wg.symm.trans z) (fun e => Bool.noConfusion e), fun _ few => ?_, fun _ few => ?_⟩⟩
        · intro H10 s10
          refine Exists.intro true ⟨E_BadOrder.te, fun _ a ha => ?_, fun e => Bool.noConfusion e⟩
          refine q_if (b := false) ((et_val (ed_eqD (ed_big rfl (dp_mono (s9.trans s10) h13) h3i.2 (fun _ => rfl) (fun _ => rfl)) (ed_lst ea_nil (by simp)) (shaped_list (big_flat C bs ws)) (shaped_list (es := []) (by simp)))).is (by rw [eqv_empty, decide_eq_false (big_some few)])) (fun e => Bool.noConfusion e) (fun _ H11 s11 => ?_)
          exact hnx _ _ ⟨⟨_, _, _, _, _, _, _, _, _, _, _, _, _, _, _, _, _, rfl⟩, en8.same ((s9.trans s10).trans s11)⟩
        · intro v14 H10 s10 h14
          have en10 := en8.same (s9.trans s10)
          have h11' := dp_mono (s9.trans s10) h11
          have h13' := dp_mono (s9.trans s10) h13
          refine q_if (b := false) ((et_or (et_not (a := true) (et_val (ed_call (c := .bool true) (ea_cons (ed_var rfl h14) (ea_cons (ed_tup (ea_cons ed_str (ea_cons (region en10 rfl) (ea_cons (ed_var rfl h11') (ea_cons ed_int (ea_cons ed_int ea_nil))))) (by simp)) ea_nil)) ⟨_, rfl, lv_told C bs ws r0 h3i.2, rfl⟩)))
            fun _ => et_val (ed_neD (ed_big rfl h13' h3i.2 (fun _ => rfl) (fun _ => rfl)) (ed_lst ea_nil (by simp)) (shaped_list (big_flat C bs ws)) (shaped_list (es := []) (by simp)))).is (by rw [big_none few, eqv_empty]; rfl)) (fun e => Bool.noConfusion e) (fun _ H11 s11 => ?_)
          exact hnx _ _ ⟨⟨_, _, _, _, _, _, _, _, _, _, _, _, _, _, _, _, _, rfl⟩, en10.same s11⟩
      · obtain ⟨⟨y5, y7, y8, y9, y10, y11, y12, y13, y14, y15, y16, y17, y18, y19, y20, y21, y22, rfl⟩, en⟩ := p
        refine q_seqN (fun σ' H' => (∃ y5 y7 y8 y9 y10 y11 y12 y13 y14 y15 y16 y17 y18 y19 y20 y21 y22, σ' = [some (.ref sa), some (.ref r), some (.ref ac), some (.ref il), some (.ref bt), y5, some (.ref nl), y7, y8, y9, y10, y11, y12, y13, y14, y15, y16, y17, y18, y19, y20, y21, y22]) ∧ EnvL K c r il nl bt ac bv C bs H') (fun σ' H' p => ?_) (fun D' hrt hnx => ?_)
        rotate_left
        · -- odd wants
          refine q_asg (d := .list (oddL i0)) (ed_lst (ea_cons ed_non (ea_cons (ed_tup ea_nil (by simp)) (ea_cons (ed_tup (ea_cons (ed_tup (ea_cons ed_str (ea_cons ed_int ea_nil)) (by simp)) ea_nil) (by simp)) (ea_cons (ed_tup (ea_cons (ed_tup (ea_cons (item0 en rfl) (ea_cons ed_int ea_nil)) (by simp)) ea_nil) (by simp)) (ea_cons (ed_tup (ea_cons (ed_tup (ea_cons (item0 en rfl) (ea_cons ed_int ea_nil)) (by simp)) ea_nil) (by simp)) ea_nil))))) (by show 5 ≤ 100000; decide)) fun v16 H9 s9 h16 => ?_
          have en9 := en.same s9
          dsimp only [tNext, tSeq, tDrop]
          refine ⟨_, rfl, _, rfl, ?_⟩
          show tOp (rIxT K) (tOp (rIxT K) (tVar 2) (tC (.int 1))) (tC (.int 0)) _ _ _
          refine q_ev (region en9 rfl) fun vr H10 s10 hvr => ?_
          have en10 := en9.same s10
          refine m_pick (c := c) (r := r) (d0 := .none) (ds := (oddL i0).tail) rfl (ed_var rfl (dp_mono s10 h16)) ⟨rfl, rfl⟩ rfl en10.row (by show 4 ≤ 900; decide) fun j d vd H11 hj m11 r11 hdd => ?_
          have en11 := en10.mv m11 r11
          have odd := odd_at W8 hi0m hj
          refine ⟨C, bs, .str "o", .str r0, d, .int 5, .int 2, .cons en11.cd (.cons en11.bun (.cons (.str _) (.cons ?_ (.cons hdd (.cons (.int 5) (.cons (.int 2) .nil)))))), good, W8.gb, h3i.2, W8.rk, ?_⟩
          · obtain rfl := dp_str hvr
            exact .str _
          · have hbad : bad H11 (WE (wAs K (.ref CO) 15 (fun a cls d => tAsg (tTup tNil) (gName 11)) (fun _ _ _ _ => False) D') ([some (.ref sa), some (.ref r), some (.ref ac), some (.ref il), some (.ref bt), y5, some (.ref nl), y7, y8, y9, y10, y11, y12, y13, y14, y15, some v16, y17, y18, y19, y20, y21, y22])) CO := by
              intro H12 s12
              refine Exists.intro true ⟨E_BadOrder.te, fun _ a ha => ?_, fun e => Bool.noConfusion e⟩
              refine ⟨by show 0 ≤ sizeLine; decide, fun p hp => ?_⟩
              exact hnx _ _ ⟨⟨_, _, _, _, _, _, _, _, _, _, _, _, _, _, _, _, _, rfl⟩, (en11.same s12).same (same_new hp _)⟩
            rcases odd with rfl | ⟨ws', rfl, o1, o2, o3⟩
            · exact .inl ⟨rfl, hbad⟩
            · exact .inr ⟨ws', rfl, o1, o2, fun _ => hbad, fun z => absurd (o3.symm.trans z) (fun e => Bool.noConfusion e), fun z => absurd (o3.symm.trans z) (fun e => Bool.noConfusion e)⟩
        · obtain ⟨⟨y5, y7, y8, y9, y10, y11, y12, y13, y14, y15, y16, y17, y18, y19, y20, y21, y22, rfl⟩, en⟩ := p
          -- wrong bundles
          refine q_asg (d := .list (wrongL i0)) (ed_lst (ea_cons ed_non (ea_cons (ed_tup (ea_cons (ed_tup (ea_cons ed_str (ea_cons (ed_tup (ea_cons (ed_tup (ea_cons ed_str (ea_cons ed_int ea_nil)) (by simp)) ea_nil) (by simp)) ea_nil)) (by simp)) ea_nil) (by simp)) (ea_cons (ed_tup (ea_cons (ed_tup (ea_cons ed_str (ea_cons (ed_tup ea_nil (by simp)) ea_nil)) (by simp)) ea_nil) (by simp))
            (ea_cons (ed_tup (ea_cons (ed_tup (ea_cons ed_str (ea_cons (ed_tup (ea_cons (ed_tup (ea_cons ed_str (ea_cons ed_int ea_nil)) (by simp)) ea_nil) (by simp)) ea_nil)) (by simp)) ea_nil) (by simp)) (ea_cons (ed_tup (ea_cons (ed_tup (ea_cons ed_str (ea_cons (ed_tup (ea_cons (ed_tup (ea_cons (item0 en rfl) (ea_cons ed_int ea_nil)) (by simp)) ea_nil) (by simp)) ea_nil)) (by simp)) ea_nil) (by simp)) ea_nil))))) (by show 5 ≤ 100000; decide)) fun v17 H9 s9 h17 => ?_
          have en9 := en.same s9
          dsimp only [tNext, tSeq, tDrop]
          refine ⟨_, rfl, ?_⟩
          refine m_pick (c := c) (r := r) (d0 := .none) (ds := (wrongL i0).tail) rfl (ed_var rfl h17) ⟨rfl, rfl⟩ rfl en9.row (by show 4 ≤ 900; decide) fun j d vd H11 hj m11 r11 hdd => ?_
          have en11 := en9.mv m11 r11
          have wrong := wrong_at W8 hi0m hj
          show tOp (rIxL K) (tVar 3) (tC (.int 0)) _ _ _
          refine q_ev (item0 en11 rfl) fun vi H12 s12 hvi => ?_
          have en12 := en11.same s12
          have hdd' : Dp K H12 vd d := dp_mono s12 hdd
          refine ⟨C, d, .str i0, .int 1, .cons en12.cd (.cons hdd' (.cons hvi (.cons (.int 1) .nil))), good, wrong, fun H13 s13 => ?_⟩
          refine Exists.intro true ⟨E_BadItem.te, fun _ a ha => ?_, fun e => Bool.noConfusion e⟩
          exact q _
end
end K8
set_option maxRecDepth 100000
set_option maxHeartbeats 4000000
/-! FnQ: the end. -/
namespace K8
open PySem PySem.Spec PyProof.Rows L2
theorem all_mk {P : Program} {w : World} {K : PySem.W.Frag} {h : Heap} {mg : Str → Option Value} {fa : Addr} (X : K.In h) (G : h.Ns mainGlobals mg) (hfa : mg "law" = some (.ref fa))
    {f0 : Addr} {od0 an0 : Option Addr} {sl0 : Array (Option Value)} {oc0 kV0 dc0 pm0 cd0 ct0 : Value}
    (a_is_whole : PySem.W.nsIn K mainGlobals "is_whole" = some (some (.ref f0))) (l_is_whole : K.lookup f0 = some ⟨oc0, od0, .func (PySem.W.fnOf "is_whole" "is_whole" (defArgs s_is_whole) (defBody s_is_whole) (defScope s_is_whole) .none kV0 dc0 pm0 an0 cd0 ct0), sl0⟩) (c_is_whole : PySem.W.codeIn K cd0 "is_whole" = true) (k_is_whole : PySem.W.keepIn K (.ref f0) = true)
    {f1 : Addr} {od1 an1 : Option Addr} {sl1 : Array (Option Value)} {oc1 kV1 dc1 pm1 cd1 ct1 : Value}
    (a_is_name : PySem.W.nsIn K mainGlobals "is_name" = some (some (.ref f1))) (l_is_name : K.lookup f1 = some ⟨oc1, od1, .func (PySem.W.fnOf "is_name" "is_name" (defArgs s_is_name) (defBody s_is_name) (defScope s_is_name) .none kV1 dc1 pm1 an1 cd1 ct1), sl1⟩) (c_is_name : PySem.W.codeIn K cd1 "is_name" = true) (k_is_name : PySem.W.keepIn K (.ref f1) = true)
    {f2 : Addr} {od2 an2 : Option Addr} {sl2 : Array (Option Value)} {oc2 kV2 dc2 pm2 cd2 ct2 : Value}
    (a_are_unlike : PySem.W.nsIn K mainGlobals "are_unlike" = some (some (.ref f2))) (l_are_unlike : K.lookup f2 = some ⟨oc2, od2, .func (PySem.W.fnOf "are_unlike" "are_unlike" (defArgs s_are_unlike) (defBody s_are_unlike) (defScope s_are_unlike) .none kV2 dc2 pm2 an2 cd2 ct2), sl2⟩) (c_are_unlike : PySem.W.codeIn K cd2 "are_unlike" = true) (k_are_unlike : PySem.W.keepIn K (.ref f2) = true)
    {f3 : Addr} {od3 an3 : Option Addr} {sl3 : Array (Option Value)} {oc3 kV3 dc3 pm3 cd3 ct3 : Value}
    (a_are_names : PySem.W.nsIn K mainGlobals "are_names" = some (some (.ref f3))) (l_are_names : K.lookup f3 = some ⟨oc3, od3, .func (PySem.W.fnOf "are_names" "are_names" (defArgs s_are_names) (defBody s_are_names) (defScope s_are_names) .none kV3 dc3 pm3 an3 cd3 ct3), sl3⟩) (c_are_names : PySem.W.codeIn K cd3 "are_names" = true) (k_are_names : PySem.W.keepIn K (.ref f3) = true)
    {f4 : Addr} {od4 an4 : Option Addr} {sl4 : Array (Option Value)} {oc4 kV4 dc4 pm4 cd4 ct4 : Value}
    (a_are_rows : PySem.W.nsIn K mainGlobals "are_rows" = some (some (.ref f4))) (l_are_rows : K.lookup f4 = some ⟨oc4, od4, .func (PySem.W.fnOf "are_rows" "are_rows" (defArgs s_are_rows) (defBody s_are_rows) (defScope s_are_rows) .none kV4 dc4 pm4 an4 cd4 ct4), sl4⟩) (c_are_rows : PySem.W.codeIn K cd4 "are_rows" = true) (k_are_rows : PySem.W.keepIn K (.ref f4) = true)
    {f5 : Addr} {od5 an5 : Option Addr} {sl5 : Array (Option Value)} {oc5 kV5 dc5 pm5 cd5 ct5 : Value}
    (a_is_lane : PySem.W.nsIn K mainGlobals "is_lane" = some (some (.ref f5))) (l_is_lane : K.lookup f5 = some ⟨oc5, od5, .func (PySem.W.fnOf "is_lane" "is_lane" (defArgs s_is_lane) (defBody s_is_lane) (defScope s_is_lane) .none kV5 dc5 pm5 an5 cd5 ct5), sl5⟩) (c_is_lane : PySem.W.codeIn K cd5 "is_lane" = true) (k_is_lane : PySem.W.keepIn K (.ref f5) = true)
    {f6 : Addr} {od6 an6 : Option Addr} {sl6 : Array (Option Value)} {oc6 kV6 dc6 pm6 cd6 ct6 : Value}
    (a_is_supply : PySem.W.nsIn K mainGlobals "is_supply" = some (some (.ref f6))) (l_is_supply : K.lookup f6 = some ⟨oc6, od6, .func (PySem.W.fnOf "is_supply" "is_supply" (defArgs s_is_supply) (defBody s_is_supply) (defScope s_is_supply) .none kV6 dc6 pm6 an6 cd6 ct6), sl6⟩) (c_is_supply : PySem.W.codeIn K cd6 "is_supply" = true) (k_is_supply : PySem.W.keepIn K (.ref f6) = true)
    {f7 : Addr} {od7 an7 : Option Addr} {sl7 : Array (Option Value)} {oc7 kV7 dc7 pm7 cd7 ct7 : Value}
    (a_is_catalog : PySem.W.nsIn K mainGlobals "is_catalog" = some (some (.ref f7))) (l_is_catalog : K.lookup f7 = some ⟨oc7, od7, .func (PySem.W.fnOf "is_catalog" "is_catalog" (defArgs s_is_catalog) (defBody s_is_catalog) (defScope s_is_catalog) .none kV7 dc7 pm7 an7 cd7 ct7), sl7⟩) (c_is_catalog : PySem.W.codeIn K cd7 "is_catalog" = true) (k_is_catalog : PySem.W.keepIn K (.ref f7) = true)
    {f8 : Addr} {od8 an8 : Option Addr} {sl8 : Array (Option Value)} {oc8 kV8 dc8 pm8 cd8 ct8 : Value}
    (a_need_catalog : PySem.W.nsIn K mainGlobals "need_catalog" = some (some (.ref f8))) (l_need_catalog : K.lookup f8 = some ⟨oc8, od8, .func (PySem.W.fnOf "need_catalog" "need_catalog" (defArgs s_need_catalog) (defBody s_need_catalog) (defScope s_need_catalog) .none kV8 dc8 pm8 an8 cd8 ct8), sl8⟩) (c_need_catalog : PySem.W.codeIn K cd8 "need_catalog" = true) (k_need_catalog : PySem.W.keepIn K (.ref f8) = true)
    {f9 : Addr} {od9 an9 : Option Addr} {sl9 : Array (Option Value)} {oc9 kV9 dc9 pm9 cd9 ct9 : Value}
    (a_is_bundle : PySem.W.nsIn K mainGlobals "is_bundle" = some (some (.ref f9))) (l_is_bundle : K.lookup f9 = some ⟨oc9, od9, .func (PySem.W.fnOf "is_bundle" "is_bundle" (defArgs s_is_bundle) (defBody s_is_bundle) (defScope s_is_bundle) .none kV9 dc9 pm9 an9 cd9 ct9), sl9⟩) (c_is_bundle : PySem.W.codeIn K cd9 "is_bundle" = true) (k_is_bundle : PySem.W.keepIn K (.ref f9) = true)
    {f10 : Addr} {od10 an10 : Option Addr} {sl10 : Array (Option Value)} {oc10 kV10 dc10 pm10 cd10 ct10 : Value}
    (a_need_bundles : PySem.W.nsIn K mainGlobals "need_bundles" = some (some (.ref f10))) (l_need_bundles : K.lookup f10 = some ⟨oc10, od10, .func (PySem.W.fnOf "need_bundles" "need_bundles" (defArgs s_need_bundles) (defBody s_need_bundles) (defScope s_need_bundles) .none kV10 dc10 pm10 an10 cd10 ct10), sl10⟩) (c_need_bundles : PySem.W.codeIn K cd10 "need_bundles" = true) (k_need_bundles : PySem.W.keepIn K (.ref f10) = true)
    {f11 : Addr} {od11 an11 : Option Addr} {sl11 : Array (Option Value)} {oc11 kV11 dc11 pm11 cd11 ct11 : Value}
    (a_counts_in : PySem.W.nsIn K mainGlobals "counts_in" = some (some (.ref f11))) (l_counts_in : K.lookup f11 = some ⟨oc11, od11, .func (PySem.W.fnOf "counts_in" "counts_in" (defArgs s_counts_in) (defBody s_counts_in) (defScope s_counts_in) .none kV11 dc11 pm11 an11 cd11 ct11), sl11⟩) (c_counts_in : PySem.W.codeIn K cd11 "counts_in" = true) (k_counts_in : PySem.W.keepIn K (.ref f11) = true)
    {f12 : Addr} {od12 an12 : Option Addr} {sl12 : Array (Option Value)} {oc12 kV12 dc12 pm12 cd12 ct12 : Value}
    (a_made_of : PySem.W.nsIn K mainGlobals "made_of" = some (some (.ref f12))) (l_made_of : K.lookup f12 = some ⟨oc12, od12, .func (PySem.W.fnOf "made_of" "made_of" (defArgs s_made_of) (defBody s_made_of) (defScope s_made_of) .none kV12 dc12 pm12 an12 cd12 ct12), sl12⟩) (c_made_of : PySem.W.codeIn K cd12 "made_of" = true) (k_made_of : PySem.W.keepIn K (.ref f12) = true)
    {f13 : Addr} {od13 an13 : Option Addr} {sl13 : Array (Option Value)} {oc13 kV13 dc13 pm13 cd13 ct13 : Value}
    (a_opened : PySem.W.nsIn K mainGlobals "opened" = some (some (.ref f13))) (l_opened : K.lookup f13 = some ⟨oc13, od13, .func (PySem.W.fnOf "opened" "opened" (defArgs s_opened) (defBody s_opened) (defScope s_opened) .none kV13 dc13 pm13 an13 cd13 ct13), sl13⟩) (c_opened : PySem.W.codeIn K cd13 "opened" = true) (k_opened : PySem.W.keepIn K (.ref f13) = true)
    {f14 : Addr} {od14 an14 : Option Addr} {sl14 : Array (Option Value)} {oc14 kV14 dc14 pm14 cd14 ct14 : Value}
    (a_law_taken : PySem.W.nsIn K mainGlobals "_law_taken" = some (some (.ref f14))) (l_law_taken : K.lookup f14 = some ⟨oc14, od14, .func (PySem.W.fnOf "_law_taken" "_law_taken" (defArgs s_law_taken) (defBody s_law_taken) (defScope s_law_taken) .none kV14 dc14 pm14 an14 cd14 ct14), sl14⟩) (c_law_taken : PySem.W.codeIn K cd14 "_law_taken" = true) (k_law_taken : PySem.W.keepIn K (.ref f14) = true)
    {f15 : Addr} {od15 an15 : Option Addr} {sl15 : Array (Option Value)} {oc15 kV15 dc15 pm15 cd15 ct15 : Value}
    (a_law_pick : PySem.W.nsIn K mainGlobals "_law_pick" = some (some (.ref f15))) (l_law_pick : K.lookup f15 = some ⟨oc15, od15, .func (PySem.W.fnOf "_law_pick" "_law_pick" (defArgs s_law_pick) (defBody s_law_pick) (defScope s_law_pick) .none kV15 dc15 pm15 an15 cd15 ct15), sl15⟩) (c_law_pick : PySem.W.codeIn K cd15 "_law_pick" = true) (k_law_pick : PySem.W.keepIn K (.ref f15) = true)
    {f16 : Addr} {od16 an16 : Option Addr} {sl16 : Array (Option Value)} {oc16 kV16 dc16 pm16 cd16 ct16 : Value}
    (a_law_alike : PySem.W.nsIn K mainGlobals "_law_alike" = some (some (.ref f16))) (l_law_alike : K.lookup f16 = some ⟨oc16, od16, .func (PySem.W.fnOf "_law_alike" "_law_alike" (defArgs s_law_alike) (defBody s_law_alike) (defScope s_law_alike) .none kV16 dc16 pm16 an16 cd16 ct16), sl16⟩) (c_law_alike : PySem.W.codeIn K cd16 "_law_alike" = true) (k_law_alike : PySem.W.keepIn K (.ref f16) = true)
    {f17 : Addr} {od17 an17 : Option Addr} {sl17 : Array (Option Value)} {oc17 kV17 dc17 pm17 cd17 ct17 : Value}
    (a_law_catalog : PySem.W.nsIn K mainGlobals "_law_catalog" = some (some (.ref f17))) (l_law_catalog : K.lookup f17 = some ⟨oc17, od17, .func (PySem.W.fnOf "_law_catalog" "_law_catalog" (defArgs s_law_catalog) (defBody s_law_catalog) (defScope s_law_catalog) .none kV17 dc17 pm17 an17 cd17 ct17), sl17⟩) (c_law_catalog : PySem.W.codeIn K cd17 "_law_catalog" = true) (k_law_catalog : PySem.W.keepIn K (.ref f17) = true)
    {f18 : Addr} {od18 an18 : Option Addr} {sl18 : Array (Option Value)} {oc18 kV18 dc18 pm18 cd18 ct18 : Value}
    (a_law_made : PySem.W.nsIn K mainGlobals "_law_made" = some (some (.ref f18))) (l_law_made : K.lookup f18 = some ⟨oc18, od18, .func (PySem.W.fnOf "_law_made" "_law_made" (defArgs s_law_made) (defBody s_law_made) (defScope s_law_made) .none kV18 dc18 pm18 an18 cd18 ct18), sl18⟩) (c_law_made : PySem.W.codeIn K cd18 "_law_made" = true) (k_law_made : PySem.W.keepIn K (.ref f18) = true)
    {f19 : Addr} {od19 an19 : Option Addr} {sl19 : Array (Option Value)} {oc19 kV19 dc19 pm19 cd19 ct19 : Value}
    (a_law : PySem.W.nsIn K mainGlobals "law" = some (some (.ref f19))) (l_law : K.lookup f19 = some ⟨oc19, od19, .func (PySem.W.fnOf "law" "law" (defArgs s_law) (defBody s_law) (defScope s_law) .none kV19 dc19 pm19 an19 cd19 ct19), sl19⟩) (c_law : PySem.W.codeIn K cd19 "law" = true) (k_law : PySem.W.keepIn K (.ref f19) = true)
    (z_len : PySem.W.nsIn K mainGlobals "len" = some none)
    (z_isinstance : PySem.W.nsIn K mainGlobals "isinstance" = some none)
    (z_all : PySem.W.nsIn K mainGlobals "all" = some none)
    (z_min : PySem.W.nsIn K mainGlobals "min" = some none)
    (z_range : PySem.W.nsIn K mainGlobals "range" = some none)
    (z_enumerate : PySem.W.nsIn K mainGlobals "enumerate" = some none)
    (z_zip : PySem.W.nsIn K mainGlobals "zip" = some none)
    (z_int : PySem.W.nsIn K mainGlobals "int" = some none)
    (z_str : PySem.W.nsIn K mainGlobals "str" = some none)
    (z_bool : PySem.W.nsIn K mainGlobals "bool" = some none)
    (z_tuple : PySem.W.nsIn K mainGlobals "tuple" = some none)
    (z_list : PySem.W.nsIn K mainGlobals "list" = some none)
    (z_dict : PySem.W.nsIn K mainGlobals "dict" = some none)
    {tk0 : Tok} (g_SMALL : PySem.W.nsIn K mainGlobals "SMALL" = some (some (.str smallC tk0)))
    {tk1 : Tok} (g_FIGURES : PySem.W.nsIn K mainGlobals "FIGURES" = some (some (.str figC tk1)))
    {tk2 : Tok} (g_MOST_PLACES : PySem.W.nsIn K mainGlobals "MOST_PLACES" = some (some (.int 5 tk2)))
    {tk3 : Tok} (g_MOST_LANES : PySem.W.nsIn K mainGlobals "MOST_LANES" = some (some (.int 20 tk3)))
    {tk4 : Tok} (g_MOST_SUPPLIES : PySem.W.nsIn K mainGlobals "MOST_SUPPLIES" = some (some (.int 14 tk4)))
    {tk5 : Tok} (g_MOST_WISHES : PySem.W.nsIn K mainGlobals "MOST_WISHES" = some (some (.int 3 tk5)))
    {tk6 : Tok} (g_LAST_DAY : PySem.W.nsIn K mainGlobals "LAST_DAY" = some (some (.int 60 tk6)))
    {tk7 : Tok} (g_ITEMS : PySem.W.nsIn K mainGlobals "ITEMS" = some (some (.int 2 tk7)))
    {CBadOrder : Addr} (n_BadOrder : PySem.W.nsIn K mainGlobals "BadOrder" = some (some (.ref CBadOrder))) (x_BadOrder : PySem.W.excIn K CBadOrder [.type "ValueError", .type "Exception", .type "BaseException", .type "object"] "ValueError.__new__" = true) (e_BadOrder : PySem.W.keepIn K (.ref CBadOrder) = true) (b_BadOrder : PySem.W.subIn K (.ref CBadOrder) (.type "BaseException") = some true) (t_BadOrder : PySem.W.typeIn K (.ref CBadOrder) = some (.type "type")) (i_BadOrder : PySem.W.isClsIn K CBadOrder = true) (s_BadOrder : PySem.W.subIn K (.ref CBadOrder) (.ref CBadOrder) = some true)
    {CBadItem : Addr} (n_BadItem : PySem.W.nsIn K mainGlobals "BadItem" = some (some (.ref CBadItem))) (x_BadItem : PySem.W.excIn K CBadItem [.type "ValueError", .type "Exception", .type "BaseException", .type "object"] "ValueError.__new__" = true) (e_BadItem : PySem.W.keepIn K (.ref CBadItem) = true) (b_BadItem : PySem.W.subIn K (.ref CBadItem) (.type "BaseException") = some true) (t_BadItem : PySem.W.typeIn K (.ref CBadItem) = some (.type "type")) (i_BadItem : PySem.W.isClsIn K CBadItem = true) (s_BadItem : PySem.W.subIn K (.ref CBadItem) (.ref CBadItem) = some true)
    : ∃ fd : FuncData, (∀ (s : Shared) (v : Value), BindsTo s fd ⟨[v], []⟩ [("_law_script", v)]) ∧ ∀ base : Heap, K.In base → base.Ns mainGlobals mg → FnOk P w K mg base CX0 8 fa fd ["_law_script"] (sp_law K) := by
  have e := hfa.symm.trans (PySem.W.mg_of X G a_law)
  cases e
  have F_is_whole := fun_mk (st := s_is_whole) l_is_whole c_is_whole k_is_whole
  have b_is_whole := F_is_whole.binds (ps := P_is_whole) fun _ _ _ _ _ _ us hl => match us, hl with | [_, _, _], _ => rfl
  have N_is_whole : Fn K mg "is_whole" s_is_whole f0 _ := ⟨F_is_whole, PySem.W.mg_of X G a_is_whole⟩
  have F_is_name := fun_mk (st := s_is_name) l_is_name c_is_name k_is_name
  have b_is_name := F_is_name.binds (ps := P_is_name) fun _ _ _ _ _ _ us hl => match us, hl with | [_], _ => rfl
  have N_is_name : Fn K mg "is_name" s_is_name f1 _ := ⟨F_is_name, PySem.W.mg_of X G a_is_name⟩
  have F_are_unlike := fun_mk (st := s_are_unlike) l_are_unlike c_are_unlike k_are_unlike
  have b_are_unlike := F_are_unlike.binds (ps := P_are_unlike) fun _ _ _ _ _ _ us hl => match us, hl with | [_], _ => rfl
  have N_are_unlike : Fn K mg "are_unlike" s_are_unlike f2 _ := ⟨F_are_unlike, PySem.W.mg_of X G a_are_unlike⟩
  have F_are_names := fun_mk (st := s_are_names) l_are_names c_are_names k_are_names
  have b_are_names := F_are_names.binds (ps := P_are_names) fun _ _ _ _ _ _ us hl => match us, hl with | [_, _], _ => rfl
  have N_are_names : Fn K mg "are_names" s_are_names f3 _ := ⟨F_are_names, PySem.W.mg_of X G a_are_names⟩
  have F_are_rows := fun_mk (st := s_are_rows) l_are_rows c_are_rows k_are_rows
  have b_are_rows := F_are_rows.binds (ps := P_are_rows) fun _ _ _ _ _ _ us hl => match us, hl with | [_, _, _], _ => rfl
  have N_are_rows : Fn K mg "are_rows" s_are_rows f4 _ := ⟨F_are_rows, PySem.W.mg_of X G a_are_rows⟩
  have F_is_lane := fun_mk (st := s_is_lane) l_is_lane c_is_lane k_is_lane
  have b_is_lane := F_is_lane.binds (ps := P_is_lane) fun _ _ _ _ _ _ us hl => match us, hl with | [_, _, _], _ => rfl
  have N_is_lane : Fn K mg "is_lane" s_is_lane f5 _ := ⟨F_is_lane, PySem.W.mg_of X G a_is_lane⟩
  have F_is_supply := fun_mk (st := s_is_supply) l_is_supply c_is_supply k_is_supply
  have b_is_supply := F_is_supply.binds (ps := P_is_supply) fun _ _ _ _ _ _ us hl => match us, hl with | [_, _, _], _ => rfl
  have N_is_supply : Fn K mg "is_supply" s_is_supply f6 _ := ⟨F_is_supply, PySem.W.mg_of X G a_is_supply⟩
  have F_is_catalog := fun_mk (st := s_is_catalog) l_is_catalog c_is_catalog k_is_catalog
  have b_is_catalog := F_is_catalog.binds (ps := P_is_catalog) fun _ _ _ _ _ _ us hl => match us, hl with | [_], _ => rfl
  have N_is_catalog : Fn K mg "is_catalog" s_is_catalog f7 _ := ⟨F_is_catalog, PySem.W.mg_of X G a_is_catalog⟩
  have F_need_catalog := fun_mk (st := s_need_catalog) l_need_catalog c_need_catalog k_need_catalog
  have b_need_catalog := F_need_catalog.binds (ps := P_need_catalog) fun _ _ _ _ _ _ us hl => match us, hl with | [_], _ => rfl
  have N_need_catalog : Fn K mg "need_catalog" s_need_catalog f8 _ := ⟨F_need_catalog, PySem.W.mg_of X G a_need_catalog⟩
  have F_is_bundle := fun_mk (st := s_is_bundle) l_is_bundle c_is_bundle k_is_bundle
  have b_is_bundle := F_is_bundle.binds (ps := P_is_bundle) fun _ _ _ _ _ _ us hl => match us, hl with | [_, _, _], _ => rfl
  have N_is_bundle : Fn K mg "is_bundle" s_is_bundle f9 _ := ⟨F_is_bundle, PySem.W.mg_of X G a_is_bundle⟩
  have F_need_bundles := fun_mk (st := s_need_bundles) l_need_bundles c_need_bundles k_need_bundles
  have b_need_bundles := F_need_bundles.binds (ps := P_need_bundles) fun _ _ _ _ _ _ us hl => match us, hl with | [_, _], _ => rfl
  have N_need_bundles : Fn K mg "need_bundles" s_need_bundles f10 _ := ⟨F_need_bundles, PySem.W.mg_of X G a_need_bundles⟩
  have F_counts_in := fun_mk (st := s_counts_in) l_counts_in c_counts_in k_counts_in
  have b_counts_in := F_counts_in.binds (ps := P_counts_in) fun _ _ _ _ _ _ us hl => match us, hl with | [_, _, _, _], _ => rfl
  have N_counts_in : Fn K mg "counts_in" s_counts_in f11 _ := ⟨F_counts_in, PySem.W.mg_of X G a_counts_in⟩
  have F_made_of := fun_mk (st := s_made_of) l_made_of c_made_of k_made_of
  have b_made_of := F_made_of.binds (ps := P_made_of) fun _ _ _ _ _ _ us hl => match us, hl with | [_, _, _, _], _ => rfl
  have N_made_of : Fn K mg "made_of" s_made_of f12 _ := ⟨F_made_of, PySem.W.mg_of X G a_made_of⟩
  have F_opened := fun_mk (st := s_opened) l_opened c_opened k_opened
  have b_opened := F_opened.binds (ps := P_opened) fun _ _ _ _ _ _ us hl => match us, hl with | [_, _, _, _, _, _, _], _ => rfl
  have N_opened : Fn K mg "opened" s_opened f13 _ := ⟨F_opened, PySem.W.mg_of X G a_opened⟩
  have F_law_taken := fun_mk (st := s_law_taken) l_law_taken c_law_taken k_law_taken
  have b_law_taken := F_law_taken.binds (ps := P_law_taken) fun _ _ _ _ _ _ us hl => match us, hl with | [_, _], _ => rfl
  have N_law_taken : Fn K mg "_law_taken" s_law_taken f14 _ := ⟨F_law_taken, PySem.W.mg_of X G a_law_taken⟩
  have F_law_pick := fun_mk (st := s_law_pick) l_law_pick c_law_pick k_law_pick
  have b_law_pick := F_law_pick.binds (ps := P_law_pick) fun _ _ _ _ _ _ us hl => match us, hl with | [_, _], _ => rfl
  have N_law_pick : Fn K mg "_law_pick" s_law_pick f15 _ := ⟨F_law_pick, PySem.W.mg_of X G a_law_pick⟩
  have F_law_alike := fun_mk (st := s_law_alike) l_law_alike c_law_alike k_law_alike
  have b_law_alike := F_law_alike.binds (ps := P_law_alike) fun _ _ _ _ _ _ us hl => match us, hl with | [_, _], _ => rfl
  have N_law_alike : Fn K mg "_law_alike" s_law_alike f16 _ := ⟨F_law_alike, PySem.W.mg_of X G a_law_alike⟩
  have F_law_catalog := fun_mk (st := s_law_catalog) l_law_catalog c_law_catalog k_law_catalog
  have b_law_catalog := F_law_catalog.binds (ps := P_law_catalog) fun _ _ _ _ _ _ us hl => match us, hl with | [_], _ => rfl
  have N_law_catalog : Fn K mg "_law_catalog" s_law_catalog f17 _ := ⟨F_law_catalog, PySem.W.mg_of X G a_law_catalog⟩
  have F_law_made := fun_mk (st := s_law_made) l_law_made c_law_made k_law_made
  have b_law_made := F_law_made.binds (ps := P_law_made) fun _ _ _ _ _ _ us hl => match us, hl with | [_, _, _, _], _ => rfl
  have N_law_made : Fn K mg "_law_made" s_law_made f18 _ := ⟨F_law_made, PySem.W.mg_of X G a_law_made⟩
  have F_law := fun_mk (st := s_law) l_law c_law k_law
  have B : Blt mg := ⟨PySem.W.mg_none_of X G z_len, PySem.W.mg_none_of X G z_isinstance, PySem.W.mg_none_of X G z_all, PySem.W.mg_none_of X G z_min, PySem.W.mg_none_of X G z_range, PySem.W.mg_none_of X G z_enumerate, PySem.W.mg_none_of X G z_zip, PySem.W.mg_none_of X G z_int, PySem.W.mg_none_of X G z_str, PySem.W.mg_none_of X G z_bool, PySem.W.mg_none_of X G z_tuple, PySem.W.mg_none_of X G z_list, PySem.W.mg_none_of X G z_dict⟩
  have h_SMALL := PySem.W.mg_of X G g_SMALL
  have h_FIGURES := PySem.W.mg_of X G g_FIGURES
  have h_MOST_PLACES := PySem.W.mg_of X G g_MOST_PLACES
  have h_MOST_LANES := PySem.W.mg_of X G g_MOST_LANES
  have h_MOST_SUPPLIES := PySem.W.mg_of X G g_MOST_SUPPLIES
  have h_MOST_WISHES := PySem.W.mg_of X G g_MOST_WISHES
  have h_LAST_DAY := PySem.W.mg_of X G g_LAST_DAY
  have h_ITEMS := PySem.W.mg_of X G g_ITEMS
  have E_BadOrder : Err K mg "BadOrder" CBadOrder := ⟨PySem.W.mg_of X G n_BadOrder, x_BadOrder, e_BadOrder, b_BadOrder, t_BadOrder, i_BadOrder, s_BadOrder⟩
  have E_BadItem : Err K mg "BadItem" CBadItem := ⟨PySem.W.mg_of X G n_BadItem, x_BadItem, e_BadItem, b_BadItem, t_BadItem, i_BadItem, s_BadItem⟩
  refine ⟨PySem.W.fnOf "law" "law" (defArgs s_law) (defBody s_law) (defScope s_law) .none kV19 dc19 pm19 an19 cd19 ct19, fun s v => .of_eq rfl, fun base _ _ => ?_⟩
  have q_is_whole : Cal P w K mg base "is_whole" s_is_whole CX0 1 P_is_whole (PureSp K rel_whole) := ⟨_, _, N_is_whole, b_is_whole, ok_is_whole B F_is_whole⟩
  have q_is_name : Cal P w K mg base "is_name" s_is_name CX0 1 P_is_name (PureSp K rel_name) := ⟨_, _, N_is_name, b_is_name, ok_is_name B h_SMALL h_FIGURES F_is_name⟩
  have q_are_unlike : Cal P w K mg base "are_unlike" s_are_unlike CX0 1 P_are_unlike (PureSp K rel_unlike) := ⟨_, _, N_are_unlike, b_are_unlike, ok_are_unlike B F_are_unlike⟩
  have q_are_names : Cal P w K mg base "are_names" s_are_names CX0 2 P_are_names (PureSp K rel_names) := ⟨_, _, N_are_names, b_are_names, ok_are_names B q_is_name q_are_unlike F_are_names⟩
  have q_are_rows : Cal P w K mg base "are_rows" s_are_rows CX0 1 P_are_rows (PureSp K rel_rows) := ⟨_, _, N_are_rows, b_are_rows, ok_are_rows B F_are_rows⟩
  have q_is_lane : Cal P w K mg base "is_lane" s_is_lane CX0 2 P_is_lane (PureSp K rel_lane) := ⟨_, _, N_is_lane, b_is_lane, ok_is_lane B q_is_name q_is_whole F_is_lane⟩
  have q_is_supply : Cal P w K mg base "is_supply" s_is_supply CX0 2 P_is_supply (PureSp K rel_supply) := ⟨_, _, N_is_supply, b_is_supply, ok_is_supply B h_LAST_DAY q_is_name q_is_whole F_is_supply⟩
  have q_is_catalog : Cal P w K mg base "is_catalog" s_is_catalog CX0 3 P_is_catalog (PureSp K rel_catalog) := ⟨_, _, N_is_catalog, b_is_catalog, ok_is_catalog B h_MOST_PLACES h_MOST_LANES h_MOST_SUPPLIES q_are_names q_are_rows q_are_unlike q_is_lane q_is_supply F_is_catalog⟩
  have q_need_catalog : Cal P w K mg base "need_catalog" s_need_catalog CX0 4 P_need_catalog (PureSp K rel_need) := ⟨_, _, N_need_catalog, b_need_catalog, ok_need_catalog B q_is_catalog F_need_catalog⟩
  have q_is_bundle : Cal P w K mg base "is_bundle" s_is_bundle CX0 2 P_is_bundle (PureSp K rel_bundle) := ⟨_, _, N_is_bundle, b_is_bundle, ok_is_bundle B q_is_name q_is_whole q_are_rows q_are_unlike F_is_bundle⟩
  have q_need_bundles : Cal P w K mg base "need_bundles" s_need_bundles CX0 5 P_need_bundles (PureSp K rel_needb) := ⟨_, _, N_need_bundles, b_need_bundles, ok_need_bundles B h_ITEMS q_need_catalog q_are_rows q_is_bundle F_need_bundles⟩
  have q_need_bad : Cal P w K mg base "need_bundles" s_need_bundles (L2N.CX P w) 5 P_need_bundles (sp_need_bad K CBadItem) := ⟨_, _, N_need_bundles, b_need_bundles, ok_need_bad B E_BadItem h_ITEMS q_need_catalog q_are_rows q_is_bundle F_need_bundles⟩
  have q_counts_in : Cal P w K mg base "counts_in" s_counts_in CX0 4 P_counts_in (sp_counts K 4) := ⟨_, _, N_counts_in, b_counts_in, all_counts h_ITEMS N_counts_in b_counts_in 4⟩
  have q_made_of : Cal P w K mg base "made_of" s_made_of CX0 6 P_made_of (PureSp K rel_made) := ⟨_, _, N_made_of, b_made_of, ok_made_of B h_ITEMS q_need_bundles q_is_name q_is_whole q_counts_in F_made_of⟩
  have q_opened : Cal P w K mg base "opened" s_opened (L2N.CX P w) 7 P_opened (sp_opened K CBadOrder) := ⟨_, _, N_opened, b_opened, ok_opened B E_BadOrder h_ITEMS h_MOST_WISHES q_need_bundles q_are_rows q_is_name q_is_whole q_made_of F_opened⟩
  have q_law_taken : Cal P w K mg base "_law_taken" s_law_taken CX0 1 P_law_taken (sp_taken K) := ⟨_, _, N_law_taken, b_law_taken, ok_taken B F_law_taken⟩
  have q_law_pick : Cal P w K mg base "_law_pick" s_law_pick CX0 2 P_law_pick (sp_pick K) := ⟨_, _, N_law_pick, b_law_pick, ok_pick B F_law_pick q_law_taken⟩
  have q_law_alike : Cal P w K mg base "_law_alike" s_law_alike CX0 5 P_law_alike (PureSp K (rel_alike 5)) := ⟨_, _, N_law_alike, b_law_alike, all_alike B N_law_alike b_law_alike 5⟩
  have q_law_catalog : Cal P w K mg base "_law_catalog" s_law_catalog CX0 3 P_law_catalog (sp_lcat K) := ⟨_, _, N_law_catalog, b_law_catalog, ok_lcat B F_law_catalog q_law_taken q_law_pick⟩
  have q_law_made : Cal P w K mg base "_law_made" s_law_made CX0 4 P_law_made (sp_lmade K 4) := ⟨_, _, N_law_made, b_law_made, all_lmade B N_law_made b_law_made 4⟩
  exact ok_law B E_BadOrder E_BadItem q_law_taken q_law_pick q_law_catalog q_law_made q_law_alike N_made_of b_made_of (ok_made_of B h_ITEMS q_need_bundles q_is_name q_is_whole q_counts_in F_made_of) (ok_made_bad q_need_bad F_made_of) q_opened F_law
theorem walk {l : PySem.W.OpenLaw} {q : Program} {loose : List Str} {XP : (Str → Option Value) → Heap → Prop} {YP : World → Heap → Prop} {d : DefRec} {K : Params → PySem.W.Frag} (hn : l.most = some 63) (hdf : d.params.defaults = [])
    (hY : ∀ (w : World) (h : Heap), YP w h → (K w.params).In h)
    (F : ∀ (w : World) (mg : Str → Option Value) (fa : Addr) (h : Heap), (K w.params).In h → h.Ns mainGlobals mg → mg d.name = some (.ref fa) →
      ∃ fd : FuncData, (∀ (s : Shared) (u : Value), BindsTo s fd ⟨[u], []⟩ [("_law_script", u)]) ∧ ∀ base : Heap, (K w.params).In base → base.Ns mainGlobals mg → FnOk l.prog w (K w.params) mg base CX0 8 fa fd ["_law_script"] (sp_law (K w.params))) :
    PySem.W.WalkO q loose XP YP l.row.toRowW d [] (fun f vs => PySem.call f vs) :=
  L2.walk_of (n := 63) (k := 8) (x := "_law_script") (CX := fun _ => CX0) (sp := fun w => sp_law (K w.params)) hn (by decide) hdf ⟨rfl, by decide, by decide⟩ hY F (fun _ _ a ns hl _ hS => ⟨a, ns, rfl, hS, fun _ => rfl⟩) fun _ _ _ _ _ z => z
end K8
open PySem PySem.W PyProof.Rows
set_option maxRecDepth 100000 in
set_option maxHeartbeats 0 in
theorem PySem.Challenge.cw_surehouse_k08_whole_bundles_holds : PySem.Challenge.rw_surehouse_k08_whole_bundles.Holds := by
  w_on; o_law; k_head; (case hw => w_witness2)
  k_fill
  refine K8.walk (l := PySem.Challenge.rw_surehouse_k08_whole_bundles) rfl rfl (fun w h Y => PySem.W.kIn_of Y) ?F
  case F =>
    intro w mg fa h KX G hmg
    refine' K8.all_mk KX G hmg ?a_is_whole ?l_is_whole ?c_is_whole ?k_is_whole ?a_is_name ?l_is_name ?c_is_name ?k_is_name ?a_are_unlike ?l_are_unlike ?c_are_unlike ?k_are_unlike ?a_are_names ?l_are_names ?c_are_names ?k_are_names ?a_are_rows ?l_are_rows ?c_are_rows ?k_are_rows ?a_is_lane ?l_is_lane ?c_is_lane ?k_is_lane ?a_is_supply ?l_is_supply ?c_is_supply ?k_is_supply ?a_is_catalog ?l_is_catalog ?c_is_catalog ?k_is_catalog ?a_need_catalog ?l_need_catalog ?c_need_catalog ?k_need_catalog ?a_is_bundle ?l_is_bundle ?c_is_bundle ?k_is_bundle ?a_need_bundles ?l_need_bundles ?c_need_bundles ?k_need_bundles ?a_counts_in ?l_counts_in ?c_counts_in ?k_counts_in ?a_made_of ?l_made_of ?c_made_of ?k_made_of ?a_opened ?l_opened ?c_opened ?k_opened ?a_law_taken ?l_law_taken ?c_law_taken ?k_law_taken ?a_law_pick ?l_law_pick ?c_law_pick ?k_law_pick ?a_law_alike ?l_law_alike ?c_law_alike ?k_law_alike ?a_law_catalog ?l_law_catalog ?c_law_catalog ?k_law_catalog ?a_law_made ?l_law_made ?c_law_made ?k_law_made ?a_law ?l_law ?c_law ?k_law ?z_len ?z_isinstance ?z_all ?z_min ?z_range ?z_enumerate ?z_zip ?z_int ?z_str ?z_bool ?z_tuple ?z_list ?z_dict ?g_SMALL ?g_FIGURES ?g_MOST_PLACES ?g_MOST_LANES ?g_MOST_SUPPLIES ?g_MOST_WISHES ?g_LAST_DAY ?g_ITEMS ?n_BadOrder ?x_BadOrder ?e_BadOrder ?b_BadOrder ?t_BadOrder ?i_BadOrder ?s_BadOrder ?n_BadItem ?x_BadItem ?e_BadItem ?b_BadItem ?t_BadItem ?i_BadItem ?s_BadItem
    (case a_is_whole => k_is)
    (case l_is_whole => k_is)
    (case c_is_whole => k_is)
    (case k_is_whole => k_is)
    (case a_is_name => k_is)
    (case l_is_name => k_is)
    (case c_is_name => k_is)
    (case k_is_name => k_is)
    (case a_are_unlike => k_is)
    (case l_are_unlike => k_is)
    (case c_are_unlike => k_is)
    (case k_are_unlike => k_is)
    (case a_are_names => k_is)
    (case l_are_names => k_is)
    (case c_are_names => k_is)
    (case k_are_names => k_is)
    (case a_are_rows => k_is)
    (case l_are_rows => k_is)
    (case c_are_rows => k_is)
    (case k_are_rows => k_is)
    (case a_is_lane => k_is)
    (case l_is_lane => k_is)
    (case c_is_lane => k_is)
    (case k_is_lane => k_is)
    (case a_is_supply => k_is)
    (case l_is_supply => k_is)
    (case c_is_supply => k_is)
    (case k_is_supply => k_is)
    (case a_is_catalog => k_is)
    (case l_is_catalog => k_is)
    (case c_is_catalog => k_is)
    (case k_is_catalog => k_is)
    (case a_need_catalog => k_is)
    (case l_need_catalog => k_is)
    (case c_need_catalog => k_is)
    (case k_need_catalog => k_is)
    (case a_is_bundle => k_is)
    (case l_is_bundle => k_is)
    (case c_is_bundle => k_is)
    (case k_is_bundle => k_is)
    (case a_need_bundles => k_is)
    (case l_need_bundles => k_is)
    (case c_need_bundles => k_is)
    (case k_need_bundles => k_is)
    (case a_counts_in => k_is)
    (case l_counts_in => k_is)
    (case c_counts_in => k_is)
    (case k_counts_in => k_is)
    (case a_made_of => k_is)
    (case l_made_of => k_is)
    (case c_made_of => k_is)
    (case k_made_of => k_is)
    (case a_opened => k_is)
    (case l_opened => k_is)
    (case c_opened => k_is)
    (case k_opened => k_is)
    (case a_law_taken => k_is)
    (case l_law_taken => k_is)
    (case c_law_taken => k_is)
    (case k_law_taken => k_is)
    (case a_law_pick => k_is)
    (case l_law_pick => k_is)
    (case c_law_pick => k_is)
    (case k_law_pick => k_is)
    (case a_law_alike => k_is)
    (case l_law_alike => k_is)
    (case c_law_alike => k_is)
    (case k_law_alike => k_is)
    (case a_law_catalog => k_is)
    (case l_law_catalog => k_is)
    (case c_law_catalog => k_is)
    (case k_law_catalog => k_is)
    (case a_law_made => k_is)
    (case l_law_made => k_is)
    (case c_law_made => k_is)
    (case k_law_made => k_is)
    (case a_law => k_is)
    (case l_law => k_is)
    (case c_law => k_is)
    (case k_law => k_is)
    (case z_len => k_is)
    (case z_isinstance => k_is)
    (case z_all => k_is)
    (case z_min => k_is)
    (case z_range => k_is)
    (case z_enumerate => k_is)
    (case z_zip => k_is)
    (case z_int => k_is)
    (case z_str => k_is)
    (case z_bool => k_is)
    (case z_tuple => k_is)
    (case z_list => k_is)
    (case z_dict => k_is)
    (case g_SMALL => k_is)
    (case g_FIGURES => k_is)
    (case g_MOST_PLACES => k_is)
    (case g_MOST_LANES => k_is)
    (case g_MOST_SUPPLIES => k_is)
    (case g_MOST_WISHES => k_is)
    (case g_LAST_DAY => k_is)
    (case g_ITEMS => k_is)
    (case n_BadOrder => k_is)
    (case x_BadOrder => k_exc)
    (case e_BadOrder => k_is)
    (case b_BadOrder => k_is)
    (case t_BadOrder => k_is)
    (case i_BadOrder => k_is)
    (case s_BadOrder => first | rfl | k_is)
    (case n_BadItem => k_is)
    (case x_BadItem => k_exc)
    (case e_BadItem => k_is)
    (case b_BadItem => k_is)
    (case t_BadItem => k_is)
    (case i_BadItem => k_is)
    (case s_BadItem => first | rfl | k_is)
