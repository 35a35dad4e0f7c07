import PyProof.Rows.All
import Wide.All
import OpenK.AllK
import Wide.FinOn
import KE.KTupSum
import KE.GoesMore
import HandS.ForMost
import HandS.Walk
import HandS.IsInst
import HandS.TupAny
import HandS.SetFor
import HandS.Strs
import HandS.Conv
import PySem.Challenge.RW_saidcounts_k85_whole_lengths_reached
set_option Elab.async false
set_option linter.all false
set_option maxRecDepth 100000
set_option maxHeartbeats 4200000
/-! Three rules that the modules lack: the sum of a tuple of ints, enumerate over a tuple, the set of a list of ints. -/
namespace Kx
open PySem L2 PySem.Spec PyProof.Rows
/-! ### enumerate over a tuple -/
abbrev tipO (t : Addr) : Obj := { cls := .type "tuple_iterator", data := .fields #[.ref t, .int 0 0] }
abbrev enuO (i : Addr) : Obj := { cls := .type "enumerate", data := .fields #[.none, .bool false, .ref i, rawInt 0, .none, .none] }
abbrev enuH (h : Heap) (t : Addr) : Heap := (h.push (tipO t)).push (enuO h.objs.size)
theorem enu_new (t : Addr) (xs : Array Value) (c : Nat) (dd : Option Addr) (sl : Array (Option Value)) :
    Meets (Builtin.«enumerate.__new__» ⟨[.type "enumerate", .ref t], []⟩)
      (fun _ R s => s.heap.get? t = some { cls := .type "tuple", dict := dd, data := .seq xs c, slots := sl } ∧ R (.ok (.ret (.ref (s.heap.push (tipO t)).objs.size))) { s with heap := enuH s.heap t }) :=
  .of_wp fun P w A R s asked => by
    have subE := sub_enumerate
    obtain ⟨hp, gs, dr, tk, os⟩ := s
    obtain ⟨at_t, goal⟩ := asked
    have isT : Heap.IsTuple (Shared.heap ⟨hp, gs, dr, tk, os⟩) t xs := ⟨_, at_t, rfl, c, rfl⟩
    wp_walk using AutoSeq1.wpAny_loadPart' at_t
    refine wpAny_stack_any fun _ => wpAny_pure ?_
    split
    · rename_i k _ _ _ _ _
      generalize (k == Value.type "enumerate") = plainly
      cases plainly <;> (wp_walk using AutoSeq1.wpAny_loadPart' at_t, wpAny_pyIter_tuple isT; exact ⟨_, rfl, goal⟩)
    · wp_walk using AutoSeq1.wpAny_loadPart' at_t, wpAny_pyIter_tuple isT; exact ⟨_, rfl, goal⟩
section
variable {P : Program} {w : World} {A : Around} {s : Shared} {E : Value → Shared → Prop}
theorem enu_call {t : Addr} {xs : Array Value} {Q : Value → Shared → Prop} (isT : s.heap.IsTuple t xs)
    (go : IsEnum (enuH s.heap t) (s.heap.objs.size + 1) s.heap.objs.size 0 .none → (enuH s.heap t).IsTupleIter s.heap.objs.size t 0 → Q (.ref (s.heap.objs.size + 1)) { s with heap := enuH s.heap t }) :
    wpAny (model P w) A (call (.type "enumerate") [.ref t]) Q E s := by
  obtain ⟨⟨cl, dd, dt, sl⟩, at_t, e1, c, e2⟩ := isT
  cases (show cl = .type "tuple" from e1)
  cases (show dt = .seq xs c from e2)
  have size1 : (s.heap.push (tipO t)).objs.size = s.heap.objs.size + 1 := by rw [Heap.size_push]
  have made : IsEnum (enuH s.heap t) (s.heap.objs.size + 1) s.heap.objs.size 0 .none := by
    have z := Heap.get?_push_size (s.heap.push (tipO t)) (o := enuO s.heap.objs.size) rfl
    rwa [size1] at z
  refine callType_new F.called_enumerate (by decide) (F.typeCall_enumerate_1 _) (F.newCall_enumerate_1 _) (fun o => F.args_object_init_2 o _) F.entry_enumerate_new (enu_new t xs c dd sl) ⟨at_t, ?_⟩
  show (∃ o, (enuH s.heap t).get? (s.heap.push (tipO t)).objs.size = some o ∧ _) ∧ _
  rw [size1]
  exact ⟨⟨_, made, rfl⟩, go made ⟨_, Heap.get?_push_of_some _ (Heap.get?_push_size _ rfl), rfl, rfl⟩⟩
theorem enu_old {h : Heap} {t b : Addr} {o : Obj} (e : h.get? b = some o) : (enuH h t).get? b = some o := Heap.get?_push_of_some _ (Heap.get?_push_of_some _ e)
end
/-- the tuple at a, item by item, each in a new pair with its number -/
def ItEnu (K : PySem.W.Frag) (a : Addr) : It where
  go i H := ∃ (xs : List V) (x : V), SqT K H a xs ∧ xs[i]? = some x
  yld i H v H' := ∃ (T : Addr) (x : V), v = .ref T ∧ H T = none ∧ H' = upd H T (.tup [.int (i : Nat), x]) ∧ ∀ xs, SqT K H a xs → xs[i]? = some x
  stop i H := ∃ xs : List V, SqT K H a xs ∧ xs.length ≤ i
theorem enu_turn {P : Program} {w : World} {K : PySem.W.Frag} {es : List Expr} {n : Nat} {ps : Pos} {a e it : Addr} (ai : a ≠ it) (ea : e ≠ a) :
    Turn P w K (.Tuple es n ps) (ItEnu K a) [e, it] e fun i h => e ≠ it ∧ h.IsTupleIter it a i ∧ ∃ old, IsEnum h e it ((i : Nat) : Int) old where
  mem := List.mem_cons_self
  obj i h st b hb := by
    obtain ⟨_, ⟨oi, hoi, _, di⟩, old, he⟩ := st
    rcases (by simpa using hb : b = e ∨ b = it) with rfl | rfl
    · exact ⟨_, he, fun v q => by cases q⟩
    · refine ⟨oi, hoi, fun v q => ?_⟩
      rw [di] at q
      cases q
  keep i h h' st k := ⟨st.1, st.2.1.at fun o q => k it (List.mem_cons_of_mem _ List.mem_cons_self) o q, by
    obtain ⟨old, he⟩ := st.2.2
    exact ⟨old, k e List.mem_cons_self _ he⟩⟩
  item := by
    rintro X rfl rfl rfl calm i pins s σ H E I own ⟨ne, hit, old, he⟩ ⟨xs, x, hq, hx⟩
    obtain ⟨us, vals, isT, _⟩ := I.tuple hq
    obtain ⟨u, hu, ru⟩ := vals.get hx
    have isT : s.heap.IsTuple a us.toArray := isT
    have quiet : X.A.in1.handled = none := by simp [I.ok.hd calm]
    have eL : e < s.heap.objs.size := Heap.lt_size he
    have iL : it < s.heap.objs.size := by
      obtain ⟨_, q, _⟩ := hit
      exact Heap.lt_size q
    have small : i < us.toArray.size := by simpa using (List.getElem?_eq_some_iff.mp hu).1
    have out : e ∉ [it, a] := by
      simp only [List.mem_cons, List.not_mem_nil, or_false, not_or]
      exact ⟨ne, ea⟩
    refine wpAny_pyNext_enum_itemD (Draws.tuple quiet it a ai us.toArray) he ⟨hit, isT⟩ small ne out fun y h1 tk hy ho hst hT _ kept => ?_
    obtain rfl : u = y := Option.some.inj (by rw [← hu]; simpa using hy)
    refine ⟨.ref s.heap.objs.size, rfl, wpAny_letOwnedTupleGo_enum (s := ⟨h1, s.gens, s.drawn, tk + 1, s.os⟩) ho fun h2 he2 only => ?_⟩
    have atT : h2.get? s.heap.objs.size = some { cls := .type "tuple", data := .seq #[.int i tk, u] } := by
      rw [only.2 _ (Nat.ne_of_gt eL)]
      exact hT
    have pair : ObjOk X.prog X.w (upd H s.heap.objs.size (.tup [.int (i : Nat), x])) h2 s.heap.objs.size (.tup [.int (i : Nat), x]) :=
      ⟨by show 2 ≤ sizeLine; decide, _, .cons ⟨tk, rfl⟩ (.cons ru .nil), _, atT, rfl, _, rfl⟩
    have all : ∀ b o, b ∉ [e, it] → s.heap.get? b = some o → h2.get? b = some o := fun b o nb q => by
      have n1 : b ≠ e := fun z => nb (z ▸ List.mem_cons_self)
      have n2 : b ≠ it := fun z => nb (z ▸ List.mem_cons_of_mem _ List.mem_cons_self)
      rw [only.2 b n1]
      exact kept b o n1 n2 q
    refine ⟨.ref s.heap.objs.size, _, I.turnedNew (ch := [e, it]) all own (Nat.le_refl _) pair, rfl, ⟨_, x, rfl, I.hok.fresh (Nat.le_refl _), rfl, fun ys hy => I.tuple_inj hq hy ▸ hx⟩, ⟨ne, hst.1.at fun o q => ?_, u, ?_⟩, fun b hb => ?_⟩
    · rw [only.2 it ne.symm]
      exact q
    · rw [show ((i + 1 : Nat) : Int) = (i : Int) + 1 by omega]
      exact he2
    · have bL : b < s.heap.objs.size := by
        rcases (by simpa using hb : b = e ∨ b = it) with rfl | rfl
        · exact eL
        · exact iL
      rw [upd_ne (Nat.ne_of_lt bL)]
      exact (own b hb).1
  done := by
    rintro X rfl rfl rfl calm i pins s σ H E I own ⟨ne, hit, old, he⟩ ⟨xs, hq, hx⟩
    obtain ⟨us, vals, isT, _⟩ := I.tuple hq
    have isT : s.heap.IsTuple a us.toArray := isT
    obtain ⟨f0, f1, f2, f3, f4, f5⟩ := own it (List.mem_cons_of_mem _ List.mem_cons_self)
    have same := vals.length
    have isE : s.TypeIs (.ref e) "enumerate" := ⟨_, he, rfl⟩
    have past : us.toArray[i]? = none := by
      simp
      omega
    unfold pyNext
    refine wpAny_bind (wpAny_attempt (wpAny_callSpecial?_slot (name := Str.ofString "__next__") isE F.slot_enumerate_next (wpAny_call_entry F.slot_enumerate_next isE F.entry_enumerate_next ?_ (F.args_enumerate_next_1 _))))
    show wpAny _ _ (field (.ref e) 2 >>= _) _ _ s
    refine wpAny_bind (wpAny_field he rfl (x := .ref it) rfl (wpAny_bind (wpAny_nextOf_tuple_end (by simp [I.ok.hd calm]) hit isT past fun h1 x but ⟨o, ho, cl⟩ => ?_)))
    exact wpAny_bind (wpAny_isInstance (T := "StopIteration") (b := true) ⟨o, ho, cl⟩ isSubtype_stop (wpAny_pure ⟨rfl, I.turned (t' := s.toks) (fun b o nb q => but b o nb q) f0 f1 f3 f4 f5⟩))
  self A i s Q E st q := by
    obtain ⟨_, _, _, he⟩ := st
    exact wpAny_pyIter_enum he q
def iEnu (K : PySem.W.Frag) (ta : TA) : TI := fun σ H R => ta σ H fun vs H1 => ∃ (a : Addr) (xs : List V), vs = [.ref a] ∧ SqT K H1 a xs ∧ R (ItEnu K a) H1
theorem pi_enu {X : Cx} {e : Expr} {ta : TA} {p pos ps : Pos} {es : List Expr} {n : Nat} (hg : Gl X "enumerate") (hm : X.mg "enumerate" = none) (ha : PA X [e] ta) (hs : starEach [e] X.env = [(false, eval e X.env)] := by rfl) :
    PI X (.Tuple es n ps) (.Call (.Name "enumerate" p) [e] [] pos) (iEnu X.K ta) := by
  constructor
  intro pins s σ H R I asked
  refine Call_ (ld_blt I hg hm boot_enumerate (PyProof.Rows.callWith_type1 (thn (ha.run pos pins s σ H _ I asked) fun us s1 done => ?_) hs rfl))
  obtain ⟨vs, H1, I1, rel, a, xs, rfl, hq, q⟩ := done
  rw [Vals.ref1 rel]
  obtain ⟨its, vals, isT, _⟩ := I1.tuple hq
  have isT : s1.heap.IsTuple a its.toArray := isT
  have aL : a < s1.heap.objs.size := by
    obtain ⟨o, ho, _⟩ := isT
    exact Heap.lt_size ho
  refine enu_call isT fun made iter => wpAny_pyIter_enum made ?_
  refine ⟨s1.heap.objs.size + 1, [s1.heap.objs.size + 1, s1.heap.objs.size], _, _, H1, rfl, I1.kept (t' := s1.toks) fun b o z => enu_old z, enu_turn (Nat.ne_of_lt aL) (Nat.ne_of_gt (Nat.lt_succ_of_lt aL)), ⟨Nat.succ_ne_self _, iter, .none, made⟩, fun b hb => ?_, q⟩
  have bL : s1.heap.objs.size ≤ b := by
    rcases (by simpa using hb : b = s1.heap.objs.size + 1 ∨ b = s1.heap.objs.size) with rfl | rfl
    · exact Nat.le_succ _
    · exact Nat.le_refl _
  exact I1.fpOk bL (I1.hok.fresh bL)
theorem walk_enu {K : PySem.W.Frag} {a : Addr} {xs : List V} : Walk (ItEnu K a) xs.length (fun H => SqT K H a xs) (YPair (fun i => some (.int (i : Nat))) fun i => xs[i]?) where
  goes i H hi q := ⟨xs, xs[i], q, List.getElem?_eq_getElem hi⟩
  stops H q := ⟨xs, q, Nat.le_refl _⟩
  yields i H v H' hi q y := by
    obtain ⟨T, x, e1, e2, e3, e4⟩ := y
    exact ⟨T, _, x, e1, e2, e3, rfl, e4 xs q⟩
/-! ### the sum of a tuple -/
section
variable {X : Cx}
def rSumT (K : PySem.W.Frag) : List V → Hp → VK → Prop := fun vs H Q => ∃ (a : Addr) (ns : List Int), vs = [V.ref a] ∧ SqT K H a (ns.map V.int) ∧ Q (.int ns.sum) H
theorem cr_sumT (calm : X.calm = true) : CallR X (.builtin "sum") (rSumT X.K) := by
  rintro pins s σ H vs us Q I rel ⟨a, ns, rfl, hq, q⟩
  rw [Vals.ref1 rel]
  obtain ⟨its, vals, isT, _⟩ := I.tuple hq
  have whole := vals.ints
  obtain ⟨ps, eps⟩ := whole.allInts.items
  have num : ps.toList.map (·.1) = ns := by
    rw [← nums_intItems, ← eps]
    exact whole.numsOf
  have isT : s.heap.IsTuple a (intItems ps) := eps ▸ isT
  refine PySem.W.ktm_sumG (I.ok.hd calm) isT fun h1 tk t1 kept => ⟨.int ns.sum, H, I.kept kept, ⟨t1, ?_⟩, q⟩
  rw [preSum_eq, List.take_of_length_le (by simp), num]
end
/-! ### the set of a list of ints -/
theorem pigeon : ∀ (l D : List Int), l.Nodup → (∀ x ∈ l, x ∈ D) → l.length ≤ D.length
  | [], D, _, _ => Nat.zero_le D.length
  | x :: l, D, nd, sub => by
    rw [List.nodup_cons] at nd
    have inD := sub x List.mem_cons_self
    have ih := pigeon l (D.erase x) nd.2 fun y hy => (List.mem_erase_of_ne fun (z : y = x) => nd.1 (z ▸ hy)).mpr (sub y (List.mem_cons_of_mem _ hy))
    have len := List.length_erase_of_mem inD
    have pos := List.length_pos_of_mem inD
    rw [List.length_cons]
    omega
abbrev setO0 (w : World) : Obj := { cls := .type "set", dict := none, data := .set #[] 0 (.fresh 0 0 (!w.params.followText "set-order")) }
abbrev lipO (l : Addr) : Obj := { cls := .type "list_iterator", data := .fields #[.ref l, .int 0 0] }
section
variable {P : Program} {w : World} {A : Around} {E : Value → Shared → Prop} {s : Shared} {l : Addr} {xs : Array Value} {ns : List Int}
theorem wants_or {Q E : Value → Shared → Prop} {r : Result} (h : wants Q E r s) : (∃ v, r = .ok (.ret v) ∧ Q v s) ∨ ∃ e, r = .error e ∧ E e s := by
  cases r with
  | error e => exact .inr ⟨e, rfl, h⟩
  | ok f =>
    cases f with
    | ret v => exact .inl ⟨v, rfl, h⟩
    | _ => cases h
/-- what the call leaves: the set at the first free address -/
def SetLeft (w : World) (ns : List Int) (h h1 : Heap) : Prop := ∃ c, SetR w h1 h.objs.size (fun j => decide (j ∈ ns)) c ∧ ∀ b o, h.get? b = some o → h1.get? b = some o
/-- update's loop over the list, from the empty set on -/
theorem set_walk (quiet : A.handled = none) (isL : (s.heap.push (setO0 w)).IsList l xs) (old : l < s.heap.objs.size) (whole : IntsAre xs.toList ns) (few : ns.length + 1 < scanBound) {R : Result → Shared → Prop}
    (fin : ∀ h1 tk, SetLeft w ns s.heap h1 → R (.ok (.ret .none)) { s with heap := h1, toks := tk }) :
    codeAny (model P w) A (.builtin "set.update.loop" ⟨[.ref s.heap.objs.size, .ref (s.heap.objs.size + 1)], []⟩) R { s with heap := (s.heap.push (setO0 w)).push (lipO l) } := by
  have len : xs.size = ns.length := by rw [← Array.length_toList, whole.length]
  have at0 : (s.heap.push (setO0 w)).get? s.heap.objs.size = some (setO0 w) := Heap.get?_push_size _ rfl
  have sz : (s.heap.push (setO0 w)).objs.size = s.heap.objs.size + 1 := by rw [Heap.size_push]
  have it0 : ((s.heap.push (setO0 w)).push (lipO l)).get? (s.heap.objs.size + 1) = some (lipO l) := by
    have z := Heap.get?_push_size (s.heap.push (setO0 w)) (o := lipO l) rfl
    rwa [sz] at z
  have apart : s.heap.objs.size ∉ [s.heap.objs.size + 1, l] := by
    simp only [List.mem_cons, List.not_mem_nil, or_false, not_or]
    exact ⟨Nat.ne_of_lt (Nat.lt_succ_self _), Nat.ne_of_gt old⟩
  have item : ∀ (i : Nat) (v : Value), xs[i]? = some v → ∃ k t, ns[i]? = some k ∧ v = .int k t := fun i v hv => by
    have hi : i < ns.length := len ▸ (Array.getElem?_eq_some_iff.mp hv).1
    obtain ⟨t, e⟩ := PyProof.Rows.IntsAre.int_at whole i v (by rw [Array.getElem?_toList, hv])
    exact ⟨ns[i], t, List.getElem?_eq_getElem hi, by rw [e]; simp [hi]⟩
  refine set_update_ints (Walks.list (by simp [quiet]) (s.heap.objs.size + 1) l (Nat.ne_of_lt (Nat.lt_succ_of_lt old)) xs).toS _ apart ns len few item xs.size 0 _ rfl (Nat.zero_le _) ⟨⟨_, it0, rfl, rfl⟩, isL.push _⟩ ⟨0, Nat.le_refl 0, setR_new_at (Heap.get?_push_of_some _ at0)⟩ fun s1 c mv _ left => ?_
  obtain ⟨h1, g1, d1, t1, o1⟩ := s1
  cases (mv.gens : g1 = s.gens)
  cases (mv.drawn : d1 = s.drawn)
  cases (mv.os : o1 = s.os)
  refine fin h1 t1 ⟨c, left, fun b o e => mv.heap b o ?_ (Heap.get?_push_of_some _ (Heap.get?_push_of_some _ e))⟩
  have bL : b < s.heap.objs.size := Heap.lt_size e
  simp only [List.mem_cons, List.not_mem_nil, or_false, not_or]
  exact ⟨Nat.ne_of_lt bL, Nat.ne_of_lt (Nat.lt_succ_of_lt bL)⟩
theorem set_call {Q : Value → Shared → Prop} (quiet : A.handled = none) (isL : s.heap.IsList l xs) (whole : IntsAre xs.toList ns) (few : ns.length + 1 < scanBound)
    (fin : ∀ h1 tk, SetLeft w ns s.heap h1 → Q (.ref s.heap.objs.size) { s with heap := h1, toks := tk }) : wpAny (model P w) A (call (.type "set") [.ref l]) Q E s := by
  obtain ⟨_, _, _⟩ := F.called_set.mro
  have a1 := F.called_set.notType
  have a2 := F.called_set.canCreate
  have a3 := F.typeCall_set_1 (.ref l)
  have a4 := F.called_set.made
  have a5 := F.called_set.sub
  refine wpAny_call (codeAny_of_tree (wpAny_pure ⟨Code.quiet_builtin _ (by decide +kernel), codeAny_builtin F.entry_type_call ?_⟩))
  rw [Around.under_plain (weight_type_call_type "set" [.ref l] []) rfl]; repeat any_goals first | assumption | wp_step
  -- the new set
  refine codeAny_mono (code_set_led1 (.ref l) (E := E) (Q₁ := fun v s1 => v = .ref s.heap.objs.size ∧ s1 = { s with heap := s.heap.push (setO0 w) }) ⟨rfl, rfl⟩) fun r s1 made => ?_
  rcases wants_or made with ⟨v, rfl, rfl, rfl⟩ | ⟨e, rfl, z⟩
  · have at0 : (s.heap.push (setO0 w)).get? s.heap.objs.size = some (setO0 w) := Heap.get?_push_size _ rfl
    have isS : Shared.TypeIs { s with heap := s.heap.push (setO0 w) } (.ref s.heap.objs.size) "set" := ⟨_, at0, rfl⟩
    have b1 := F.called_set.init.lookup
    have b2 := F.called_set.init.bind (.ref s.heap.objs.size)
    repeat any_goals first | assumption | wp_step
    -- filled by its __init__
    refine codeAny_mono (codeAny_call_builtin (R := wants (fun v s2 => v = .none ∧ ∃ h1 tk, s2 = { s with heap := h1, toks := tk } ∧ SetLeft w ns s.heap h1) E) F.called_set.init.plain F.entry_set_init (check_set_init_1 isS ?_)) fun r s2 done => ?_
    · obtain ⟨⟨cl, dd, dt, sl⟩, atL, e1, n, e2⟩ := isL
      cases (show cl = .type "list" from e1)
      cases (show dt = .seq xs n from e2)
      have old : l < s.heap.objs.size := Heap.lt_size atL
      have atL : (s.heap.push (setO0 w)).get? l = some { cls := .type "list", dict := dd, data := .seq xs n, slots := sl } := Heap.get?_push_of_some _ atL
      have isL : (s.heap.push (setO0 w)).IsList l xs := ⟨_, atL, rfl, n, rfl⟩
      have c1 := F.sub_list_set
      have c2 := F.sub_list_frozenset
      have c3 : (Value.type "list" == Value.type "dict") = false := rfl
      have sz : (s.heap.push (setO0 w)).objs.size = s.heap.objs.size + 1 := by rw [Heap.size_push]
      unfold Builtin.«set.__init__» Builtin.Frozenset.updateFrom noKeywords
      generalize iter : pyIter = f
      wp_walk
      subst iter
      refine wpAny_pyIter_list isL (wpAny_bind (wpAny_runValue ?_))
      rw [sz]
      refine set_walk (s := s) (by simp [quiet]) isL old whole few fun h1 tk left => ?_
      exact wpAny_pure (wpAny_pure ⟨rfl, h1, tk, rfl, left⟩)
    · rcases wants_or done with ⟨v, rfl, rfl, h1, tk, rfl, left⟩ | ⟨e, rfl, z⟩
      · repeat any_goals first | assumption | wp_step
        exact fin h1 tk left
      · exact z
  · exact z
end
section
variable {X : Cx}
def rSetL (w : World) (K : PySem.W.Frag) : List V → Hp → VK → Prop := fun vs H Q => ∃ (a : Addr) (ns : List Int), vs = [V.ref a] ∧ SqL K H a (ns.map V.int) ∧ ns.length ≤ 1000 ∧
  ∀ (p : Addr) (c : Nat), H p = none → (∀ ds : List Int, (∀ j ∈ ns, j ∈ ds) → c ≤ ds.length) → Q (.ref p) (upd H p (SetO w p (fun j => decide (j ∈ ns)) c))
theorem cr_setL (calm : X.calm = true) : CallR X (.type "set") (rSetL X.w X.K) := by
  rintro pins s σ H vs us Q I rel ⟨a, ns, rfl, hq, len, q⟩
  rw [Vals.ref1 rel]
  obtain ⟨its, vals, isL, _⟩ := I.list hq
  have few : ns.length + 1 < scanBound := by
    show ns.length + 1 < 4096
    omega
  refine set_call (I.ok.hd calm) isL.isList vals.ints few fun h1 tk ⟨c, left, kept⟩ => ?_
  refine ⟨.ref s.heap.objs.size, _, I.laid (t' := tk) kept (Nat.le_refl _) (setO_new left), rfl, q _ c (I.hok.fresh (Nat.le_refl _)) fun ds sub => ?_⟩
  obtain ⟨_, es, _, _, _, _, _, _, nd, mem, _, _, size, _⟩ := left
  have z := pigeon _ ds nd fun k hk => sub k (of_decide_eq_true ((mem k).mpr hk))
  rw [List.length_map, Array.length_toList, size] at z
  exact z
end
end Kx
namespace Sc
/-! the sums of a rule, said once for program and law -/
def tOf (r : List Int) (i : Nat) : Int := r.getD i (r.getLastD 0)
def sumOf (r : List Int) : Nat → Int
  | 0 => 0
  | c + 1 => sumOf r c + tOf r c
theorem sumOf_take (r : List Int) : ∀ c, c ≤ r.length → (r.take c).sum = sumOf r c
  | 0, _ => by simp [sumOf]
  | c + 1, h => by
    have hc : c < r.length := h
    rw [List.take_add_one, List.getElem?_eq_getElem hc]
    simp only [Option.toList_some, List.sum_append, List.sum_cons, List.sum_nil, Int.add_zero]
    rw [sumOf_take r c (Nat.le_of_lt hc)]
    show sumOf r c + r[c] = sumOf r c + tOf r c
    rw [show tOf r c = r[c] by simp [tOf, List.getD_eq_getElem?_getD, hc]]
theorem sumOf_all (r : List Int) : r.sum = sumOf r r.length := by
  have h := sumOf_take r r.length (Nat.le_refl _)
  rw [List.take_length] at h
  exact h
theorem sumOf_far (r : List Int) : ∀ d, sumOf r (r.length + d) = r.sum + (d : Int) * r.getLastD 0
  | 0 => by rw [Nat.add_zero, ← sumOf_all]; simp
  | d + 1 => by
    show sumOf r (r.length + d) + tOf r (r.length + d) = _
    rw [sumOf_far r d]
    have e : tOf r (r.length + d) = r.getLastD 0 := by
      unfold tOf
      rw [List.getD_eq_getElem?_getD, List.getElem?_eq_none (Nat.le_add_right _ _)]
      rfl
    rw [e, Int.natCast_add]
    simp [Int.add_mul, Int.add_assoc]
end Sc
namespace Sc
def RuleOk (r : List Int) : Prop := 1 ≤ r.length ∧ r.length ≤ 30 ∧ ∀ x ∈ r, 0 ≤ x ∧ x ≤ 1000
theorem last_mem {r : List Int} (h : 1 ≤ r.length) : r.getLastD 0 ∈ r := by
  cases r with
  | nil => simp at h
  | cons x t =>
    rw [List.getLastD_cons]
    cases t with
    | nil => simp [List.getLastD]
    | cons y u => 
      rw [List.getLastD_eq_getLast?, List.getLast?_eq_some_getLast (List.cons_ne_nil _ _)]
      exact List.mem_cons_of_mem _ (List.getLast_mem _)
theorem tOf_bd {r : List Int} (h : RuleOk r) (i : Nat) : 0 ≤ tOf r i ∧ tOf r i ≤ 1000 := by
  unfold tOf; rw [List.getD_eq_getElem?_getD]
  cases e : r[i]? with
  | none => exact h.2.2 _ (last_mem h.1)
  | some x => exact h.2.2 x (List.mem_of_getElem? e)
theorem sumOf_bd {r : List Int} (h : RuleOk r) : ∀ c, 0 ≤ sumOf r c ∧ sumOf r c ≤ 1000 * (c : Int)
  | 0 => ⟨Int.le_refl _, Int.le_refl _⟩
  | c + 1 => by
    have a := sumOf_bd h c
    have b := tOf_bd h c
    show 0 ≤ sumOf r c + tOf r c ∧ sumOf r c + tOf r c ≤ 1000 * ((c + 1 : Nat) : Int)
    omega
theorem sumOf_mono {r : List Int} (h : RuleOk r) (c : Nat) : ∀ d, sumOf r c ≤ sumOf r (c + d)
  | 0 => Int.le_refl _
  | d + 1 => by
    have a := sumOf_mono h c d
    have b := tOf_bd h (c + d)
    show sumOf r c ≤ sumOf r (c + d) + tOf r (c + d)
    omega
theorem sumOf_mono' {r : List Int} (h : RuleOk r) {c d : Nat} (hc : c ≤ d) : sumOf r c ≤ sumOf r d := by
  have := sumOf_mono h c (d - c)
  rwa [show c + (d - c) = d by omega] at this
/-- the first of the first k counts whose sum is v -/
def firstB (r : List Int) (k : Nat) (v : Int) : Option Nat := (List.range k).find? fun c => sumOf r c == v
def oneOf (r : List Int) (v : Nat) : Option Nat := firstB r (v + r.length + 1) v
theorem firstB_succ (r : List Int) (k : Nat) (v : Int) : firstB r (k + 1) v = (firstB r k v).or (if sumOf r k = v then some k else none) := by
  unfold firstB
  rw [List.range_succ, List.find?_append]
  congr 1
  by_cases e : sumOf r k = v
  · simp [e]
  · simp [e]
/-- o is the first count with the sum v, none if there is no such count -/
def IsFirst (r : List Int) (v : Int) (o : Option Nat) : Prop := (∀ c, o = some c → sumOf r c = v ∧ ∀ c' < c, sumOf r c' ≠ v) ∧ (o = none → ∀ c, sumOf r c ≠ v)
theorem IsFirst.eq {r : List Int} {v : Int} {o o' : Option Nat} (h : IsFirst r v o) (h' : IsFirst r v o') : o = o' := by
  cases o with
  | none =>
    cases o' with
    | none => rfl
    | some c => exact absurd (h'.1 c rfl).1 (h.2 rfl c)
  | some c =>
    cases o' with
    | none => exact absurd (h.1 c rfl).1 (h'.2 rfl c)
    | some d =>
      have a := h.1 c rfl
      have b := h'.1 d rfl
      have e : c = d := by
        by_cases h1 : c < d
        · exact absurd a.1 (b.2 c h1)
        · by_cases h2 : d < c
          · exact absurd b.1 (a.2 d h2)
          · omega
      rw [e]
theorem firstB_first {r : List Int} {k : Nat} {v : Int} (h : ∀ c, k ≤ c → sumOf r c = v → ∃ c', c' < k ∧ sumOf r c' = v) : IsFirst r v (firstB r k v) := by
  refine ⟨fun c e => ?_, fun e c hc => ?_⟩
  · unfold firstB at e
    rw [List.find?_range_eq_some] at e
    obtain ⟨e1, e2, e3⟩ := e
    refine ⟨by simpa using e1, fun c' hc' z => ?_⟩
    have := e3 c' hc'
    simp [z] at this
  · unfold firstB at e
    rw [List.find?_eq_none] at e
    by_cases hk : k ≤ c
    · obtain ⟨c', h1, h2⟩ := h c hk hc
      exact e c' (List.mem_range.mpr h1) (by simp [h2])
    · exact e c (List.mem_range.mpr (by omega)) (by simp [hc])
theorem far_back {r : List Int} (h : RuleOk r) {k v : Nat} (hk : v + r.length + 1 ≤ k) (c : Nat) (hc : k ≤ c) (e : sumOf r c = (v : Int)) : ∃ c', c' < k ∧ sumOf r c' = (v : Int) := by
  have hl := (h.2.2 _ (last_mem h.1)).1
  have hs : 0 ≤ r.sum := by
    rw [sumOf_all]
    exact (sumOf_bd h _).1
  have hf := sumOf_far r (c - r.length)
  rw [show r.length + (c - r.length) = c by omega] at hf
  by_cases z : r.getLastD 0 = 0
  · refine ⟨r.length, by omega, ?_⟩
    rw [← e, hf, z, ← sumOf_all]
    simp
  · have z1 : 1 ≤ r.getLastD 0 := by omega
    have m : ((c - r.length : Nat) : Int) * 1 ≤ ((c - r.length : Nat) : Int) * r.getLastD 0 := Int.mul_le_mul_of_nonneg_left z1 (by omega)
    exfalso
    rw [e] at hf
    omega
theorem oneOf_first {r : List Int} (h : RuleOk r) (v : Nat) : IsFirst r v (oneOf r v) := firstB_first fun c hc e => far_back h (Nat.le_refl _) c hc e
theorem firstB_end {r : List Int} (h : RuleOk r) {k M : Nat} (hk : M + r.length + 1 ≤ k ∨ (M : Int) < sumOf r k) {v : Nat} (hv : v ≤ M) : firstB r k v = oneOf r v := by
  refine IsFirst.eq (v := v) (firstB_first fun c hc e => ?_) (oneOf_first h v)
  rcases hk with hk | hk
  · exact far_back h (by omega) c hc e
  · have := sumOf_mono' h hc
    omega
end Sc
namespace Sc
/-- v letters of the said word by t kinds of letters, n letters in all -/
def R (r : List Int) : Nat → Nat → Nat → Prop
  | 0, v, n => v = 0 ∧ n = 0
  | t + 1, v, n => ∃ w u c n0, v = w + u ∧ sumOf r c = (u : Int) ∧ n = n0 + c ∧ R r t w n0
def IsLeast (C : Nat → Prop) (o : Option Nat) : Prop := (∀ n, o = some n → C n ∧ ∀ n', C n' → n ≤ n') ∧ (o = none → ∀ n, ¬ C n)
theorem IsLeast.eq {C : Nat → Prop} {o o' : Option Nat} (h : IsLeast C o) (h' : IsLeast C o') : o = o' := by
  cases o with
  | none =>
    cases o' with
    | none => rfl
    | some c => exact absurd (h'.1 c rfl).1 (h.2 rfl c)
  | some c =>
    cases o' with
    | none => exact absurd (h.1 c rfl).1 (h'.2 rfl c)
    | some d =>
      have a := (h.1 c rfl).2 d (h'.1 d rfl).1
      have b := (h'.1 d rfl).2 c (h.1 c rfl).1
      rw [Nat.le_antisymm a b]
theorem IsLeast.to {C D : Nat → Prop} {o : Option Nat} (h : IsLeast C o) (h1 : ∀ n, C n → D n) (h2 : ∀ n, D n → ∃ n', n' ≤ n ∧ C n') : IsLeast D o := by
  refine ⟨fun n e => ⟨h1 n (h.1 n e).1, fun n' d => ?_⟩, fun e n d => ?_⟩
  · obtain ⟨m, hm, c⟩ := h2 n' d
    exact Nat.le_trans ((h.1 n e).2 m c) hm
  · obtain ⟨m, _, c⟩ := h2 n d
    exact h.2 e m c
theorem IsLeast.congr {C D : Nat → Prop} {o : Option Nat} (h : IsLeast C o) (e : ∀ n, C n ↔ D n) : IsLeast D o :=
  h.to (fun n c => (e n).mp c) fun n d => ⟨n, Nat.le_refl _, (e n).mpr d⟩
def addL (o : Option Nat) (x : Nat) : Option Nat := some (match o with | none => x | some now => min now x)
theorem IsLeast.add {C : Nat → Prop} {o : Option Nat} (h : IsLeast C o) (x : Nat) : IsLeast (fun n => C n ∨ n = x) (addL o x) := by
  cases o with
  | none =>
    refine ⟨fun n e => ?_, fun e => by cases e⟩
    have e : x = n := Option.some.inj e
    subst e
    refine ⟨.inr rfl, fun n' c => ?_⟩
    rcases c with c | c
    · exact absurd c (h.2 rfl n')
    · omega
  | some now =>
    refine ⟨fun n e => ?_, fun e => by cases e⟩
    have e : min now x = n := Option.some.inj e
    have hn := h.1 now rfl
    refine ⟨?_, fun n' c => ?_⟩
    · by_cases z : now ≤ x
      · rw [Nat.min_eq_left z] at e
        subst e
        exact .inl hn.1
      · rw [Nat.min_eq_right (by omega)] at e
        exact .inr e.symm
    · rcases c with c | c
      · have := hn.2 n' c
        omega
      · omega
/-! ### the program's table -/
def stepM (r : List Int) (w few : Nat) (L : List (Option Nat)) (more : Nat) : List (Option Nat) :=
  match oneOf r more with
  | none => L
  | some c => L.set (w + more) (addL (L.getD (w + more) none) (few + c))
def runM (r : List Int) (w few : Nat) (L : List (Option Nat)) (j : Nat) : List (Option Nat) := (List.range j).foldl (fun L i => stepM r w few L (1 + i)) L
def stepW (r : List Int) (S : Nat) (best L : List (Option Nat)) (w : Nat) : List (Option Nat) :=
  match best.getD w none with
  | none => L
  | some few => runM r w few L (S - w)
def runW (r : List Int) (S : Nat) (best : List (Option Nat)) (i : Nat) : List (Option Nat) := (List.range i).foldl (stepW r S best) best
def bestN (r : List Int) (S : Nat) : Nat → List (Option Nat)
  | 0 => some 0 :: List.replicate S none
  | t + 1 => runW r S (bestN r S t) (S + 1)
theorem runM_succ (r : List Int) (w few : Nat) (L : List (Option Nat)) (j : Nat) : runM r w few L (j + 1) = stepM r w few (runM r w few L j) (1 + j) := by
  unfold runM
  rw [List.range_succ, List.foldl_append]; rfl
theorem runW_succ (r : List Int) (S : Nat) (best : List (Option Nat)) (i : Nat) : runW r S best (i + 1) = stepW r S best (runW r S best i) i := by
  unfold runW
  rw [List.range_succ, List.foldl_append]; rfl
theorem stepM_len (r : List Int) (w few : Nat) (L : List (Option Nat)) (more : Nat) : (stepM r w few L more).length = L.length := by
  unfold stepM
  split
  · rfl
  · rw [List.length_set]
theorem runM_len (r : List Int) (w few : Nat) (L : List (Option Nat)) : ∀ j, (runM r w few L j).length = L.length
  | 0 => rfl
  | j + 1 => by rw [runM_succ, stepM_len, runM_len r w few L j]
theorem stepW_len (r : List Int) (S : Nat) (best L : List (Option Nat)) (w : Nat) : (stepW r S best L w).length = L.length := by
  unfold stepW
  split
  · rfl
  · rw [runM_len]
theorem runW_len (r : List Int) (S : Nat) (best : List (Option Nat)) : ∀ i, (runW r S best i).length = best.length
  | 0 => rfl
  | i + 1 => by rw [runW_succ, stepW_len, runW_len r S best i]
theorem bestN_len (r : List Int) (S : Nat) : ∀ t, (bestN r S t).length = S + 1
  | 0 => by simp [bestN]
  | t + 1 => by
    show (runW r S (bestN r S t) (S + 1)).length = S + 1
    rw [runW_len, bestN_len r S t]
/-- what was asked for v up to whole i and more j -/
def Cand (r : List Int) (best : List (Option Nat)) (i j v n : Nat) : Prop :=
  best.getD v none = some n ∨ ∃ w u few c, (w < i ∨ (w = i ∧ u ≤ j)) ∧ 1 ≤ u ∧ w + u = v ∧ best.getD w none = some few ∧ oneOf r u = some c ∧ n = few + c
def Good (r : List Int) (S : Nat) (best : List (Option Nat)) (i j : Nat) (L : List (Option Nat)) : Prop := L.length = S + 1 ∧ ∀ v, v ≤ S → IsLeast (Cand r best i j v) (L.getD v none)
theorem good_more {r : List Int} {S : Nat} {best L : List (Option Nat)} {i j few : Nat} (g : Good r S best i j L) (hf : best.getD i none = some few) (hj : i + (1 + j) ≤ S) : Good r S best i (j + 1) (stepM r i few L (1 + j)) := by
  refine ⟨by rw [stepM_len]; exact g.1, fun v hv => ?_⟩
  have gv := g.2 v hv
  cases ho : oneOf r (1 + j) with
  | none =>
    have e : stepM r i few L (1 + j) = L := by unfold stepM; rw [ho]
    rw [e]
    refine gv.congr fun n => ⟨fun c => ?_, fun c => ?_⟩
    · rcases c with c | ⟨w, u, f, c, h1, h2, h3, h4, h5, h6⟩
      · exact .inl c
      · exact .inr ⟨w, u, f, c, by omega, h2, h3, h4, h5, h6⟩
    · rcases c with c | ⟨w, u, f, c, h1, h2, h3, h4, h5, h6⟩
      · exact .inl c
      · refine .inr ⟨w, u, f, c, ?_, h2, h3, h4, h5, h6⟩
        by_cases z : w = i ∧ u = 1 + j
        · rw [z.2, ho] at h5; cases h5
        · omega
  | some c0 =>
    have e : stepM r i few L (1 + j) = L.set (i + (1 + j)) (addL (L.getD (i + (1 + j)) none) (few + c0)) := by unfold stepM; rw [ho]
    rw [e]
    by_cases z : i + (1 + j) = v
    · have e2 : (L.set (i + (1 + j)) (addL (L.getD (i + (1 + j)) none) (few + c0))).getD v none = addL (L.getD v none) (few + c0) := by
        rw [← z, List.getD_eq_getElem?_getD, List.getElem?_set_self (by rw [g.1]; omega)]
        rfl
      rw [e2]
      refine (gv.add (few + c0)).congr fun n => ⟨fun c => ?_, fun c => ?_⟩
      · rcases c with (c | ⟨w, u, f, c, h1, h2, h3, h4, h5, h6⟩) | c
        · exact .inl c
        · exact .inr ⟨w, u, f, c, by omega, h2, h3, h4, h5, h6⟩
        · exact .inr ⟨i, 1 + j, few, c0, by omega, by omega, z, hf, ho, c⟩
      · rcases c with c | ⟨w, u, f, c, h1, h2, h3, h4, h5, h6⟩
        · exact .inl (.inl c)
        · by_cases y : w = i
          · have hu : u = 1 + j := by omega
            rw [y, hf] at h4
            rw [hu, ho] at h5
            have e4 := Option.some.inj h4
            have e5 := Option.some.inj h5
            exact .inr (by omega)
          · exact .inl (.inr ⟨w, u, f, c, by omega, h2, h3, h4, h5, h6⟩)
    · have e2 : (L.set (i + (1 + j)) (addL (L.getD (i + (1 + j)) none) (few + c0))).getD v none = L.getD v none := by
        rw [List.getD_eq_getElem?_getD, List.getElem?_set_ne z, List.getD_eq_getElem?_getD]
      rw [e2]
      refine gv.congr fun n => ⟨fun c => ?_, fun c => ?_⟩
      · rcases c with c | ⟨w, u, f, c, h1, h2, h3, h4, h5, h6⟩
        · exact .inl c
        · exact .inr ⟨w, u, f, c, by omega, h2, h3, h4, h5, h6⟩
      · rcases c with c | ⟨w, u, f, c, h1, h2, h3, h4, h5, h6⟩
        · exact .inl c
        · exact .inr ⟨w, u, f, c, by omega, h2, h3, h4, h5, h6⟩
theorem good_runM {r : List Int} {S : Nat} {best L : List (Option Nat)} {i few : Nat} (g : Good r S best i 0 L) (hf : best.getD i none = some few) : ∀ j, i + j ≤ S → Good r S best i j (runM r i few L j)
  | 0, _ => g
  | j + 1, h => by
    rw [runM_succ]
    exact good_more (good_runM g hf j (by omega)) hf (by omega)
theorem good_whole {r : List Int} {S : Nat} {best L : List (Option Nat)} {i : Nat} (g : Good r S best i 0 L) (hi : i ≤ S) : Good r S best (i + 1) 0 (stepW r S best L i) := by
  cases hf : best.getD i none with
  | none =>
    have e : stepW r S best L i = L := by unfold stepW; rw [hf]
    rw [e]
    refine ⟨g.1, fun v hv => (g.2 v hv).congr fun n => ⟨fun c => ?_, fun c => ?_⟩⟩
    · rcases c with c | ⟨w, u, f, c, h1, h2, h3, h4, h5, h6⟩
      · exact .inl c
      · exact .inr ⟨w, u, f, c, by omega, h2, h3, h4, h5, h6⟩
    · rcases c with c | ⟨w, u, f, c, h1, h2, h3, h4, h5, h6⟩
      · exact .inl c
      · refine .inr ⟨w, u, f, c, ?_, h2, h3, h4, h5, h6⟩
        by_cases z : w = i
        · rw [z, hf] at h4; cases h4
        · omega
  | some few =>
    have e : stepW r S best L i = runM r i few L (S - i) := by unfold stepW; rw [hf]
    rw [e]
    have g2 := good_runM g hf (S - i) (by omega)
    refine ⟨g2.1, fun v hv => (g2.2 v hv).congr fun n => ⟨fun c => ?_, fun c => ?_⟩⟩
    · rcases c with c | ⟨w, u, f, c, h1, h2, h3, h4, h5, h6⟩
      · exact .inl c
      · exact .inr ⟨w, u, f, c, by omega, h2, h3, h4, h5, h6⟩
    · rcases c with c | ⟨w, u, f, c, h1, h2, h3, h4, h5, h6⟩
      · exact .inl c
      · exact .inr ⟨w, u, f, c, by omega, h2, h3, h4, h5, h6⟩
theorem good_runW {r : List Int} {S : Nat} {best : List (Option Nat)} (hl : best.length = S + 1) : ∀ i, i ≤ S + 1 → Good r S best i 0 (runW r S best i)
  | 0, _ => by
    refine ⟨hl, fun v hv => ⟨fun n e => ⟨.inl e, fun n' c => ?_⟩, fun e n c => ?_⟩⟩
    · rcases c with c | ⟨w, u, f, c, h1, h2, h3, h4, h5, h6⟩
      · have : some n = some n' := e.symm.trans c
        exact Nat.le_of_eq (Option.some.inj this)
      · omega
    · rcases c with c | ⟨w, u, f, c, h1, h2, h3, h4, h5, h6⟩
      · have : none = some n := e.symm.trans c
        cases this
      · omega
  | i + 1, h => by
    rw [runW_succ]
    exact good_whole (good_runW hl i (by omega)) (by omega)
theorem bestN_least {r : List Int} (ok : RuleOk r) (S : Nat) : ∀ t v, v ≤ S → IsLeast (R r t v) ((bestN r S t).getD v none)
  | 0, v, hv => by
    cases v with
    | zero =>
      refine ⟨fun n e => ?_, fun e => by cases e⟩
      have e : 0 = n := Option.some.inj e
      subst e
      exact ⟨⟨rfl, rfl⟩, fun n' _ => Nat.zero_le _⟩
    | succ v =>
      have e : (bestN r S 0).getD (v + 1) none = none := by
        show (some 0 :: List.replicate S none).getD (v + 1) none = none
        rw [List.getD_cons_succ, List.getD_eq_getElem?_getD, List.getElem?_replicate]
        split <;> rfl
      rw [e]
      refine ⟨fun n e => (by cases e), fun _ n c => ?_⟩
      have := c.1
      omega
  | t + 1, v, hv => by
    have g := (good_runW (r := r) (bestN_len r S t) (S + 1) (Nat.le_refl _)).2 v hv
    have ih := bestN_least ok S t
    refine g.to (fun n c => ?_) fun n c => ?_
    · rcases c with c | ⟨w, u, f, c, h1, h2, h3, h4, h5, h6⟩
      · exact ⟨v, 0, 0, n, rfl, rfl, rfl, ((ih v hv).1 n c).1⟩
      · exact ⟨w, u, c, f, h3.symm, ((oneOf_first ok u).1 c h5).1, h6, ((ih w (by omega)).1 f h4).1⟩
    · obtain ⟨w, u, c, n0, e1, e2, e3, e4⟩ := c
      have hw := ih w (by omega)
      cases hf : (bestN r S t).getD w none with
      | none => exact absurd e4 (hw.2 hf n0)
      | some f =>
        have hfn := (hw.1 f hf).2 n0 e4
        cases hc : oneOf r u with
        | none => exact absurd e2 ((oneOf_first ok u).2 hc c)
        | some c' =>
          have hcc := (oneOf_first ok u).1 c' hc
          have hle : c' ≤ c := by
            refine Nat.le_of_not_lt fun z => hcc.2 c z e2
          by_cases z : u = 0
          · have : w = v := by omega
            subst this
            exact ⟨f, by omega, .inl hf⟩
          · exact ⟨f + c', by omega, .inr ⟨w, u, f, c', by omega, by omega, e1.symm, hf, hc, rfl⟩⟩
end Sc
namespace Sc
/-! ### ascending lists -/
theorem asc_eq : ∀ {xs ys : List Int}, xs.Pairwise (· < ·) → ys.Pairwise (· < ·) → (∀ v, v ∈ xs ↔ v ∈ ys) → xs = ys
  | [], [], _, _, _ => rfl
  | [], y :: ys, _, _, h => by have := (h y).mpr List.mem_cons_self; cases this
  | x :: xs, [], _, _, h => by have := (h x).mp List.mem_cons_self; cases this
  | x :: xs, y :: ys, hx, hy, h => by
    rw [List.pairwise_cons] at hx hy
    have e : x = y := by
      have a := (h x).mp List.mem_cons_self
      have b := (h y).mpr List.mem_cons_self
      rcases List.mem_cons.mp a with a | a
      · exact a
      · rcases List.mem_cons.mp b with b | b
        · exact b.symm
        · have h1 := hx.1 y b
          have h2 := hy.1 x a
          omega
    subst e
    rw [asc_eq hx.2 hy.2 fun v => ⟨fun m => ?_, fun m => ?_⟩]
    · rcases List.mem_cons.mp ((h v).mp (List.mem_cons_of_mem _ m)) with z | z
      · have := hx.1 v m
        omega
      · exact z
    · rcases List.mem_cons.mp ((h v).mpr (List.mem_cons_of_mem _ m)) with z | z
      · have := hy.1 v m
        omega
      · exact z
theorem asc_range (p : Nat → Bool) (n : Nat) : (((List.range n).filter p).map fun (v : Nat) => (v : Int)).Pairwise (· < ·) := by
  rw [List.pairwise_map]
  refine List.Pairwise.filter _ ?_
  exact List.Pairwise.imp (fun h => by omega) List.pairwise_lt_range
theorem mem_range_map {p : Nat → Bool} {n : Nat} {v : Int} : v ∈ (((List.range n).filter p).map fun (v : Nat) => (v : Int)) ↔ ∃ u : Nat, v = u ∧ u < n ∧ p u = true := by
  rw [List.mem_map]
  constructor
  · rintro ⟨u, h, e⟩
    rw [List.mem_filter, List.mem_range] at h
    exact ⟨u, e.symm, h.1, h.2⟩
  · rintro ⟨u, e, h1, h2⟩
    exact ⟨u, by rw [List.mem_filter, List.mem_range]; exact ⟨h1, h2⟩, e.symm⟩
/-! ### the lengths said -/
def onesN (r : List Int) (M : Nat) : List Nat := (List.range (M + 1)).filter fun v => (oneOf r v).isSome
def laterN (r : List Int) (M : Nat) (found : List Nat) (i : Nat) : List Nat := (found.take i).flatMap fun w => ((onesN r M).filter fun u => decide (w + u ≤ M)).map fun u => w + u
def foundN (r : List Int) (M : Nat) : Nat → List Nat
  | 0 => [0]
  | t + 1 => (List.range (M + 1)).filter fun v => decide (v ∈ laterN r M (foundN r M t) (foundN r M t).length)
theorem mem_later {r : List Int} {M : Nat} {found : List Nat} {v : Nat} : v ∈ laterN r M found found.length ↔ v ≤ M ∧ ∃ w u, w ∈ found ∧ (oneOf r u).isSome = true ∧ v = w + u := by
  unfold laterN
  rw [List.take_length, List.mem_flatMap]
  constructor
  · rintro ⟨w, hw, h⟩
    obtain ⟨u, hu, e⟩ := List.mem_map.mp h
    rw [List.mem_filter] at hu
    unfold onesN at hu
    rw [List.mem_filter] at hu
    have := of_decide_eq_true hu.2
    exact ⟨by omega, w, u, hw, hu.1.2, e.symm⟩
  · rintro ⟨hv, w, u, hw, hu, e⟩
    refine ⟨w, hw, List.mem_map.mpr ⟨u, ?_, e.symm⟩⟩
    unfold onesN
    rw [List.mem_filter, List.mem_filter, List.mem_range]
    exact ⟨⟨by omega, hu⟩, decide_eq_true (by omega)⟩
theorem foundN_mem {r : List Int} (ok : RuleOk r) (M : Nat) : ∀ t v, v ∈ foundN r M t ↔ v ≤ M ∧ ∃ n, R r t v n
  | 0, v => by
    show v ∈ [0] ↔ _
    rw [List.mem_singleton]
    constructor
    · rintro rfl
      exact ⟨Nat.zero_le _, 0, rfl, rfl⟩
    · rintro ⟨_, n, h, _⟩
      exact h
  | t + 1, v => by
    show v ∈ (List.range (M + 1)).filter _ ↔ _
    rw [List.mem_filter, List.mem_range]
    constructor
    · rintro ⟨h1, h2⟩
      obtain ⟨hv, w, u, hw, hu, e⟩ := mem_later.mp (of_decide_eq_true h2)
      obtain ⟨_, n, hn⟩ := (foundN_mem ok M t w).mp hw
      obtain ⟨c, hc⟩ := Option.isSome_iff_exists.mp hu
      exact ⟨hv, n + c, w, u, c, n, e, ((oneOf_first ok u).1 c hc).1, rfl, hn⟩
    · rintro ⟨hv, n, w, u, c, n0, e1, e2, e3, e4⟩
      refine ⟨by omega, decide_eq_true (mem_later.mpr ⟨hv, w, u, (foundN_mem ok M t w).mpr ⟨by omega, n0, e4⟩, ?_, e1⟩)⟩
      cases hc : oneOf r u with
      | none => exact absurd e2 ((oneOf_first ok u).2 hc c)
      | some c' => rfl
theorem foundN_asc (r : List Int) (M : Nat) : ∀ t, ((foundN r M t).map fun (v : Nat) => (v : Int)).Pairwise (· < ·)
  | 0 => List.pairwise_singleton _ _
  | t + 1 => asc_range _ _
theorem foundN_len (r : List Int) (M : Nat) : ∀ t, (foundN r M t).length ≤ M + 1
  | 0 => by show 1 ≤ M + 1; omega
  | t + 1 => by
    have := List.length_filter_le (fun v => decide (v ∈ laterN r M (foundN r M t) (foundN r M t).length)) (List.range (M + 1))
    rw [List.length_range] at this
    exact this
theorem onesN_len (r : List Int) (M : Nat) : (onesN r M).length ≤ M + 1 := by
  have := List.length_filter_le (fun v => (oneOf r v).isSome) (List.range (M + 1))
  rw [List.length_range] at this
  exact this
theorem laterN_succ {r : List Int} {M : Nat} {found : List Nat} {i w : Nat} (h : found[i]? = some w) : laterN r M found (i + 1) = laterN r M found i ++ ((onesN r M).filter fun u => decide (w + u ≤ M)).map fun u => w + u := by
  unfold laterN
  rw [List.take_add_one, h, List.flatMap_append]
  simp
theorem laterN_len (r : List Int) (M : Nat) (found : List Nat) : ∀ i, (laterN r M found i).length ≤ i * (M + 1)
  | 0 => by unfold laterN; simp
  | i + 1 => by
    have ih := laterN_len r M found i
    cases h : found[i]? with
    | none =>
      unfold laterN
      rw [List.take_add_one, h]
      unfold laterN at ih
      simp only [Option.toList_none, List.append_nil]
      rw [Nat.add_mul]
      omega
    | some w =>
      rw [laterN_succ h, List.length_append, List.length_map, Nat.add_mul]
      have a := List.length_filter_le (fun u => decide (w + u ≤ M)) (onesN r M)
      have b := onesN_len r M
      omega
/-- what sorted(set(later)) is -/
theorem found_is {r : List Int} {M t : Nat} {ns : List Int} (h1 : ns.Pairwise (· < ·)) (h2 : ∀ k : Int, k ∈ ns ↔ k ∈ (laterN r M (foundN r M t) (foundN r M t).length).map fun (v : Nat) => (v : Int)) :
    ns = (foundN r M (t + 1)).map fun (v : Nat) => (v : Int) := by
  refine asc_eq h1 (foundN_asc r M (t + 1)) fun v => ?_
  rw [h2]
  show _ ↔ v ∈ ((List.range (M + 1)).filter _).map _
  rw [mem_range_map, List.mem_map]
  constructor
  · rintro ⟨u, hu, e⟩
    exact ⟨u, e.symm, by have := (mem_later.mp hu).1; omega, decide_eq_true hu⟩
  · rintro ⟨u, e, _, hu⟩
    exact ⟨u, of_decide_eq_true hu, e.symm⟩
end Sc
namespace Sc
/-! ### the law's table: pairs (whole, count) in the order in which they came -/
def lookA : List (Nat × Nat) → Nat → Option Nat
  | [], _ => none
  | p :: r, v => if p.1 = v then some p.2 else lookA r v
theorem look_cons (p : Nat × Nat) (r : List (Nat × Nat)) (v : Nat) : lookA (p :: r) v = if p.1 = v then some p.2 else lookA r v := rfl
def chgA (v n : Nat) (p : Nat × Nat) : Nat × Nat := if p.1 = v then (p.1, n) else p
def putA (d : List (Nat × Nat)) (v n : Nat) : List (Nat × Nat) := if (lookA d v).isSome = true then d.map (chgA v n) else d ++ [(v, n)]
theorem chg_key (v n : Nat) (p : Nat × Nat) : (chgA v n p).1 = p.1 := by
  unfold chgA
  split <;> rfl
theorem look_chg (v n u : Nat) : ∀ d : List (Nat × Nat), lookA (d.map (chgA v n)) u = if u = v then (lookA d v).map (fun _ => n) else lookA d u
  | [] => by simp [lookA]
  | p :: r => by
    show (if (chgA v n p).1 = u then some (chgA v n p).2 else lookA (r.map (chgA v n)) u) = _
    rw [look_chg v n u r, chg_key, look_cons, look_cons]
    unfold chgA
    by_cases h1 : p.1 = u
    · by_cases h2 : u = v
      · subst h2
        simp [h1]
      · rw [if_pos h1, if_neg h2, if_pos h1, if_neg (by omega)]
    · by_cases h2 : u = v
      · subst h2
        simp [h1]
      · rw [if_neg h1, if_neg h2, if_neg h2, if_neg h1]
theorem look_app (v n u : Nat) : ∀ d : List (Nat × Nat), lookA (d ++ [(v, n)]) u = (lookA d u).or (if v = u then some n else none)
  | [] => by
    simp [lookA]
  | p :: r => by
    show (if p.1 = u then some p.2 else lookA (r ++ [(v, n)]) u) = _
    rw [look_app v n u r, look_cons]
    by_cases h : p.1 = u
    · simp [h]
    · simp [h]
theorem look_put (d : List (Nat × Nat)) (v n u : Nat) : lookA (putA d v n) u = if u = v then some n else lookA d u := by
  unfold putA
  by_cases h : (lookA d v).isSome = true
  · rw [if_pos h, look_chg]
    by_cases e : u = v
    · obtain ⟨x, hx⟩ := Option.isSome_iff_exists.mp h
      rw [if_pos e, if_pos e, hx]
      rfl
    · rw [if_neg e, if_neg e]
  · rw [if_neg h, look_app]
    have hn : lookA d v = none := by
      cases hx : lookA d v with
      | none => rfl
      | some x => rw [hx] at h; exact absurd rfl h
    by_cases e : u = v
    · subst e
      simp [hn]
    · rw [if_neg e, if_neg (fun z => e z.symm)]
      simp
theorem look_none {v : Nat} : ∀ {d : List (Nat × Nat)}, lookA d v = none ↔ v ∉ d.map (·.1)
  | [] => by simp [lookA]
  | p :: r => by
    unfold lookA
    rw [List.map_cons, List.mem_cons, not_or, ← look_none (d := r)]
    by_cases h : p.1 = v
    · simp [h]
    · rw [if_neg h]
      constructor
      · exact fun z => ⟨fun y => h y.symm, z⟩
      · exact fun z => z.2
theorem look_mem {v n : Nat} : ∀ {d : List (Nat × Nat)}, lookA d v = some n → (v, n) ∈ d
  | [], h => by cases h
  | p :: r, h => by
    unfold lookA at h
    by_cases e : p.1 = v
    · rw [if_pos e] at h
      have e2 := Option.some.inj h
      rw [← e, ← e2]
      exact List.mem_cons_self
    · rw [if_neg e] at h
      exact List.mem_cons_of_mem _ (look_mem h)
theorem look_of {d : List (Nat × Nat)} (nd : (d.map (·.1)).Nodup) : ∀ {p : Nat × Nat}, p ∈ d → lookA d p.1 = some p.2 := by
  induction d with
  | nil => intro p h; cases h
  | cons q r ih =>
    intro p h
    rw [List.map_cons] at nd; rw [List.nodup_cons] at nd
    unfold lookA
    obtain e | e := List.mem_cons.mp h
    · rw [e, if_pos rfl]
    · rw [if_neg (fun z => nd.1 (by rw [z]; exact List.mem_map_of_mem e))]
      exact ih nd.2 e
theorem put_keys_old {d : List (Nat × Nat)} {v n : Nat} (h : (lookA d v).isSome = true) : (putA d v n).map (·.1) = d.map (·.1) := by
  unfold putA
  rw [if_pos h, List.map_map]
  exact List.map_congr_left fun p _ => chg_key v n p
theorem put_keys_new {d : List (Nat × Nat)} {v n : Nat} (h : lookA d v = none) : (putA d v n).map (·.1) = d.map (·.1) ++ [v] := by
  unfold putA
  rw [if_neg (by rw [h]; exact Bool.false_ne_true), List.map_append]
  rfl
theorem put_nodup {d : List (Nat × Nat)} {v n : Nat} (nd : (d.map (·.1)).Nodup) : ((putA d v n).map (·.1)).Nodup := by
  cases h : lookA d v with
  | some x => rw [put_keys_old (by rw [h]; rfl)]; exact nd
  | none =>
    rw [put_keys_new h, List.nodup_append]
    refine ⟨nd, (by simp), fun a ha b hb => ?_⟩
    rw [List.mem_singleton] at hb
    subst hb
    exact fun z => look_none.mp h (z ▸ ha)
theorem put_keys_le {d : List (Nat × Nat)} {v n M : Nat} (hd : ∀ x ∈ d.map (·.1), x ≤ M) (hv : v ≤ M) : ∀ x ∈ (putA d v n).map (·.1), x ≤ M := by
  cases h : lookA d v with
  | some y => rw [put_keys_old (by rw [h]; rfl)]; exact hd
  | none =>
    rw [put_keys_new h]
    intro x hx
    rcases List.mem_append.mp hx with e | e
    · exact hd x e
    · rw [List.mem_singleton] at e
      omega
theorem nodup_len : ∀ (M : Nat) {l : List Nat}, l.Nodup → (∀ x ∈ l, x < M) → l.length ≤ M
  | 0, l, _, h => by
    cases l with
    | nil => exact Nat.le_refl _
    | cons x t => exact absurd (h x List.mem_cons_self) (Nat.not_lt_zero _)
  | M + 1, l, nd, h => by
    have a := nodup_len M (l := l.erase M) (nd.erase M) fun x hx => by
      have b := (nd.mem_erase_iff).mp hx
      have c := h x b.2
      omega
    have := List.le_length_erase (l := l) (a := M)
    omega
/-! ### one turn of the law -/
def lawStep (r : List Int) (M w few : Nat) (d : List (Nat × Nat)) (c : Nat) : List (Nat × Nat) :=
  if w + (sumOf r c).toNat ≤ M then putA d (w + (sumOf r c).toNat) (min ((lookA d (w + (sumOf r c).toNat)).getD 999) (few + c)) else d
def lawC (r : List Int) (M w few : Nat) (d : List (Nat × Nat)) (j : Nat) : List (Nat × Nat) := (List.range j).foldl (lawStep r M w few) d
def lawW (r : List Int) (M : Nat) (best : List (Nat × Nat)) (i : Nat) : List (Nat × Nat) := (best.take i).foldl (fun d p => lawC r M p.1 p.2 d (M + 8)) []
def lawN (r : List Int) (M : Nat) : Nat → List (Nat × Nat)
  | 0 => [(0, 0)]
  | t + 1 => lawW r M (lawN r M t) (lawN r M t).length
theorem lawC_succ (r : List Int) (M w few : Nat) (d : List (Nat × Nat)) (j : Nat) : lawC r M w few d (j + 1) = lawStep r M w few (lawC r M w few d j) j := by
  unfold lawC
  rw [List.range_succ, List.foldl_append]; rfl
theorem lawW_succ {r : List Int} {M : Nat} {best : List (Nat × Nat)} {i : Nat} {p : Nat × Nat} (h : best[i]? = some p) : lawW r M best (i + 1) = lawC r M p.1 p.2 (lawW r M best i) (M + 8) := by
  unfold lawW
  rw [List.take_add_one, h, List.foldl_append]; rfl
def LCand (r : List Int) (M : Nat) (best : List (Nat × Nat)) (i j v n : Nat) : Prop :=
  ∃ k w few c, best[k]? = some (w, few) ∧ (k < i ∨ (k = i ∧ c < j)) ∧ c < M + 8 ∧ w + (sumOf r c).toNat = v ∧ n = few + c
structure LGood (r : List Int) (M : Nat) (best : List (Nat × Nat)) (i j : Nat) (d : List (Nat × Nat)) : Prop where
  nd : (d.map (·.1)).Nodup
  le : ∀ x ∈ d.map (·.1), x ≤ M
  least : ∀ v, v ≤ M → IsLeast (LCand r M best i j v) (lookA d v)
theorem addL_min {o : Option Nat} {x : Nat} (h : x ≤ 999) : addL o x = some (min (o.getD 999) x) := by
  cases o with
  | none =>
    show some x = some (min 999 x)
    rw [Nat.min_eq_right h]
  | some y => rfl
theorem lgood_step {r : List Int} {M : Nat} {best d : List (Nat × Nat)} {i j w few : Nat} (g : LGood r M best i j d) (hb : best[i]? = some (w, few)) (hj : j < M + 8) (hs : few + j ≤ 999) : LGood r M best i (j + 1) (lawStep r M w few d j) := by
  unfold lawStep
  by_cases h : w + (sumOf r j).toNat ≤ M
  · rw [if_pos h]
    refine ⟨put_nodup g.nd, put_keys_le g.le h, fun v hv => ?_⟩
    rw [look_put]
    by_cases e : v = w + (sumOf r j).toNat
    · rw [if_pos e, ← addL_min hs, ← e]
      refine ((g.least v hv).add (few + j)).congr fun n => ⟨fun c => ?_, fun c => ?_⟩
      · rcases c with ⟨k, w', f, c, h1, h2, h3, h4, h5⟩ | c
        · exact ⟨k, w', f, c, h1, by omega, h3, h4, h5⟩
        · exact ⟨i, w, few, j, hb, by omega, hj, e.symm, c⟩
      · obtain ⟨k, w', f, c, h1, h2, h3, h4, h5⟩ := c
        by_cases z : k = i ∧ c = j
        · right
          rw [z.1, hb] at h1
          have := Option.some.inj h1
          have e2 : few = f := congrArg Prod.snd this
          omega
        · exact .inl ⟨k, w', f, c, h1, by omega, h3, h4, h5⟩
    · rw [if_neg e]
      refine (g.least v hv).congr fun n => ⟨fun c => ?_, fun c => ?_⟩
      · obtain ⟨k, w', f, c, h1, h2, h3, h4, h5⟩ := c
        exact ⟨k, w', f, c, h1, by omega, h3, h4, h5⟩
      · obtain ⟨k, w', f, c, h1, h2, h3, h4, h5⟩ := c
        refine ⟨k, w', f, c, h1, ?_, h3, h4, h5⟩
        by_cases z : k = i ∧ c = j
        · rw [z.1, hb] at h1
          have e2 : w = w' := congrArg Prod.fst (Option.some.inj h1)
          rw [z.2, ← e2] at h4
          exact absurd h4.symm e
        · omega
  · rw [if_neg h]
    refine ⟨g.nd, g.le, fun v hv => (g.least v hv).congr fun n => ⟨fun c => ?_, fun c => ?_⟩⟩
    · obtain ⟨k, w', f, c, h1, h2, h3, h4, h5⟩ := c
      exact ⟨k, w', f, c, h1, by omega, h3, h4, h5⟩
    · obtain ⟨k, w', f, c, h1, h2, h3, h4, h5⟩ := c
      refine ⟨k, w', f, c, h1, ?_, h3, h4, h5⟩
      by_cases z : k = i ∧ c = j
      · rw [z.1, hb] at h1
        have e2 : w = w' := congrArg Prod.fst (Option.some.inj h1)
        rw [z.2, ← e2] at h4
        omega
      · omega
theorem lgood_C {r : List Int} {M : Nat} {best d : List (Nat × Nat)} {i w few : Nat} (g : LGood r M best i 0 d) (hb : best[i]? = some (w, few)) (hs : few + (M + 8) ≤ 999) : ∀ j, j ≤ M + 8 → LGood r M best i j (lawC r M w few d j)
  | 0, _ => g
  | j + 1, h => by
    rw [lawC_succ]
    exact lgood_step (lgood_C g hb hs j (by omega)) hb (by omega) (by omega)
theorem lgood_W {r : List Int} {M : Nat} {best : List (Nat × Nat)} {N : Nat} (hN : ∀ p ∈ best, p.2 ≤ N) (hs : N + (M + 8) ≤ 999) : ∀ i, i ≤ best.length → LGood r M best i 0 (lawW r M best i)
  | 0, _ => by
    refine ⟨List.nodup_nil, fun x hx => ?_, fun v _ => ⟨fun n e => ?_, fun _ n c => ?_⟩⟩
    · cases hx
    · cases e
    · obtain ⟨k, w', f, c, h1, h2, h3, h4, h5⟩ := c
      omega
  | i + 1, h => by
    have hb : best[i]? = some (best[i].1, best[i].2) := List.getElem?_eq_getElem (by omega)
    rw [lawW_succ hb]
    have g := lgood_C (r := r) (lgood_W hN hs i (by omega)) hb (by have := hN best[i] (List.getElem_mem _); omega) (M + 8) (Nat.le_refl _)
    refine ⟨g.nd, g.le, fun v hv => (g.least v hv).congr fun n => ⟨fun c => ?_, fun c => ?_⟩⟩
    · obtain ⟨k, w', f, c, h1, h2, h3, h4, h5⟩ := c
      exact ⟨k, w', f, c, h1, by omega, h3, h4, h5⟩
    · obtain ⟨k, w', f, c, h1, h2, h3, h4, h5⟩ := c
      exact ⟨k, w', f, c, h1, by omega, h3, h4, h5⟩
structure LawAt (r : List Int) (M t : Nat) (d : List (Nat × Nat)) : Prop where
  nd : (d.map (·.1)).Nodup
  le : ∀ x ∈ d.map (·.1), x ≤ M
  few : ∀ p ∈ d, p.2 ≤ t * (M + 7)
  least : ∀ v, v ≤ M → IsLeast (R r t v) (lookA d v)
theorem lawN_at {r : List Int} (ok : RuleOk r) (hl : r.length ≤ 5) {M : Nat} (hM : M ≤ 13) : ∀ t, t ≤ 4 → LawAt r M t (lawN r M t)
  | 0, _ => by
    refine ⟨by show ([0] : List Nat).Nodup; simp, fun x hx => ?_, fun p hp => ?_, fun v hv => ?_⟩
    · have : x ∈ [0] := hx
      rw [List.mem_singleton] at this
      omega
    · have : p ∈ [(0, 0)] := hp
      rw [List.mem_singleton] at this
      rw [this]
      exact Nat.zero_le _
    · show IsLeast (R r 0 v) (if 0 = v then some 0 else none)
      by_cases e : 0 = v
      · rw [if_pos e]
        refine ⟨fun n z => ?_, fun z => by cases z⟩
        have z : 0 = n := Option.some.inj z
        subst z
        exact ⟨⟨e.symm, rfl⟩, fun n' _ => Nat.zero_le _⟩
      · rw [if_neg e]
        refine ⟨fun n z => (by cases z), fun _ n c => e c.1.symm⟩
  | t + 1, ht => by
    have ih := lawN_at ok hl hM t (by omega)
    have hN : ∀ p ∈ lawN r M t, p.2 ≤ 80 := fun p hp => by
      have := ih.few p hp
      have : t * (M + 7) ≤ 4 * 20 := Nat.mul_le_mul (by omega) (by omega)
      omega
    have g := lgood_W (r := r) (M := M) hN (by omega) (lawN r M t).length (Nat.le_refl _)
    refine ⟨g.nd, g.le, fun p hp => ?_, fun v hv => (g.least v hv).to (fun n c => ?_) fun n c => ?_⟩
    · have hk := g.le p.1 (List.mem_map_of_mem hp)
      obtain ⟨k, w, f, c, h1, h2, h3, h4, h5⟩ := ((g.least p.1 hk).1 p.2 (look_of g.nd hp)).1
      have := ih.few (w, f) (List.mem_of_getElem? h1)
      have e : (t + 1) * (M + 7) = t * (M + 7) + (M + 7) := by rw [Nat.add_mul, Nat.one_mul]
      simp only at this
      omega
    · obtain ⟨k, w, f, c, h1, h2, h3, h4, h5⟩ := c
      have hw : (w, f) ∈ lawN r M t := List.mem_of_getElem? h1
      have hs := (sumOf_bd ok c).1
      exact ⟨w, (sumOf r c).toNat, c, f, h4.symm, by omega, h5, ((ih.least w (by omega)).1 f (look_of ih.nd hw)).1⟩
    · obtain ⟨w, u, c, n0, e1, e2, e3, e4⟩ := c
      have hw := ih.least w (by omega)
      cases hf : lookA (lawN r M t) w with
      | none => exact absurd e4 (hw.2 hf n0)
      | some f =>
        have hfn := (hw.1 f hf).2 n0 e4
        obtain ⟨k, hk, hkk⟩ := List.getElem_of_mem (look_mem hf)
        cases hc : oneOf r u with
        | none => exact absurd e2 ((oneOf_first ok u).2 hc c)
        | some c' =>
          have hcc := (oneOf_first ok u).1 c' hc
          have hle : c' ≤ c := Nat.le_of_not_lt fun z => hcc.2 c z e2
          have hlt : c' < u + r.length + 1 := by
            unfold oneOf firstB at hc
            have := (List.find?_range_eq_some.mp hc).2.1
            exact List.mem_range.mp this
          refine ⟨f + c', by omega, k, w, f, c', by rw [List.getElem?_eq_getElem hk, hkk], .inl hk, by omega, by rw [hcc.1]; omega, rfl⟩
/-! ### what program and law agree on -/
theorem agree_few {r : List Int} (ok : RuleOk r) (hl : r.length ≤ 5) {M m S : Nat} (hM : M ≤ 13) (hm : m ≤ 4) (hS : S ≤ M) : (bestN r S m).getD S none = lookA (lawN r M m) S :=
  (bestN_least ok S m S (Nat.le_refl _)).eq ((lawN_at ok hl hM m hm).least S hS)
theorem agree_found {r : List Int} (ok : RuleOk r) (hl : r.length ≤ 5) {M m : Nat} (hM : M ≤ 13) (hm : m ≤ 4) {ns : List Int} (h1 : ns.Pairwise (· ≤ ·)) (h2 : ns.Perm ((lawN r M m).map fun p => (p.1 : Int))) :
    ns = (foundN r M m).map fun (v : Nat) => (v : Int) := by
  have A := lawN_at ok hl hM m hm
  have nd : ns.Nodup := by
    rw [h2.nodup_iff]
    have e : (lawN r M m).map (fun p => (p.1 : Int)) = ((lawN r M m).map (·.1)).map fun (v : Nat) => (v : Int) := by
      rw [List.map_map]
      rfl
    rw [e]
    exact List.Pairwise.map _ (fun a b h z => h (by omega)) A.nd
  refine asc_eq ?_ (foundN_asc r M m) fun v => ?_
  · have := List.Pairwise.and h1 nd
    exact this.imp fun h => by
      have := h.1
      have := h.2
      omega
  · rw [h2.mem_iff, List.mem_map, List.mem_map]
    constructor
    · rintro ⟨p, hp, e⟩
      have hle := A.le p.1 (List.mem_map_of_mem hp)
      exact ⟨p.1, (foundN_mem ok M m p.1).mpr ⟨hle, p.2, ((A.least p.1 hle).1 p.2 (look_of A.nd hp)).1⟩, e⟩
    · rintro ⟨u, hu, e⟩
      obtain ⟨hle, n, hn⟩ := (foundN_mem ok M m u).mp hu
      cases h : lookA (lawN r M m) u with
      | none => exact absurd hn ((A.least u hle).2 h n)
      | some x => exact ⟨(u, x), look_mem h, e⟩
end Sc
namespace Sc
open PySem PySem.Spec PyProof.Rows L2 Kx
def topS (i : Nat) : Stmt := PySem.Challenge.pw_saidcounts_k85_whole_lengths_reached.main.body.getD i (.Pass ⟨0, 0, 0, 0⟩)
abbrev sIsInt : Stmt := topS 8
abbrev sIsFrom : Stmt := topS 9
abbrev sNeedFrom : Stmt := topS 10
abbrev sNeedRule : Stmt := topS 11
abbrev sSumOf : Stmt := topS 12
abbrev sLetters : Stmt := topS 15
abbrev sFewest : Stmt := topS 16
abbrev sLengths : Stmt := topS 17
abbrev sTaken : Stmt := topS 19
abbrev sAlike : Stmt := topS 20
abbrev sRule : Stmt := topS 21
abbrev sTimes : Stmt := topS 22
abbrev sSum : Stmt := topS 23
abbrev sLaw : Stmt := topS 24
/-- the built-in names that no statement of the top binds -/
structure Bl (mg : Str → Option Value) : Prop where
  isi : mg "isinstance" = none
  len : mg "len" = none
  sum : mg "sum" = none
  range : mg "range" = none
  tuple : mg "tuple" = none
  list : mg "list" = none
  set : mg "set" = none
  sorted : mg "sorted" = none
  enum : mg "enumerate" = none
  min : mg "min" = none
  int : mg "int" = none
  str : mg "str" = none
  bool : mg "bool" = none
theorem same_new {H : Hp} {p : Addr} {o : HO} (h : H p = none) : Same H (upd H p o) := fun b x e => by
  rw [upd_ne (ne_of_none e h)]
  exact e
theorem Same.sqT {K : PySem.W.Frag} {H H' : Hp} {a : Addr} {xs : List V} (e : Same H H') (h : SqT K H a xs) : SqT K H' a xs :=
  h.imp (fun z => z.imp (fun y => e _ _ y) fun ⟨o, y⟩ => ⟨o, e _ _ y⟩) id
section
variable {K : PySem.W.Frag} {mg : Str → Option Value} {P : Program} {w : World} {base : Heap}
/-! ### is_int -/
theorem scIsInt : FnScope ["value"] ["value"] (defScope sIsInt) := ⟨rfl, rfl, rfl, by decide +kernel, rfl, by decide +kernel, by decide +kernel⟩
def spIsInt : Sp := fun vs H Q _ => ∃ n : Int, vs = [.int n] ∧ Q (.bl true) H
theorem kit_int_int : PySem.W.kitOne K (.type "int") (.type "int") = some true := by
  first | rfl | decide +kernel | simp [PySem.W.kitOne]
theorem kit_int_bool : PySem.W.kitOne K (.type "int") (.type "bool") = some false := by
  first | rfl | decide +kernel | simp [PySem.W.kitOne]
theorem ok_is_int {f : Addr} {fd : FuncData} (F : Fun K "is_int" "is_int" sIsInt f fd) (B : Bl mg) : FnOk P w K mg base CX0 1 f fd ["value"] spIsInt := by
  refine F.ok scIsInt (fun vs H Q E h => ?_) (fun cdv A outer s H vs Q E hr h => ?_)
  · obtain ⟨n, rfl, _⟩ := h
    rfl
  · obtain ⟨n, rfl, q⟩ := h
    refine ⟨_, pss_one (ps_ret (pe_and (pe_callB call_isi (by rfl) B.isi (by decide +kernel) (pa_cons (pv 0) (pa_cons (pe_bltn (v := .ty "int") (by rfl) B.int (by decide +kernel) rfl) pa_nil)))
      (pe_one (pe_not (pe_callB call_isi (by rfl) B.isi (by decide +kernel) (pa_cons (pv 0) (pa_cons (pe_bltn (v := .ty "bool") (by rfl) B.bool (by decide +kernel) rfl) pa_nil))))))), ?_⟩
    refine ⟨.int n, rfl, .int n, .ty "int", .type "int", .type "int", true, rfl, .ty _, .base (.int n), kit_int_int, true, rfl, iteT ?_⟩
    exact ⟨.int n, rfl, .int n, .ty "bool", .type "int", .type "bool", false, rfl, .ty _, .base (.int n), kit_int_bool, false, rfl, q⟩
end
end Sc
namespace Sc
open PySem PySem.Spec PyProof.Rows L2 Kx
section
variable {K : PySem.W.Frag} {mg : Str → Option Value} {P : Program} {w : World} {base : Heap}
/-! ### is_from -/
theorem scIsFrom : FnScope ["value", "least", "most"] ["value", "least", "most"] (defScope sIsFrom) := ⟨rfl, rfl, rfl, by decide +kernel, rfl, by decide +kernel, by decide +kernel⟩
def spIsFrom : Sp := fun vs H Q _ => ∃ n lo hi : Int, vs = [.int n, .int lo, .int hi] ∧ lo ≤ n ∧ n ≤ hi ∧ Q (.bl true) H
theorem ok_is_from {f f1 : Addr} {fd fd1 : FuncData} (F : Fun K "is_from" "is_from" sIsFrom f fd) (F1 : Fun K "is_int" "is_int" sIsInt f1 fd1) (b1 : Binds K fd1 ["value"] []) (g1 : mg "is_int" = some (.ref f1)) (B : Bl mg) :
    FnOk P w K mg base CX0 2 f fd ["value", "least", "most"] spIsFrom := by
  have G1 : FnOk P w K mg base CX0 1 f1 fd1 ["value"] spIsInt := ok_is_int F1 B
  refine F.ok scIsFrom (fun vs H Q E h => ?_) (fun cdv A outer s H vs Q E hr h => ?_)
  · obtain ⟨n, lo, hi, rfl, _⟩ := h
    rfl
  · obtain ⟨n, lo, hi, rfl, h1, h2, q⟩ := h
    refine ⟨_, pss_one (ps_ret (pe_and (pe_call G1 hr (by rfl) g1 F1.kp b1 .nil pass0 (pa_cons (pv 0) pa_nil)) (pe_one (pe_chain op_le op_le (pv 1) (pv 0) (pv 2))))), ?_⟩
    refine ⟨.int n, rfl, n, rfl, true, rfl, iteT ?_⟩
    refine ⟨.int lo, rfl, .int n, rfl, lo, n, rfl, rfl, true, congrArg V.bl (decide_eq_true h1), iteT ?_⟩
    refine ⟨.int hi, rfl, n, hi, rfl, rfl, ?_⟩
    show Q (V.bl (decide (n ≤ hi))) H
    rw [decide_eq_true h2]
    exact q
/-! ### need_from -/
theorem scNeedFrom : FnScope ["value", "least", "most"] ["value", "least", "most"] (defScope sNeedFrom) := ⟨rfl, rfl, rfl, by decide +kernel, rfl, by decide +kernel, by decide +kernel⟩
def spNeedFrom : Sp := fun vs H Q _ => ∃ n lo hi : Int, vs = [.int n, .int lo, .int hi] ∧ lo ≤ n ∧ n ≤ hi ∧ Q .non H
theorem ok_need_from {f f1 : Addr} {fd fd1 : FuncData} (F : Fun K "need_from" "need_from" sNeedFrom f fd) (G1 : FnOk P w K mg base CX0 2 f1 fd1 ["value", "least", "most"] spIsFrom) (F1 : Fun K "is_from" "is_from" sIsFrom f1 fd1)
    (b1 : Binds K fd1 ["value", "least", "most"] []) (g1 : mg "is_from" = some (.ref f1)) : FnOk P w K mg base CX0 3 f fd ["value", "least", "most"] spNeedFrom := by
  refine F.ok scNeedFrom (fun vs H Q E h => ?_) (fun cdv A outer s H vs Q E hr h => ?_)
  · obtain ⟨n, lo, hi, rfl, _⟩ := h
    rfl
  · obtain ⟨n, lo, hi, rfl, h1, h2, q⟩ := h
    refine ⟨_, pss_one (ps_if (pt_not (pt_val (pe_call G1 hr (by rfl) g1 F1.kp b1 .nil pass0 (pa_cons (pv 0) (pa_cons (pv 1) (pa_cons (pv 2) pa_nil)))))) (pss_one ps_never) pss_nil), ?_⟩
    refine ⟨.int n, rfl, .int lo, rfl, .int hi, rfl, n, lo, hi, rfl, h1, h2, true, rfl, iteF ?_⟩
    exact q
/-! ### need_rule -/
theorem scNeedRule : FnScope ["value", "index", "times"] ["value"] (defScope sNeedRule) := ⟨rfl, rfl, rfl, by decide +kernel, rfl, by decide +kernel, by decide +kernel⟩
def spNeedRule (K : PySem.W.Frag) : Sp := fun vs H Q _ => ∃ (a : Addr) (r : List Int), vs = [.ref a] ∧ H a = some (.tup (r.map V.int)) ∧ RuleOk r ∧ ∀ H', Same H H' → Q .non H'
theorem kit_tup_tup : PySem.W.kitOne K (.type "tuple") (.type "tuple") = some true := by
  first | rfl | decide +kernel | simp [PySem.W.kitOne]
theorem ok_need_rule {f f1 : Addr} {fd fd1 : FuncData} (F : Fun K "need_rule" "need_rule" sNeedRule f fd) (G1 : FnOk P w K mg base CX0 2 f1 fd1 ["value", "least", "most"] spIsFrom) (F1 : Fun K "is_from" "is_from" sIsFrom f1 fd1)
    (b1 : Binds K fd1 ["value", "least", "most"] []) (g1 : mg "is_from" = some (.ref f1)) (B : Bl mg) {t1 t2 : Tok} (m1 : mg "MOST_RULE" = some (.int 30 t1)) (m2 : mg "MOST_TIMES" = some (.int 1000000 t2)) : FnOk P w K mg base CX0 3 f fd ["value"] (spNeedRule K) := by
  refine F.ok scNeedRule (fun vs H Q E h => ?_) (fun cdv A outer s H vs Q E hr h => ?_)
  · obtain ⟨a, r, rfl, _⟩ := h
    rfl
  · obtain ⟨a, r, rfl, hS, ⟨hl1, hl2, hx⟩, q⟩ := h
    refine ⟨_, pss_cons (ps_if (PW.pt (pw_or (pt_not (pt_val (pe_callB call_isi (by rfl) B.isi (by decide +kernel) (pa_cons (pv 0) (pa_cons (pe_bltn (v := .ty "tuple") (by rfl) B.tuple (by decide +kernel) rfl) pa_nil)))))
        (pw_or1 (pt_not (pt_chain op_le op_le pe_int (pe_callB call_len_seq (by rfl) B.len PySem.boot_len (pa_cons (pv 0) pa_nil)) (pe_glob (v := .int 30) (by rfl) m1 ⟨_, rfl⟩)))))) (pss_one ps_never) pss_nil)
      (pss_one (ps_for PassesOwn.never rfl (pi_enu (by rfl) B.enum (pa_cons (pv 0) pa_nil))
        (pg_tup rfl (pgs_cons (pg_name (i := 1) scNeedRule.nd rfl (.inl rfl)) (pgs_cons (pg_name (i := 2) scNeedRule.nd rfl (.inl rfl)) pgs_nil)))
        (pss_one (ps_if (pt_not (pt_val (pe_call G1 hr (by rfl) g1 F1.kp b1 .nil pass0 (pa_cons (pv 2) (pa_cons pe_int (pa_cons (pe_glob (v := .int 1000000) (by rfl) m2 ⟨_, rfl⟩) pa_nil)))))) (pss_one ps_never) pss_nil)))), ?_⟩
    refine ⟨.ref a, rfl, .ref a, .ty "tuple", .type "tuple", .type "tuple", true, rfl, .ty _, .base (.tup hS), kit_tup_tup, true, rfl, iteF ?_⟩
    have hl : (r.map V.int).length = r.length := List.length_map ..
    refine ⟨.ref a, rfl, a, _, rfl, .inr (SqT.of hS), _, _, rfl, rfl, true, congrArg V.bl (decide_eq_true (by omega)), iteT ?_⟩
    refine ⟨_, _, rfl, rfl, true, congrArg V.bl (decide_eq_true (by omega)), iteF ?_⟩
    refine ⟨.ref a, rfl, a, _, rfl, SqT.of hS, for_it walk_enu (fun i σ H2 => ∃ y1 y2, σ = [some (.ref a), y1, y2] ∧ Same H H2) ⟨none, none, rfl, Same.refl H⟩ (fun i σ H2 _ ⟨_, _, _, s2⟩ => SqT.of (s2 _ _ hS)) ?_ ?_⟩
    · rintro i x σ H2 H3 hi ⟨y1, y2, rfl, s2⟩ ⟨T, x1, x2, rfl, nT, rfl, e1, e2⟩
      obtain rfl : V.int (i : Nat) = x1 := Option.some.inj e1
      rw [List.length_map] at hi
      have hr2 : (r.map V.int)[i]? = some (.int r[i]) := by simp [hi]
      obtain rfl : V.int r[i] = x2 := Option.some.inj (hr2.symm.trans e2)
      have hb := hx r[i] (List.getElem_mem hi)
      refine ⟨T, _, rfl, SqT.of upd_same, rfl, _, _, rfl, _, _, rfl, rfl, ?_⟩
      refine ⟨_, rfl, _, _, _, rfl, hb.1, by omega, true, rfl, iteF ?_⟩
      exact ⟨_, _, rfl, s2.trans (same_new nT)⟩
    · rintro σ H2 ⟨y1, y2, rfl, s2⟩
      exact q _ s2
end
end Sc
namespace Sc
open PySem PySem.Spec PyProof.Rows L2 Kx
def oV : Option Nat → V
  | none => .non
  | some n => .int n
theorem same_put {H H2 : Hp} {p : Addr} {o : HO} (s : Same H H2) (np : H p = none) : Same H (upd H2 p o) := fun b x e => by
  rw [upd_ne (ne_of_none e np)]
  exact s _ _ e
/-- the list found after k counts -/
def fV (r : List Int) (M k : Nat) : List V := (List.range (M + 1)).map fun (v : Nat) => oV (firstB r k v)
def oneV (r : List Int) (M : Nat) : List V := (List.range (M + 1)).map fun (v : Nat) => oV (oneOf r v)
theorem fV_end {r : List Int} (h : RuleOk r) {k M : Nat} (hk : M + r.length + 1 ≤ k ∨ (M : Int) < sumOf r k) : fV r M k = oneV r M := by
  unfold fV oneV
  refine List.map_congr_left fun v hv => ?_
  rw [firstB_end h hk (by have := List.mem_range.mp hv; omega)]
theorem fV_zero (r : List Int) (M : Nat) : fV r M 0 = List.replicate (M + 1) V.non := by
  unfold fV
  rw [List.eq_replicate_iff]
  refine ⟨by simp, fun b hb => ?_⟩
  obtain ⟨v, _, rfl⟩ := List.mem_map.mp hb
  rfl
theorem fV_get (r : List Int) {M k v : Nat} (hv : v ≤ M) : (fV r M k)[v]? = some (oV (firstB r k v)) := by
  unfold fV
  rw [List.getElem?_map, List.getElem?_range (by omega)]
  rfl
theorem fV_len (r : List Int) (M k : Nat) : (fV r M k).length = M + 1 := by
  unfold fV
  rw [List.length_map]
  rw [List.length_range]
theorem fV_put {r : List Int} {M k v : Nat} (e : sumOf r k = (v : Int)) (hn : firstB r k v = none) : (fV r M k).set v (.int (k : Int)) = fV r M (k + 1) := by
  refine List.ext_getElem? fun i => ?_
  by_cases hi : i ≤ M
  · rw [List.getElem?_set, fV_len, fV_get r hi, fV_get r hi, firstB_succ]
    by_cases h : v = i
    · subst h
      rw [if_pos rfl, if_pos (by omega), hn, if_pos e]
      rfl
    · rw [if_neg h]
      rw [if_neg (by omega)]
      simp
  · rw [List.getElem?_eq_none (by rw [List.length_set, fV_len]; omega), List.getElem?_eq_none (by rw [fV_len]; omega)]
theorem fV_keep {r : List Int} {M k v c : Nat} (e : sumOf r k = (v : Int)) (hn : firstB r k v = some c) : fV r M k = fV r M (k + 1) := by
  refine List.ext_getElem? fun i => ?_
  by_cases hi : i ≤ M
  · rw [fV_get r hi, fV_get r hi, firstB_succ]
    by_cases h : v = i
    · subst h
      rw [hn]
      rfl
    · rw [if_neg (by omega)]
      simp
  · rw [List.getElem?_eq_none (by rw [fV_len]; omega), List.getElem?_eq_none (by rw [fV_len]; omega)]
section
variable {K : PySem.W.Frag} {mg : Str → Option Value} {P : Program} {w : World} {base : Heap}
/-! ### sum_of -/
theorem scSumOf : FnScope ["rule", "count"] ["rule", "count"] (defScope sSumOf) := ⟨rfl, rfl, rfl, by decide +kernel, rfl, by decide +kernel, by decide +kernel⟩
def spSumOf : Sp := fun vs H Q _ => ∃ (a : Addr) (r : List Int) (c : Nat), vs = [.ref a, .int (c : Int)] ∧ H a = some (.tup (r.map V.int)) ∧ RuleOk r ∧ c ≤ 1000 ∧ ∀ H', Same H H' → Q (.int (sumOf r c)) H'
theorem ok_sum_of {f : Addr} {fd : FuncData} (F : Fun K "sum_of" "sum_of" sSumOf f fd) (B : Bl mg) : FnOk P w K mg base CX0 1 f fd ["rule", "count"] spSumOf := by
  refine F.ok scSumOf (fun vs H Q E h => ?_) (fun cdv A outer s H vs Q E hr h => ?_)
  · obtain ⟨a, r, c, rfl, _⟩ := h
    rfl
  · obtain ⟨a, r, c, rfl, hS, ok, hc, q⟩ := h
    have hl : (r.map V.int).length = r.length := List.length_map ..
    refine ⟨_, pss_cons (ps_if (pt_cmpR op_le (pv 1) (pe_callB call_len_seq (by rfl) B.len PySem.boot_len (pa_cons (pv 0) pa_nil)) (nomark _))
        (pss_one (ps_ret (pe_callB (cr_sumT rfl) (by rfl) B.sum (by decide +kernel) (pa_cons (pe_slice sl_tupA (pv 0) po_none (po_some (pv 1))) pa_nil)))) pss_nil)
      (pss_one (ps_ret (pe_op op_add (pe_callB (cr_sumT rfl) (by rfl) B.sum (by decide +kernel) (pa_cons (pv 0) pa_nil))
        (pe_op op_mul (pe_op op_sub (pv 1) (pe_callB call_len_seq (by rfl) B.len PySem.boot_len (pa_cons (pv 0) pa_nil))) (pe_ix ix_tup (pv 0) (pe_un un_neg pe_int) (fun _ _ => rfl)))))), ?_⟩
    refine ⟨.int c, rfl, .ref a, rfl, a, _, rfl, .inr (SqT.of hS), _, _, rfl, rfl, _, rfl, ite2 (fun e => ?_) (fun e => ?_)⟩
    · have hle : c ≤ r.length := by
        have := of_decide_eq_true e
        omega
      have fin : ∀ H' t, Same H H' → H' t = some (.tup ((r.take c).map V.int)) → Q (.int ((r.take c).sum)) H' := fun H' t s _ => by
        rw [sumOf_take r c hle]
        exact q H' s
      refine ⟨.ref a, rfl, .int c, rfl, (c : Int), rfl, a, _, rfl, SqT.of hS, fun hw => ?_, fun hw p hp => ?_⟩
      · have e2 : c = r.length := by
          have := hw.2
          rw [HT.sIx_nat, hl] at this
          omega
        refine ⟨a, r, rfl, SqT.of hS, ?_⟩
        have := fin H a (Same.refl H) (by rw [e2, List.take_length]; exact hS)
        rw [e2, List.take_length] at this
        exact this
      · have ec : cutV (r.map V.int) none (some (c : Int)) = (r.take c).map V.int := by
          unfold cutV
          rw [HT.sIx_nat, HT.sIx_none, hl]
          simp [Nat.min_eq_left hle, List.map_take]
        refine ⟨p, r.take c, rfl, SqT.of (by rw [upd_same, ec]), ?_⟩
        exact fin _ p (same_new hp) (by rw [upd_same, ec])
    · have hgt : r.length < c := by
        have : ¬ ((c : Int) ≤ ((r.map V.int).length : Int)) := fun z => e (decide_eq_true z)
        omega
      have hlast : r.map V.int = (r.map V.int).dropLast ++ [.int (r.getLastD 0)] := by
        have ne : r ≠ [] := fun z => by rw [z] at ok; exact absurd ok.1 (by simp)
        have e1 : r = r.dropLast ++ [r.getLastD 0] := by
          rw [List.getLastD_eq_getLast?, List.getLast?_eq_some_getLast ne]
          exact (List.dropLast_concat_getLast ne).symm
        conv => lhs; rw [e1]
        rw [List.map_append, ← List.map_dropLast]
        rfl
      have gl : atI (r.map V.int) (-1) = some (.int (r.getLastD 0)) := by
        rw [hlast]
        exact atI_last _ _
      refine ⟨.ref a, rfl, a, r, rfl, SqT.of hS, .int c, rfl, .ref a, rfl, a, _, rfl, .inr (SqT.of hS), _, _, rfl, rfl, ?_⟩
      refine ⟨.ref a, rfl, 1, rfl, a, _, _, _, rfl, rfl, SqT.of hS, gl, _, _, rfl, rfl, .inl ⟨by rw [hl]; omega, by rw [hl]; omega⟩, _, _, rfl, rfl, ?_⟩
      have ef := sumOf_far r (c - r.length)
      rw [show r.length + (c - r.length) = c by omega] at ef
      have ec : ((c - r.length : Nat) : Int) = (c : Int) - ((r.map V.int).length : Int) := by rw [hl]; omega
      rw [ec] at ef
      have qq := q H (Same.refl H)
      rw [ef] at qq
      exact qq
end
end Sc
namespace Sc
open PySem PySem.Spec PyProof.Rows L2 Kx
section
variable {K : PySem.W.Frag} {mg : Str → Option Value} {P : Program} {w : World} {base : Heap}
/-! ### letters_for -/
theorem scLetters : FnScope ["rule", "most", "found", "count", "put"] ["rule", "most"] (defScope sLetters) := ⟨rfl, rfl, rfl, by decide +kernel, rfl, by decide +kernel, by decide +kernel⟩
def spLetters : Sp := fun vs H Q _ => ∃ (a : Addr) (r : List Int) (M : Nat), vs = [.ref a, .int (M : Int)] ∧ H a = some (.tup (r.map V.int)) ∧ RuleOk r ∧ M ≤ 400 ∧ ∀ H' p, Same H H' → H p = none → H' p = some (.lst (oneV r M)) → Q (.ref p) H'
theorem ok_letters {f f1 : Addr} {fd fd1 : FuncData} (F : Fun K "letters_for" "letters_for" sLetters f fd) (F1 : Fun K "sum_of" "sum_of" sSumOf f1 fd1) (b1 : Binds K fd1 ["rule", "count"] []) (g1 : mg "sum_of" = some (.ref f1)) (B : Bl mg) :
    FnOk P w K mg base CX0 2 f fd ["rule", "most"] spLetters := by
  have G1 : FnOk P w K mg base CX0 1 f1 fd1 ["rule", "count"] spSumOf := ok_sum_of F1 B
  refine F.ok scLetters (fun vs H Q E h => ?_) (fun cdv A outer s H vs Q E hr h => ?_)
  · obtain ⟨a, r, M, rfl, _⟩ := h
    rfl
  · obtain ⟨a, r, M, rfl, hS, ok, hM, q⟩ := h
    have hl : (r.map V.int).length = r.length := List.length_map ..
    have hl30 : r.length ≤ 30 := ok.2.1
    refine ⟨_, pss_cons (ps_set (i := 2) scLetters.nd rfl (.inl rfl) (pe_op op_rep (pe_lst (pa_cons pe_non pa_nil)) (pe_op op_add (pv 1) pe_int)))
      (pss_cons (ps_set (i := 3) scLetters.nd rfl (.inl rfl) pe_int)
      (pss_cons (ps_while PassesOwn.never (PW.pt (pw_and (pt_cmpR op_le (pv 3) (pe_op op_add (pv 1) (pe_callB call_len_seq (by rfl) B.len PySem.boot_len (pa_cons (pv 0) pa_nil))) (nomark _))
            (pw_and1 (pt_cmpR op_le (pe_call G1 hr (by rfl) g1 F1.kp b1 .nil pass0 (pa_cons (pv 0) (pa_cons (pv 3) pa_nil))) (pv 1) (nomark _)))))
          (pss_cons (ps_set (i := 4) scLetters.nd rfl (.inl rfl) (pe_call G1 hr (by rfl) g1 F1.kp b1 .nil pass0 (pa_cons (pv 0) (pa_cons (pv 3) pa_nil))))
          (pss_cons (ps_if (pt_cmpR op_isN (pe_ix ix_list (pv 2) (pv 4) (fun _ _ => rfl)) pe_non (nomark _)) (pss_one (ps_asg (pv 3) (pg_sub (pv 2) (pv 4) set_list))) pss_nil)
          (pss_one (ps_aug (i := 3) scLetters.nd rfl (.inl rfl) pe_int ip_add)))))
      (pss_one (ps_ret (pv 2))))), ?_⟩
    refine ⟨by show 1 ≤ sizeLine; decide, fun l0 n0 => ?_⟩
    refine ⟨.int M, rfl, (M : Int), 1, rfl, rfl, l0, (M : Int) + 1, _, rfl, rfl, upd_same, by omega, by omega, ?_, fun p hp => ?_⟩
    · show 1 * _ ≤ sizeLine
      rw [sizeLine_eq]
      omega
    have np : H p = none := (same_new n0).free hp
    have s1 : Same H (upd (upd H l0 (.lst [.non])) p (.lst (List.replicate ((M : Int) + 1).toNat [V.non]).flatten)) := same_put (same_new n0) np
    have e0 : (List.replicate ((M : Int) + 1).toNat [V.non]).flatten = fV r M 0 := by
      rw [fV_zero, show ((M : Int) + 1).toNat = M + 1 by omega]
      generalize M + 1 = n
      induction n with
      | zero => rfl
      | succ n ih => rw [List.replicate_succ, List.flatten_cons, ih, List.replicate_succ]; rfl
    rw [e0] at s1
    rw [e0]
    refine ⟨fun m σ H2 => ∃ k y4, m = M + r.length + 1 - k ∧ k ≤ M + r.length + 1 ∧ σ = [some (.ref a), some (.int M), some (.ref p), some (.int (k : Int)), y4] ∧ Same H H2 ∧ H2 p = some (.lst (fV r M k)), ⟨_, 0, none, rfl, Nat.zero_le _, rfl, s1, upd_same⟩, ?_⟩
    rintro m σ H2 ⟨k, y4, rfl, hk, rfl, s2, hp2⟩
    have fin : (M + r.length + 1 ≤ k ∨ (M : Int) < sumOf r k) → ∀ H3, Same H2 H3 → Q (.ref p) H3 := fun he H3 s3 => by
      refine q H3 p (s2.trans s3) np ?_
      rw [← fV_end ok he]
      exact s3 _ _ hp2
    refine ⟨.int k, rfl, .int M, rfl, .ref a, rfl, a, _, rfl, .inr (SqT.of (s2 _ _ hS)), _, _, rfl, rfl, _, _, rfl, rfl, _, rfl, ite2 (fun e => ?_) (fun e => ?_)⟩
    · have hk2 : k ≤ M + r.length := by
        have := of_decide_eq_true e
        rw [hl] at this
        omega
      refine ⟨.ref a, rfl, .int k, rfl, a, r, k, rfl, s2 _ _ hS, ok, by omega, fun H3 s3 => ?_⟩
      refine ⟨.int M, rfl, _, _, rfl, rfl, _, rfl, ite2 (fun e2 => ?_) (fun e2 => ?_)⟩
      · have hs : sumOf r k ≤ (M : Int) := of_decide_eq_true e2
        have hs0 := (sumOf_bd ok k).1
        obtain ⟨v, hv⟩ : ∃ v : Nat, sumOf r k = (v : Int) := ⟨(sumOf r k).toNat, by omega⟩
        have hvM : v ≤ M := by omega
        refine ⟨fun σ' H' => ∃ y4, σ' = [some (.ref a), some (.int M), some (.ref p), some (.int ((k + 1 : Nat) : Int)), y4] ∧ Same H H' ∧ H' p = some (.lst (fV r M (k + 1))), fun σ' H' hN => ?_, ?_⟩
        · obtain ⟨z4, e3, e4, e5⟩ := hN
          exact ⟨M + r.length + 1 - (k + 1), by omega, k + 1, z4, rfl, by omega, e3, e4, e5⟩
        refine ⟨.ref a, rfl, .int k, rfl, a, r, k, rfl, s3 _ _ (s2 _ _ hS), ok, by omega, fun H4 s4 => ?_⟩
        have hp4 : H4 p = some (.lst (fV r M k)) := s4 _ _ (s3 _ _ hp2)
        have sH4 : Same H H4 := (s2.trans s3).trans s4
        rw [hv]
        refine ⟨.ref p, rfl, .int v, rfl, p, _, _, _, rfl, rfl, SqL.of hp4, atI_nat (fV_get r hvM), rfl, _, rfl, ite2 (fun e3 => ?_) (fun e3 => ?_)⟩
        · have hn : firstB r k v = none := by
            have := of_decide_eq_true e3
            cases h : firstB r k v with
            | none => rfl
            | some c => rw [h] at this; cases this
          refine ⟨.int k, rfl, .ref p, rfl, .int v, rfl, p, _, v, v, rfl, rfl, hp4, ?_, ?_⟩
          · unfold ixN
            rw [fV_len, if_pos (by omega), if_pos (by omega)]
            rfl
          refine ⟨.int k, rfl, k, 1, rfl, rfl, some (.int v), rfl, same_put sH4 np, ?_⟩
          rw [upd_same, fV_put hv hn]
        · obtain ⟨c, hc⟩ : ∃ c, firstB r k v = some c := by
            cases h : firstB r k v with
            | none => rw [h] at e3; exact absurd (decide_eq_true rfl) e3
            | some c => exact ⟨c, rfl⟩
          refine ⟨.int k, rfl, k, 1, rfl, rfl, some (.int v), rfl, sH4, ?_⟩
          rw [hp4, fV_keep hv hc]
      · have : ¬ sumOf r k ≤ (M : Int) := fun z => e2 (decide_eq_true z)
        exact ⟨.ref p, rfl, fin (.inr (by omega)) H3 s3⟩
    · have : ¬ ((k : Int) ≤ (M : Int) + ((r.map V.int).length : Int)) := fun z => e (decide_eq_true z)
      rw [hl] at this
      exact ⟨.ref p, rfl, fin (.inl (by omega)) H2 (Same.refl _)⟩
end
end Sc
namespace Sc
open PySem PySem.Spec PyProof.Rows L2 Kx
theorem oneV_get (r : List Int) {M v : Nat} (hv : v ≤ M) : (oneV r M)[v]? = some (oV (oneOf r v)) := by
  unfold oneV
  rw [List.getElem?_map, List.getElem?_range (by omega)]
  rfl
theorem oneV_len (r : List Int) (M : Nat) : (oneV r M).length = M + 1 := by
  unfold oneV
  rw [List.length_map]
  rw [List.length_range]
theorem map_oV_get {L : List (Option Nat)} {i : Nat} (h : i < L.length) : (L.map oV)[i]? = some (oV (L.getD i none)) := by
  rw [List.getElem?_map, List.getD_eq_getElem?_getD, List.getElem?_eq_getElem h]
  rfl
theorem best0_V (r : List Int) (S : Nat) : [V.int 0] ++ (List.replicate (S : Int).toNat [V.non]).flatten = (bestN r S 0).map oV := by
  show [V.int 0] ++ _ = (some 0 :: List.replicate S none).map oV
  rw [List.map_cons, List.map_replicate, Int.toNat_natCast]
  have e : (List.replicate S [V.non]).flatten = List.replicate S V.non := by
    induction S with
    | zero => rfl
    | succ n ih => rw [List.replicate_succ, List.flatten_cons, ih, List.replicate_succ]; rfl
  rw [e]
  rfl
theorem oV_add (a b : Nat) : V.int ((a : Int) + (b : Int)) = oV (some (a + b)) := congrArg V.int (Int.natCast_add a b).symm
theorem oV_min (now x y : Nat) : V.int (if (x : Int) + (y : Int) < (now : Int) then (x : Int) + (y : Int) else (now : Int)) = oV (some (min now (x + y))) := by
  show _ = V.int ((min now (x + y) : Nat) : Int)
  congr 1
  split <;> omega
theorem stepM_none {r : List Int} {w few more : Nat} {L : List (Option Nat)} (h : oneOf r more = none) : stepM r w few L more = L := by
  unfold stepM
  rw [h]
theorem stepM_some {r : List Int} {w few more c : Nat} {L : List (Option Nat)} (h : oneOf r more = some c) : (stepM r w few L more).map oV = (L.map oV).set (w + more) (oV (addL (L.getD (w + more) none) (few + c))) := by
  unfold stepM
  rw [h]
  exact List.map_set
theorem oV_none {o : Option Nat} (h : oV o = V.non) : o = none := by
  cases o with
  | none => rfl
  | some n => cases h
theorem oV_some {o : Option Nat} (h : ¬ oV o = V.non) : ∃ n, o = some n := by
  cases o with
  | none => exact absurd rfl h
  | some n => exact ⟨n, rfl⟩
theorem ixN_nat {n i : Nat} (h : i < n) : ixN n (i : Int) = some i := by
  unfold ixN
  rw [if_pos (by omega)]
  rw [if_pos (by omega)]
  rfl
theorem atI_of {xs : List V} {k : Int} {j : Nat} {v : V} (hk : k = (j : Int)) (h : xs[j]? = some v) : atI xs k = some v := by
  subst hk
  exact atI_nat h
theorem ixN_of {n i : Nat} {k : Int} (hk : k = (i : Int)) (h : i < n) : ixN n k = some i := by
  subst hk
  exact ixN_nat h
theorem ifNotN {c A D : Prop} [Decidable c] (hc : ¬ c) (h : A) : if (!decide c) = true then A else D := by
  rw [decide_eq_false hc]
  exact iteT h
theorem ifIsN {c A D : Prop} [Decidable c] (hc : c) (h : A) : if decide c = true then A else D := by
  rw [decide_eq_true hc]
  exact iteT h
theorem ifIsF {c A D : Prop} [Decidable c] (hc : ¬ c) (h : D) : if decide c = true then A else D := by
  rw [decide_eq_false hc]
  exact iteF h
/-- where the program's own defs stand -/
structure Pg (P : Program) (w : World) (K : PySem.W.Frag) (mg : Str → Option Value) (base : Heap) (fR fN fL : Addr) (dR dN dL : FuncData) : Prop where
  B : Bl mg
  gR : mg "need_rule" = some (.ref fR)
  gN : mg "need_from" = some (.ref fN)
  gL : mg "letters_for" = some (.ref fL)
  GR : FnOk P w K mg base CX0 3 fR dR ["value"] (spNeedRule K)
  GN : FnOk P w K mg base CX0 3 fN dN ["value", "least", "most"] spNeedFrom
  GL : FnOk P w K mg base CX0 2 fL dL ["rule", "most"] spLetters
  kR : PySem.W.keepIn K (.ref fR) = true
  kN : PySem.W.keepIn K (.ref fN) = true
  kL : PySem.W.keepIn K (.ref fL) = true
  bR : Binds K dR ["value"] []
  bN : Binds K dN ["value", "least", "most"] []
  bL : Binds K dL ["rule", "most"] []
  mR : ∃ t, mg "MOST_REACH" = some (.int 400 t)
  mL : ∃ t, mg "LETTERS" = some (.str "abcd" t)
section
variable {P : Program} {w : World} {K : PySem.W.Frag} {mg : Str → Option Value} {base : Heap} {fR fN fL : Addr} {dR dN dL : FuncData}
/-! ### fewest_letters -/
theorem scFewest : FnScope ["rule", "size", "many", "one", "best", "turn", "later", "whole", "few", "more", "now"] ["rule", "size", "many"] (defScope sFewest) := ⟨rfl, rfl, rfl, by decide +kernel, rfl, by decide +kernel, by decide +kernel⟩
def spFewest : Sp := fun vs H Q _ => ∃ (a : Addr) (r : List Int) (S m : Nat), vs = [.ref a, .int (S : Int), .int (m : Int)] ∧ H a = some (.tup (r.map V.int)) ∧ RuleOk r ∧ S ≤ 100 ∧ 1 ≤ m ∧ m ≤ 4 ∧ ∀ H', Same H H' → Q (oV ((bestN r S m).getD S none)) H'
theorem ok_fewest {f : Addr} {fd : FuncData} (F : Fun K "fewest_letters" "fewest_letters" sFewest f fd) (G : Pg P w K mg base fR fN fL dR dN dL) : FnOk P w K mg base CX0 4 f fd ["rule", "size", "many"] spFewest := by
  obtain ⟨tR, mR⟩ := G.mR
  obtain ⟨tL, mL⟩ := G.mL
  have B := G.B
  refine F.ok scFewest (fun vs H Q E h => ?_) (fun cdv A outer s H vs Q E hr h => ?_)
  · obtain ⟨a, r, S, m, rfl, _⟩ := h
    rfl
  · obtain ⟨a, r, S, m, rfl, hS, ok, hS1, hm1, hm4, q⟩ := h
    have nd := scFewest.nd
    refine ⟨_, pss_cons (ps_expr (pe_call G.GR hr (by rfl) G.gR G.kR G.bR .nil pass0 (pa_cons (pv 0) pa_nil)))
      (pss_cons (ps_expr (pe_call G.GN hr (by rfl) G.gN G.kN G.bN .nil pass0 (pa_cons (pv 1) (pa_cons pe_int (pa_cons (pe_glob (v := .int 400) (by rfl) mR ⟨_, rfl⟩) pa_nil)))))
      (pss_cons (ps_expr (pe_call G.GN hr (by rfl) G.gN G.kN G.bN .nil pass0 (pa_cons (pv 2) (pa_cons pe_int (pa_cons (pe_callB call_len_str (by rfl) B.len PySem.boot_len (pa_cons (pe_glob (v := .str "abcd") (by rfl) mL ⟨_, rfl⟩) pa_nil)) pa_nil)))))
      (pss_cons (ps_set (i := 3) nd rfl (.inl rfl) (pe_call G.GL (hr.mono (by decide)) (by rfl) G.gL G.kL G.bL .nil pass0 (pa_cons (pv 0) (pa_cons (pv 1) pa_nil))))
      (pss_cons (ps_set (i := 4) nd rfl (.inl rfl) (pe_op op_cat (pe_lst (pa_cons pe_int pa_nil)) (pe_op op_rep (pe_lst (pa_cons pe_non pa_nil)) (pv 1))))
      (pss_cons (ps_for PassesOwn.never rfl (pi_range1 (by rfl) B.range (pa_cons (pv 2) pa_nil)) (pg_name (i := 5) nd rfl (.inl rfl))
        (pss_cons (ps_set (i := 6) nd rfl (.inl rfl) (pe_callTy call_list_of (by rfl) B.list (by decide +kernel) (pa_cons (pv 4) pa_nil)))
        (pss_cons (ps_for PassesOwn.never rfl (pi_enum (by rfl) B.enum (pa_cons (pv 4) pa_nil)) (pg_tup rfl (pgs_cons (pg_name (i := 7) nd rfl (.inl rfl)) (pgs_cons (pg_name (i := 8) nd rfl (.inl rfl)) pgs_nil)))
          (pss_one (ps_if (pt_cmpR op_notN (pv 8) pe_non (nomark _))
            (pss_one (ps_for PassesOwn.never rfl (pi_range2 (by rfl) B.range (pa_cons pe_int (pa_cons (pe_op op_add (pe_op op_sub (pv 1) (pv 7)) pe_int) pa_nil))) (pg_name (i := 9) nd rfl (.inl rfl))
              (pss_one (ps_if (pt_cmpR op_notN (pe_ix ix_list (pv 3) (pv 9) (fun _ _ => rfl)) pe_non (nomark _))
                (pss_cons (ps_set (i := 10) nd rfl (.inl rfl) (pe_ix ix_list (pv 6) (pe_op op_add (pv 7) (pv 9)) (fun _ _ => rfl)))
                (pss_one (ps_asg (pe_ifExp (pt_cmpR op_isN (pv 10) pe_non (nomark _)) (pe_op op_add (pv 8) (pe_ix ix_list (pv 3) (pv 9) (fun _ _ => rfl)))
                    (pe_callB (call_min2 rfl) (by rfl) B.min (by decide +kernel) (pa_cons (pv 10) (pa_cons (pe_op op_add (pv 8) (pe_ix ix_list (pv 3) (pv 9) (fun _ _ => rfl))) pa_nil))))
                  (pg_sub (pv 6) (pe_op op_add (pv 7) (pv 9)) set_list)))) pss_nil))))
            pss_nil)))
        (pss_one (ps_set (i := 4) nd rfl (.inl rfl) (pv 6))))))
      (pss_one (ps_ret (pe_ix ix_list (pv 4) (pv 1) (fun _ _ => rfl))))))))), ?_⟩
    -- the three looks
    refine ⟨.ref a, rfl, a, r, rfl, hS, ok, fun H1 s1 => ?_⟩
    refine ⟨.int S, rfl, S, 0, 400, rfl, by omega, by omega, ?_⟩
    refine ⟨.int m, rfl, _, rfl, by decide, m, 1, 4, rfl, by omega, by omega, ?_⟩
    -- one = letters_for(rule, size)
    refine ⟨.ref a, rfl, .int S, rfl, a, r, S, rfl, s1 _ _ hS, ok, by omega, fun H2 p1 s2 n1 h1 => ?_⟩
    have n1' : H p1 = none := s1.free n1
    -- best = [0] + [None] * size
    refine ⟨by show 1 ≤ sizeLine; decide, fun l1 nl1 => ⟨by show 1 ≤ sizeLine; decide, fun l2 nl2 => ?_⟩⟩
    have t1 : Same H2 (upd H2 l1 (.lst [.int 0])) := same_new nl1
    have t2 : Same (upd H2 l1 (.lst [.int 0])) (upd (upd H2 l1 (.lst [.int 0])) l2 (.lst [.non])) := same_new nl2
    have hb1 : (upd (upd H2 l1 (.lst [.int 0])) l2 (.lst [.non])) l1 = some (.lst [.int 0]) := t2 _ _ upd_same
    generalize hH3 : upd (upd H2 l1 (.lst [.int 0])) l2 (.lst [.non]) = H3 at *
    have hb2 : H3 l2 = some (.lst [.non]) := by rw [← hH3]; exact upd_same
    refine ⟨.int S, rfl, l2, S, _, rfl, rfl, hb2, by omega, by omega, ?_, fun l3 nl3 => ?_⟩
    · show 1 * _ ≤ sizeLine
      rw [sizeLine_eq]
      omega
    have t3 : Same H3 (upd H3 l3 (.lst (List.replicate (S : Int).toNat [V.non]).flatten)) := same_new nl3
    have hb3 : (upd H3 l3 (.lst (List.replicate (S : Int).toNat [V.non]).flatten)) l3 = some (.lst (List.replicate (S : Int).toNat [V.non]).flatten) := upd_same
    generalize hH4 : upd H3 l3 (.lst (List.replicate (S : Int).toNat [V.non]).flatten) = H4 at *
    have el : ((List.replicate (S : Int).toNat [V.non]).flatten).length = S := by
      have := congrArg List.length (best0_V r S)
      rw [List.length_append, List.length_map, bestN_len] at this
      have e1 : [V.int 0].length = 1 := rfl
      omega
    refine ⟨l1, l3, _, _, rfl, rfl, t3 _ _ hb1, hb3, ?_, fun pb npb => ?_⟩
    · rw [el, sizeLine_eq]
      show 1 + S ≤ _
      omega
    rw [best0_V r S]
    have s4 : Same H2 H4 := (t1.trans t2).trans t3
    have sH4 : Same H (upd H4 pb (.lst ((bestN r S 0).map oV))) := ((s1.trans s2).trans s4).trans (same_new npb)
    have h1' : (upd H4 pb (.lst ((bestN r S 0).map oV))) p1 = some (.lst (oneV r S)) := (s4.trans (same_new npb)) _ _ h1
    have npb0 : H pb = none := ((s1.trans s2).trans s4).free npb
    -- for turn in range(many)
    refine ⟨.int m, rfl, m, rfl, by omega, by omega, for_range (lo := 0) (n := (m : Int).toNat) (fun t σ H5 => ∃ pb y5 y6 y7 y8 y9 y10, σ = [some (.ref a), some (.int S), some (.int m), some (.ref p1), some (.ref pb), y5, y6, y7, y8, y9, y10] ∧ Same H H5 ∧ H pb = none ∧ H5 p1 = some (.lst (oneV r S)) ∧ H5 pb = some (.lst ((bestN r S t).map oV)))
      ⟨pb, none, none, none, none, none, none, rfl, sH4, npb0, h1', upd_same⟩ ?_ ?_⟩
    · rintro t σ H5 ht ⟨pb, y5, y6, y7, y8, y9, y10, rfl, s5, nb, e1, eb⟩
      have hbl : (bestN r S t).length = S + 1 := bestN_len r S t
      refine ⟨.ref pb, rfl, pb, _, rfl, .inl (SqL.of eb), fun pl nl => ?_⟩
      have s6 : Same H5 (upd H5 pl (.lst ((bestN r S t).map oV))) := same_new nl
      have nl0 : H pl = none := s5.free nl
      have pl1 : p1 ≠ pl := ne_of_none e1 nl
      have plb : pb ≠ pl := ne_of_none eb nl
      refine ⟨.ref pb, rfl, pb, _, rfl, SqL.of (s6 _ _ eb), for_it walk_enum (fun i σ H6 => ∃ y7 y8 y9 y10, σ = [some (.ref a), some (.int S), some (.int m), some (.ref p1), some (.ref pb), some (.int (0 + (t : Int))), some (.ref pl), y7, y8, y9, y10] ∧ Same H H6 ∧ H6 p1 = some (.lst (oneV r S)) ∧ H6 pb = some (.lst ((bestN r S t).map oV)) ∧ H6 pl = some (.lst ((runW r S (bestN r S t) i).map oV)))
        ⟨y7, y8, y9, y10, rfl, s5.trans s6, s6 _ _ e1, s6 _ _ eb, upd_same⟩ (fun i σ H6 _ ⟨_, _, _, _, _, _, _, e, _⟩ => SqL.of e) ?_ ?_⟩
      · rintro i x σ H6 H7 hi ⟨z7, z8, z9, z10, rfl, s7, f1, fb, fl⟩ ⟨T, x1, x2, rfl, nT, rfl, g1, g2⟩
        rw [List.length_map, hbl] at hi
        obtain rfl : V.int (i : Nat) = x1 := Option.some.inj g1
        obtain rfl : oV ((bestN r S t).getD i none) = x2 := Option.some.inj ((map_oV_get (by rw [hbl]; exact hi)).symm.trans g2)
        have sT : Same H6 (upd H6 T (.tup [V.int (i : Nat), oV ((bestN r S t).getD i none)])) := same_new nT
        generalize hH7 : upd H6 T (.tup [V.int (i : Nat), oV ((bestN r S t).getD i none)]) = H7 at *
        have hT7 : H7 T = some (.tup [V.int (i : Nat), oV ((bestN r S t).getD i none)]) := by rw [← hH7]; exact upd_same
        refine ⟨T, _, rfl, SqT.of hT7, rfl, _, _, rfl, _, _, rfl, rfl, ?_⟩
        have f1 := sT _ _ f1
        have fb := sT _ _ fb
        have fl := sT _ _ fl
        have s7 := s7.trans sT
        refine ⟨_, rfl, rfl, _, rfl, ?_⟩
        cases hf : (bestN r S t).getD i none with
        | none =>
          refine iteNS rfl ?_
          refine ⟨_, _, _, _, rfl, s7, f1, fb, ?_⟩
          rw [runW_succ]
          unfold stepW
          rw [hf]
          exact fl
        | some few =>
          refine ifNotN (fun z => nomatch z) ?_
          refine ⟨.int S, rfl, .int i, rfl, S, i, rfl, rfl, _, 1, rfl, rfl, 1, _, rfl, ⟨by omega, by omega, by omega, by omega⟩, for_range (lo := 1) (n := ((S : Int) - (i : Int) + 1 - 1).toNat)
            (fun j σ H8 => ∃ y9 y10, σ = [some (.ref a), some (.int S), some (.int m), some (.ref p1), some (.ref pb), some (.int (0 + (t : Int))), some (.ref pl), some (.int i), some (.int few), y9, y10] ∧ Same H H8 ∧ H8 p1 = some (.lst (oneV r S)) ∧ H8 pb = some (.lst ((bestN r S t).map oV)) ∧ H8 pl = some (.lst ((runM r i few (runW r S (bestN r S t) i) j).map oV)))
            ⟨_, _, rfl, s7, f1, fb, fl⟩ ?_ ?_⟩
          · rintro j σ H8 hj ⟨w9, w10, rfl, s8, k1, kb, kl⟩
            have hij : i + (1 + j) ≤ S := by omega
            have ej : (1 : Int) + (j : Int) = ((1 + j : Nat) : Int) := by omega
            have hLl : (runM r i few (runW r S (bestN r S t) i) j).length = S + 1 := by rw [runM_len, runW_len, hbl]
            rw [ej]
            have hone := oneV_get r (M := S) (v := 1 + j) (by omega)
            refine ⟨.ref p1, rfl, .int ((1 + j : Nat) : Int), rfl, p1, _, _, _, rfl, rfl, SqL.of k1, atI_nat hone, rfl, _, rfl, ?_⟩
            cases ho : oneOf r (1 + j) with
            | none =>
              refine iteNS rfl ?_
              refine ⟨_, _, rfl, s8, k1, kb, ?_⟩
              rw [runM_succ, stepM_none ho]
              exact kl
            | some c =>
              rw [ho] at hone
              refine ifNotN (fun z => nomatch z) ?_
              generalize hL : runM r i few (runW r S (bestN r S t) i) j = L at *
              have hnow := map_oV_get (L := L) (i := i + (1 + j)) (by omega)
              have hsum : (i : Int) + ((1 + j : Nat) : Int) = ((i + (1 + j) : Nat) : Int) := by omega
              refine ⟨.ref pl, rfl, .int i, rfl, .int ((1 + j : Nat) : Int), rfl, _, _, rfl, rfl, pl, _, _, _, rfl, rfl, SqL.of kl, atI_of hsum hnow, ?_⟩
              have fin : ∀ H9, H9 = upd H8 pl (.lst ((L.map oV).set (i + (1 + j)) (oV (addL (L.getD (i + (1 + j)) none) (few + c))))) → Same H H9 ∧ H9 p1 = some (.lst (oneV r S)) ∧ H9 pb = some (.lst ((bestN r S t).map oV)) ∧ H9 pl = some (.lst ((runM r i few (runW r S (bestN r S t) i) (j + 1)).map oV)) := fun H9 e9 => by
                rw [e9]
                refine ⟨same_put s8 nl0, ?_, ?_, ?_⟩
                · rw [upd_ne pl1]; exact k1
                · rw [upd_ne plb]; exact kb
                · rw [upd_same, runM_succ, hL, stepM_some ho]
              refine ⟨_, rfl, rfl, _, rfl, ?_⟩
              cases hn : L.getD (i + (1 + j)) none with
              | none =>
                rw [hn] at fin
                refine ifIsN rfl ?_
                refine ⟨.int few, rfl, .ref p1, rfl, .int ((1 + j : Nat) : Int), rfl, p1, _, _, _, rfl, rfl, SqL.of k1, atI_nat hone, _, _, rfl, rfl, .ref pl, rfl, .int i, rfl, .int ((1 + j : Nat) : Int), rfl, _, _, rfl, rfl, pl, _, _, _, rfl, rfl, kl, ixN_of hsum (by rw [List.length_map, hLl]; omega), ?_⟩
                exact ⟨_, _, rfl, fin _ (congrArg (fun z => upd H8 pl (.lst ((L.map oV).set (i + (1 + j)) z))) (oV_add few c))⟩
              | some now =>
                rw [hn] at fin
                refine ifIsF (fun z => nomatch z) ?_
                refine ⟨.int now, rfl, .int few, rfl, .ref p1, rfl, .int ((1 + j : Nat) : Int), rfl, p1, _, _, _, rfl, rfl, SqL.of k1, atI_nat hone, _, _, rfl, rfl, _, _, rfl, .ref pl, rfl, .int i, rfl, .int ((1 + j : Nat) : Int), rfl, _, _, rfl, rfl, pl, _, _, _, rfl, rfl, kl, ixN_of hsum (by rw [List.length_map, hLl]; omega), ?_⟩
                exact ⟨_, _, rfl, fin _ (congrArg (fun z => upd H8 pl (.lst ((L.map oV).set (i + (1 + j)) z))) (oV_min now few c))⟩
          · rintro σ H8 ⟨w9, w10, rfl, s8, k1, kb, kl⟩
            refine ⟨_, _, _, _, rfl, s8, k1, kb, ?_⟩
            rw [runW_succ]
            unfold stepW
            rw [hf, kl, show ((S : Int) - (i : Int) + 1 - 1).toNat = S - i by omega]
      · rintro σ H6 ⟨z7, z8, z9, z10, rfl, s7, f1, fb, fl⟩
        refine ⟨.ref pl, rfl, pl, _, _, _, _, _, _, rfl, s7, nl0, f1, ?_⟩
        rw [fl, List.length_map, hbl]
        rfl
    · rintro σ H5 ⟨pb, y5, y6, y7, y8, y9, y10, rfl, s5, nb, e1, eb⟩
      rw [Int.toNat_natCast] at eb
      refine ⟨.ref pb, rfl, .int S, rfl, pb, _, _, _, rfl, rfl, SqL.of eb, atI_nat (map_oV_get (by rw [bestN_len]; omega)), ?_⟩
      exact q H5 s5
end
end Sc
namespace Sc
open PySem PySem.Spec PyProof.Rows L2 Kx
/-- a list of naturals as Python's -/
def nI (l : List Nat) : List Int := l.map fun (v : Nat) => (v : Int)
def nV (l : List Nat) : List V := (nI l).map V.int
theorem nV_len (l : List Nat) : (nV l).length = l.length := by
  unfold nV nI
  rw [List.length_map, List.length_map]
theorem nV_get {l : List Nat} {i : Nat} (h : i < l.length) : (nV l)[i]? = some (.int ((l[i] : Nat) : Int)) := by
  unfold nV nI
  rw [List.getElem?_map, List.getElem?_map, List.getElem?_eq_getElem h]
  rfl
theorem nV_app (l k : List Nat) : nV (l ++ k) = nV l ++ nV k := by
  unfold nV nI
  rw [List.map_append, List.map_append]
theorem nV_one (v : Nat) : nV [v] = [V.int (v : Int)] := rfl
theorem int_add (a b : Nat) : V.int ((a : Int) + (b : Int)) = V.int ((a + b : Nat) : Int) := congrArg V.int (Int.natCast_add a b).symm
/-- the numbers below i that pass, one by one -/
theorem filt_succ {p : Nat → Bool} {i : Nat} : (List.range (i + 1)).filter p = (List.range i).filter p ++ (if p i = true then [i] else []) := by
  rw [List.range_succ, List.filter_append]
  by_cases h : p i = true
  · rw [if_pos h, List.filter_cons_of_pos h]
    rfl
  · rw [List.filter_cons_of_neg h, if_neg h]
    rfl
/-- what one comprehension makes of the first j numbers -/
def madeN (M w : Nat) (ones : List Nat) (j : Nat) : List Nat := ((ones.take j).filter fun u => decide (w + u ≤ M)).map fun u => w + u
theorem madeN_succ {M w j u : Nat} {ones : List Nat} (h : ones[j]? = some u) : madeN M w ones (j + 1) = madeN M w ones j ++ (if w + u ≤ M then [w + u] else []) := by
  unfold madeN
  rw [List.take_add_one, h, List.filter_append, List.map_append]
  by_cases z : w + u ≤ M
  · rw [if_pos z]
    simp [z]
  · rw [if_neg z]
    simp [z]
theorem madeN_len (M w : Nat) (ones : List Nat) (j : Nat) : (madeN M w ones j).length ≤ ones.length := by
  unfold madeN
  rw [List.length_map]
  have a := List.length_filter_le (fun u => decide (w + u ≤ M)) (ones.take j)
  rw [List.length_take] at a
  omega
theorem nV_item {l : List Nat} {i : Nat} {x : V} (h : (nV l)[i]? = some x) : ∃ v, l[i]? = some v ∧ x = .int (v : Int) := by
  have hi : i < l.length := by
    rw [← nV_len l]
    obtain ⟨z, _⟩ := List.getElem?_eq_some_iff.mp h
    exact z
  exact ⟨l[i], List.getElem?_eq_getElem hi, Option.some.inj (h.symm.trans (nV_get hi))⟩
theorem later_bd {r : List Int} {M : Nat} {found : List Nat} {j : Int} (h : j ∈ nI (laterN r M found found.length)) : j ∈ nI (List.range (M + 1)) := by
  obtain ⟨v, hv, e⟩ := List.mem_map.mp h
  exact List.mem_map.mpr ⟨v, List.mem_range.mpr (Nat.lt_succ_of_le (mem_later.mp hv).1), e⟩
section
variable {P : Program} {w : World} {K : PySem.W.Frag} {mg : Str → Option Value} {base : Heap} {fR fN fL : Addr} {dR dN dL : FuncData}
/-! ### lengths_said -/
abbrev nmLengths : List Str := ["rule", "many", "most", "whole", "one", "found", "turn", "later", "few", "more"]
theorem scLengths : FnScope nmLengths ["rule", "many", "most"] (defScope sLengths) := ⟨rfl, rfl, rfl, by decide +kernel, rfl, by decide +kernel, by decide +kernel⟩
def spLengths : Sp := fun vs H Q _ => ∃ (a : Addr) (r : List Int) (M m : Nat), vs = [.ref a, .int (m : Int), .int (M : Int)] ∧ H a = some (.tup (r.map V.int)) ∧ RuleOk r ∧ M ≤ 13 ∧ 1 ≤ m ∧ m ≤ 4 ∧ ∀ H' p, Same H H' → H p = none → H' p = some (.tup (nV (foundN r M m))) → Q (.ref p) H'
theorem ok_lengths {f : Addr} {fd : FuncData} (F : Fun K "lengths_said" "lengths_said" sLengths f fd) (G : Pg P w K mg base fR fN fL dR dN dL) : FnOk P w K mg base CX0 4 f fd ["rule", "many", "most"] spLengths := by
  obtain ⟨tR, mR⟩ := G.mR
  obtain ⟨tL, mL⟩ := G.mL
  have B := G.B
  refine F.ok scLengths (fun vs H Q E h => ?_) (fun cdv A outer s H vs Q E hr h => ?_)
  · obtain ⟨a, r, M, m, rfl, _⟩ := h
    rfl
  · obtain ⟨a, r, M, m, rfl, hS, ok, hM, hm1, hm4, q⟩ := h
    have nd := scLengths.nd
    refine ⟨_, pss_cons (ps_expr (pe_call G.GR hr (by rfl) G.gR G.kR G.bR .nil pass0 (pa_cons (pv 0) pa_nil)))
      (pss_cons (ps_expr (pe_call G.GN hr (by rfl) G.gN G.kN G.bN .nil pass0 (pa_cons (pv 1) (pa_cons pe_int (pa_cons (pe_callB call_len_str (by rfl) B.len PySem.boot_len (pa_cons (pe_glob (v := .str "abcd") (by rfl) mL ⟨_, rfl⟩) pa_nil)) pa_nil)))))
      (pss_cons (ps_expr (pe_call G.GN hr (by rfl) G.gN G.kN G.bN .nil pass0 (pa_cons (pv 2) (pa_cons pe_int (pa_cons (pe_glob (v := .int 400) (by rfl) mR ⟨_, rfl⟩) pa_nil)))))
      (pss_cons (ps_setLc (i := 4) (g := gTup K 2 (gCons (gName 3) (gCons (gName 8) gNil))) (own := [("whole", 3), ("few", 8)]) (by rfl) nd rfl rfl (sw_true rfl rfl rfl (by decide +kernel))
          (pi_enum (by rfl) B.enum (pa_cons (pe_call G.GL (hr.mono (by decide)) (by rfl) G.gL G.kL G.bL .nil pass0 (pa_cons (pv 0) (pa_cons (pv 2) pa_nil))) pa_nil))
          (blkOk_by (N := nmLengths) (sc := defScope sLengths) (own := [("whole", 3), ("few", 8)]) (by decide +kernel))
          (fun _ _ _ _ _ => by exact pg_tup rfl (pgs_cons (pg_name (i := 3) nd rfl (.inl rfl)) (pgs_cons (pg_name (i := 8) nd rfl (.inl rfl)) pgs_nil)))
          (fun _ _ _ _ _ => pts_one (pt_cmpR op_notN (pv 8) pe_non (nomark _)))
          (fun _ _ _ _ _ => pv 3))
      (pss_cons (ps_set (i := 5) nd rfl (.inl rfl) (pe_lst (pa_cons pe_int pa_nil)))
      (pss_cons (ps_for PassesOwn.never rfl (pi_range1 (by rfl) B.range (pa_cons (pv 1) pa_nil)) (pg_name (i := 6) nd rfl (.inl rfl))
        (pss_cons (ps_set (i := 7) nd rfl (.inl rfl) (pe_lst pa_nil))
        (pss_cons (ps_for PassesOwn.never rfl (pi_list (pv 5)) (pg_name (i := 3) nd rfl (.inr rfl))
          (pss_one (ps_expr (pe_bm PySem.F.plainAttrs_list PySem.F.slot_list_extend PySem.F.type_list_extend mt_extend (pv 7)
            (pa_cons (pe_lc (own := [("more", 9)]) (by rfl) nd (pi_list (pv 4)) (blkOk_by (N := nmLengths) (sc := defScope sLengths) (own := [("more", 9)]) (by decide +kernel)) (fun _ _ _ _ _ => pg_name (i := 9) nd rfl (.inl rfl))
              (fun _ _ _ _ _ => pts_one (pt_cmpR op_le (pe_op op_add (pv 3) (pv 9)) (pv 2) (nomark _))) (fun _ _ _ _ _ => pe_op op_add (pv 3) (pv 9))) pa_nil)))))
        (pss_one (ps_set (i := 5) nd rfl (.inl rfl) (pe_callB (cr_sortedSet rfl) (by rfl) B.sorted (by decide +kernel) (pa_cons (pe_callTy (cr_setL rfl) (by rfl) B.set (by decide +kernel) (pa_cons (pv 7) pa_nil)) pa_nil)))))))
      (pss_one (ps_ret (pe_callTy call_tuple_of (by rfl) B.tuple (by decide +kernel) (pa_cons (pv 5) pa_nil))))))))), ?_⟩
    -- the three looks
    refine ⟨.ref a, rfl, a, r, rfl, hS, ok, fun H1 s1 => ?_⟩
    refine ⟨.int m, rfl, _, rfl, by decide, m, 1, 4, rfl, by omega, by omega, ?_⟩
    refine ⟨.int M, rfl, M, 0, 400, rfl, by omega, by omega, ?_⟩
    -- one = [..]
    refine ⟨.ref a, rfl, .int M, rfl, a, r, M, rfl, s1 _ _ hS, ok, by omega, fun H2 p1 s2 n1 h1 => ?_⟩
    have s12 : Same H H2 := s1.trans s2
    refine ⟨p1, _, rfl, SqL.of h1, fun D nD => lc_it walk_enum (fun i H3 => Same H2 H3 ∧ H3 D = some (.lst (nV ((List.range i).filter fun v => (oneOf r v).isSome))))
      ⟨same_new nD, upd_same⟩ (fun i H3 _ z => SqL.of (z.1 _ _ h1)) ?_ ?_⟩
    · rintro i x H3 H4 hi ⟨s3, hD⟩ ⟨T, x1, x2, rfl, nT, rfl, g1, g2⟩
      rw [oneV_len] at hi
      obtain rfl : V.int (i : Nat) = x1 := Option.some.inj g1
      obtain rfl : oV (oneOf r i) = x2 := Option.some.inj ((oneV_get r (by omega)).symm.trans g2)
      have sT : Same H3 (upd H3 T (.tup [V.int (i : Nat), oV (oneOf r i)])) := same_new nT
      refine ⟨T, _, rfl, SqT.of upd_same, rfl, _, _, rfl, _, _, rfl, rfl, rfl, _, rfl, rfl, _, rfl, ?_⟩
      have hD4 := sT _ _ hD
      have s4 : Same H2 (upd H3 T (.tup [V.int (i : Nat), oV (oneOf r i)])) := s3.trans sT
      cases ho : oneOf r i with
      | none =>
        rw [ho] at hD4 s4
        refine iteNS rfl ?_
        refine ⟨s4, ?_⟩
        rw [hD4, filt_succ, if_neg (by rw [ho]; exact Bool.false_ne_true), List.append_nil]
      | some c =>
        rw [ho] at hD4 s4
        refine ifNotN (fun z => nomatch z) ?_
        refine ⟨.int i, rfl, _, hD4, ?_, same_put s4 nD, ?_⟩
        · rw [nV_len, sizeLine_eq]
          have z := List.length_filter_le (fun v => (oneOf r v).isSome) (List.range i)
          rw [List.length_range] at z
          omega
        · rw [upd_same, filt_succ, if_pos (by rw [ho]; rfl), nV_app]
          rfl
    · rintro H3 ⟨s3, hD⟩
      rw [oneV_len] at hD
      have hD : H3 D = some (.lst (nV (onesN r M))) := hD
      have sH3 : Same H H3 := s12.trans s3
      have nD0 : H D = none := s12.free nD
      -- found = [0]
      refine ⟨by show 1 ≤ sizeLine; decide, fun pf npf => ?_⟩
      have s4 : Same H3 (upd H3 pf (.lst [.int 0])) := same_new npf
      -- for turn in range(many)
      refine ⟨.int m, rfl, m, rfl, by omega, by omega, for_range (lo := 0) (n := (m : Int).toNat) (fun t σ H5 => ∃ pf y3 y6 y7, σ = [some (.ref a), some (.int m), some (.int M), y3, some (.ref D), some (.ref pf), y6, y7, none, none] ∧ Same H H5 ∧ H pf = none ∧ H5 D = some (.lst (nV (onesN r M))) ∧ H5 pf = some (.lst (nV (foundN r M t))))
        ⟨pf, none, none, none, rfl, sH3.trans s4, sH3.free npf, s4 _ _ hD, upd_same⟩ ?_ ?_⟩
      · rintro t σ H5 ht ⟨pf, y3, y6, y7, rfl, s5, nf, eD, ef⟩
        -- later = []
        refine ⟨Nat.zero_le _, fun pl nl => ?_⟩
        have s6 : Same H5 (upd H5 pl (.lst [])) := same_new nl
        have nl0 : H pl = none := s5.free nl
        have plD : D ≠ pl := ne_of_none eD nl
        have plf : pf ≠ pl := ne_of_none ef nl
        have hones : (onesN r M).length ≤ M + 1 := onesN_len r M
        have hfl : (foundN r M t).length ≤ M + 1 := foundN_len r M t
        -- for whole in found
        refine ⟨.ref pf, rfl, pf, rfl, ⟨_, SqL.of (s6 _ _ ef)⟩, for_list (K := K) (a := pf) (xs := nV (foundN r M t)) (fun i σ H6 => ∃ y3, σ = [some (.ref a), some (.int m), some (.int M), y3, some (.ref D), some (.ref pf), some (.int (0 + (t : Int))), some (.ref pl), none, none] ∧ Same H H6 ∧ H6 D = some (.lst (nV (onesN r M))) ∧ H6 pf = some (.lst (nV (foundN r M t))) ∧ H6 pl = some (.lst (nV (laterN r M (foundN r M t) i))))
          ⟨y3, rfl, s5.trans s6, s6 _ _ eD, s6 _ _ ef, upd_same⟩ (fun i σ H6 _ ⟨_, _, _, _, e, _⟩ => SqL.of e) ?_ ?_⟩
        · rintro i x σ H6 hx ⟨z3, rfl, s7, fD, ff, fl⟩
          obtain ⟨v, hv, rfl⟩ := nV_item hx
          refine ⟨.ref pl, rfl, .inl ⟨rfl, _, SqL.of fl⟩, .ref D, rfl, D, rfl, ⟨_, SqL.of fD⟩, fun C nC => lc_list (K := K) (a := D) (xs := nV (onesN r M)) (fun j H7 => Same H6 H7 ∧ H7 C = some (.lst (nV (madeN M v (onesN r M) j))))
            ⟨same_new nC, upd_same⟩ (fun j H7 _ z => SqL.of (z.1 _ _ fD)) ?_ ?_⟩
          · rintro j y H7 hy ⟨s8, hC⟩
            obtain ⟨u, hu, rfl⟩ := nV_item hy
            have hm := madeN_len M v (onesN r M) j
            refine ⟨rfl, .int v, rfl, .int u, rfl, v, u, rfl, rfl, .int M, rfl, _, M, rfl, rfl, _, rfl, ite2 (fun e => ?_) (fun e => ?_)⟩
            · have hle : v + u ≤ M := by
                have z : (v : Int) + (u : Int) ≤ (M : Int) := of_decide_eq_true e
                omega
              refine ⟨.int v, rfl, .int u, rfl, v, u, rfl, rfl, _, hC, ?_, same_put s8 nC, ?_⟩
              · rw [nV_len, sizeLine_eq]
                omega
              · rw [upd_same, madeN_succ hu, if_pos hle, nV_app, nV_one, ← int_add]
            · have hgt : ¬ v + u ≤ M := fun z => e (decide_eq_true (by show (v : Int) + (u : Int) ≤ (M : Int); omega))
              refine ⟨s8, ?_⟩
              rw [madeN_succ hu, if_neg hgt, List.append_nil]
              exact hC
          · rintro H7 ⟨s8, hC⟩
            rw [nV_len] at hC
            have hm := madeN_len M v (onesN r M) (onesN r M).length
            have hil : i < (foundN r M t).length := (List.getElem?_eq_some_iff.mp hv).1
            have hll := laterN_len r M (foundN r M t) i
            have hmul : i * (M + 1) ≤ 14 * 14 := Nat.mul_le_mul (by omega) (by omega)
            refine ⟨pl, C, _, _, rfl, rfl, s8 _ _ fl, hC, ?_, ?_⟩
            · rw [nV_len, nV_len, sizeLine_eq]
              omega
            refine ⟨_, rfl, same_put (s7.trans s8) nl0, ?_, ?_, ?_⟩
            · rw [upd_ne plD]
              exact s8 _ _ fD
            · rw [upd_ne plf]
              exact s8 _ _ ff
            · rw [upd_same, laterN_succ hv, nV_app]
              unfold madeN
              rw [List.take_length]
        · rintro σ H6 ⟨z3, rfl, s7, fD, ff, fl⟩
          rw [nV_len] at fl
          have hll := laterN_len r M (foundN r M t) (foundN r M t).length
          have hmul : (foundN r M t).length * (M + 1) ≤ 14 * 14 := Nat.mul_le_mul (by omega) (by omega)
          -- found = sorted(set(later))
          refine ⟨.ref pl, rfl, pl, nI (laterN r M (foundN r M t) (foundN r M t).length), rfl, SqL.of fl, ?_, fun ps c nps hc => ?_⟩
          · unfold nI
            rw [List.length_map]
            omega
          have hc2 : c ≤ M + 1 := by
            have z := hc (nI (List.range (M + 1))) fun j hj => later_bd hj
            unfold nI at z
            rw [List.length_map, List.length_range] at z
            exact z
          refine ⟨ps, _, c, rfl, upd_same, by omega, fun ns pn hasc hmem hlen npn => ?_⟩
          have e : ns = nI (foundN r M (t + 1)) := found_is hasc fun k => by
            rw [hmem]
            exact decide_eq_true_iff
          have sA : Same H6 (upd H6 ps (SetO w ps (fun j => decide (j ∈ nI (laterN r M (foundN r M t) (foundN r M t).length))) c)) := same_new nps
          have sB := sA.trans (same_new (o := .lst (ns.map V.int)) npn)
          refine ⟨pn, _, _, _, rfl, s7.trans sB, s7.free (sA.free npn), sB _ _ fD, ?_⟩
          rw [upd_same, e]
          rfl
      · rintro σ H5 ⟨pf, y3, y6, y7, rfl, s5, nf, eD, ef⟩
        rw [Int.toNat_natCast] at ef
        refine ⟨.ref pf, rfl, pf, _, rfl, .inl ⟨SqL.of ef, fun p np => ?_⟩⟩
        exact q _ p (s5.trans (same_new np)) (s5.free np) upd_same
end
end Sc
namespace Sc
open PySem PySem.Spec PyProof.Rows L2 Kx
/-- the row of draws at q: the script, how many cells are taken, the mixed number, the rest of a great cell -/
def RowV (a : Addr) (i : Nat) (m e : Int) : List V := [.ref a, .int (i : Int), .int m, .int e]
def RowAt (K : PySem.W.Frag) (H : Hp) (q a : Addr) (ns : List Int) : Prop := SqL K H a (ns.map V.int) ∧ ∃ i m e, H q = some (.lst (RowV a i m e)) ∧ 0 ≤ m ∧ m < 2147483647
/-- all but what stands at q is as it was -/
def But (q : Addr) (H H' : Hp) : Prop := ∀ b o, b ≠ q → H b = some o → H' b = some o
theorem sq_put {K : PySem.W.Frag} {H : Hp} {q a b : Addr} {ns : List Int} {ys : List V} {o : HO} (h : SqL K H a (ns.map V.int)) (hq : H q = some (.lst (V.ref b :: ys))) : SqL K (upd H q o) a (ns.map V.int) := by
  have ne : ∀ u, H a = some u → u ≠ .lst (V.ref b :: ys) → a ≠ q := fun u e n z => by
    rw [z, hq] at e
    exact n (Option.some.inj e).symm
  rcases h with (h | ⟨u, h⟩) | h
  · refine .inl (.inl ?_)
    rw [upd_ne (ne _ h fun z => ?_)]
    · exact h
    · injection z with z
      cases ns with
      | nil => cases z
      | cons n t => injection z with z1 z2; cases z1
  · refine .inl (.inr ⟨u, ?_⟩)
    rw [upd_ne (ne _ h fun z => by cases z)]
    exact h
  · exact .inr h
theorem row_put {K : PySem.W.Frag} {H : Hp} {q a : Addr} {ns : List Int} {i i' : Nat} {m e m' e' : Int} (h : SqL K H a (ns.map V.int)) (hq : H q = some (.lst (RowV a i m e))) (h0 : 0 ≤ m') (h1 : m' < 2147483647) :
    RowAt K (upd H q (.lst (RowV a i' m' e'))) q a ns := ⟨sq_put h hq, i', m', e', upd_same, h0, h1⟩
theorem but_put {H : Hp} {q : Addr} {o : HO} : But q H (upd H q o) := fun b u n e => by
  rw [upd_ne n]
  exact e
theorem fmod_nat {x : Int} {m : Nat} (hm : 1 ≤ m) : ∃ k : Nat, x.fmod (m : Int) = (k : Int) ∧ k < m := by
  have e : x.fmod (m : Int) = x % (m : Int) := Int.fmod_eq_emod_of_nonneg x (by omega)
  have h0 := Int.emod_nonneg x (show (m : Int) ≠ 0 by omega)
  have h1 := Int.emod_lt_of_pos x (show (0 : Int) < m by omega)
  exact ⟨(x % (m : Int)).toNat, by omega, by omega⟩
theorem fmod_mix (x : Int) : 0 ≤ x.fmod 2147483647 ∧ x.fmod 2147483647 < 2147483647 := by
  rw [Int.fmod_eq_emod_of_nonneg x (by decide)]
  exact ⟨Int.emod_nonneg x (by decide), Int.emod_lt_of_pos x (by decide)⟩
section
variable {K : PySem.W.Frag} {mg : Str → Option Value} {P : Program} {w : World} {base : Heap}
/-! ### _law_taken -/
theorem scTaken : FnScope ["_law_row", "_law_many", "_law_found", "_law_cell"] ["_law_row", "_law_many"] (defScope sTaken) := ⟨rfl, rfl, rfl, by decide +kernel, rfl, by decide +kernel, by decide +kernel⟩
def spTaken (K : PySem.W.Frag) : Sp := fun vs H Q _ => ∃ (q a : Addr) (ns : List Int) (m : Nat), vs = [.ref q, .int (m : Int)] ∧ RowAt K H q a ns ∧ 1 ≤ m ∧ m ≤ 1000 ∧ ∀ H' (x : Nat), x < m → RowAt K H' q a ns → But q H H' → Q (.int (x : Int)) H'
theorem ok_taken {f : Addr} {fd : FuncData} (F : Fun K "_law_taken" "_law_taken" sTaken f fd) (B : Bl mg) : FnOk P w K mg base CX0 1 f fd ["_law_row", "_law_many"] (spTaken K) := by
  refine F.ok scTaken (fun vs H Q E h => ?_) (fun cdv A outer s H vs Q E hr h => ?_)
  · obtain ⟨q, a, ns, m, rfl, _⟩ := h
    rfl
  · obtain ⟨q, a, ns, m, rfl, ⟨hS, i, mx, e, hq, m0, m1⟩, hm1, hm2, k⟩ := h
    have nd := scTaken.nd
    refine ⟨_, pss_cons (ps_if (pt_cmpR op_gt (pe_ix ix_list (pv 0) pe_int (fun _ _ => rfl)) pe_int (nomark _))
        (pss_cons (ps_set (i := 2) nd rfl (.inl rfl) (pe_op op_modN (pe_callTy call_int1 (by rfl) B.int (by decide +kernel) (pa_cons (pe_ix ix_list (pv 0) pe_int (fun _ _ => rfl)) pa_nil)) (pv 1)))
        (pss_cons (ps_asg (pe_op op_fdivN (pe_ix ix_list (pv 0) pe_int (fun _ _ => rfl)) (pv 1)) (pg_sub (pv 0) pe_int set_list))
        (pss_one (ps_ret (pv 2))))) pss_nil)
      (pss_cons (ps_asg (pe_op op_add (pe_ix ix_list (pv 0) pe_int (fun _ _ => rfl)) pe_int) (pg_sub (pv 0) pe_int set_list))
      (pss_cons (ps_if (pt_cmpR op_gt (pe_ix ix_list (pv 0) pe_int (fun _ _ => rfl)) (pe_callB call_len_seq (by rfl) B.len PySem.boot_len (pa_cons (pe_ix ix_list (pv 0) pe_int (fun _ _ => rfl)) pa_nil)) (nomark _))
        (pss_cons (ps_asg (pe_op op_modN (pe_callTy call_int1 (by rfl) B.int (by decide +kernel) (pa_cons (pe_op op_add (pe_op op_mul (pe_ix ix_list (pv 0) pe_int (fun _ _ => rfl)) pe_int) pe_int) pa_nil)) pe_int) (pg_sub (pv 0) pe_int set_list))
        (pss_one (ps_ret (pe_op op_modN (pe_callTy call_int1 (by rfl) B.int (by decide +kernel) (pa_cons (pe_op op_fdivN (pe_ix ix_list (pv 0) pe_int (fun _ _ => rfl)) pe_int) pa_nil)) (pv 1))))) pss_nil)
      (pss_cons (ps_set (i := 3) nd rfl (.inl rfl) (pe_ix ix_list (pe_ix ix_list (pv 0) pe_int (fun _ _ => rfl)) (pe_op op_sub (pe_ix ix_list (pv 0) pe_int (fun _ _ => rfl)) pe_int) (fun _ _ => rfl)))
      (pss_cons (ps_asg (pe_op op_modN (pe_callTy call_int1 (by rfl) B.int (by decide +kernel) (pa_cons (pe_op op_add (pe_op op_add (pe_op op_mul (pe_ix ix_list (pv 0) pe_int (fun _ _ => rfl)) pe_int) (pv 3)) pe_int) pa_nil)) pe_int) (pg_sub (pv 0) pe_int set_list))
      (pss_cons (ps_if (pt_cmpR op_ge (pv 3) (pe_op op_pow pe_int pe_int) (nomark _)) (pss_one (ps_asg (pe_op op_fdivN (pv 3) (pv 1)) (pg_sub (pv 0) pe_int set_list))) pss_nil)
      (pss_one (ps_ret (pe_op op_modN (pe_callTy call_int1 (by rfl) B.int (by decide +kernel) (pa_cons (pv 3) pa_nil)) (pv 1))))))))), ?_⟩
    have g0 : ∀ (i : Nat) (m e : Int), atI (RowV a i m e) 0 = some (.ref a) := fun _ _ _ => rfl
    have g1 : ∀ (i : Nat) (m e : Int), atI (RowV a i m e) 1 = some (.int i) := fun _ _ _ => rfl
    have g2 : ∀ (i : Nat) (m e : Int), atI (RowV a i m e) 2 = some (.int m) := fun _ _ _ => rfl
    have g3 : ∀ (i : Nat) (m e : Int), atI (RowV a i m e) 3 = some (.int e) := fun _ _ _ => rfl
    have mz : (m : Int) ≠ 0 := by omega
    refine ⟨.ref q, rfl, q, _, _, _, rfl, rfl, SqL.of hq, g3 _ _ _, _, _, rfl, rfl, _, rfl, ite2 (fun c => ?_) (fun c => ?_)⟩
    · obtain ⟨x, hx, hxm⟩ := fmod_nat (x := e) hm1
      refine ⟨.ref q, rfl, q, _, _, _, rfl, rfl, SqL.of hq, g3 _ _ _, .inl ⟨_, rfl, ?_⟩⟩
      refine ⟨.int m, rfl, _, _, rfl, rfl, mz, ?_⟩
      refine ⟨.ref q, rfl, q, _, _, _, rfl, rfl, SqL.of hq, g3 _ _ _, .int m, rfl, _, _, rfl, rfl, ⟨mz, by omega⟩, .ref q, rfl, q, _, _, 3, rfl, rfl, hq, rfl, ?_⟩
      refine ⟨.int (e.fmod (m : Int)), rfl, ?_⟩
      rw [hx]
      exact k _ x hxm (row_put (i' := i) (m' := mx) hS hq m0 m1) but_put
    · refine ⟨.ref q, rfl, q, _, _, _, rfl, rfl, SqL.of hq, g1 _ _ _, _, _, rfl, rfl, .ref q, rfl, q, _, _, 1, rfl, rfl, hq, rfl, ?_⟩
      have hS1 : SqL K (upd H q (.lst (RowV a (i + 1) mx e))) a (ns.map V.int) := sq_put hS hq
      have hq1 : (upd H q (.lst (RowV a (i + 1) mx e))) q = some (.lst (RowV a (i + 1) mx e)) := upd_same
      have bu1 : But q H (upd H q (.lst (RowV a (i + 1) mx e))) := but_put
      have hl : (ns.map V.int).length = ns.length := List.length_map ..
      show tSeq _ _ _ _ (upd H q (.lst (RowV a (i + 1) mx e)))
      generalize upd H q (.lst (RowV a (i + 1) mx e)) = H1 at *
      refine ⟨.ref q, rfl, q, _, _, _, rfl, rfl, SqL.of hq1, g1 _ _ _, .ref q, rfl, q, _, _, _, rfl, rfl, SqL.of hq1, g0 _ _ _, a, _, rfl, .inl hS1, _, _, rfl, rfl, _, rfl, ite2 (fun c2 => ?_) (fun c2 => ?_)⟩
      · refine ⟨.ref q, rfl, q, _, _, _, rfl, rfl, SqL.of hq1, g2 _ _ _, _, _, rfl, rfl, .inl ⟨by omega, by omega⟩, _, _, rfl, rfl, .inl ⟨_, rfl, _, _, rfl, rfl, (show (2147483647 : Int) ≠ 0 by decide), .ref q, rfl, q, _, _, 2, rfl, rfl, hq1, rfl, ?_⟩⟩
        have hm := fmod_mix (mx * 48271 + 11)
        have hR : RowAt K (upd H1 q (.lst (RowV a (i + 1) ((mx * 48271 + 11).fmod 2147483647) e))) q a ns := row_put hS1 hq1 hm.1 hm.2
        have hq2 : (upd H1 q (.lst (RowV a (i + 1) ((mx * 48271 + 11).fmod 2147483647) e))) q = some (.lst (RowV a (i + 1) ((mx * 48271 + 11).fmod 2147483647) e)) := upd_same
        obtain ⟨x, hx, hxm⟩ := fmod_nat (x := ((mx * 48271 + 11).fmod 2147483647).fdiv 7) hm1
        refine ⟨.ref q, rfl, q, _, _, _, rfl, rfl, SqL.of hq2, g2 _ _ _, _, _, rfl, rfl, ⟨by decide, by decide⟩, .inl ⟨_, rfl, .int m, rfl, _, _, rfl, rfl, mz, ?_⟩⟩
        show Q (.int ((((mx * 48271 + 11).fmod 2147483647).fdiv 7).fmod (m : Int))) _
        rw [hx]
        exact k _ x hxm hR fun b u n z => but_put b u n (bu1 b u n z)
      · have hi : i < ns.length := by
          have z : ¬ (((ns.map V.int).length : Int) < ((i + 1 : Nat) : Int)) := fun y => c2 (decide_eq_true y)
          omega
        have hc : (ns.map V.int)[i]? = some (.int ns[i]) := by
          rw [List.getElem?_map, List.getElem?_eq_getElem hi]
          rfl
        generalize ns[i] = cell at hc
        refine ⟨.ref q, rfl, q, _, _, _, rfl, rfl, SqL.of hq1, g0 _ _ _, .ref q, rfl, q, _, _, _, rfl, rfl, SqL.of hq1, g1 _ _ _, _, _, rfl, rfl, a, _, _, _, rfl, rfl, hS1, atI_of (j := i) (by omega) hc, ?_⟩
        refine ⟨.ref q, rfl, q, _, _, _, rfl, rfl, SqL.of hq1, g2 _ _ _, _, _, rfl, rfl, .inl ⟨by omega, by omega⟩, .int cell, rfl, _, _, rfl, rfl, _, _, rfl, rfl, .inl ⟨_, rfl, _, _, rfl, rfl, (show (2147483647 : Int) ≠ 0 by decide), .ref q, rfl, q, _, _, 2, rfl, rfl, hq1, rfl, ?_⟩⟩
        have hm := fmod_mix (mx * 48271 + cell + 11)
        have hS2 : SqL K (upd H1 q (.lst (RowV a (i + 1) ((mx * 48271 + cell + 11).fmod 2147483647) e))) a (ns.map V.int) := sq_put hS1 hq1
        have hq2 : (upd H1 q (.lst (RowV a (i + 1) ((mx * 48271 + cell + 11).fmod 2147483647) e))) q = some (.lst (RowV a (i + 1) ((mx * 48271 + cell + 11).fmod 2147483647) e)) := upd_same
        have bu2 : But q H (upd H1 q (.lst (RowV a (i + 1) ((mx * 48271 + cell + 11).fmod 2147483647) e))) := fun b u n z => but_put b u n (bu1 b u n z)
        obtain ⟨x, hx, hxm⟩ := fmod_nat (x := cell) hm1
        show tSeq _ _ _ _ (upd H1 q (.lst (RowV a (i + 1) ((mx * 48271 + cell + 11).fmod 2147483647) e)))
        generalize upd H1 q (.lst (RowV a (i + 1) ((mx * 48271 + cell + 11).fmod 2147483647) e)) = H2 at *
        generalize (mx * 48271 + cell + 11).fmod 2147483647 = mx2 at *
        have fin : ∀ H3, RowAt K H3 q a ns → But q H H3 → Q (.int (cell.fmod (m : Int))) H3 := fun H3 r b => by
          rw [hx]
          exact k H3 x hxm r b
        refine ⟨.int cell, rfl, _, _, rfl, rfl, ⟨by decide, by decide, by decide⟩, _, _, rfl, rfl, _, rfl, ite2 (fun c3 => ?_) (fun c3 => ?_)⟩
        · refine ⟨.int cell, rfl, .int m, rfl, _, _, rfl, rfl, ⟨mz, by omega⟩, .ref q, rfl, q, _, _, 3, rfl, rfl, hq2, rfl, ?_⟩
          refine ⟨.int cell, rfl, .inl ⟨_, rfl, .int m, rfl, _, _, rfl, rfl, mz, ?_⟩⟩
          exact fin _ (row_put (i' := i + 1) (m' := mx2) hS2 hq2 hm.1 hm.2) fun b u n z => but_put b u n (bu2 b u n z)
        · exact ⟨.int cell, rfl, .inl ⟨_, rfl, .int m, rfl, _, _, rfl, rfl, mz, fin H2 ⟨hS2, i + 1, mx2, e, hq2, hm.1, hm.2⟩ bu2⟩⟩
end
end Sc
namespace Sc
open PySem PySem.Spec PyProof.Rows L2 Kx
theorem tOf_in {r : List Int} {c : Nat} (h : c < r.length) : tOf r c = r[c] := by
  unfold tOf
  rw [List.getD_eq_getElem?_getD, List.getElem?_eq_getElem h]
  rfl
theorem tOf_out {r : List Int} {c : Nat} (h : r.length ≤ c) : tOf r c = r.getLastD 0 := by
  unfold tOf
  rw [List.getD_eq_getElem?_getD, List.getElem?_eq_none h]
  rfl
theorem rule_last {r : List Int} (h : 1 ≤ r.length) : atI (r.map V.int) (-1) = some (.int (r.getLastD 0)) := by
  have ne : r ≠ [] := fun z => by
    rw [z] at h
    exact absurd h (by simp)
  have e1 : r.dropLast ++ [r.getLastD 0] = r := by
    rw [List.getLastD_eq_getLast?, List.getLast?_eq_some_getLast ne]
    exact List.dropLast_concat_getLast ne
  have e2 : r.map V.int = r.dropLast.map V.int ++ [.int (r.getLastD 0)] := by
    conv => lhs; rw [← e1]
    rw [List.map_append]
    rfl
  rw [e2]
  exact atI_last _ _
def timesN (r : List Int) (c : Nat) : List Int := (List.range c).map (tOf r)
theorem timesN_sum (r : List Int) : ∀ c, (timesN r c).sum = sumOf r c
  | 0 => rfl
  | c + 1 => by
    unfold timesN
    rw [List.range_succ, List.map_append, List.sum_append]
    show (timesN r c).sum + [tOf r c].sum = sumOf r c + tOf r c
    rw [timesN_sum r c]
    simp
theorem timesN_succ (r : List Int) (c : Nat) : (timesN r (c + 1)).map V.int = (timesN r c).map V.int ++ [.int (tOf r c)] := by
  unfold timesN
  rw [List.range_succ, List.map_append, List.map_append]
  rfl
theorem timesN_len (r : List Int) (c : Nat) : ((timesN r c).map V.int).length = c := by
  unfold timesN
  rw [List.length_map, List.length_map, List.length_range]
/-- the row without the script -/
def RowQ (H : Hp) (q a : Addr) : Prop := ∃ i m e, H q = some (.lst (RowV a i m e)) ∧ 0 ≤ m ∧ m < 2147483647
theorem RowQ.live {H : Hp} {q a : Addr} (r : RowQ H q a) : ∃ o, H q = some o := by
  obtain ⟨_, _, _, e, _⟩ := r
  exact ⟨_, e⟩
theorem but_refl (q : Addr) (H : Hp) : But q H H := fun _ _ _ e => e
theorem But.trans {q : Addr} {H H1 H2 : Hp} (a : But q H H1) (b : But q H1 H2) : But q H H2 := fun c o n e => b c o n (a c o n e)
theorem Same.but {q : Addr} {H H1 : Hp} (a : Same H H1) : But q H H1 := fun c o _ e => a c o e
theorem But.free {q : Addr} {H H1 : Hp} {p : Addr} (b : But q H H1) (live : ∃ o, H1 q = some o) (n : H1 p = none) : H p = none := by
  cases e : H p with
  | none => rfl
  | some o =>
    by_cases z : p = q
    · obtain ⟨u, hu⟩ := live
      rw [z, hu] at n
      cases n
    · rw [b p o z e] at n
      cases n
theorem But.put {q p : Addr} {H H1 : Hp} {o : HO} (b : But q H H1) (n : H p = none) : But q H (upd H1 p o) := fun c u nc e => by
  rw [upd_ne (ne_of_none e n)]
  exact b c u nc e
/-- the script stands while only the row is changed -/
theorem sq_but {K : PySem.W.Frag} {H H1 : Hp} {q a : Addr} {ns : List Int} (h : RowAt K H q a ns) (b : But q H H1) : SqL K H1 a (ns.map V.int) := by
  obtain ⟨h, i, m, e, hq, _⟩ := h
  have ne : ∀ u, H a = some u → u ≠ .lst (RowV a i m e) → a ≠ q := fun u hu n z => by
    rw [z, hq] at hu
    exact n (Option.some.inj hu).symm
  rcases h with (h | ⟨u, h⟩) | h
  · refine .inl (.inl (b _ _ (ne _ h fun z => ?_) h))
    injection z with z
    cases ns with
    | nil => cases z
    | cons n t => injection z with z1 z2; cases z1
  · exact .inl (.inr ⟨u, b _ _ (ne _ h fun z => by cases z) h⟩)
  · exact .inr h
theorem row_but {K : PySem.W.Frag} {H H1 : Hp} {q a : Addr} {ns : List Int} (h : RowAt K H q a ns) (b : But q H H1) (r : RowQ H1 q a) : RowAt K H1 q a ns := ⟨sq_but h b, r⟩
theorem rowq_new {H : Hp} {q a p : Addr} {o : HO} (r : RowQ H q a) (n : q ≠ p) : RowQ (upd H p o) q a := by
  obtain ⟨i, m, e, h, x⟩ := r
  exact ⟨i, m, e, by rw [upd_ne n]; exact h, x⟩
section
variable {K : PySem.W.Frag} {mg : Str → Option Value} {P : Program} {w : World} {base : Heap}
/-! ### _law_times -/
theorem scTimes : FnScope ["_law_rule_here", "_law_number"] ["_law_rule_here", "_law_number"] (defScope sTimes) := ⟨rfl, rfl, rfl, by decide +kernel, rfl, by decide +kernel, by decide +kernel⟩
def spTimes : Sp := fun vs H Q _ => ∃ (a : Addr) (r : List Int) (c : Nat), vs = [.ref a, .int (1 + (c : Int))] ∧ H a = some (.tup (r.map V.int)) ∧ RuleOk r ∧ Q (.int (tOf r c)) H
theorem ok_times {f : Addr} {fd : FuncData} (F : Fun K "_law_times" "_law_times" sTimes f fd) (B : Bl mg) : FnOk P w K mg base CX0 1 f fd ["_law_rule_here", "_law_number"] spTimes := by
  refine F.ok scTimes (fun vs H Q E h => ?_) (fun cdv A outer s H vs Q E hr h => ?_)
  · obtain ⟨a, r, c, rfl, _⟩ := h
    rfl
  · obtain ⟨a, r, c, rfl, hS, ok, k⟩ := h
    have hl : (r.map V.int).length = r.length := List.length_map ..
    refine ⟨_, pss_one (ps_ret (pe_ifExp (pt_cmpR op_le (pv 1) (pe_callB call_len_seq (by rfl) B.len PySem.boot_len (pa_cons (pv 0) pa_nil)) (nomark _))
      (pe_ix ix_tup (pv 0) (pe_op op_sub (pv 1) pe_int) (fun _ _ => rfl)) (pe_ix ix_tup (pv 0) (pe_un un_neg pe_int) (fun _ _ => rfl)))), ?_⟩
    refine ⟨.int (1 + (c : Int)), rfl, .ref a, rfl, a, _, rfl, .inr (SqT.of hS), _, _, rfl, rfl, _, rfl, ite2 (fun e => ?_) (fun e => ?_)⟩
    · have hc : c < r.length := by
        have z : 1 + (c : Int) ≤ ((r.map V.int).length : Int) := of_decide_eq_true e
        omega
      have hg : (r.map V.int)[c]? = some (.int r[c]) := by simp [hc]
      rw [tOf_in hc] at k
      exact ⟨.ref a, rfl, .int (1 + (c : Int)), rfl, _, _, rfl, rfl, a, _, _, _, rfl, rfl, SqT.of hS, atI_of (j := c) (by omega) hg, k⟩
    · have hc : r.length ≤ c := by
        have z : ¬ (1 + (c : Int) ≤ ((r.map V.int).length : Int)) := fun y => e (decide_eq_true y)
        omega
      rw [tOf_out hc] at k
      exact ⟨.ref a, rfl, 1, rfl, a, _, _, _, rfl, rfl, SqT.of hS, rule_last ok.1, k⟩
/-! ### _law_sum -/
abbrev nmSum : List Str := ["_law_rule_here", "_law_count", "_law_number"]
theorem scSum : FnScope nmSum ["_law_rule_here", "_law_count"] (defScope sSum) := ⟨rfl, rfl, rfl, by decide +kernel, rfl, by decide +kernel, by decide +kernel⟩
theorem ok_sum {f f1 : Addr} {fd fd1 : FuncData} (F : Fun K "_law_sum" "_law_sum" sSum f fd) (F1 : Fun K "_law_times" "_law_times" sTimes f1 fd1) (b1 : Binds K fd1 ["_law_rule_here", "_law_number"] []) (g1 : mg "_law_times" = some (.ref f1)) (B : Bl mg) :
    FnOk P w K mg base CX0 2 f fd ["_law_rule_here", "_law_count"] spSumOf := by
  have G1 : FnOk P w K mg base CX0 1 f1 fd1 ["_law_rule_here", "_law_number"] spTimes := ok_times F1 B
  refine F.ok scSum (fun vs H Q E h => ?_) (fun cdv A outer s H vs Q E hr h => ?_)
  · obtain ⟨a, r, c, rfl, _⟩ := h
    rfl
  · obtain ⟨a, r, c, rfl, hS, ok, hc, k⟩ := h
    refine ⟨_, pss_one (ps_ret (pe_callB (cr_sum rfl) (by rfl) B.sum (by decide +kernel) (pa_cons (pe_lc (own := [("_law_number", 2)]) (g := gName 2) (tt := tYes) (by rfl) scSum.nd
      (pi_range2 (by rfl) B.range (pa_cons pe_int (pa_cons (pe_op op_add (pv 1) pe_int) pa_nil))) (blkOk_by (N := nmSum) (sc := defScope sSum) (own := [("_law_number", 2)]) (by decide +kernel))
      (fun _ _ _ _ _ => pg_name (i := 2) scSum.nd rfl (.inl rfl)) (fun _ _ _ _ _ => pts_nil)
      (fun _ _ _ _ _ => by exact pe_call G1 hr (by rfl) g1 F1.kp b1 .nil pass0 (pa_cons (pv 0) (pa_cons (pv 2) pa_nil)))) pa_nil))), ?_⟩
    refine ⟨.int c, rfl, _, _, rfl, rfl, _, _, rfl, ⟨by omega, by omega, by omega, by omega⟩, fun D nD => lc_range (lo := 1) (n := ((c : Int) + 1 - 1).toNat) (fun i H1 => Same H H1 ∧ H1 D = some (.lst ((timesN r i).map V.int))) ⟨same_new nD, upd_same⟩ ?_ ?_⟩
    · rintro i H1 hi ⟨s1, hD⟩
      refine ⟨rfl, .ref a, rfl, .int (1 + (i : Int)), rfl, a, r, i, rfl, s1 _ _ hS, ok, _, hD, ?_, same_put s1 nD, ?_⟩
      · rw [timesN_len, sizeLine_eq]
        omega
      · rw [upd_same, timesN_succ]
    · rintro H1 ⟨s1, hD⟩
      rw [show ((c : Int) + 1 - 1).toNat = c by omega] at hD
      refine ⟨D, timesN r c, rfl, SqL.of hD, ?_⟩
      rw [timesN_sum]
      exact k H1 s1
/-! ### _law_rule -/
abbrev nmRule : List Str := ["_law_row", "_law_most", "_law_least", "_law_turn"]
theorem scRule : FnScope nmRule ["_law_row", "_law_most", "_law_least"] (defScope sRule) := ⟨rfl, rfl, rfl, by decide +kernel, rfl, by decide +kernel, by decide +kernel⟩
def spRule (K : PySem.W.Frag) : Sp := fun vs H Q _ => ∃ (q a : Addr) (ns : List Int), vs = [.ref q, .int 5, .int 0] ∧ RowAt K H q a ns ∧
  ∀ H' p r, RuleOk r → r.length ≤ 5 → RowAt K H' q a ns → But q H H' → H p = none → H' p = some (.tup (r.map V.int)) → Q (.ref p) H'
theorem ok_rule {f f1 : Addr} {fd fd1 : FuncData} (F : Fun K "_law_rule" "_law_rule" sRule f fd) (F1 : Fun K "_law_taken" "_law_taken" sTaken f1 fd1) (b1 : Binds K fd1 ["_law_row", "_law_many"] []) (g1 : mg "_law_taken" = some (.ref f1)) (B : Bl mg) :
    FnOk P w K mg base CX0 2 f fd ["_law_row", "_law_most", "_law_least"] (spRule K) := by
  have G1 : FnOk P w K mg base CX0 1 f1 fd1 ["_law_row", "_law_many"] (spTaken K) := ok_taken F1 B
  refine F.ok scRule (fun vs H Q E h => ?_) (fun cdv A outer s H vs Q E hr h => ?_)
  · obtain ⟨q, a, ns, rfl, _⟩ := h
    rfl
  · obtain ⟨q, a, ns, rfl, hR, k⟩ := h
    refine ⟨_, pss_one (ps_ret (pe_callTy call_tuple_of (by rfl) B.tuple (by decide +kernel) (pa_cons (pe_lc (own := [("_law_turn", 3)]) (g := gName 3) (tt := tYes) (by rfl) scRule.nd
      (pi_range1 (by rfl) B.range (pa_cons (pe_op op_add pe_int (pe_call G1 hr (by rfl) g1 F1.kp b1 .nil pass0 (pa_cons (pv 0) (pa_cons pe_int pa_nil)))) pa_nil)) (blkOk_by (N := nmRule) (sc := defScope sRule) (own := [("_law_turn", 3)]) (by decide +kernel))
      (fun _ _ _ _ _ => pg_name (i := 3) scRule.nd rfl (.inl rfl)) (fun _ _ _ _ _ => pts_nil)
      (fun _ _ _ _ _ => by exact pe_op op_add (pv 2) (pe_call G1 hr (by rfl) g1 F1.kp b1 .nil pass0 (pa_cons (pv 0) (pa_cons (pv 1) pa_nil))))) pa_nil))), ?_⟩
    refine ⟨.ref q, rfl, q, a, ns, 5, rfl, hR, by decide, by decide, fun H1 x hx hR1 b1 => ?_⟩
    refine ⟨_, _, rfl, rfl, _, rfl, by omega, by omega, fun D nD => ?_⟩
    have qD : q ≠ D := by
      obtain ⟨o, ho⟩ := RowQ.live hR1.2
      exact ne_of_none ho nD
    refine lc_range (lo := 0) (n := ((1 : Int) + (x : Int)).toNat) (fun i H2 => RowQ H2 q a ∧ But q H1 H2 ∧ ∃ r : List Int, r.length = i ∧ (∀ y ∈ r, 0 ≤ y ∧ y ≤ 1000) ∧ H2 D = some (.lst (r.map V.int)))
      ⟨rowq_new hR1.2 qD, Same.but (same_new nD), [], rfl, fun y hy => (by cases hy), upd_same⟩ ?_ ?_
    · rintro i H2 hi ⟨rq, bu, r, hl, hb, hD⟩
      refine ⟨rfl, .int 0, rfl, .ref q, rfl, .int 5, rfl, q, a, ns, 5, rfl, row_but hR1 bu rq, by decide, by decide, fun H3 y hy hR3 b3 => ?_⟩
      have hD3 : H3 D = some (.lst (r.map V.int)) := b3 _ _ qD.symm hD
      refine ⟨_, _, rfl, rfl, _, hD3, ?_, rowq_new hR3.2 qD, (bu.trans b3).put nD, r ++ [(y : Int)], ?_, fun z hz => ?_, ?_⟩
      · rw [List.length_map, hl, sizeLine_eq]
        omega
      · rw [List.length_append, hl]
        rfl
      · rcases List.mem_append.mp hz with e | e
        · exact hb z e
        · rw [List.mem_singleton] at e
          omega
      · rw [upd_same, List.map_append]
        show some (HO.lst (r.map V.int ++ [V.int (0 + (y : Int))])) = _
        rw [Int.zero_add]
        rfl
    · rintro H2 ⟨rq, bu, r, hl, hb, hD⟩
      refine ⟨D, _, rfl, .inl ⟨SqL.of hD, fun p np => ?_⟩⟩
      have qp : q ≠ p := by
        obtain ⟨o, ho⟩ := rq.live
        exact ne_of_none ho np
      refine k _ p r ⟨by omega, by omega, hb⟩ (by omega) ?_ ((b1.trans bu).trans (Same.but (same_new np))) ((b1.trans bu).free rq.live np) upd_same
      exact row_but hR ((b1.trans bu).trans (Same.but (same_new np))) (rowq_new rq qp)
end
end Sc
namespace Sc
open PySem PySem.Spec PyProof.Rows L2 Kx
section
variable {K : PySem.W.Frag} {mg : Str → Option Value} {P : Program} {w : World} {base : Heap}
theorem seq2 : Paired ClsV [V.ty "tuple", V.ty "list"] [Value.type "tuple", Value.type "list"] := .cons (.ty _) (.cons (.ty _) .nil)
theorem any_no {t : Value} (h1 : PySem.W.kitOne K t (.type "tuple") = some false) (h2 : PySem.W.kitOne K t (.type "list") = some false) : PySem.W.kitAny K t [.type "tuple", .type "list"] = some false :=
  kitAny_cons h1 (fun _ => kitAny_cons h2 (fun _ => rfl) fun z => by cases z) fun z => by cases z
theorem any_tup : PySem.W.kitAny K (.type "tuple") [.type "tuple", .type "list"] = some true :=
  kitAny_cons (b := true) (kit_ty (by decide +kernel)) (fun z => by cases z) fun _ => rfl
abbrev nmAlike : List Str := ["_law_found", "_law_due", "_law_k"]
theorem scAlike : FnScope nmAlike ["_law_found", "_law_due"] (defScope sAlike) := ⟨rfl, rfl, rfl, by decide +kernel, rfl, by decide +kernel, by decide +kernel⟩
/-- two like values that hold no others -/
def spAlikeF : Sp := fun vs H Q _ => ∃ x : V, vs = [x, x] ∧ (x = .non ∨ ∃ n, x = .int n) ∧ ∀ H', Same H H' → Q (.bl true) H'
theorem ok_alike_flat {f : Addr} {fd : FuncData} (F : Fun K "_law_alike" "_law_alike" sAlike f fd) (B : Bl mg) : FnOk P w K mg base CX0 1 f fd ["_law_found", "_law_due"] spAlikeF := by
  refine F.ok scAlike (fun vs H Q E h => ?_) (fun cdv A outer s H vs Q E hr h => ?_)
  · obtain ⟨x, rfl, _⟩ := h
    rfl
  · obtain ⟨x, rfl, hx, k⟩ := h
    refine ⟨_, pss_cons (ps_if (pt_val (pe_callB call_isiT (by rfl) B.isi (by decide +kernel) (pa_cons (pv 1) (pa_cons (pe_tup (pa_cons (pe_bltn (v := .ty "tuple") (by rfl) B.tuple (by decide +kernel) rfl) (pa_cons (pe_bltn (v := .ty "list") (by rfl) B.list (by decide +kernel) rfl) pa_nil))) pa_nil))))
        (pss_cons ps_never (pss_cons ps_never (pss_one ps_never))) pss_nil)
      (pss_cons (ps_if (PW.pt (pw_or (pt_cmpR op_isN (pv 1) pe_non (nomark _)) (pw_or1 (pt_val (pe_callB call_isi (by rfl) B.isi (by decide +kernel) (pa_cons (pv 1) (pa_cons (pe_bltn (v := .ty "str") (by rfl) B.str (by decide +kernel) rfl) pa_nil)))))))
        (pss_one (ps_ret (pe_and (pe_cmpR op_eq (pv 0) (pv 1) (nomark _)) (pe_one (pe_cmpR op_eq (pe_callB call_isi (by rfl) B.isi (by decide +kernel) (pa_cons (pv 0) (pa_cons (pe_bltn (v := .ty "str") (by rfl) B.str (by decide +kernel) rfl) pa_nil)))
          (pe_callB call_isi (by rfl) B.isi (by decide +kernel) (pa_cons (pv 1) (pa_cons (pe_bltn (v := .ty "str") (by rfl) B.str (by decide +kernel) rfl) pa_nil))) (nomark _)))))) pss_nil)
      (pss_one (ps_ret (pe_and (pe_callB call_isi (by rfl) B.isi (by decide +kernel) (pa_cons (pv 0) (pa_cons (pe_bltn (v := .ty "int") (by rfl) B.int (by decide +kernel) rfl) pa_nil)))
        (pe_and (pe_cmpR op_eq (pe_callB call_isi (by rfl) B.isi (by decide +kernel) (pa_cons (pv 0) (pa_cons (pe_bltn (v := .ty "bool") (by rfl) B.bool (by decide +kernel) rfl) pa_nil)))
            (pe_callB call_isi (by rfl) B.isi (by decide +kernel) (pa_cons (pv 1) (pa_cons (pe_bltn (v := .ty "bool") (by rfl) B.bool (by decide +kernel) rfl) pa_nil))) (nomark _))
          (pe_one (pe_cmpR op_eq (pv 0) (pv 1) (nomark _)))))))), ?_⟩
    rcases hx with rfl | ⟨n, rfl⟩
    · refine ⟨.non, rfl, by show 2 ≤ sizeLine; decide, fun T nT => ⟨.non, T, _, .type "NoneType", _, false, rfl, upd_same, seq2, .base .non, any_no (kit_ty (by decide +kernel)) (kit_ty (by decide +kernel)), false, rfl, iteF ?_⟩⟩
      refine ⟨.non, rfl, rfl, _, rfl, ifIsN rfl ?_⟩
      refine ⟨.non, rfl, .non, rfl, rfl, true, congrArg V.bl (decide_eq_true rfl), iteT ?_⟩
      refine ⟨.non, rfl, .non, .ty "str", .type "NoneType", .type "str", false, rfl, .ty _, .base .non, kit_ty (by decide +kernel), .non, rfl, .non, .ty "str", .type "NoneType", .type "str", false, rfl, .ty _, .base .non, kit_ty (by decide +kernel), rfl, ?_⟩
      exact k _ (same_new nT)
    · refine ⟨.int n, rfl, by show 2 ≤ sizeLine; decide, fun T nT => ⟨.int n, T, _, .type "int", _, false, rfl, upd_same, seq2, .base (.int n), any_no (kit_ty (by decide +kernel)) (kit_ty (by decide +kernel)), false, rfl, iteF ?_⟩⟩
      refine ⟨.int n, rfl, rfl, _, rfl, ifIsF (fun z => nomatch z) ⟨.int n, rfl, .int n, .ty "str", .type "int", .type "str", false, rfl, .ty _, .base (.int n), kit_ty (by decide +kernel), false, rfl, iteF ?_⟩⟩
      refine ⟨.int n, rfl, .int n, .ty "int", .type "int", .type "int", true, rfl, .ty _, .base (.int n), kit_ty (by decide +kernel), true, rfl, iteT ?_⟩
      refine ⟨.int n, rfl, .int n, .ty "bool", .type "int", .type "bool", false, rfl, .ty _, .base (.int n), kit_ty (by decide +kernel), .int n, rfl, .int n, .ty "bool", .type "int", .type "bool", false, rfl, .ty _, .base (.int n), kit_ty (by decide +kernel), rfl, true, congrArg V.bl (decide_eq_true rfl), iteT ?_⟩
      refine ⟨.int n, rfl, .int n, rfl, rfl, ?_⟩
      show Q (.bl (decide (V.int n = V.int n))) _
      rw [decide_eq_true rfl]
      exact k _ (same_new nT)
/-- two tuples of the same ints -/
def spAlikeT : Sp := fun vs H Q _ => ∃ (p q : Addr) (ns : List Int), vs = [.ref p, .ref q] ∧ H p = some (.tup (ns.map V.int)) ∧ H q = some (.tup (ns.map V.int)) ∧ ns.length ≤ 1000 ∧ ∀ H', Same H H' → Q (.bl true) H'
theorem ok_alike_tup {f : Addr} {fd : FuncData} (F : Fun K "_law_alike" "_law_alike" sAlike f fd) (b1 : Binds K fd ["_law_found", "_law_due"] []) (g1 : mg "_law_alike" = some (.ref f)) (B : Bl mg) : FnOk P w K mg base CX0 2 f fd ["_law_found", "_law_due"] spAlikeT := by
  have G1 : FnOk P w K mg base CX0 1 f fd ["_law_found", "_law_due"] spAlikeF := ok_alike_flat F B
  refine F.ok scAlike (fun vs H Q E h => ?_) (fun cdv A outer s H vs Q E hr h => ?_)
  · obtain ⟨p, q, ns, rfl, _⟩ := h
    rfl
  · obtain ⟨p, q, ns, rfl, hp, hq, hn, k⟩ := h
    have hl : (ns.map V.int).length = ns.length := List.length_map ..
    refine ⟨_, pss_cons (ps_if (pt_val (pe_callB call_isiT (by rfl) B.isi (by decide +kernel) (pa_cons (pv 1) (pa_cons (pe_tup (pa_cons (pe_bltn (v := .ty "tuple") (by rfl) B.tuple (by decide +kernel) rfl) (pa_cons (pe_bltn (v := .ty "list") (by rfl) B.list (by decide +kernel) rfl) pa_nil))) pa_nil))))
        (pss_cons (ps_if (PW.pt (pw_or (pt_not (pt_val (pe_callB call_isiT (by rfl) B.isi (by decide +kernel) (pa_cons (pv 0) (pa_cons (pe_tup (pa_cons (pe_bltn (v := .ty "tuple") (by rfl) B.tuple (by decide +kernel) rfl) (pa_cons (pe_bltn (v := .ty "list") (by rfl) B.list (by decide +kernel) rfl) pa_nil))) pa_nil)))))
            (pw_or1 (pt_cmpR op_ne (pe_callB call_isi (by rfl) B.isi (by decide +kernel) (pa_cons (pv 0) (pa_cons (pe_bltn (v := .ty "list") (by rfl) B.list (by decide +kernel) rfl) pa_nil)))
              (pe_callB call_isi (by rfl) B.isi (by decide +kernel) (pa_cons (pv 1) (pa_cons (pe_bltn (v := .ty "list") (by rfl) B.list (by decide +kernel) rfl) pa_nil))) (nomark _))))) (pss_one ps_never) pss_nil)
        (pss_cons (ps_if (pt_cmpR op_ne (pe_callB call_len_seq (by rfl) B.len PySem.boot_len (pa_cons (pv 0) pa_nil)) (pe_callB call_len_seq (by rfl) B.len PySem.boot_len (pa_cons (pv 1) pa_nil)) (nomark _)) (pss_one ps_never) pss_nil)
        (pss_one (ps_ret (pe_cmpR (op_eqD hr.units) (pe_lc (own := [("_law_k", 2)]) (g := gName 2) (tt := tNot (tB (tCall spAlikeF [] E0 (tCons (tOp (rIxT K) (tVar 0) (tVar 2)) (tCons (tOp (rIxT K) (tVar 1) (tVar 2)) tNil))))) (by rfl) scAlike.nd (pi_range1 (by rfl) B.range (pa_cons (pe_callB call_len_seq (by rfl) B.len PySem.boot_len (pa_cons (pv 1) pa_nil)) pa_nil))
            (blkOk_by (N := nmAlike) (sc := defScope sAlike) (own := [("_law_k", 2)]) (by decide +kernel)) (fun _ _ _ _ _ => pg_name (i := 2) scAlike.nd rfl (.inl rfl))
            (fun _ _ _ _ _ => by exact pts_one (pt_not (pt_val (pe_call G1 hr (by rfl) g1 F.kp b1 .nil pass0 (pa_cons (pe_ix ix_tup (pv 0) (pv 2) (fun _ _ => rfl)) (pa_cons (pe_ix ix_tup (pv 1) (pv 2) (fun _ _ => rfl)) pa_nil))))))
            (fun _ _ _ _ _ => pv 2)) (pe_lst pa_nil) (nomark _)))))) pss_nil)
      (pss_cons ps_never (pss_one ps_never)), ?_⟩
    refine ⟨.ref q, rfl, by show 2 ≤ sizeLine; decide, fun T nT => ⟨.ref q, T, _, .type "tuple", _, true, rfl, upd_same, seq2, .base (.tup (same_new nT _ _ hq)), any_tup, true, rfl, iteT ?_⟩⟩
    have s1 : Same H (upd H T (.tup [.ty "tuple", .ty "list"])) := same_new nT
    generalize upd H T (.tup [V.ty "tuple", V.ty "list"]) = H1 at *
    refine ⟨.ref p, rfl, by show 2 ≤ sizeLine; decide, fun U nU => ⟨.ref p, U, _, .type "tuple", _, true, rfl, upd_same, seq2, .base (.tup (same_new nU _ _ (s1 _ _ hp))), any_tup, true, rfl, iteF ?_⟩⟩
    have s2 : Same H (upd H1 U (.tup [.ty "tuple", .ty "list"])) := s1.trans (same_new nU)
    generalize upd H1 U (.tup [V.ty "tuple", V.ty "list"]) = H2 at *
    have hp2 := s2 _ _ hp
    have hq2 := s2 _ _ hq
    refine ⟨.ref p, rfl, .ref p, .ty "list", .type "tuple", .type "list", false, rfl, .ty _, .base (.tup hp2), kit_ty (by decide +kernel), .ref q, rfl, .ref q, .ty "list", .type "tuple", .type "list", false, rfl, .ty _, .base (.tup hq2), kit_ty (by decide +kernel), rfl, false, rfl, iteF ?_⟩
    refine ⟨.ref p, rfl, p, _, rfl, .inr (SqT.of hp2), .ref q, rfl, q, _, rfl, .inr (SqT.of hq2), rfl, _, rfl, iteNS rfl ?_⟩
    refine ⟨.ref q, rfl, q, _, rfl, .inr (SqT.of hq2), _, rfl, by omega, by omega, fun D nD => lc_range (lo := 0) (n := ((ns.map V.int).length : Int).toNat) (fun i H3 => Same H2 H3 ∧ H3 D = some (.lst [])) ⟨same_new nD, upd_same⟩ ?_ ?_⟩
    · rintro i H3 hi ⟨s3, hD⟩
      have hi2 : i < ns.length := by omega
      have hg : (ns.map V.int)[i]? = some (.int ns[i]) := by simp [hi2]
      have hi3 : (0 : Int) + (i : Int) = (i : Int) := by omega
      refine ⟨rfl, .ref p, rfl, .int (0 + (i : Int)), rfl, p, _, _, _, rfl, rfl, SqT.of (s3 _ _ hp2), atI_of hi3 hg, .ref q, rfl, .int (0 + (i : Int)), rfl, q, _, _, _, rfl, rfl, SqT.of (s3 _ _ hq2), atI_of hi3 hg, .int ns[i], rfl, .inr ⟨_, rfl⟩, fun H4 s4 => ⟨true, rfl, ?_⟩⟩
      refine iteF ?_
      exact ⟨s3.trans s4, s4 _ _ hD⟩
    · rintro H3 ⟨s3, hD⟩
      refine ⟨Nat.zero_le _, fun C nC => ?_⟩
      have s4 := same_new (o := .lst []) nC
      refine ⟨.list [], .list [], .lst (SqL.of (s4 _ _ hD)) .nil, .lst (SqL.of upd_same) .nil, rfl, rfl, ?_⟩
      exact k _ (s2.trans (s3.trans s4))
end
end Sc
namespace Sc
open PySem PySem.Spec PyProof.Rows L2 Kx
/-! ### the law's dict -/
def kvsOf (d : List (Nat × Nat)) : List (Key × V) := d.map fun p => ((Sum.inl (p.1 : Int) : Key), V.int (p.2 : Int))
theorem kvs_len (d : List (Nat × Nat)) : (kvsOf d).length = d.length := List.length_map ..
theorem kvs_get {d : List (Nat × Nat)} {i : Nat} {p : Nat × Nat} (h : d[i]? = some p) : (kvsOf d)[i]? = some ((Sum.inl (p.1 : Int) : Key), V.int (p.2 : Int)) := by
  unfold kvsOf
  rw [List.getElem?_map, h]
  rfl
theorem inl_ne {a b : Nat} (h : ¬ a = b) : ¬ (Sum.inl (a : Int) : Key) = Sum.inl (b : Int) := fun z => h (by injection z; omega)
theorem kvs_look (v : Nat) : ∀ d : List (Nat × Nat), valV (kvsOf d) (Sum.inl (v : Int) : Key) = (lookA d v).map fun n => V.int (n : Int)
  | [] => rfl
  | p :: t => by
    show valV (((Sum.inl (p.1 : Int) : Key), V.int (p.2 : Int)) :: kvsOf t) (Sum.inl (v : Int)) = _
    rw [look_cons]
    by_cases h : p.1 = v
    · rw [if_pos h, valV_pos (by rw [h])]
      rfl
    · rw [if_neg h, valV_neg (inl_ne h)]
      exact kvs_look v t
theorem kvs_put (d : List (Nat × Nat)) (v n : Nat) : putK (kvsOf d) (Sum.inl (v : Int) : Key) (V.int (n : Int)) = kvsOf (putA d v n) := by
  unfold putK putA
  have hs : (valV (kvsOf d) (Sum.inl (v : Int) : Key)).isSome = (lookA d v).isSome := by
    rw [kvs_look]
    cases lookA d v <;> rfl
  rw [valV_any, hs]
  by_cases h : (lookA d v).isSome = true
  · rw [if_pos h, if_pos h]
    unfold kvsOf
    simp only [List.map_map]
    refine List.map_congr_left fun y _ => ?_
    show (if (Sum.inl (y.1 : Int) : Key) = Sum.inl (v : Int) then _ else _) = ((Sum.inl ((chgA v n y).1 : Int) : Key), V.int ((chgA v n y).2 : Int))
    unfold chgA
    by_cases e : y.1 = v
    · rw [if_pos (by rw [e]), if_pos e]
    · rw [if_neg (inl_ne e), if_neg e]
  · rw [if_neg h, if_neg h]
    unfold kvsOf
    rw [List.map_append]
    rfl
theorem getD_999 (o : Option Nat) : (o.map fun n => V.int (n : Int)).getD (.int 999) = V.int ((o.getD 999 : Nat) : Int) := by
  cases o <;> rfl
theorem kvs_keys (d : List (Nat × Nat)) : (kvsOf d).map (fun kv => kV kv.1) = (d.map fun p => (p.1 : Int)).map V.int := by
  unfold kvsOf
  simp only [List.map_map]
  rfl
def putsV (r : List Int) (n : Nat) : List V := (List.range n).map fun c => V.int (sumOf r c)
theorem putsV_len (r : List Int) (n : Nat) : (putsV r n).length = n := by
  unfold putsV
  simp
theorem putsV_get (r : List Int) {n c : Nat} (h : c < n) : (putsV r n)[c]? = some (.int (sumOf r c)) := by
  unfold putsV
  rw [List.getElem?_map, List.getElem?_range h]
  rfl
theorem putsV_succ (r : List Int) (n : Nat) : putsV r (n + 1) = putsV r n ++ [.int (sumOf r n)] := by
  unfold putsV
  rw [List.range_succ, List.map_append]
  rfl
theorem rule2 : RuleOk [2] := ⟨by decide, by decide, fun x hx => by rw [List.mem_singleton] at hx; omega⟩
theorem rule1 : RuleOk [1] := ⟨by decide, by decide, fun x hx => by rw [List.mem_singleton] at hx; omega⟩
theorem rule31 : RuleOk [3, 1] := ⟨by decide, by decide, fun x hx => by
  rcases List.mem_cons.mp hx with e | e
  · omega
  · rw [List.mem_singleton] at e
    omega⟩
theorem fix2 : (bestN [2] 7 4).getD 7 none = none := by decide +kernel
theorem fix1 : (bestN [1] 7 4).getD 7 none = some 7 := by decide +kernel
theorem fix31 : (bestN [3, 1] 7 4).getD 7 none = some 3 := by decide +kernel
theorem d_len {d : List (Nat × Nat)} {M : Nat} (nd : (d.map (·.1)).Nodup) (le : ∀ x ∈ d.map (·.1), x ≤ M) : d.length ≤ M + 1 := by
  have z := nodup_len (M + 1) nd fun x hx => Nat.lt_succ_of_le (le x hx)
  rwa [List.length_map] at z
theorem mid_len {r : List Int} (ok : RuleOk r) (hl : r.length ≤ 5) {M t i wv few j : Nat} (hM : M ≤ 13) (ht : t ≤ 4) (hb : (lawN r M t)[i]? = some (wv, few)) (hj : j ≤ M + 8) : (lawC r M wv few (lawW r M (lawN r M t) i) j).length ≤ M + 1 := by
  have A := lawN_at ok hl hM t ht
  have hN : ∀ p ∈ lawN r M t, p.2 ≤ 80 := fun p hp => by
    have z := A.few p hp
    have y : t * (M + 7) ≤ 4 * 20 := Nat.mul_le_mul ht (by omega)
    omega
  have hi : i < (lawN r M t).length := (List.getElem?_eq_some_iff.mp hb).1
  have hf : few ≤ 80 := hN (wv, few) (List.mem_of_getElem? hb)
  have g := lgood_C (r := r) (lgood_W hN (by omega) i (Nat.le_of_lt hi)) hb (by omega) j hj
  exact d_len g.nd g.le
/-- where the law's own defs and the two asked ones stand -/
structure Lg (P : Program) (w : World) (K : PySem.W.Frag) (mg : Str → Option Value) (base : Heap) (fF fL fT fA fR fS : Addr) (dF dL dT dA dR dS : FuncData) : Prop where
  B : Bl mg
  gF : mg "fewest_letters" = some (.ref fF)
  gL : mg "lengths_said" = some (.ref fL)
  gT : mg "_law_taken" = some (.ref fT)
  gA : mg "_law_alike" = some (.ref fA)
  gR : mg "_law_rule" = some (.ref fR)
  gS : mg "_law_sum" = some (.ref fS)
  GF : FnOk P w K mg base CX0 4 fF dF ["rule", "size", "many"] spFewest
  GL : FnOk P w K mg base CX0 4 fL dL ["rule", "many", "most"] spLengths
  GT : FnOk P w K mg base CX0 1 fT dT ["_law_row", "_law_many"] (spTaken K)
  GA1 : FnOk P w K mg base CX0 1 fA dA ["_law_found", "_law_due"] spAlikeF
  GA2 : FnOk P w K mg base CX0 2 fA dA ["_law_found", "_law_due"] spAlikeT
  GR : FnOk P w K mg base CX0 2 fR dR ["_law_row", "_law_most", "_law_least"] (spRule K)
  GS : FnOk P w K mg base CX0 2 fS dS ["_law_rule_here", "_law_count"] spSumOf
  kF : PySem.W.keepIn K (.ref fF) = true
  kL : PySem.W.keepIn K (.ref fL) = true
  kT : PySem.W.keepIn K (.ref fT) = true
  kA : PySem.W.keepIn K (.ref fA) = true
  kR : PySem.W.keepIn K (.ref fR) = true
  kS : PySem.W.keepIn K (.ref fS) = true
  bF : Binds K dF ["rule", "size", "many"] []
  bL : Binds K dL ["rule", "many", "most"] []
  bT : Binds K dT ["_law_row", "_law_many"] []
  bA : Binds K dA ["_law_found", "_law_due"] []
  bR : Binds K dR ["_law_row", "_law_most", "_law_least"] []
  bS : Binds K dS ["_law_rule_here", "_law_count"] []
section
variable {P : Program} {w : World} {K : PySem.W.Frag} {mg : Str → Option Value} {base : Heap} {fF fL fT fA fR fS : Addr} {dF dL dT dA dR dS : FuncData}
abbrev nmLaw : List Str := ["_law_script", "_law_row", "_law_rule_here", "_law_many", "_law_most", "_law_count", "_law_puts", "_law_best", "_law_turn", "_law_later", "_law_whole", "_law_put", "_law_size"]
theorem scLaw : FnScope nmLaw ["_law_script"] (defScope sLaw) := ⟨rfl, rfl, rfl, by decide +kernel, rfl, by decide +kernel, by decide +kernel⟩
def spLaw (K : PySem.W.Frag) : Sp := fun vs H Q _ => ∃ (a : Addr) (ns : List Int), vs = [.ref a] ∧ SqL K H a (ns.map V.int) ∧ ns.length ≤ 63 ∧ ∀ H', Q (.bl true) H'
theorem ok_law {f : Addr} {fd : FuncData} (F : Fun K "law" "law" sLaw f fd) (G : Lg P w K mg base fF fL fT fA fR fS dF dL dT dA dR dS) : FnOk P w K mg base CX0 5 f fd ["_law_script"] (spLaw K) := by
  have B := G.B
  refine F.ok scLaw (fun vs H Q E h => ?_) (fun cdv A outer s H vs Q E hr h => ?_)
  · obtain ⟨a, ns, rfl, _⟩ := h
    rfl
  · obtain ⟨a, ns, rfl, hS, hlen, k⟩ := h
    have nd := scLaw.nd
    have hu := hu_of hr
    have hr1 : Room 1 _ := hr.mono (by decide)
    have hr2 : Room 2 _ := hr.mono (by decide)
    refine ⟨_, pss_cons (ps_set (i := 1) nd rfl (.inl rfl) (pe_lst (pa_cons (pv 0) (pa_cons pe_int (pa_cons pe_int (pa_cons pe_int pa_nil))))))
      (pss_cons (ps_asg (pe_tup (pa_cons (pe_call G.GR hr2 (by rfl) G.gR G.kR G.bR .nil pass0 (pa_cons (pv 1) (pa_cons pe_int (pa_cons pe_int pa_nil))))
          (pa_cons (pe_op op_add pe_int (pe_call G.GT hr1 (by rfl) G.gT G.kT G.bT .nil pass0 (pa_cons (pv 1) (pa_cons pe_int pa_nil))))
          (pa_cons (pe_call G.GT hr1 (by rfl) G.gT G.kT G.bT .nil pass0 (pa_cons (pv 1) (pa_cons pe_int pa_nil))) pa_nil))))
        (pg_tup rfl (pgs_cons (pg_name (i := 2) nd rfl (.inr rfl)) (pgs_cons (pg_name (i := 3) nd rfl (.inl rfl)) (pgs_cons (pg_name (i := 4) nd rfl (.inl rfl)) pgs_nil)))))
      (pss_cons (ps_setLc (i := 6) (g := gName 5) (tt := tYes) (own := [("_law_count", 5)]) (by rfl) nd rfl rfl (sw_true rfl rfl rfl (by decide +kernel))
          (pi_range1 (by rfl) B.range (pa_cons (pe_op op_add (pv 4) pe_int) pa_nil)) (blkOk_by (N := nmLaw) (sc := defScope sLaw) (own := [("_law_count", 5)]) (by decide +kernel))
          (fun _ _ _ _ _ => pg_name (i := 5) nd rfl (.inl rfl)) (fun _ _ _ _ _ => pts_nil)
          (fun _ _ _ _ _ => by exact pe_call G.GS hr2 (by rfl) G.gS G.kS G.bS .nil pass0 (pa_cons (pv 2) (pa_cons (pv 5) pa_nil))))
      (pss_cons (ps_set (i := 7) nd rfl (.inl rfl) (pe_disp (pps_cons pe_int pe_int pps_nil) (by rfl) (by rfl) (fun z => by cases z) (by decide)))
      (pss_cons (ps_for PassesOwn.never rfl (pi_range1 (by rfl) B.range (pa_cons (pv 3) pa_nil)) (pg_name (i := 8) nd rfl (.inl rfl))
        (pss_cons (ps_set (i := 9) nd rfl (.inl rfl) pe_dnewK)
        (pss_cons (ps_lock (ps_for PassesOwn.never rfl (pi_keys (pv 7)) (pg_name (i := 10) nd rfl (.inl rfl))
          (pss_one (ps_for PassesOwn.never rfl (pi_range1 (by rfl) B.range (pa_cons (pe_callB call_len_seq (by rfl) B.len PySem.boot_len (pa_cons (pv 6) pa_nil)) pa_nil)) (pg_name (i := 5) nd rfl (.inl rfl))
            (pss_cons (ps_set (i := 11) nd rfl (.inl rfl) (pe_op op_add (pv 10) (pe_ix ix_list (pv 6) (pv 5) (fun _ _ => rfl))))
            (pss_one (ps_if (pt_cmpR op_le (pv 11) (pv 4) (nomark _))
              (pss_one (ps_dput hu (pv 9) (pv 11) (pe_callB (call_min2 rfl) (by rfl) B.min (by decide +kernel) (pa_cons (pe_dget2 hu (pv 9) (pv 11) pe_int ⟨rfl, rfl, rfl, rfl⟩)
                (pa_cons (pe_op op_add (pe_dget hu (pv 7) (pv 10) (fun _ _ => rfl)) (pv 5)) pa_nil))) rfl)) pss_nil)))))))
        (pss_one (ps_set (i := 7) nd rfl (.inl rfl) (pv 9))))))
      (pss_cons (ps_if (pt_not (pt_val (pe_call G.GA2 hr2 (by rfl) G.gA G.kA G.bA .nil pass0
          (pa_cons (pe_call G.GL hr (by rfl) G.gL G.kL G.bL .nil pass0 (pa_cons (pv 2) (pa_cons (pv 3) (pa_cons (pv 4) pa_nil))))
          (pa_cons (pe_callTy call_tuple_of (by rfl) B.tuple (by decide +kernel) (pa_cons (pe_callB cr_sorted (by rfl) B.sorted (by decide +kernel) (pa_cons (pe_callTy (call_list_dK rfl) (by rfl) B.list (by decide +kernel) (pa_cons (pv 7) pa_nil)) pa_nil)) pa_nil)) pa_nil))))) (pss_one ps_never) pss_nil)
      (pss_cons (ps_set (i := 12) nd rfl (.inl rfl) (pe_call G.GT hr1 (by rfl) G.gT G.kT G.bT .nil pass0 (pa_cons (pv 1) (pa_cons (pe_op op_add (pv 4) pe_int) pa_nil))))
      (pss_cons (ps_if (pt_not (pt_val (pe_call G.GA1 hr1 (by rfl) G.gA G.kA G.bA .nil pass0
          (pa_cons (pe_call G.GF hr (by rfl) G.gF G.kF G.bF .nil pass0 (pa_cons (pv 2) (pa_cons (pv 12) (pa_cons (pv 3) pa_nil))))
          (pa_cons (pe_dget1 hu (pv 7) (pv 12) ⟨rfl, rfl, rfl, rfl⟩) pa_nil))))) (pss_one ps_never) pss_nil)
      (pss_cons (ps_if (pt_not (PW.pt (pw_and (pt_cmpR op_isN (pe_call G.GF hr (by rfl) G.gF G.kF G.bF .nil pass0 (pa_cons (pe_tup (pa_cons pe_int pa_nil)) (pa_cons pe_int (pa_cons pe_int pa_nil)))) pe_non (nomark _))
          (pw_and1 (pt_cmpR op_eq (pe_call G.GF hr (by rfl) G.gF G.kF G.bF .nil pass0 (pa_cons (pe_tup (pa_cons pe_int pa_nil)) (pa_cons pe_int (pa_cons pe_int pa_nil)))) pe_int (nomark _)))))) (pss_one ps_never) pss_nil)
      (pss_one (ps_ret (pe_cmpR op_eq (pe_call G.GF hr (by rfl) G.gF G.kF G.bF .nil pass0 (pa_cons (pe_tup (pa_cons pe_int (pa_cons pe_int pa_nil))) (pa_cons pe_int (pa_cons pe_int pa_nil)))) pe_int (nomark _)))))))))))), ?_⟩
    -- row = [script, 0, 4685, 0]
    refine ⟨.ref a, rfl, by show 4 ≤ sizeLine; decide, fun q nq => ?_⟩
    have hR1 : RowAt K (upd H q (.lst (RowV a 0 4685 0))) q a ns := ⟨Same.seq (same_new nq) hS, 0, 4685, 0, upd_same, by decide, by decide⟩
    show tSeq _ _ _ _ (upd H q (.lst (RowV a 0 4685 0)))
    generalize upd H q (.lst (RowV a 0 4685 0)) = H1 at *
    -- rule_here, many, most = ..
    refine ⟨.ref q, rfl, q, a, ns, rfl, hR1, fun H2 pr r ok hl5 hR2 bu2 npr hpr => ?_⟩
    refine ⟨.ref q, rfl, q, a, ns, 4, rfl, hR2, by decide, by decide, fun H3 x hx hR3 bu3 => ⟨_, _, rfl, rfl, ?_⟩⟩
    refine ⟨.ref q, rfl, q, a, ns, 14, rfl, hR3, by decide, by decide, fun H4 M hM hR4 bu4 => ?_⟩
    refine ⟨by show 3 ≤ sizeLine; decide, fun T nT => ?_⟩
    have qpr : q ≠ pr := by
      obtain ⟨o, ho⟩ := RowQ.live hR1.2
      exact ne_of_none ho npr
    have qT : q ≠ T := by
      obtain ⟨o, ho⟩ := RowQ.live hR4.2
      exact ne_of_none ho nT
    refine ⟨T, _, rfl, SqT.of upd_same, rfl, _, _, rfl, _, _, rfl, _, _, rfl, rfl, ?_⟩
    have em : V.int ((1 : Int) + (x : Int)) = V.int ((1 + x : Nat) : Int) := congrArg V.int (by omega)
    have hpr5 := same_new (o := .tup [V.ref pr, V.int ((1 : Int) + (x : Int)), V.int (M : Int)]) nT _ _ (bu4 _ _ qpr.symm (bu3 _ _ qpr.symm hpr))
    have hR5 := row_but hR4 (Same.but (same_new (o := .tup [V.ref pr, V.int ((1 : Int) + (x : Int)), V.int (M : Int)]) nT)) (rowq_new hR4.2 qT)
    show tSeq _ _ _ [some (.ref a), some (.ref q), some (.ref pr), some (.int ((1 : Int) + (x : Int))), some (.int (M : Int)), none, none, none, none, none, none, none, none] (upd H4 T (.tup [V.ref pr, V.int ((1 : Int) + (x : Int)), V.int (M : Int)]))
    generalize upd H4 T (.tup [V.ref pr, V.int ((1 : Int) + (x : Int)), V.int (M : Int)]) = H5 at *
    rw [em]
    have hm1 : 1 ≤ 1 + x := by omega
    have hm4 : 1 + x ≤ 4 := by omega
    clear em
    generalize 1 + x = m at *
    have hM13 : M ≤ 13 := by omega
    -- puts = [..]
    refine ⟨.int M, rfl, _, _, rfl, rfl, _, rfl, by omega, by omega, fun Dp nDp => lc_range (lo := 0) (n := ((M : Int) + 8).toNat) (fun i H6 => Same H5 H6 ∧ H6 Dp = some (.lst (putsV r i))) ⟨same_new nDp, upd_same⟩ ?_ ?_⟩
    · rintro i H6 hi ⟨s6, hD⟩
      refine ⟨rfl, .ref pr, rfl, .int (0 + (i : Int)), rfl, pr, r, i, by rw [Int.zero_add]; rfl, s6 _ _ hpr5, ok, by omega, fun H7 s7 => ⟨_, s7 _ _ hD, ?_, same_put (s6.trans s7) nDp, ?_⟩⟩
      · rw [putsV_len, sizeLine_eq]
        omega
      · rw [upd_same, putsV_succ]
    rintro H7 ⟨s7, hD⟩
    rw [show ((M : Int) + 8).toNat = M + 8 by omega] at hD
    -- best = {0: 0}
    refine fun pb npb => ⟨upd_same, [((Sum.inl 0 : Key), V.int 0)], rfl, by decide, ?_⟩
    have sb1 : Same H7 (upd (upd H7 pb (.dK [])) pb (.dK (kvsOf (lawN r M 0)))) := same_put (same_new npb) npb
    have eb0 : (upd (upd H7 pb (.dK [])) pb (.dK (kvsOf (lawN r M 0)))) pb = some (.dK (kvsOf (lawN r M 0))) := upd_same
    show tSeq _ _ _ _ (upd (upd H7 pb (.dK [])) pb (.dK (kvsOf (lawN r M 0))))
    generalize upd (upd H7 pb (.dK [])) pb (.dK (kvsOf (lawN r M 0))) = H8 at *
    -- for turn in range(many)
    refine ⟨.int m, rfl, m, rfl, by omega, by omega, for_range (lo := 0) (n := (m : Int).toNat) (fun t σ H9 => ∃ pb y5 y8 y9 y10 y11, σ = [some (.ref a), some (.ref q), some (.ref pr), some (.int (m : Int)), some (.int (M : Int)), y5, some (.ref Dp), some (.ref pb), y8, y9, y10, y11, none] ∧ Same H5 H9 ∧ H5 pb = none ∧ H9 Dp = some (.lst (putsV r (M + 8))) ∧ H9 pb = some (.dK (kvsOf (lawN r M t))))
      ⟨pb, none, none, none, none, none, rfl, s7.trans sb1, s7.free npb, sb1 _ _ hD, eb0⟩ ?_ ?_⟩
    · rintro t σ H9 ht ⟨pb, y5, y8, y9, y10, y11, rfl, s9, nb, eD, eb⟩
      have ht4 : t ≤ 4 := by omega
      have A := lawN_at ok hl5 hM13 t ht4
      -- later = {}
      intro pl npl
      have nl : H5 pl = none := s9.free npl
      have sl : Same H9 (upd H9 pl (.dK [])) := same_new npl
      have plD : Dp ≠ pl := ne_of_none eD npl
      have plb : pb ≠ pl := ne_of_none eb npl
      have pbD : Dp ≠ pb := ne_of eD eb (by intro z; cases z)
      -- for whole in best, which is locked
      refine ⟨pb, .dK (kvsOf (lawN r M t)), sl _ _ eb, trivial, fun od => ?_⟩
      refine ⟨.ref pb, rfl, pb, od, rfl, .inl ⟨_, upd_same, for_it walk_keys (fun i σ H11 => ∃ y5 y10 y11, σ = [some (.ref a), some (.ref q), some (.ref pr), some (.int (m : Int)), some (.int (M : Int)), y5, some (.ref Dp), some (.ref pb), some (.int (0 + (t : Int))), some (.ref pl), y10, y11, none] ∧ Same H5 H11 ∧ H11 Dp = some (.lst (putsV r (M + 8))) ∧ H11 pb = some (.frz od (.dK (kvsOf (lawN r M t)))) ∧ H11 pl = some (.dK (kvsOf (lawW r M (lawN r M t) i))))
        ⟨y5, y10, y11, rfl, same_put (s9.trans sl) nb, ?_, upd_same, ?_⟩ (fun i σ H11 _ ⟨_, _, _, _, _, _, e, _⟩ => e) ?_ ?_⟩⟩
      · rw [upd_ne pbD, upd_ne plD]
        exact eD
      · rw [upd_ne plb.symm, upd_same]
        rfl
      · rintro i x σ H11 H12 hi ⟨z5, z10, z11, rfl, s11, fD, fb, fl⟩ ⟨rfl, kk, vv, hkv, rfl⟩
        rw [kvs_len] at hi
        obtain ⟨wv, few, hp⟩ : ∃ wv few, (lawN r M t)[i]? = some (wv, few) := ⟨_, _, List.getElem?_eq_getElem hi⟩
        have ekv := (kvs_get hp).symm.trans hkv
        injection ekv with ekv
        injection ekv with ek ev
        subst ek ev
        have hlook : lookA (lawN r M t) wv = some few := look_of A.nd (List.mem_of_getElem? hp)
        -- for count in range(len(puts))
        refine ⟨.ref Dp, rfl, Dp, _, rfl, .inl (SqL.of fD), _, rfl, by omega, by rw [putsV_len]; omega, for_range (lo := 0) (n := ((putsV r (M + 8)).length : Int).toNat) (fun j σ H13 => ∃ y5 y11, σ = [some (.ref a), some (.ref q), some (.ref pr), some (.int (m : Int)), some (.int (M : Int)), y5, some (.ref Dp), some (.ref pb), some (.int (0 + (t : Int))), some (.ref pl), some (.int (wv : Int)), y11, none] ∧ Same H5 H13 ∧ H13 Dp = some (.lst (putsV r (M + 8))) ∧ H13 pb = some (.frz od (.dK (kvsOf (lawN r M t)))) ∧ H13 pl = some (.dK (kvsOf (lawC r M wv few (lawW r M (lawN r M t) i) j))))
          ⟨_, _, rfl, s11, fD, fb, fl⟩ ?_ ?_⟩
        · rintro j σ H13 hj ⟨w5, w11, rfl, s13, gD, gb, gl⟩
          have hj8 : j < M + 8 := by
            rw [putsV_len] at hj
            omega
          rw [Int.zero_add]
          obtain ⟨sj, hsj⟩ : ∃ sj : Nat, sumOf r j = (sj : Int) := ⟨(sumOf r j).toNat, by have := (sumOf_bd ok j).1; omega⟩
          have hput := putsV_get r hj8
          rw [hsj] at hput
          have ep : (wv : Int) + (sj : Int) = ((wv + sj : Nat) : Int) := by omega
          have htn : (sumOf r j).toNat = sj := by omega
          refine ⟨.int wv, rfl, .ref Dp, rfl, .int (j : Int), rfl, Dp, _, _, _, rfl, rfl, SqL.of gD, atI_nat hput, _, _, rfl, rfl, ?_⟩
          have es : some (some (V.int ((wv : Int) + (sj : Int)))) = some (some (V.int ((wv + sj : Nat) : Int))) := congrArg (fun z : Int => some (some (V.int z))) ep
          refine ⟨.int ((wv + sj : Nat) : Int), es, .int M, rfl, _, _, rfl, rfl, _, rfl, ite2 (fun c => ?_) (fun c => ?_)⟩
          · have hle : wv + sj ≤ M := by
              have z : ((wv + sj : Nat) : Int) ≤ (M : Int) := of_decide_eq_true c
              omega
            have hml := mid_len ok hl5 hM13 ht4 hp (Nat.le_of_lt hj8)
            refine ⟨.ref pl, rfl, pl, rfl, .inl ⟨_, .inl gl⟩, .int ((wv + sj : Nat) : Int), es, _, DGet.k (k := Sum.inl ((wv + sj : Nat) : Int)) gl, .ref pb, rfl, .int (wv : Int), rfl, pb, .int (few : Int), rfl, .inl ⟨_, Sum.inl (wv : Int), .inr ⟨od, gb⟩, rfl, by rw [kvs_look, hlook]; rfl⟩, .int (j : Int), rfl, _, _, rfl, rfl,
              (((lookA (lawC r M wv few (lawW r M (lawN r M t) i) j) (wv + sj)).getD 999 : Nat) : Int), (few : Int) + (j : Int), ?_, ?_⟩
            · rw [kvs_look, getD_999]
            refine ⟨.ref pl, rfl, .int ((wv + sj : Nat) : Int), es, pl, _, rfl, DPut.k (k := Sum.inl ((wv + sj : Nat) : Int)) gl (by rw [kvs_len, sizeLine_eq]; omega), ?_⟩
            refine ⟨_, _, rfl, same_put s13 nl, ?_, ?_, ?_⟩
            · rw [upd_ne plD]
              exact gD
            · rw [upd_ne plb]
              exact gb
            · rw [upd_same, oV_min]
              show some (HO.dK (putK _ _ (V.int ((_ : Nat) : Int)))) = _
              rw [kvs_put, lawC_succ]
              unfold lawStep
              rw [htn, if_pos hle]
          · have hgt : ¬ wv + sj ≤ M := fun z => c (decide_eq_true (by show ((wv + sj : Nat) : Int) ≤ (M : Int); omega))
            refine ⟨_, _, rfl, s13, gD, gb, ?_⟩
            rw [lawC_succ]
            unfold lawStep
            rw [htn, if_neg hgt]
            exact gl
        · rintro σ H13 ⟨w5, w11, rfl, s13, gD, gb, gl⟩
          refine ⟨_, _, _, rfl, s13, gD, gb, ?_⟩
          rw [gl, putsV_len, Int.toNat_natCast, lawW_succ hp]
      · rintro σ H11 ⟨z5, z10, z11, rfl, s11, fD, fb, fl⟩
        rw [kvs_len] at fl
        refine ⟨fb, .ref pl, rfl, pl, _, _, _, _, _, rfl, same_put s11 nb, nl, ?_, ?_⟩
        · rw [upd_ne pbD]
          exact fD
        · rw [upd_ne plb.symm]
          exact fl
    · rintro σ H9 ⟨pb, y5, y8, y9, y10, y11, rfl, s9, nb, eD, eb⟩
      rw [Int.toNat_natCast] at eb
      have A := lawN_at ok hl5 hM13 m hm4
      have hpr9 := s9 _ _ hpr5
      have hdl : (lawN r M m).length ≤ M + 1 := d_len A.nd A.le
      -- the first look: the lengths
      refine ⟨.ref pr, rfl, .int m, rfl, .int M, rfl, pr, r, M, m, rfl, hpr9, ok, hM13, hm1, hm4, fun H10 p1 s10 n1 h1 => ?_⟩
      have eb10 := s10 _ _ eb
      refine ⟨.ref pb, rfl, pb, _, rfl, eb10, fun l nl => ?_⟩
      have s11 : Same H10 (upd H10 l (.lst ((kvsOf (lawN r M m)).map fun kv => kV kv.1))) := same_new nl
      have hl11 : (upd H10 l (.lst ((kvsOf (lawN r M m)).map fun kv => kV kv.1))) l = some (.lst (((lawN r M m).map fun p => (p.1 : Int)).map V.int)) := by rw [upd_same, kvs_keys]
      generalize upd H10 l (.lst ((kvsOf (lawN r M m)).map fun kv => kV kv.1)) = H11 at *
      refine ⟨l, (lawN r M m).map fun p => (p.1 : Int), rfl, SqL.of hl11, by rw [List.length_map]; omega, fun ns' p2 perm asc np2 => ?_⟩
      have en : ns' = nI (foundN r M m) := agree_found ok hl5 hM13 hm4 asc perm
      subst en
      refine ⟨p2, _, rfl, .inl ⟨SqL.of upd_same, fun p3 np3 => ?_⟩⟩
      have s12 := (same_new (o := .lst ((nI (foundN r M m)).map V.int)) np2).trans (same_new (o := .tup ((nI (foundN r M m)).map V.int)) np3)
      have hfl := foundN_len r M m
      refine ⟨p1, p3, nI (foundN r M m), rfl, s12 _ _ (s11 _ _ h1), upd_same, ?_, fun H13 s13 => ⟨true, rfl, iteF ?_⟩⟩
      · unfold nI
        rw [List.length_map]
        omega
      have s14 : Same H9 H13 := ((s10.trans s11).trans s12).trans s13
      -- size = taken(row, most + 1)
      have hR13 := row_but hR5 (Same.but (s9.trans s14)) (by
        obtain ⟨i, mx, e, hq, z⟩ := hR5.2
        exact ⟨i, mx, e, s14 _ _ (s9 _ _ hq), z⟩)
      refine ⟨.ref q, rfl, .int M, rfl, _, _, rfl, rfl, q, a, ns, M + 1, rfl, hR13, by omega, by omega, fun H14 S hS14 hR14 bu14 => ?_⟩
      have hpr14 := bu14 _ _ qpr.symm (s14 _ _ hpr9)
      have qpb : pb ≠ q := by
        obtain ⟨o, ho⟩ := RowQ.live hR5.2
        exact (ne_of_none ho nb).symm
      have eb14 := bu14 _ _ qpb (s14 _ _ eb)
      -- the second look: the fewest letters
      refine ⟨.ref pr, rfl, .int S, rfl, .int m, rfl, pr, r, S, m, rfl, hpr14, ok, by omega, hm1, hm4, fun H15 s15 => ?_⟩
      have eb15 := s15 _ _ eb14
      refine ⟨.ref pb, rfl, pb, rfl, .inl ⟨_, .inl eb15⟩, .int S, rfl, _, DGet.k (k := Sum.inl (S : Int)) eb15, oV (lookA (lawN r M m) S), ?_, ?_, fun H16 s16 => ⟨true, rfl, iteF ?_⟩⟩
      · rw [kvs_look, agree_few ok hl5 hM13 hm4 (show S ≤ M by omega)]
        cases lookA (lawN r M m) S <;> rfl
      · cases lookA (lawN r M m) S with
        | none => exact .inl rfl
        | some n => exact .inr ⟨n, rfl⟩
      -- the written rules
      refine ⟨by show 1 ≤ sizeLine; decide, fun t1 nt1 => ⟨t1, [2], 7, 4, rfl, upd_same, rule2, by decide, by decide, by decide, fun H17 s17 => ?_⟩⟩
      rw [fix2]
      refine ⟨rfl, _, rfl, ifIsN rfl ?_⟩
      refine ⟨by show 1 ≤ sizeLine; decide, fun t2 nt2 => ⟨t2, [1], 7, 4, rfl, upd_same, rule1, by decide, by decide, by decide, fun H18 s18 => ?_⟩⟩
      rw [fix1]
      refine ⟨rfl, true, congrArg V.bl (decide_eq_true rfl), iteF ?_⟩
      refine ⟨by show 2 ≤ sizeLine; decide, fun t3 nt3 => ⟨t3, [3, 1], 7, 4, rfl, upd_same, rule31, by decide, by decide, by decide, fun H19 s19 => ?_⟩⟩
      rw [fix31]
      refine ⟨rfl, ?_⟩
      show Q (.bl (decide (V.int (3 : Int) = V.int 3))) _
      rw [decide_eq_true rfl]
      exact k _
end
end Sc
namespace Sc
open PySem PySem.Spec PyProof.Rows L2 Kx
theorem all_mk {l : PySem.W.OpenLaw} {w : World} {K : PySem.W.Frag} {h : Heap} {mg : Str → Option Value} {fa f1 f2 f3 f4 f5 f6 f7 f8 f9 f10 f11 f12 f13 f14 : Addr} (X : K.In h) (G : h.Ns mainGlobals mg) (hfa : mg "law" = some (.ref fa))
    {od1 an1 od2 an2 od3 an3 od4 an4 od5 an5 od6 an6 od7 an7 od8 an8 od9 an9 od10 an10 od11 an11 od12 an12 od13 an13 od14 an14 : Option Addr} {sl1 sl2 sl3 sl4 sl5 sl6 sl7 sl8 sl9 sl10 sl11 sl12 sl13 sl14 : Array (Option Value)} {oc1 kV1 dc1 pm1 cd1 ct1 oc2 kV2 dc2 pm2 cd2 ct2 oc3 kV3 dc3 pm3 cd3 ct3 oc4 kV4 dc4 pm4 cd4 ct4 oc5 kV5 dc5 pm5 cd5 ct5 oc6 kV6 dc6 pm6 cd6 ct6 oc7 kV7 dc7 pm7 cd7 ct7 oc8 kV8 dc8 pm8 cd8 ct8 oc9 kV9 dc9 pm9 cd9 ct9 oc10 kV10 dc10 pm10 cd10 ct10 oc11 kV11 dc11 pm11 cd11 ct11 oc12 kV12 dc12 pm12 cd12 ct12 oc13 kV13 dc13 pm13 cd13 ct13 oc14 kV14 dc14 pm14 cd14 ct14 : Value} {t1 t2 t3 t4 : Tok}
    (a1 : PySem.W.nsIn K mainGlobals "is_int" = some (some (.ref f1)))
    (l1 : K.lookup f1 = some ⟨oc1, od1, .func (PySem.W.fnOf "is_int" "is_int" (defArgs sIsInt) (defBody sIsInt) (defScope sIsInt) .none kV1 dc1 pm1 an1 cd1 ct1), sl1⟩)
    (c1 : PySem.W.codeIn K cd1 "is_int" = true) (k1 : PySem.W.keepIn K (.ref f1) = true)
    (a2 : PySem.W.nsIn K mainGlobals "is_from" = some (some (.ref f2)))
    (l2 : K.lookup f2 = some ⟨oc2, od2, .func (PySem.W.fnOf "is_from" "is_from" (defArgs sIsFrom) (defBody sIsFrom) (defScope sIsFrom) .none kV2 dc2 pm2 an2 cd2 ct2), sl2⟩)
    (c2 : PySem.W.codeIn K cd2 "is_from" = true) (k2 : PySem.W.keepIn K (.ref f2) = true)
    (a3 : PySem.W.nsIn K mainGlobals "need_from" = some (some (.ref f3)))
    (l3 : K.lookup f3 = some ⟨oc3, od3, .func (PySem.W.fnOf "need_from" "need_from" (defArgs sNeedFrom) (defBody sNeedFrom) (defScope sNeedFrom) .none kV3 dc3 pm3 an3 cd3 ct3), sl3⟩)
    (c3 : PySem.W.codeIn K cd3 "need_from" = true) (k3 : PySem.W.keepIn K (.ref f3) = true)
    (a4 : PySem.W.nsIn K mainGlobals "need_rule" = some (some (.ref f4)))
    (l4 : K.lookup f4 = some ⟨oc4, od4, .func (PySem.W.fnOf "need_rule" "need_rule" (defArgs sNeedRule) (defBody sNeedRule) (defScope sNeedRule) .none kV4 dc4 pm4 an4 cd4 ct4), sl4⟩)
    (c4 : PySem.W.codeIn K cd4 "need_rule" = true) (k4 : PySem.W.keepIn K (.ref f4) = true)
    (a5 : PySem.W.nsIn K mainGlobals "sum_of" = some (some (.ref f5)))
    (l5 : K.lookup f5 = some ⟨oc5, od5, .func (PySem.W.fnOf "sum_of" "sum_of" (defArgs sSumOf) (defBody sSumOf) (defScope sSumOf) .none kV5 dc5 pm5 an5 cd5 ct5), sl5⟩)
    (c5 : PySem.W.codeIn K cd5 "sum_of" = true) (k5 : PySem.W.keepIn K (.ref f5) = true)
    (a6 : PySem.W.nsIn K mainGlobals "letters_for" = some (some (.ref f6)))
    (l6 : K.lookup f6 = some ⟨oc6, od6, .func (PySem.W.fnOf "letters_for" "letters_for" (defArgs sLetters) (defBody sLetters) (defScope sLetters) .none kV6 dc6 pm6 an6 cd6 ct6), sl6⟩)
    (c6 : PySem.W.codeIn K cd6 "letters_for" = true) (k6 : PySem.W.keepIn K (.ref f6) = true)
    (a7 : PySem.W.nsIn K mainGlobals "fewest_letters" = some (some (.ref f7)))
    (l7 : K.lookup f7 = some ⟨oc7, od7, .func (PySem.W.fnOf "fewest_letters" "fewest_letters" (defArgs sFewest) (defBody sFewest) (defScope sFewest) .none kV7 dc7 pm7 an7 cd7 ct7), sl7⟩)
    (c7 : PySem.W.codeIn K cd7 "fewest_letters" = true) (k7 : PySem.W.keepIn K (.ref f7) = true)
    (a8 : PySem.W.nsIn K mainGlobals "lengths_said" = some (some (.ref f8)))
    (l8 : K.lookup f8 = some ⟨oc8, od8, .func (PySem.W.fnOf "lengths_said" "lengths_said" (defArgs sLengths) (defBody sLengths) (defScope sLengths) .none kV8 dc8 pm8 an8 cd8 ct8), sl8⟩)
    (c8 : PySem.W.codeIn K cd8 "lengths_said" = true) (k8 : PySem.W.keepIn K (.ref f8) = true)
    (a9 : PySem.W.nsIn K mainGlobals "_law_taken" = some (some (.ref f9)))
    (l9 : K.lookup f9 = some ⟨oc9, od9, .func (PySem.W.fnOf "_law_taken" "_law_taken" (defArgs sTaken) (defBody sTaken) (defScope sTaken) .none kV9 dc9 pm9 an9 cd9 ct9), sl9⟩)
    (c9 : PySem.W.codeIn K cd9 "_law_taken" = true) (k9 : PySem.W.keepIn K (.ref f9) = true)
    (a10 : PySem.W.nsIn K mainGlobals "_law_alike" = some (some (.ref f10)))
    (l10 : K.lookup f10 = some ⟨oc10, od10, .func (PySem.W.fnOf "_law_alike" "_law_alike" (defArgs sAlike) (defBody sAlike) (defScope sAlike) .none kV10 dc10 pm10 an10 cd10 ct10), sl10⟩)
    (c10 : PySem.W.codeIn K cd10 "_law_alike" = true) (k10 : PySem.W.keepIn K (.ref f10) = true)
    (a11 : PySem.W.nsIn K mainGlobals "_law_rule" = some (some (.ref f11)))
    (l11 : K.lookup f11 = some ⟨oc11, od11, .func (PySem.W.fnOf "_law_rule" "_law_rule" (defArgs sRule) (defBody sRule) (defScope sRule) .none kV11 dc11 pm11 an11 cd11 ct11), sl11⟩)
    (c11 : PySem.W.codeIn K cd11 "_law_rule" = true) (k11 : PySem.W.keepIn K (.ref f11) = true)
    (a12 : PySem.W.nsIn K mainGlobals "_law_times" = some (some (.ref f12)))
    (l12 : K.lookup f12 = some ⟨oc12, od12, .func (PySem.W.fnOf "_law_times" "_law_times" (defArgs sTimes) (defBody sTimes) (defScope sTimes) .none kV12 dc12 pm12 an12 cd12 ct12), sl12⟩)
    (c12 : PySem.W.codeIn K cd12 "_law_times" = true) (k12 : PySem.W.keepIn K (.ref f12) = true)
    (a13 : PySem.W.nsIn K mainGlobals "_law_sum" = some (some (.ref f13)))
    (l13 : K.lookup f13 = some ⟨oc13, od13, .func (PySem.W.fnOf "_law_sum" "_law_sum" (defArgs sSum) (defBody sSum) (defScope sSum) .none kV13 dc13 pm13 an13 cd13 ct13), sl13⟩)
    (c13 : PySem.W.codeIn K cd13 "_law_sum" = true) (k13 : PySem.W.keepIn K (.ref f13) = true)
    (a14 : PySem.W.nsIn K mainGlobals "law" = some (some (.ref f14)))
    (l14 : K.lookup f14 = some ⟨oc14, od14, .func (PySem.W.fnOf "law" "law" (defArgs sLaw) (defBody sLaw) (defScope sLaw) .none kV14 dc14 pm14 an14 cd14 ct14), sl14⟩)
    (c14 : PySem.W.codeIn K cd14 "law" = true) (k14 : PySem.W.keepIn K (.ref f14) = true)
    (z1 : PySem.W.nsIn K mainGlobals "isinstance" = some none)
    (z2 : PySem.W.nsIn K mainGlobals "len" = some none)
    (z3 : PySem.W.nsIn K mainGlobals "sum" = some none)
    (z4 : PySem.W.nsIn K mainGlobals "range" = some none)
    (z5 : PySem.W.nsIn K mainGlobals "tuple" = some none)
    (z6 : PySem.W.nsIn K mainGlobals "list" = some none)
    (z7 : PySem.W.nsIn K mainGlobals "set" = some none)
    (z8 : PySem.W.nsIn K mainGlobals "sorted" = some none)
    (z9 : PySem.W.nsIn K mainGlobals "enumerate" = some none)
    (z10 : PySem.W.nsIn K mainGlobals "min" = some none)
    (z11 : PySem.W.nsIn K mainGlobals "int" = some none)
    (z12 : PySem.W.nsIn K mainGlobals "str" = some none)
    (z13 : PySem.W.nsIn K mainGlobals "bool" = some none)
    (m1 : PySem.W.nsIn K mainGlobals "MOST_RULE" = some (some (.int 30 t1)))
    (m2 : PySem.W.nsIn K mainGlobals "MOST_TIMES" = some (some (.int 1000000 t2)))
    (m3 : PySem.W.nsIn K mainGlobals "MOST_REACH" = some (some (.int 400 t3)))
    (m4 : PySem.W.nsIn K mainGlobals "LETTERS" = some (some (.str "abcd" t4)))
    : ∃ fd : FuncData, (∀ (s : Shared) (v : Value), BindsTo s fd ⟨[v], []⟩ [("_law_script", v)]) ∧ ∀ base : Heap, K.In base → base.Ns mainGlobals mg → FnOk l.prog w K mg base CX0 5 fa fd ["_law_script"] (spLaw K) := by
  have e := hfa.symm.trans (PySem.W.mg_of X G a14)
  cases e
  have F1 := fun_mk (st := sIsInt) l1 c1 k1
  have F2 := fun_mk (st := sIsFrom) l2 c2 k2
  have F3 := fun_mk (st := sNeedFrom) l3 c3 k3
  have F4 := fun_mk (st := sNeedRule) l4 c4 k4
  have F5 := fun_mk (st := sSumOf) l5 c5 k5
  have F6 := fun_mk (st := sLetters) l6 c6 k6
  have F7 := fun_mk (st := sFewest) l7 c7 k7
  have F8 := fun_mk (st := sLengths) l8 c8 k8
  have F9 := fun_mk (st := sTaken) l9 c9 k9
  have F10 := fun_mk (st := sAlike) l10 c10 k10
  have F11 := fun_mk (st := sRule) l11 c11 k11
  have F12 := fun_mk (st := sTimes) l12 c12 k12
  have F13 := fun_mk (st := sSum) l13 c13 k13
  have F14 := fun_mk (st := sLaw) l14 c14 k14
  have b1 := F1.binds (ps := ["value"]) fun _ _ _ _ _ _ us hl => match us, hl with | [_], _ => rfl
  have b2 := F2.binds (ps := ["value", "least", "most"]) fun _ _ _ _ _ _ us hl => match us, hl with | [_, _, _], _ => rfl
  have b3 := F3.binds (ps := ["value", "least", "most"]) fun _ _ _ _ _ _ us hl => match us, hl with | [_, _, _], _ => rfl
  have b4 := F4.binds (ps := ["value"]) fun _ _ _ _ _ _ us hl => match us, hl with | [_], _ => rfl
  have b5 := F5.binds (ps := ["rule", "count"]) fun _ _ _ _ _ _ us hl => match us, hl with | [_, _], _ => rfl
  have b6 := F6.binds (ps := ["rule", "most"]) fun _ _ _ _ _ _ us hl => match us, hl with | [_, _], _ => rfl
  have b7 := F7.binds (ps := ["rule", "size", "many"]) fun _ _ _ _ _ _ us hl => match us, hl with | [_, _, _], _ => rfl
  have b8 := F8.binds (ps := ["rule", "many", "most"]) fun _ _ _ _ _ _ us hl => match us, hl with | [_, _, _], _ => rfl
  have b9 := F9.binds (ps := ["_law_row", "_law_many"]) fun _ _ _ _ _ _ us hl => match us, hl with | [_, _], _ => rfl
  have b10 := F10.binds (ps := ["_law_found", "_law_due"]) fun _ _ _ _ _ _ us hl => match us, hl with | [_, _], _ => rfl
  have b11 := F11.binds (ps := ["_law_row", "_law_most", "_law_least"]) fun _ _ _ _ _ _ us hl => match us, hl with | [_, _, _], _ => rfl
  have b12 := F12.binds (ps := ["_law_rule_here", "_law_number"]) fun _ _ _ _ _ _ us hl => match us, hl with | [_, _], _ => rfl
  have b13 := F13.binds (ps := ["_law_rule_here", "_law_count"]) fun _ _ _ _ _ _ us hl => match us, hl with | [_, _], _ => rfl
  have B : Bl mg := ⟨PySem.W.mg_none_of X G z1, PySem.W.mg_none_of X G z2, PySem.W.mg_none_of X G z3, PySem.W.mg_none_of X G z4, PySem.W.mg_none_of X G z5, PySem.W.mg_none_of X G z6, PySem.W.mg_none_of X G z7, PySem.W.mg_none_of X G z8, PySem.W.mg_none_of X G z9, PySem.W.mg_none_of X G z10, PySem.W.mg_none_of X G z11, PySem.W.mg_none_of X G z12, PySem.W.mg_none_of X G z13⟩
  refine ⟨PySem.W.fnOf "law" "law" (defArgs sLaw) (defBody sLaw) (defScope sLaw) .none kV14 dc14 pm14 an14 cd14 ct14, fun s v => .of_eq rfl, fun base _ _ => ?_⟩
  have G2 : FnOk l.prog w K mg base CX0 2 f2 _ ["value", "least", "most"] spIsFrom := ok_is_from F2 F1 b1 (PySem.W.mg_of X G a1) B
  have G3 : FnOk l.prog w K mg base CX0 3 f3 _ ["value", "least", "most"] spNeedFrom := ok_need_from F3 G2 F2 b2 (PySem.W.mg_of X G a2)
  have G4 : FnOk l.prog w K mg base CX0 3 f4 _ ["value"] (spNeedRule K) := ok_need_rule F4 G2 F2 b2 (PySem.W.mg_of X G a2) B (PySem.W.mg_of X G m1) (PySem.W.mg_of X G m2)
  have G6 : FnOk l.prog w K mg base CX0 2 f6 _ ["rule", "most"] spLetters := ok_letters F6 F5 b5 (PySem.W.mg_of X G a5) B
  have P : Pg l.prog w K mg base f4 f3 f6 _ _ _ := ⟨B, (PySem.W.mg_of X G a4), (PySem.W.mg_of X G a3), (PySem.W.mg_of X G a6), G4, G3, G6, F4.kp, F3.kp, F6.kp, b4, b3, b6, ⟨_, PySem.W.mg_of X G m3⟩, ⟨_, PySem.W.mg_of X G m4⟩⟩
  have L : Lg l.prog w K mg base f7 f8 f9 f10 f11 f13 _ _ _ _ _ _ := ⟨B, (PySem.W.mg_of X G a7), (PySem.W.mg_of X G a8), (PySem.W.mg_of X G a9), (PySem.W.mg_of X G a10), (PySem.W.mg_of X G a11), (PySem.W.mg_of X G a13), ok_fewest F7 P, ok_lengths F8 P, ok_taken F9 B, ok_alike_flat F10 B, ok_alike_tup F10 b10 (PySem.W.mg_of X G a10) B, ok_rule F11 F9 b9 (PySem.W.mg_of X G a9) B, ok_sum F13 F12 b12 (PySem.W.mg_of X G a12) B, F7.kp, F8.kp, F9.kp, F10.kp, F11.kp, F13.kp, b7, b8, b9, b10, b11, b13⟩
  exact ok_law F14 L
end Sc
open PySem PySem.W PyProof.Rows
set_option maxHeartbeats 0 in
theorem PySem.Challenge.cw_saidcounts_k85_whole_lengths_reached_holds : PySem.Challenge.rw_saidcounts_k85_whole_lengths_reached.Holds := by
  w_on; o_law; k_head; (case hw => w_witness2)
  k_fill
  refine L2.walk_of (l := PySem.Challenge.rw_saidcounts_k85_whole_lengths_reached) (n := 63) (k := 5) (x := "_law_script") (CX := fun _ => L2.CX0) (sp := fun w => Sc.spLaw _) rfl (by decide) rfl ⟨rfl, by decide, by decide⟩ (fun w h Y => PySem.W.kIn_of Y) ?F (fun _ _ a ns hl _ hS => ⟨a, ns, rfl, hS, hl, fun _ => rfl⟩) (fun _ _ _ _ _ h => h)
  case F =>
    intro w mg fa h KX G hmg
    refine' Sc.all_mk KX G hmg ?a1 ?l1 ?c1 ?k1 ?a2 ?l2 ?c2 ?k2 ?a3 ?l3 ?c3 ?k3 ?a4 ?l4 ?c4 ?k4 ?a5 ?l5 ?c5 ?k5 ?a6 ?l6 ?c6 ?k6 ?a7 ?l7 ?c7 ?k7 ?a8 ?l8 ?c8 ?k8 ?a9 ?l9 ?c9 ?k9 ?a10 ?l10 ?c10 ?k10 ?a11 ?l11 ?c11 ?k11 ?a12 ?l12 ?c12 ?k12 ?a13 ?l13 ?c13 ?k13 ?a14 ?l14 ?c14 ?k14 ?z1 ?z2 ?z3 ?z4 ?z5 ?z6 ?z7 ?z8 ?z9 ?z10 ?z11 ?z12 ?z13 ?m1 ?m2 ?m3 ?m4
    (case a1 => k_is); (case l1 => k_is); (case c1 => k_is); (case k1 => k_is); (case a2 => k_is); (case l2 => k_is)
    (case c2 => k_is); (case k2 => k_is); (case a3 => k_is); (case l3 => k_is); (case c3 => k_is); (case k3 => k_is)
    (case a4 => k_is); (case l4 => k_is); (case c4 => k_is); (case k4 => k_is); (case a5 => k_is); (case l5 => k_is)
    (case c5 => k_is); (case k5 => k_is); (case a6 => k_is); (case l6 => k_is); (case c6 => k_is); (case k6 => k_is)
    (case a7 => k_is); (case l7 => k_is); (case c7 => k_is); (case k7 => k_is); (case a8 => k_is); (case l8 => k_is)
    (case c8 => k_is); (case k8 => k_is); (case a9 => k_is); (case l9 => k_is); (case c9 => k_is); (case k9 => k_is)
    (case a10 => k_is); (case l10 => k_is); (case c10 => k_is); (case k10 => k_is); (case a11 => k_is); (case l11 => k_is)
    (case c11 => k_is); (case k11 => k_is); (case a12 => k_is); (case l12 => k_is); (case c12 => k_is); (case k12 => k_is)
    (case a13 => k_is); (case l13 => k_is); (case c13 => k_is); (case k13 => k_is); (case a14 => k_is); (case l14 => k_is)
    (case c14 => k_is); (case k14 => k_is); (case z1 => k_is); (case z2 => k_is); (case z3 => k_is); (case z4 => k_is)
    (case z5 => k_is); (case z6 => k_is); (case z7 => k_is); (case z8 => k_is); (case z9 => k_is); (case z10 => k_is)
    (case z11 => k_is); (case z12 => k_is); (case z13 => k_is); (case m1 => k_is); (case m2 => k_is); (case m3 => k_is)
    (case m4 => k_is)
